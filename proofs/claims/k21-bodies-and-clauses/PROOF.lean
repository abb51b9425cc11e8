import PyProof.Rows.All
import HandS.ForMost
import HandS.IsInst
import HandS.TupAny
import HandS.Wide
import HandS.Defaults
import HandS.Flow
import HandS.TupMul
import HandS.WordsDict
import HandS.Conv
import HandS.Zip
import HandS.ForExc
import HandS.ExcField
import HandS.CallSlots
import HandS.Style
import HandS.WideBits
import HandS.Rev
import HandS.TryOnly
import HandS.ExcInit
import HandS.ExcIs
import HandS.TryMany
import PySem.Challenge.RW_hornhall_k21_bodies_and_clauses
import Wide.All
import OpenK.AllK
import Wide.FinOn
set_option Elab.async false
set_option linter.all false
set_option maxRecDepth 100000
set_option maxHeartbeats 8000000
/-! DL1: values as trees, objects by number; what stands for what. -/
namespace DL
open PySem L2

inductive D where
  | non | bl (b : Bool) | int (i : Int) | str (s : Str) | ty (s : String)
  | tup (xs : List D) | rol (xs : List D) | at (n : Nat)
  | ad (a : Addr)
inductive O where
  | lst (xs : List D) | dct (kvs : List (Key × D))
abbrev Hd := List O
abbrev Sg := List (Option D)

/-- a list that nobody writes at -/
def SqF (K : PySem.W.Frag) (H : Hp) (a : Addr) (xs : List V) : Prop :=
  (∃ ob, H a = some (.frz ob (.lst xs))) ∨
    ∃ (o : Obj) (its : Array Value) (n : Nat), K.lookup a = some o ∧ o.cls = .type "list" ∧ o.dict = none ∧ o.data = .seq its n ∧ its.size ≤ sizeLine ∧ Vals xs its.toList
theorem SqF.l {K : PySem.W.Frag} {H : Hp} {a : Addr} {xs : List V} (h : SqF K H a xs) : SqL K H a xs := by
  rcases h with ⟨o, h⟩ | h
  · exact .inl (.inr ⟨o, h⟩)
  · exact .inr h

mutual
def Rp (K : PySem.W.Frag) (H : Hp) (μ : List Addr) : D → V → Prop
  | .non, v => v = .non
  | .bl b, v => v = .bl b
  | .int i, v => v = .int i
  | .str s, v => v = .str s
  | .ty s, v => v = .ty s
  | .tup xs, v => ∃ p vs, v = .ref p ∧ SqT K H p vs ∧ Rps K H μ xs vs
  | .rol xs, v => ∃ p vs, v = .ref p ∧ SqF K H p vs ∧ Rps K H μ xs vs
  | .at n, v => ∃ a, μ[n]? = some a ∧ v = .ref a
  | .ad a, v => v = .ref a
def Rps (K : PySem.W.Frag) (H : Hp) (μ : List Addr) : List D → List V → Prop
  | [], vs => vs = []
  | d :: ds, vs => ∃ v vs', vs = v :: vs' ∧ Rp K H μ d v ∧ Rps K H μ ds vs'
end

/-- what goes on: objects keep their numbers, what cannot change stays -/
structure Le (K : PySem.W.Frag) (H : Hp) (μ : List Addr) (H' : Hp) (μ' : List Addr) : Prop where
  pre : ∃ r, μ' = μ ++ r
  tup : ∀ p vs, SqT K H p vs → SqT K H' p vs
  frz : ∀ p vs, SqF K H p vs → SqF K H' p vs
  xdt : ∀ p fs, H p = some (.xd fs) → H' p = some (.xd fs)
theorem Le.refl {K : PySem.W.Frag} {H : Hp} {μ : List Addr} : Le K H μ H μ := ⟨⟨[], by simp⟩, fun _ _ h => h, fun _ _ h => h, fun _ _ h => h⟩
theorem Le.trans {K : PySem.W.Frag} {H H1 H2 : Hp} {μ μ1 μ2 : List Addr} (a : Le K H μ H1 μ1) (b : Le K H1 μ1 H2 μ2) : Le K H μ H2 μ2 := by
  obtain ⟨r, hr⟩ := a.pre
  obtain ⟨q, hq⟩ := b.pre
  exact ⟨⟨r ++ q, by rw [hq, hr, List.append_assoc]⟩, fun p vs h => b.tup p vs (a.tup p vs h), fun p vs h => b.frz p vs (a.frz p vs h), fun p fs h => b.xdt p fs (a.xdt p fs h)⟩
theorem Le.get {K : PySem.W.Frag} {H H' : Hp} {μ μ' : List Addr} (a : Le K H μ H' μ') {n : Nat} {x : Addr} (h : μ[n]? = some x) : μ'[n]? = some x := by
  obtain ⟨r, hr⟩ := a.pre
  rw [hr, List.getElem?_append_left (by exact (List.getElem?_eq_some_iff.mp h).1)]
  exact h

section
variable {K : PySem.W.Frag} {H H' : Hp} {μ μ' : List Addr}
mutual
theorem Rp.mono (e : Le K H μ H' μ') : ∀ (d : D) (v : V), Rp K H μ d v → Rp K H' μ' d v
  | .non, _, h => by unfold Rp at *; exact h
  | .bl _, _, h => by unfold Rp at *; exact h
  | .int _, _, h => by unfold Rp at *; exact h
  | .str _, _, h => by unfold Rp at *; exact h
  | .ty _, _, h => by unfold Rp at *; exact h
  | .tup xs, v, h => by
    unfold Rp at *
    obtain ⟨p, vs, a, b, c⟩ := h
    exact ⟨p, vs, a, e.tup _ _ b, Rps.mono e xs vs c⟩
  | .rol xs, v, h => by
    unfold Rp at *
    obtain ⟨p, vs, a, b, c⟩ := h
    exact ⟨p, vs, a, e.frz _ _ b, Rps.mono e xs vs c⟩
  | .at n, v, h => by
    unfold Rp at *
    obtain ⟨a, b, c⟩ := h
    exact ⟨a, e.get b, c⟩
  | .ad _, _, h => by unfold Rp at *; exact h
theorem Rps.mono (e : Le K H μ H' μ') : ∀ (ds : List D) (vs : List V), Rps K H μ ds vs → Rps K H' μ' ds vs
  | [], _, h => by unfold Rps at *; exact h
  | d :: ds, vs, h => by
    unfold Rps at *
    obtain ⟨v, vs', a, b, c⟩ := h
    exact ⟨v, vs', a, Rp.mono e d v b, Rps.mono e ds vs' c⟩
end
theorem Rps.nil : Rps K H μ [] [] := by unfold Rps; rfl
theorem Rps.cons {d : D} {ds : List D} {v : V} {vs : List V} (a : Rp K H μ d v) (b : Rps K H μ ds vs) : Rps K H μ (d :: ds) (v :: vs) := by
  unfold Rps; exact ⟨v, vs, rfl, a, b⟩
theorem Rps.nil' {vs : List V} (h : Rps K H μ [] vs) : vs = [] := by unfold Rps at h; exact h
theorem Rps.cons' {d : D} {ds : List D} {vs : List V} (h : Rps K H μ (d :: ds) vs) : ∃ v vs', vs = v :: vs' ∧ Rp K H μ d v ∧ Rps K H μ ds vs' := by unfold Rps at h; exact h
theorem Rps.len : ∀ {ds : List D} {vs : List V}, Rps K H μ ds vs → vs.length = ds.length
  | [], vs, h => by rw [h.nil']; rfl
  | d :: ds, vs, h => by
    obtain ⟨v, vs', rfl, _, b⟩ := h.cons'
    rw [List.length_cons, List.length_cons, Rps.len b]
theorem Rps.app : ∀ {ds es : List D} {vs ws : List V}, Rps K H μ ds vs → Rps K H μ es ws → Rps K H μ (ds ++ es) (vs ++ ws)
  | [], es, vs, ws, h, g => by rw [h.nil']; exact g
  | d :: ds, es, vs, ws, h, g => by
    obtain ⟨v, vs', rfl, a, b⟩ := h.cons'
    exact Rps.cons a (Rps.app b g)
theorem Rps.get : ∀ {ds : List D} {vs : List V} {i : Nat} {d : D}, Rps K H μ ds vs → ds[i]? = some d → ∃ v, vs[i]? = some v ∧ Rp K H μ d v
  | [], vs, i, d, h, g => by simp at g
  | e :: ds, vs, 0, d, h, g => by
    obtain ⟨v, vs', rfl, a, b⟩ := h.cons'
    simp at g
    subst g
    exact ⟨v, rfl, a⟩
  | e :: ds, vs, i + 1, d, h, g => by
    obtain ⟨v, vs', rfl, a, b⟩ := h.cons'
    simpa using Rps.get b (by simpa using g)
theorem Rps.take : ∀ {ds : List D} {vs : List V} (n : Nat), Rps K H μ ds vs → Rps K H μ (ds.take n) (vs.take n)
  | ds, vs, 0, h => by simp [Rps.nil]
  | [], vs, n + 1, h => by rw [h.nil']; exact Rps.nil
  | d :: ds, vs, n + 1, h => by
    obtain ⟨v, vs', rfl, a, b⟩ := h.cons'
    exact Rps.cons a (Rps.take n b)
theorem Rps.drop : ∀ {ds : List D} {vs : List V} (n : Nat), Rps K H μ ds vs → Rps K H μ (ds.drop n) (vs.drop n)
  | ds, vs, 0, h => h
  | [], vs, n + 1, h => by rw [h.nil']; exact Rps.nil
  | d :: ds, vs, n + 1, h => by
    obtain ⟨v, vs', rfl, a, b⟩ := h.cons'
    exact Rps.drop n b
theorem Rps.rev : ∀ {ds : List D} {vs : List V}, Rps K H μ ds vs → Rps K H μ ds.reverse vs.reverse
  | [], vs, h => by rw [h.nil']; exact Rps.nil
  | d :: ds, vs, h => by
    obtain ⟨v, vs', rfl, a, b⟩ := h.cons'
    rw [List.reverse_cons, List.reverse_cons]
    exact Rps.app (Rps.rev b) (Rps.cons a Rps.nil)
theorem Rps.set : ∀ {ds : List D} {vs : List V} (i : Nat) {d : D} {v : V}, Rps K H μ ds vs → Rp K H μ d v → Rps K H μ (ds.set i d) (vs.set i v)
  | [], vs, i, d, v, h, g => by rw [h.nil']; simp [Rps.nil]
  | e :: ds, vs, 0, d, v, h, g => by
    obtain ⟨w, vs', rfl, a, b⟩ := h.cons'
    exact Rps.cons g b
  | e :: ds, vs, i + 1, d, v, h, g => by
    obtain ⟨w, vs', rfl, a, b⟩ := h.cons'
    exact Rps.cons a (Rps.set i b g)

/-- the object at a is what the number says -/
def Ok (K : PySem.W.Frag) (H : Hp) (μ : List Addr) (a : Addr) : O → Prop
  | .lst xs => ∃ vs, H a = some (.lst vs) ∧ Rps K H μ xs vs
  | .dct kvs => ∃ kw : List (Key × V), H a = some (.dK kw) ∧ kw.map (·.1) = kvs.map (·.1) ∧ Rps K H μ (kvs.map (·.2)) (kw.map (·.2))
theorem Ok.some {a : Addr} : ∀ {o : O}, Ok K H μ a o → ∃ u, H a = some u ∧ L2.Mut (Option.some u)
  | .lst _, ⟨vs, h, _⟩ => ⟨_, h, trivial⟩
  | .dct _, ⟨vs, h, _⟩ => ⟨_, h, trivial⟩
theorem Ok.mono {a : Addr} (e : Le K H μ H' μ') (ha : H' a = H a) : ∀ {o : O}, Ok K H μ a o → Ok K H' μ' a o
  | .lst _, ⟨vs, h, r⟩ => ⟨vs, ha.trans h, Rps.mono e _ _ r⟩
  | .dct _, ⟨vs, h, k, r⟩ => ⟨vs, ha.trans h, k, Rps.mono e _ _ r⟩

structure Sm (Φ : Hp) (K : PySem.W.Frag) (H : Hp) (μ : List Addr) (h : Hd) : Prop where
  len : μ.length = h.length
  nd : ∀ (n m : Nat) (a : Addr), μ[n]? = some a → μ[m]? = some a → n = m
  ob : ∀ (n : Nat) (o : O), h[n]? = some o → ∃ a, μ[n]? = some a ∧ Ok K H μ a o
  fr : ∀ (a : Addr) (o : HO), Φ a = some o → H a = some o ∧ a ∉ μ
variable {h : Hd} {Φ : Hp}
theorem Sm.at (S : Sm Φ K H μ h) {n : Nat} {a : Addr} {o : O} (e : μ[n]? = some a) (g : h[n]? = some o) : Ok K H μ a o := by
  obtain ⟨b, e', k⟩ := S.ob n o g
  rw [e] at e'
  cases e'
  exact k
theorem Sm.has (S : Sm Φ K H μ h) {n : Nat} {a : Addr} (e : μ[n]? = some a) : ∃ u, H a = some u ∧ L2.Mut (Option.some u) := by
  have hn : n < h.length := by rw [← S.len]; exact (List.getElem?_eq_some_iff.mp e).1
  exact (S.at e (List.getElem?_eq_getElem hn)).some

/-- a thing laid anew that stands for itself (a tuple): all stays -/
theorem le_new {p : Addr} {o : HO} (hp : H p = none) : Le K H μ (upd H p o) μ := by
  refine ⟨⟨[], by simp⟩, fun q vs g => ?_, fun q vs g => ?_, fun q fs g => by rw [upd_ne (ne_of_none g hp)]; exact g⟩
  · rcases g with (g | ⟨ob, g⟩) | g
    · exact .inl (.inl (by rw [upd_ne (ne_of_none g hp)]; exact g))
    · exact .inl (.inr ⟨ob, by rw [upd_ne (ne_of_none g hp)]; exact g⟩)
    · exact .inr g
  · rcases g with ⟨ob, g⟩ | g
    · exact .inl ⟨ob, by rw [upd_ne (ne_of_none g hp)]; exact g⟩
    · exact .inr g
theorem Sm.new {p : Addr} {o : HO} (S : Sm Φ K H μ h) (hp : H p = none) : Sm Φ K (upd H p o) μ h := by
  refine ⟨S.len, S.nd, fun n u g => ?_, fun a o q => ?_⟩
  rotate_left
  · obtain ⟨q1, q2⟩ := S.fr a o q
    exact ⟨by rw [upd_ne (ne_of_none q1 hp)]; exact q1, q2⟩
  obtain ⟨a, e, k⟩ := S.ob n u g
  obtain ⟨x, hx, _⟩ := k.some
  exact ⟨a, e, k.mono (le_new hp) (upd_ne (ne_of_none hx hp))⟩
/-- a new object with a number of its own -/
theorem le_obj {p : Addr} {o : HO} (hp : H p = none) : Le K H μ (upd H p o) (μ ++ [p]) := by
  have e : Le K H μ (upd H p o) μ := le_new hp
  exact ⟨⟨[p], rfl⟩, e.tup, e.frz, e.xdt⟩
theorem Sm.obj {p : Addr} {o : HO} {u : O} (S : Sm Φ K H μ h) (hp : H p = none) (k : Ok K (upd H p o) (μ ++ [p]) p u) : Sm Φ K (upd H p o) (μ ++ [p]) (h ++ [u]) := by
  have np : ∀ n : Nat, μ[n]? ≠ some p := fun n e => by
    obtain ⟨x, hx, _⟩ := S.has e
    rw [hp] at hx
    cases hx
  refine ⟨by simp [S.len], fun n m a e1 e2 => ?_, fun n w g => ?_, fun a o q => ?_⟩
  rotate_left 2
  · obtain ⟨q1, q2⟩ := S.fr a o q
    refine ⟨by rw [upd_ne (ne_of_none q1 hp)]; exact q1, fun z => ?_⟩
    rcases List.mem_append.mp z with z | z
    · exact q2 z
    · rw [List.mem_singleton.mp z, hp] at q1
      cases q1
  · rw [List.getElem?_append] at e1 e2
    split at e1 <;> split at e2
    · exact S.nd n m a e1 e2
    · rename_i h1 h2
      have : a = p := by
        rw [List.getElem?_singleton] at e2
        split at e2 <;> simp_all
      subst this
      exact absurd e1 (np n)
    · rename_i h1 h2
      have : a = p := by
        rw [List.getElem?_singleton] at e1
        split at e1 <;> simp_all
      subst this
      exact absurd e2 (np m)
    · rename_i h1 h2
      rw [List.getElem?_singleton] at e1 e2
      split at e1 <;> split at e2 <;> simp_all
      omega
  · rw [List.getElem?_append] at g
    split at g
    · obtain ⟨a, e, kk⟩ := S.ob n w g
      obtain ⟨x, hx, _⟩ := kk.some
      refine ⟨a, ?_, kk.mono (le_obj hp) (upd_ne (ne_of_none hx hp))⟩
      exact (le_obj (K := K) (H := H) (o := o) hp).get e
    · rename_i hn
      rw [List.getElem?_singleton] at g
      split at g
      · rename_i h0
        cases g
        refine ⟨p, ?_, k⟩
        have : n = μ.length := by rw [S.len]; omega
        rw [this]
        simp
      · cases g
theorem obj_at {p : Addr} {n : Nat} (S : Sm Φ K H μ h) (hn : n = h.length) : (μ ++ [p])[n]? = some p := by
  rw [hn, ← S.len]; simp
/-- an object is changed -/
theorem le_set {a : Addr} {o : HO} (S : Sm Φ K H μ h) {n : Nat} (e : μ[n]? = some a) : Le K H μ (upd H a o) μ := by
  obtain ⟨x, hx, mu⟩ := S.has e
  refine ⟨⟨[], by simp⟩, fun q vs g => ?_, fun q vs g => ?_, fun q fs g => by rw [upd_ne (fun z => by subst z; rw [hx] at g; cases g; exact mu)]; exact g⟩
  · rcases g with (g | ⟨ob, g⟩) | g
    · exact .inl (.inl (by rw [upd_ne (fun z => by subst z; rw [hx] at g; cases g; exact mu)]; exact g))
    · exact .inl (.inr ⟨ob, by rw [upd_ne (fun z => by subst z; rw [hx] at g; cases g; exact mu)]; exact g⟩)
    · exact .inr g
  · rcases g with ⟨ob, g⟩ | g
    · exact .inl ⟨ob, by rw [upd_ne (fun z => by subst z; rw [hx] at g; cases g; exact mu)]; exact g⟩
    · exact .inr g
theorem Sm.set {a : Addr} {o : HO} {u : O} (S : Sm Φ K H μ h) {n : Nat} (e : μ[n]? = some a) (k : Ok K (upd H a o) μ a u) : Sm Φ K (upd H a o) μ (h.set n u) := by
  refine ⟨by rw [List.length_set, S.len], S.nd, fun m w g => ?_, fun b o q => ?_⟩
  rotate_left
  · obtain ⟨q1, q2⟩ := S.fr b o q
    exact ⟨by rw [upd_ne fun z => by subst z; exact q2 (List.mem_of_getElem? e)]; exact q1, q2⟩
  by_cases hm : m = n
  · subst hm
    have : w = u := by
      rw [List.getElem?_set] at g
      simp at g
      exact g.2.symm
    subst this
    exact ⟨a, e, k⟩
  · rw [List.getElem?_set_ne (fun z => hm z.symm)] at g
    obtain ⟨b, e', kk⟩ := S.ob m w g
    exact ⟨b, e', kk.mono (le_set S e) (upd_ne fun z => by subst z; exact hm (S.nd m n b e' e))⟩
end

/-! ### slots -/
def Rs (K : PySem.W.Frag) (H : Hp) (μ : List Addr) (sg : Sg) (σ : L2.St) : Prop :=
  sg.length = σ.length ∧ ∀ (i : Nat) (d : D), sg[i]? = some (some d) → ∃ v, σ[i]? = some (some v) ∧ Rp K H μ d v
section
variable {K : PySem.W.Frag} {H H' : Hp} {μ μ' : List Addr} {sg : Sg} {σ : L2.St}
theorem Rs.mono (e : Le K H μ H' μ') (r : Rs K H μ sg σ) : Rs K H' μ' sg σ := ⟨r.1, fun i d g => by
  obtain ⟨v, a, b⟩ := r.2 i d g
  exact ⟨v, a, Rp.mono e d v b⟩⟩
theorem Rs.put (r : Rs K H μ sg σ) (i : Nat) {d : D} {v : V} (g : Rp K H μ d v) : Rs K H μ (sg.set i (some d)) (σ.set i (some v)) := by
  refine ⟨by rw [List.length_set, List.length_set, r.1], fun j e q => ?_⟩
  by_cases hj : j = i
  · subst hj
    rw [List.getElem?_set] at q ⊢
    simp at q
    obtain ⟨q1, q2⟩ := q
    subst q2
    rw [if_pos rfl, if_pos (by rw [← r.1]; exact q1)]
    exact ⟨v, rfl, g⟩
  · rw [List.getElem?_set_ne (fun z => hj z.symm)] at q ⊢
    exact r.2 j e q
theorem Rs.del (r : Rs K H μ sg σ) (i : Nat) : Rs K H μ (sg.set i none) (σ.set i none) := by
  refine ⟨by rw [List.length_set, List.length_set, r.1], fun j e q => ?_⟩
  by_cases hj : j = i
  · subst hj
    rw [List.getElem?_set] at q
    simp at q
  · rw [List.getElem?_set_ne (fun z => hj z.symm)] at q ⊢
    exact r.2 j e q
end
def wipeD (sg : Sg) : List Nat → Sg
  | [] => sg
  | v :: vs => (wipeD sg vs).set v none
theorem Rs.wipe {K : PySem.W.Frag} {H : Hp} {μ : List Addr} {sg : Sg} {σ : L2.St} (r : Rs K H μ sg σ) : ∀ vs : List Nat, Rs K H μ (wipeD sg vs) (L2.wipe σ vs)
  | [] => r
  | v :: vs => (Rs.wipe r vs).del v
end DL

/-! DL2: the judgements over trees; names, constants, operators, displays, tests. -/
namespace DL
open PySem L2

abbrev ME := Sg → Hd → Option (D × Hd)
abbrev MT := Sg → Hd → Option (Bool × Hd)
abbrev MA := Sg → Hd → Option (List D × Hd)

/-- what follows holds wherever the value d and the objects h' are borne -/
abbrev Kn (Φ : Hp) (K : PySem.W.Frag) (H : Hp) (μ : List Addr) (h' : Hd) (d : D) (Q : VK) : Prop :=
  ∀ (v : V) (H' : Hp) (μ' : List Addr), Sm Φ K H' μ' h' → Le K H μ H' μ' → Rp K H' μ' d v → Q v H'
def SE (K : PySem.W.Frag) (t : TE) (m : ME) : Prop := ∀ {Φ : Hp} (σ : L2.St) (H : Hp) (μ : List Addr) (sg : Sg) (h : Hd) (d : D) (h' : Hd), Sm Φ K H μ h → Rs K H μ sg σ → m sg h = some (d, h') → ∀ Q : VK, Kn Φ K H μ h' d Q → t σ H Q
def ST (K : PySem.W.Frag) (t : TT) (m : MT) : Prop := ∀ {Φ : Hp} (σ : L2.St) (H : Hp) (μ : List Addr) (sg : Sg) (h : Hd) (b : Bool) (h' : Hd), Sm Φ K H μ h → Rs K H μ sg σ → m sg h = some (b, h') → ∀ Q : Bool → Hp → Prop,
  (∀ (H' : Hp) (μ' : List Addr), Sm Φ K H' μ' h' → Le K H μ H' μ' → Q b H') → t σ H Q
def SA (K : PySem.W.Frag) (t : TA) (m : MA) : Prop := ∀ {Φ : Hp} (σ : L2.St) (H : Hp) (μ : List Addr) (sg : Sg) (h : Hd) (ds : List D) (h' : Hd), Sm Φ K H μ h → Rs K H μ sg σ → m sg h = some (ds, h') → ∀ Q : List V → Hp → Prop,
  (∀ (vs : List V) (H' : Hp) (μ' : List Addr), Sm Φ K H' μ' h' → Le K H μ H' μ' → Rps K H' μ' ds vs → Q vs H') → t σ H Q

structure DE (K : PySem.W.Frag) (X : Cx) (e : Expr) (t : TE) (m : ME) : Prop where
  k : X.K = K
  p : PE X e t
  s : SE K t m
structure DT (K : PySem.W.Frag) (X : Cx) (e : Expr) (t : TT) (m : MT) : Prop where
  k : X.K = K
  p : PT X e t
  s : ST K t m
structure DW (K : PySem.W.Frag) (X : Cx) (e : Expr) (t : TT) (m : MT) : Prop where
  k : X.K = K
  p : PW X e t
  s : ST K t m
structure DA (K : PySem.W.Frag) (X : Cx) (es : List Expr) (t : TA) (m : MA) : Prop where
  k : X.K = K
  p : PA X es t
  s : SA K t m

/-! ### names, constants -/
def varM (i : Nat) : ME := fun sg h => match sg[i]? with
  | some (some d) => some (d, h)
  | _ => none
def cM (d : D) : ME := fun _ h => some (d, h)
section
variable {K : PySem.W.Frag} {X : Cx} {pos : Pos}
theorem se_var (i : Nat) : SE K (tVar i) (varM i) := by
  intro Φ σ H μ sg h d h' S r e Q k
  unfold varM at e
  split at e
  · rename_i d' q
    cases e
    obtain ⟨v, a, b⟩ := r.2 i d q
    exact ⟨v, a, k v H μ S Le.refl b⟩
  · cases e
theorem de_var (i : Nat) {x : Str} (hN : X.N[i]? = some x := by rfl) (hv : Vis X.env.scope x := by first | exact Or.inl rfl | exact Or.inr (Or.inl rfl) | exact Or.inr (Or.inr rfl))
    (hd : (x == ("__debug__" : Str)) = false := by decide) (hcd : (x == ("__classdict__" : Str)) = false := by decide) (hK : X.K = K := by rfl) : DE K X (.Name x pos) (tVar i) (varM i) := ⟨hK, pe_var hN hv hd hcd, se_var i⟩
theorem se_c {d : D} {v : V} (hr : ∀ H μ, Rp K H μ d v) : SE K (tC v) (cM d) := by
  intro Φ σ H μ sg h d' h' S r e Q k
  cases e
  exact k v H μ S Le.refl (hr H μ)
theorem rp_int {H : Hp} {μ : List Addr} {i : Int} : Rp K H μ (.int i) (.int i) := by unfold Rp; rfl
theorem rp_bl {H : Hp} {μ : List Addr} {i : Bool} : Rp K H μ (.bl i) (.bl i) := by unfold Rp; rfl
theorem rp_str {H : Hp} {μ : List Addr} {i : Str} : Rp K H μ (.str i) (.str i) := by unfold Rp; rfl
theorem rp_non {H : Hp} {μ : List Addr} : Rp K H μ .non .non := by unfold Rp; rfl
theorem rp_ty {H : Hp} {μ : List Addr} {i : String} : Rp K H μ (.ty i) (.ty i) := by unfold Rp; rfl
theorem rp_tup {H : Hp} {μ : List Addr} {ds : List D} {p : Addr} {vs : List V} (h : SqT K H p vs) (r : Rps K H μ ds vs) : Rp K H μ (.tup ds) (.ref p) := by unfold Rp; exact ⟨p, vs, rfl, h, r⟩
theorem rp_at {H : Hp} {μ : List Addr} {n : Nat} {p : Addr} (h : μ[n]? = some p) : Rp K H μ (.at n) (.ref p) := by unfold Rp; exact ⟨p, h, rfl⟩
theorem rp_int' {H : Hp} {μ : List Addr} {i : Int} {v : V} (h : Rp K H μ (.int i) v) : v = .int i := by unfold Rp at h; exact h
theorem rp_bl' {H : Hp} {μ : List Addr} {i : Bool} {v : V} (h : Rp K H μ (.bl i) v) : v = .bl i := by unfold Rp at h; exact h
theorem rp_str' {H : Hp} {μ : List Addr} {i : Str} {v : V} (h : Rp K H μ (.str i) v) : v = .str i := by unfold Rp at h; exact h
theorem rp_non' {H : Hp} {μ : List Addr} {v : V} (h : Rp K H μ .non v) : v = .non := by unfold Rp at h; exact h
theorem rp_ty' {H : Hp} {μ : List Addr} {i : String} {v : V} (h : Rp K H μ (.ty i) v) : v = .ty i := by unfold Rp at h; exact h
theorem rp_tup' {H : Hp} {μ : List Addr} {ds : List D} {v : V} (h : Rp K H μ (.tup ds) v) : ∃ p vs, v = .ref p ∧ SqT K H p vs ∧ Rps K H μ ds vs := by unfold Rp at h; exact h
theorem rp_rol' {H : Hp} {μ : List Addr} {ds : List D} {v : V} (h : Rp K H μ (.rol ds) v) : ∃ p vs, v = .ref p ∧ SqF K H p vs ∧ Rps K H μ ds vs := by unfold Rp at h; exact h
theorem rp_ad' {a : Addr} {v : V} (r : Rp K H μ (.ad a) v) : v = .ref a := by unfold Rp at r; exact r
theorem rp_ad {a : Addr} : Rp K H μ (.ad a) (.ref a) := by unfold Rp; rfl
theorem rp_at' {H : Hp} {μ : List Addr} {n : Nat} {v : V} (h : Rp K H μ (.at n) v) : ∃ a, μ[n]? = some a ∧ v = .ref a := by unfold Rp at h; exact h
theorem de_int (hK : X.K = K := by rfl) {i : Int} {j pos} : DE K X (.Constant (.int i) j pos) (tC (.int i)) (cM (.int i)) := ⟨hK, pe_int, se_c fun _ _ => rp_int⟩
theorem de_bl (hK : X.K = K := by rfl) {i : Bool} {j pos} : DE K X (.Constant (.bool i) j pos) (tC (.bl i)) (cM (.bl i)) := ⟨hK, pe_bl, se_c fun _ _ => rp_bl⟩
theorem de_non (hK : X.K = K := by rfl) {j pos} : DE K X (.Constant .none j pos) (tC .non) (cM .non) := ⟨hK, pe_non, se_c fun _ _ => rp_non⟩
theorem de_str (hK : X.K = K := by rfl) {i : Str} {j pos} : DE K X (.Constant (.str i) j pos) (tC (.str i)) (cM (.str i)) := ⟨hK, pe_str, se_c fun _ _ => rp_str⟩
/-- a constant of the module -/
theorem de_glob {x : Str} {d : D} {v : V} {u : Value} (hm : X.mg x = some u) (rv : RelV v u) (hr : ∀ H μ, Rp K H μ d v) (hg : Gl X x := by rfl) (hd : (x == ("__debug__" : Str)) = false := by decide) (hK : X.K = K := by rfl) :
    DE K X (.Name x pos) (tC v) (cM d) := ⟨hK, pe_glob hg hm rv hd, se_c hr⟩
/-- a built-in type -/
theorem de_ty {x : Str} {n : String} (hm : X.mg x = none) (hv : bootBuiltins x = some (.type n) := by decide +kernel) (hg : Gl X x := by rfl) (hn : x ≠ "__name__" := by decide) (hd : (x == ("__debug__" : Str)) = false := by decide) (hK : X.K = K := by rfl) :
    DE K X (.Name x pos) (tC (.ty n)) (cM (.ty n)) := ⟨hK, pe_bltn hg hm hv rfl hn hd, se_c fun _ _ => rp_ty⟩
end

/-! ### operators by trees -/
abbrev G2 := D → D → Hd → Option (D × Hd)
def SO (K : PySem.W.Frag) (r : R2) (g : G2) : Prop := ∀ {Φ : Hp} (H : Hp) (μ : List Addr) (h : Hd) (x y : D) (v w : V) (d : D) (h' : Hd), Sm Φ K H μ h → Rp K H μ x v → Rp K H μ y w → g x y h = some (d, h') → ∀ Q : VK, Kn Φ K H μ h' d Q → r v w H Q
def opM (g : G2) (a b : ME) : ME := fun sg h => match a sg h with
  | some (x, h1) => match b sg h1 with
    | some (y, h2) => g x y h2
    | none => none
  | none => none
section
variable {K : PySem.W.Frag} {X : Cx} {pos : Pos} {a b c : Expr} {ta tb tc : TE} {ma mb mc : ME} {r : R2} {g : G2}
theorem se_op (hs : SO K r g) (ha : SE K ta ma) (hb : SE K tb mb) : SE K (tOp r ta tb) (opM g ma mb) := by
  intro Φ σ H μ sg h d h' S rs e Q k
  unfold opM at e
  split at e
  · rename_i x h1 e1
    split at e
    · rename_i y h2 e2
      refine ha σ H μ sg h x h1 S rs e1 _ fun v H1 μ1 S1 l1 r1 => ?_
      refine hb σ H1 μ1 sg h1 y h2 S1 (rs.mono l1) e2 _ fun w H2 μ2 S2 l2 r2 => ?_
      exact hs H2 μ2 h2 x y v w d h' S2 (Rp.mono l2 _ _ r1) r2 e Q fun z H3 μ3 S3 l3 r3 => k z H3 μ3 S3 ((l1.trans l2).trans l3) r3
    · cases e
  · cases e
theorem de_op {op : Operator} (hs : SO K r g) (ho : OpR X (binaryOp op) r) (ha : DE K X a ta ma) (hb : DE K X b tb mb) : DE K X (.BinOp a op b pos) (tOp r ta tb) (opM g ma mb) := ⟨ha.k, pe_op ho ha.p hb.p, se_op hs ha.s hb.s⟩
theorem de_cmp {op : CmpOp} (hs : SO K r g) (ho : OpR X (compareOp op) r) (ha : DE K X a ta ma) (hb : DE K X b tb mb) (hm : behindInMarks op b = false := by first | exact nobehind _ (by decide) (by decide) | rfl) : DE K X (.Compare a [op] [b] pos) (tOp r ta tb) (opM g ma mb) := ⟨ha.k, pe_cmpR ho ha.p hb.p hm, se_op hs ha.s hb.s⟩

def testM (m : ME) : MT := fun sg h => match m sg h with
  | some (.bl b, h') => some (b, h')
  | _ => none
theorem st_test (ha : SE K ta ma) : ST K (tTest ta) (testM ma) := by
  intro Φ σ H μ sg h b h' S rs e Q k
  unfold testM at e
  split at e
  · rename_i b' h1 e1
    cases e
    refine ha σ H μ sg h _ _ S rs e1 _ fun v H1 μ1 S1 l1 r1 => ⟨b, rp_bl' r1, k H1 μ1 S1 l1⟩
  · cases e
theorem dt_cmp {op : CmpOp} (hs : SO K r g) (ho : OpR X (compareOp op) r) (ha : DE K X a ta ma) (hb : DE K X b tb mb) (hm : behindInMarks op b = false := by first | exact nobehind _ (by decide) (by decide) | rfl) :
    DT K X (.Compare a [op] [b] pos) (tTest (tOp r ta tb)) (testM (opM g ma mb)) := ⟨ha.k, pt_cmpR ho ha.p hb.p hm, st_test (se_op hs ha.s hb.s)⟩
/-- a op b op' c -/
def chainM (g g' : G2) (a b c : ME) : ME := fun sg h => match a sg h with
  | some (x, h1) => match b sg h1 with
    | some (y, h2) => match g x y h2 with
      | some (.bl true, h3) => match c sg h3 with
        | some (z, h4) => g' y z h4
        | none => none
      | some (.bl false, h3) => some (.bl false, h3)
      | _ => none
    | none => none
  | none => none
theorem se_chain {r' : R2} {g' : G2} (hs : SO K r g) (hs' : SO K r' g') (ha : SE K ta ma) (hb : SE K tb mb) (hc : SE K tc mc) : SE K (tChain r r' ta tb tc) (chainM g g' ma mb mc) := by
  intro Φ σ H μ sg h d h' S rs e Q k
  unfold chainM at e
  split at e
  · rename_i x h1 e1
    split at e
    · rename_i y h2 e2
      refine ha σ H μ sg h x h1 S rs e1 _ fun v H1 μ1 S1 l1 r1 => ?_
      refine hb σ H1 μ1 sg h1 y h2 S1 (rs.mono l1) e2 _ fun w H2 μ2 S2 l2 r2 => ?_
      split at e
      · rename_i h3 e3
        refine hs H2 μ2 h2 x y v w _ _ S2 (Rp.mono l2 _ _ r1) r2 e3 _ fun z H3 μ3 S3 l3 r3 => ?_
        refine ⟨true, rp_bl' r3, iteT ?_⟩
        split at e
        · rename_i z' h4 e4
          refine hc σ H3 μ3 sg h3 z' h4 S3 (rs.mono ((l1.trans l2).trans l3)) e4 _ fun w' H4 μ4 S4 l4 r4 => ?_
          exact hs' H4 μ4 h4 y z' w w' d h' S4 (Rp.mono (l3.trans l4) _ _ r2) r4 e Q fun u H5 μ5 S5 l5 r5 => k u H5 μ5 S5 ((((l1.trans l2).trans l3).trans l4).trans l5) r5
        · cases e
      · rename_i h3 e3
        cases e
        refine hs H2 μ2 h2 x y v w _ _ S2 (Rp.mono l2 _ _ r1) r2 e3 _ fun z H3 μ3 S3 l3 r3 => ?_
        exact ⟨false, rp_bl' r3, iteF (k _ H3 μ3 S3 ((l1.trans l2).trans l3) rp_bl)⟩
      · cases e
    · cases e
  · cases e
theorem de_chain {op op' : CmpOp} {r' : R2} {g' : G2} (hs : SO K r g) (ho : OpR X (compareOp op) r) (hs' : SO K r' g') (ho' : OpR X (compareOp op') r') (ha : DE K X a ta ma) (hb : DE K X b tb mb) (hc : DE K X c tc mc)
    (hm : lastMarks [op, op'] [b, c] = false := by with_unfolding_all rfl) : DE K X (.Compare a [op, op'] [b, c] pos) (tChain r r' ta tb tc) (chainM g g' ma mb mc) := ⟨ha.k, pe_chain ho ho' ha.p hb.p hc.p hm, se_chain hs hs' ha.s hb.s hc.s⟩
theorem dt_chain {op op' : CmpOp} {r' : R2} {g' : G2} (hs : SO K r g) (ho : OpR X (compareOp op) r) (hs' : SO K r' g') (ho' : OpR X (compareOp op') r') (ha : DE K X a ta ma) (hb : DE K X b tb mb) (hc : DE K X c tc mc)
    (hm : lastMarks [op, op'] [b, c] = false := by with_unfolding_all rfl) : DT K X (.Compare a [op, op'] [b, c] pos) (tTest (tChain r r' ta tb tc)) (testM (chainM g g' ma mb mc)) := ⟨ha.k, pt_chain ho ho' ha.p hb.p hc.p hm, st_test (se_chain hs hs' ha.s hb.s hc.s)⟩
end

/-! ### laying new things -/
section
variable {K : PySem.W.Frag} {H : Hp} {μ : List Addr} {h : Hd} {Q : VK}
theorem kn_tup {ds : List D} {vs : List V} (S : Sm Φ K H μ h) (r : Rps K H μ ds vs) (k : Kn Φ K H μ h (.tup ds) Q) (p : Addr) (hp : H p = none) : Q (.ref p) (upd H p (.tup vs)) := by
  have l : Le K H μ (upd H p (.tup vs)) μ := le_new hp
  exact k _ _ μ (S.new hp) l (rp_tup (SqT.of upd_same) (Rps.mono l _ _ r))
theorem kn_lst {ds : List D} {vs : List V} (S : Sm Φ K H μ h) (r : Rps K H μ ds vs) (k : Kn Φ K H μ (h ++ [.lst ds]) (.at h.length) Q) (p : Addr) (hp : H p = none) : Q (.ref p) (upd H p (.lst vs)) := by
  have l : Le K H μ (upd H p (.lst vs)) (μ ++ [p]) := le_obj hp
  exact k (.ref p) (upd H p (.lst vs)) (μ ++ [p]) (S.obj hp ⟨vs, upd_same, Rps.mono l _ _ r⟩) l (rp_at (obj_at S rfl))
theorem kn_set {ds : List D} {vs : List V} {n : Nat} {a : Addr} {d : D} {v : V} (S : Sm Φ K H μ h) (e : μ[n]? = some a) (r : Rps K H μ ds vs) (rd : Rp K H μ d v) (k : Kn Φ K H μ (h.set n (.lst ds)) d Q) : Q v (upd H a (.lst vs)) := by
  have l : Le K H μ (upd H a (.lst vs)) μ := le_set S e
  exact k _ _ μ (S.set e ⟨vs, upd_same, Rps.mono l _ _ r⟩) l (Rp.mono l _ _ rd)
/-- a list's, a tuple's items -/
theorem Sm.lst {n : Nat} {xs : List D} {a : Addr} (S : Sm Φ K H μ h) (e : h[n]? = some (.lst xs)) (ea : μ[n]? = some a) : ∃ vs, H a = some (.lst vs) ∧ Rps K H μ xs vs := S.at ea e
end

/-- the items of a sequence -/
def seqD (h : Hd) : D → Option (List D)
  | .tup xs => some xs
  | .rol xs => some xs
  | .at n => match h[n]? with
    | some (.lst xs) => some xs
    | _ => none
  | _ => none
theorem seq_of {K : PySem.W.Frag} {H : Hp} {μ : List Addr} {h : Hd} {d : D} {v : V} {xs : List D} (S : Sm Φ K H μ h) (r : Rp K H μ d v) (e : seqD h d = some xs) :
    ∃ p vs, v = .ref p ∧ (SqL K H p vs ∨ SqT K H p vs) ∧ Rps K H μ xs vs := by
  unfold seqD at e
  split at e
  · cases e
    obtain ⟨p, vs, a, b, c⟩ := rp_tup' r
    exact ⟨p, vs, a, .inr b, c⟩
  · cases e
    obtain ⟨p, vs, a, b, c⟩ := rp_rol' r
    exact ⟨p, vs, a, .inl b.l, c⟩
  · rename_i n
    split at e
    · rename_i ys q
      cases e
      obtain ⟨a, ea, rfl⟩ := rp_at' r
      obtain ⟨vs, b, c⟩ := S.lst q ea
      exact ⟨a, vs, rfl, .inl (.of b), c⟩
    · cases e
  · cases e
abbrev LN : Nat := 16777216
theorem ln_of {n : Nat} (h : n ≤ LN) : n ≤ sizeLine := by rw [sizeLine_eq]; exact h

/-! ### displays -/
section
variable {K : PySem.W.Frag} {X : Cx} {pos : Pos} {e : Expr} {es : List Expr} {te : TE} {ta : TA} {me : ME} {ma : MA}
def nilM : MA := fun _ h => some ([], h)
def consM (a : ME) (b : MA) : MA := fun sg h => match a sg h with
  | some (x, h1) => match b sg h1 with
    | some (xs, h2) => some (x :: xs, h2)
    | none => none
  | none => none
theorem da_nil (hK : X.K = K := by rfl) : DA K X [] tNil nilM := ⟨hK, pa_nil, fun {Φ} σ H μ sg h ds h' S r e Q k => by cases e; exact k [] H μ S Le.refl Rps.nil⟩
theorem sa_cons (ha : SE K te me) (hb : SA K ta ma) : SA K (tCons te ta) (consM me ma) := by
  intro Φ σ H μ sg h ds h' S rs e Q k
  unfold consM at e
  split at e
  · rename_i x h1 e1
    split at e
    · rename_i xs h2 e2
      cases e
      refine ha σ H μ sg h x h1 S rs e1 _ fun v H1 μ1 S1 l1 r1 => ?_
      refine hb σ H1 μ1 sg h1 xs _ S1 (rs.mono l1) e2 _ fun vs H2 μ2 S2 l2 r2 => ?_
      exact k _ H2 μ2 S2 (l1.trans l2) (Rps.cons (Rp.mono l2 _ _ r1) r2)
    · cases e
  · cases e
theorem da_cons (ha : DE K X e te me) (hb : DA K X es ta ma) (hs : starEach (e :: es) X.env = (false, eval e X.env) :: starEach es X.env := by rfl) : DA K X (e :: es) (tCons te ta) (consM me ma) := ⟨ha.k, pa_cons ha.p hb.p hs, sa_cons ha.s hb.s⟩
def tupM (a : MA) : ME := fun sg h => match a sg h with
  | some (xs, h1) => if xs.length ≤ LN then some (.tup xs, h1) else none
  | none => none
def lstM (a : MA) : ME := fun sg h => match a sg h with
  | some (xs, h1) => if xs.length ≤ LN then some (.at h1.length, h1 ++ [.lst xs]) else none
  | none => none
theorem de_tup {x1} (ha : DA K X es ta ma) : DE K X (.Tuple es x1 pos) (tTup ta) (tupM ma) := ⟨ha.k, pe_tup ha.p, by
  intro Φ σ H μ sg h d h' S rs e Q k
  unfold tupM at e
  split at e
  · rename_i xs h1 e1
    split at e
    · rename_i hz
      cases e
      refine ha.s σ H μ sg h xs _ S rs e1 _ fun vs H1 μ1 S1 l1 r1 => ⟨by rw [r1.len]; exact ln_of hz, fun p hp => kn_tup S1 r1 (fun v H2 μ2 S2 l2 r2 => k v H2 μ2 S2 (l1.trans l2) r2) p hp⟩
    · cases e
  · cases e⟩
theorem de_lst (ha : DA K X es ta ma) : DE K X (.List es pos) (tLst ta) (lstM ma) := ⟨ha.k, pe_lst ha.p, by
  intro Φ σ H μ sg h d h' S rs e Q k
  unfold lstM at e
  split at e
  · rename_i xs h1 e1
    split at e
    · rename_i hz
      cases e
      refine ha.s σ H μ sg h xs _ S rs e1 _ fun vs H1 μ1 S1 l1 r1 => ⟨by rw [r1.len]; exact ln_of hz, fun p hp => kn_lst S1 r1 (fun v H2 μ2 S2 l2 r2 => k v H2 μ2 S2 (l1.trans l2) r2) p hp⟩
    · cases e
  · cases e⟩
end

/-! ### truth, and, or, not, if -/
def truD (h : Hd) : D → Option Bool
  | .non => some false
  | .bl b => some b
  | .int i => some (i != 0)
  | .str s => if s.length ≤ LN then some ((s.length : Int) != 0) else none
  | .tup xs => some (!xs.isEmpty)
  | .rol xs => some (!xs.isEmpty)
  | .at n => match h[n]? with
    | some (.lst xs) => some (!xs.isEmpty)
    | some (.dct kvs) => some (!kvs.isEmpty)
    | none => none
  | .ty _ => none
  | .ad _ => none
theorem emp_of {K : PySem.W.Frag} {H : Hp} {μ : List Addr} {ds : List D} {vs : List V} (r : Rps K H μ ds vs) : (!ds.isEmpty) = !vs.isEmpty := by
  cases ds with
  | nil => rw [r.nil']; rfl
  | cons d ds =>
    obtain ⟨v, vs', rfl, _, _⟩ := r.cons'
    rfl
theorem tru_of {K : PySem.W.Frag} {H : Hp} {μ : List Addr} {h : Hd} {d : D} {v : V} {b : Bool} (S : Sm Φ K H μ h) (r : Rp K H μ d v) (e : truD h d = some b) : TruV K v H b := by
  unfold truD at e
  split at e
  · cases e; rw [rp_non' r]; rfl
  · cases e; rw [rp_bl' r]; rfl
  · cases e; rw [rp_int' r]; rfl
  · split at e
    · rename_i hz
      cases e; rw [rp_str' r]; exact ⟨ln_of hz, rfl⟩
    · cases e
  · cases e
    obtain ⟨p, vs, rfl, b, c⟩ := rp_tup' r
    exact .inr (.inl ⟨vs, b, emp_of c⟩)
  · cases e
    obtain ⟨p, vs, rfl, b, c⟩ := rp_rol' r
    exact .inl ⟨vs, b.l, emp_of c⟩
  · rename_i n
    obtain ⟨a, ea, rfl⟩ := rp_at' r
    split at e
    · rename_i xs q
      cases e
      obtain ⟨vs, b, c⟩ := S.lst q ea
      exact .inl ⟨vs, .of b, emp_of c⟩
    · rename_i kvs q
      cases e
      obtain ⟨kw, b, c1, c2⟩ : Ok K H μ a (.dct kvs) := S.at ea q
      refine .inr (.inr ⟨kw, b, ?_⟩)
      cases kw <;> cases kvs <;> simp_all
    · cases e
  · cases e
  · cases e
section
variable {K : PySem.W.Frag} {X : Cx} {pos : Pos} {a b c : Expr} {rest : List Expr} {ta tb : TE} {ma mb : ME} {tA tB' : TT} {mA mB : MT}
def andM (a b : ME) : ME := fun sg h => match a sg h with
  | some (x, h1) => match truD h1 x with
    | some true => b sg h1
    | some false => some (x, h1)
    | none => none
  | none => none
def orM (a b : ME) : ME := fun sg h => match a sg h with
  | some (x, h1) => match truD h1 x with
    | some true => some (x, h1)
    | some false => b sg h1
    | none => none
  | none => none
def notM (a : ME) : ME := fun sg h => match a sg h with
  | some (x, h1) => match truD h1 x with
    | some b => some (.bl (!b), h1)
    | none => none
  | none => none
theorem de_one {op : BoolOp} (ha : DE K X a ta ma) : DE K X (.BoolOp op [a] pos) ta ma := ⟨ha.k, pe_one ha.p, ha.s⟩
theorem de_and (ha : DE K X a ta ma) (hb : DE K X (.BoolOp .And (b :: rest) pos) tb mb) : DE K X (.BoolOp .And (a :: b :: rest) pos) (tAndT K ta tb) (andM ma mb) := ⟨ha.k, by
  have hk := ha.k
  subst hk
  exact pe_andT ha.p hb.p, by
  intro Φ σ H μ sg h d h' S rs e Q k
  unfold andM at e
  split at e
  · rename_i x h1 e1
    refine ha.s σ H μ sg h x h1 S rs e1 _ fun v H1 μ1 S1 l1 r1 => ?_
    split at e
    · rename_i et
      exact ⟨true, tru_of S1 r1 et, iteT (hb.s σ H1 μ1 sg h1 d h' S1 (rs.mono l1) e Q fun u H2 μ2 S2 l2 r2 => k u H2 μ2 S2 (l1.trans l2) r2)⟩
    · rename_i et
      cases e
      exact ⟨false, tru_of S1 r1 et, iteF (k v H1 μ1 S1 l1 r1)⟩
    · cases e
  · cases e⟩
theorem de_or (ha : DE K X a ta ma) (hb : DE K X (.BoolOp .Or (b :: rest) pos) tb mb) : DE K X (.BoolOp .Or (a :: b :: rest) pos) (tOrT K ta tb) (orM ma mb) := ⟨ha.k, by
  have hk := ha.k
  subst hk
  exact pe_orT ha.p hb.p, by
  intro Φ σ H μ sg h d h' S rs e Q k
  unfold orM at e
  split at e
  · rename_i x h1 e1
    refine ha.s σ H μ sg h x h1 S rs e1 _ fun v H1 μ1 S1 l1 r1 => ?_
    split at e
    · rename_i et
      cases e
      exact ⟨true, tru_of S1 r1 et, iteT (k v H1 μ1 S1 l1 r1)⟩
    · rename_i et
      exact ⟨false, tru_of S1 r1 et, iteF (hb.s σ H1 μ1 sg h1 d h' S1 (rs.mono l1) e Q fun u H2 μ2 S2 l2 r2 => k u H2 μ2 S2 (l1.trans l2) r2)⟩
    · cases e
  · cases e⟩
theorem de_not (ha : DE K X a ta ma) : DE K X (.UnaryOp .Not a pos) (tNotT K ta) (notM ma) := ⟨ha.k, by
  have hk := ha.k
  subst hk
  exact pe_notT ha.p, by
  intro Φ σ H μ sg h d h' S rs e Q k
  unfold notM at e
  split at e
  · rename_i x h1 e1
    refine ha.s σ H μ sg h x h1 S rs e1 _ fun v H1 μ1 S1 l1 r1 => ?_
    split at e
    · rename_i b et
      cases e
      exact ⟨b, tru_of S1 r1 et, k _ H1 μ1 S1 l1 rp_bl⟩
    · cases e
  · cases e⟩
/-- tests -/
def truM (a : ME) : MT := fun sg h => match a sg h with
  | some (x, h1) => match truD h1 x with
    | some b => some (b, h1)
    | none => none
  | none => none
def tTru (K : PySem.W.Frag) (ta : TE) : TT := fun σ H Q => ta σ H fun x H' => ∃ k, TruV K x H' k ∧ Q k H'
theorem dt_tru (ha : DE K X a ta ma) (he : ∀ whole, isTrue a X.env whole = (do let v ← whole; standAt a.pos; holding [v] (truthy v)) := by intro _; rfl) : DT K X a (tTru K ta) (truM ma) := ⟨ha.k, by
  have hk := ha.k
  subst hk
  exact pt_truth ha.p he, by
  intro Φ σ H μ sg h d h' S rs e Q k
  unfold truM at e
  split at e
  · rename_i x h1 e1
    refine ha.s σ H μ sg h x h1 S rs e1 _ fun v H1 μ1 S1 l1 r1 => ?_
    split at e
    · rename_i b et
      cases e
      exact ⟨d, tru_of S1 r1 et, k H1 μ1 S1 l1⟩
    · cases e
  · cases e⟩
def tandM (a b : MT) : MT := fun sg h => match a sg h with
  | some (true, h1) => b sg h1
  | some (false, h1) => some (false, h1)
  | none => none
def torM (a b : MT) : MT := fun sg h => match a sg h with
  | some (true, h1) => some (true, h1)
  | some (false, h1) => b sg h1
  | none => none
def tnotM (a : MT) : MT := fun sg h => match a sg h with
  | some (b, h1) => some (!b, h1)
  | none => none
theorem dw_and1 (ha : DT K X a tA mA) : DW K X (.BoolOp .And [a] pos) tA mA := ⟨ha.k, pw_and1 ha.p, ha.s⟩
theorem dw_or1 (ha : DT K X a tA mA) : DW K X (.BoolOp .Or [a] pos) tA mA := ⟨ha.k, pw_or1 ha.p, ha.s⟩
theorem dw_and (ha : DT K X a tA mA) (hb : DW K X (.BoolOp .And (b :: rest) pos) tB' mB) : DW K X (.BoolOp .And (a :: b :: rest) pos) (tAnd tA tB') (tandM mA mB) := ⟨ha.k, pw_and ha.p hb.p, by
  intro Φ σ H μ sg h d h' S rs e Q k
  unfold tandM at e
  split at e
  · rename_i h1 e1
    exact ha.s σ H μ sg h _ h1 S rs e1 _ fun H1 μ1 S1 l1 => iteT (hb.s σ H1 μ1 sg h1 d h' S1 (rs.mono l1) e Q fun H2 μ2 S2 l2 => k H2 μ2 S2 (l1.trans l2))
  · rename_i h1 e1
    cases e
    exact ha.s σ H μ sg h _ _ S rs e1 _ fun H1 μ1 S1 l1 => iteF (k H1 μ1 S1 l1)
  · cases e⟩
theorem dw_or (ha : DT K X a tA mA) (hb : DW K X (.BoolOp .Or (b :: rest) pos) tB' mB) : DW K X (.BoolOp .Or (a :: b :: rest) pos) (tOr tA tB') (torM mA mB) := ⟨ha.k, pw_or ha.p hb.p, by
  intro Φ σ H μ sg h d h' S rs e Q k
  unfold torM at e
  split at e
  · rename_i h1 e1
    cases e
    exact ha.s σ H μ sg h _ _ S rs e1 _ fun H1 μ1 S1 l1 => iteT (k H1 μ1 S1 l1)
  · rename_i h1 e1
    exact ha.s σ H μ sg h _ h1 S rs e1 _ fun H1 μ1 S1 l1 => iteF (hb.s σ H1 μ1 sg h1 d h' S1 (rs.mono l1) e Q fun H2 μ2 S2 l2 => k H2 μ2 S2 (l1.trans l2))
  · cases e⟩
theorem dt_w (h : DW K X a tA mA) : DT K X a tA mA := ⟨h.k, h.p.pt, h.s⟩
theorem dt_not (ha : DT K X a tA mA) : DT K X (.UnaryOp .Not a pos) (tNot tA) (tnotM mA) := ⟨ha.k, pt_not ha.p, by
  intro Φ σ H μ sg h d h' S rs e Q k
  unfold tnotM at e
  split at e
  · rename_i b h1 e1
    cases e
    exact ha.s σ H μ sg h _ _ S rs e1 _ fun H1 μ1 S1 l1 => k H1 μ1 S1 l1
  · cases e⟩
def ifM (c : MT) (a b : ME) : ME := fun sg h => match c sg h with
  | some (true, h1) => a sg h1
  | some (false, h1) => b sg h1
  | none => none
theorem de_if (hc : DT K X c tA mA) (ha : DE K X a ta ma) (hb : DE K X b tb mb) : DE K X (.IfExp c a b pos) (tIf tA ta tb) (ifM mA ma mb) := ⟨ha.k, pe_ifExp hc.p ha.p hb.p, by
  intro Φ σ H μ sg h d h' S rs e Q k
  unfold ifM at e
  split at e
  · rename_i h1 e1
    exact hc.s σ H μ sg h _ h1 S rs e1 _ fun H1 μ1 S1 l1 => iteT (ha.s σ H1 μ1 sg h1 d h' S1 (rs.mono l1) e Q fun v H2 μ2 S2 l2 r2 => k v H2 μ2 S2 (l1.trans l2) r2)
  · rename_i h1 e1
    exact hc.s σ H μ sg h _ h1 S rs e1 _ fun H1 μ1 S1 l1 => iteF (hb.s σ H1 μ1 sg h1 d h' S1 (rs.mono l1) e Q fun v H2 μ2 S2 l2 r2 => k v H2 μ2 S2 (l1.trans l2) r2)
  · cases e⟩
end
end DL

/-! DL3: + - * // % ** -x, comparisons, ==, in. -/
namespace DL
open PySem L2 PySem.Spec PyProof.Rows

section
variable {K : PySem.W.Frag} {X : Cx}
/-! ### + -/
def addD : G2 := fun x y h => match x, y with
  | .int i, .int j => some (.int (i + j), h)
  | .str a, .str b => if a.length + b.length ≤ LN then some (.str (a ++ b), h) else none
  | .tup a, .tup b => if a.length + b.length ≤ LN then some (.tup (a ++ b), h) else none
  | .at a, .at b => match h[a]?, h[b]? with
    | some (.lst xs), some (.lst ys) => if xs.length + ys.length ≤ LN then some (.at h.length, h ++ [.lst (xs ++ ys)]) else none
    | _, _ => none
  | .rol xs, .at b => match h[b]? with
    | some (.lst ys) => if xs.length + ys.length ≤ LN then some (.at h.length, h ++ [.lst (xs ++ ys)]) else none
    | _ => none
  | _, _ => none
def rAddS : R2 := fun x y H Q => ∃ i j, x = .str i ∧ y = .str j ∧ i.length + j.length ≤ sizeLine ∧ Q (.str (i ++ j)) H
/-- list + list, also of one that nobody writes at -/
def rCatL (K : PySem.W.Frag) : R2 := fun x y H Q => ∃ l b xs zs, x = .ref l ∧ y = .ref b ∧ SqL K H l xs ∧ SqL K H b zs ∧ xs.length + zs.length ≤ sizeLine ∧ ∀ p, H p = none → Q (.ref p) (upd H p (.lst (xs ++ zs)))
theorem op_catL : OpR X (binaryOp .Add) (rCatL X.K) := by
  intro pins s σ H x y v u Q I rx ry h
  obtain ⟨l, b, xs, zs, rfl, rfl, hH, hB, hz, q⟩ := h
  cases rx
  cases ry
  obtain ⟨its, r, pl, h1⟩ := I.list hH
  obtain ⟨its2, r2, pl2, h2⟩ := I.list hB
  have hl := r.length
  have hl2 := r2.length
  obtain ⟨⟨cls, dd, data, sl⟩, ho, hc, n, hd⟩ := pl.isList
  obtain ⟨⟨cls2, dd2, data2, sl2⟩, ho2, hc2, n2, hd2⟩ := pl2.isList
  simp only at hc hd hc2 hd2
  subst hc hd hc2 hd2
  have e : its.toArray ++ its2.toArray = (its ++ its2).toArray := by simp
  refine concat_meets ⟨_, ho, rfl⟩ ⟨_, ho2, rfl⟩ noFill_list_add seq_list_add PySem.F.slot_list_add PySem.F.entry_list_add (PySem.F.args_list_add_2 _ _) (list_addW l b its.toArray its2.toArray n n2 dd dd2 sl sl2 (by simp only [List.size_toArray]; omega)) ⟨ho, ho2, ?_⟩
  rw [e]
  exact ⟨.ref _, _, I.lnew (t' := s.toks) (r.append r2) (by rw [List.length_append]; omega), rfl, q _ I.fresh⟩
def rAddU (K : PySem.W.Frag) : R2 := fun x y H Q => rI0 (fun i j => .int (i + j)) x y H Q ∨ rAddS x y H Q ∨ rCatA K x y H Q ∨ rCatL K x y H Q
theorem op_addU (hK : X.K = K := by rfl) : OpR X (binaryOp .Add) (rAddU K) := by
  subst hK
  exact op_add.or (OpR.or (r := rAddS) op_add_str (op_catA.or op_catL))
theorem so_add : SO K (rAddU K) addD := by
  intro Φ H μ h x y v w d h' S r1 r2 e Q k
  unfold addD at e
  split at e
  · cases e
    exact .inl ⟨_, _, rp_int' r1, rp_int' r2, k _ H μ S Le.refl rp_int⟩
  · split at e
    · rename_i hz
      cases e
      exact .inr (.inl ⟨_, _, rp_str' r1, rp_str' r2, ln_of hz, k _ H μ S Le.refl rp_str⟩)
    · cases e
  · split at e
    · rename_i a b hz
      cases e
      obtain ⟨p, vs, rfl, q1, q2⟩ := rp_tup' r1
      obtain ⟨p2, vs2, rfl, q3, q4⟩ := rp_tup' r2
      refine .inr (.inr (.inl ⟨p, p2, vs, vs2, rfl, rfl, q1, q3, by rw [q2.len, q4.len]; exact ln_of hz, fun z => ?_, fun z z2 => ?_, fun z z2 p3 hp => ?_⟩))
      · subst z
        have ha : a = [] := by
          cases a with
          | nil => rfl
          | cons a1 a2 => obtain ⟨_, _, z, _⟩ := q2.cons'; cases z
        subst ha
        exact k _ H μ S Le.refl r2
      · subst z2
        have hb : b = [] := by
          cases b with
          | nil => rfl
          | cons a1 a2 => obtain ⟨_, _, z, _⟩ := q4.cons'; cases z
        subst hb
        exact k _ H μ S Le.refl (by rw [List.append_nil]; exact r1)
      · exact kn_tup S (q2.app q4) k p3 hp
    · cases e
  · split at e
    · rename_i a b xs ys e1 e2
      split at e
      · rename_i hz
        cases e
        obtain ⟨p, ea, rfl⟩ := rp_at' r1
        obtain ⟨p2, eb, rfl⟩ := rp_at' r2
        obtain ⟨vs, q1, q2⟩ := S.lst e1 ea
        obtain ⟨vs2, q3, q4⟩ := S.lst e2 eb
        exact .inr (.inr (.inr ⟨p, p2, vs, vs2, rfl, rfl, .of q1, .of q3, by rw [q2.len, q4.len]; exact ln_of hz, fun p3 hp => kn_lst S (q2.app q4) k p3 hp⟩))
      · cases e
    · cases e
  · split at e
    · rename_i xs b ys e2
      split at e
      · rename_i hz
        cases e
        obtain ⟨p, vs, rfl, q1, q2⟩ := rp_rol' r1
        obtain ⟨p2, eb, rfl⟩ := rp_at' r2
        obtain ⟨vs2, q3, q4⟩ := S.lst e2 eb
        exact .inr (.inr (.inr ⟨p, p2, vs, vs2, rfl, rfl, q1.l, .of q3, by rw [q2.len, q4.len]; exact ln_of hz, fun p3 hp => kn_lst S (q2.app q4) k p3 hp⟩))
      · cases e
    · cases e
  · cases e
/-! ### ints: - * // % ** -/
def subD : G2 := fun x y h => match x, y with
  | .int i, .int j => some (.int (i - j), h)
  | _, _ => none
theorem so_sub : SO K (rI0 fun i j => .int (i - j)) subD := by
  intro Φ H μ h x y v w d h' S r1 r2 e Q k
  unfold subD at e
  split at e
  · cases e
    exact ⟨_, _, rp_int' r1, rp_int' r2, k _ H μ S Le.refl rp_int⟩
  · cases e
/-- the text x, n times -/
def repS (x : Str) (n : Nat) : Str := ⟨(List.replicate n x.cps.toList).flatten.toArray⟩
def rMulS : R2 := fun x y H Q => ∃ (z : Str) (n : Int), x = .str z ∧ y = .int n ∧ 0 ≤ n ∧ n ≤ 1000000 ∧ z.length * n.toNat ≤ LN ∧ Q (.str (repS z n.toNat)) H
theorem foldl_repN (l : List Nat) : ∀ (k : Nat) (acc : List Nat), List.foldl (fun x1 x2 => x1 ++ x2) acc.toArray (List.replicate k l.toArray) = (acc ++ (List.replicate k l).flatten).toArray
  | 0, acc => by simp
  | k + 1, acc => by
    have e : acc.toArray ++ l.toArray = (acc ++ l).toArray := by simp
    have e2 : (acc ++ l) ++ (List.replicate k l).flatten = acc ++ (List.replicate (k + 1) l).flatten := by
      rw [List.replicate_succ, List.flatten_cons, List.append_assoc]
    rw [← e2, ← foldl_repN l k (acc ++ l), ← e, List.replicate_succ, List.foldl_cons]
theorem op_mulS : OpR X (binaryOp .Mult) rMulS := by
  intro pins s σ H x y v u Q I rx ry h
  obtain ⟨z, n, rfl, rfl, h0, h1, hz, q⟩ := h
  obtain ⟨t, rfl⟩ := rx
  obtain ⟨t', rfl⟩ := ry
  refine P.mul_str (by
      have h2 : ¬ n ≥ 2 ^ 63 := by omega
      have h3 : ¬ n < -(2 ^ 63 : Int) := by omega
      rw [decide_eq_false h2, decide_eq_false h3]; rfl) (fun c1 _ => ?_) (fun _ _ => ?_) ?_
  · have hp : 0 < n := by omega
    have : (z.length : Int) * n ≤ 2 ^ 63 - 1 := by
      have e : (z.length : Int) * n = ((z.length * n.toNat : Nat) : Int) := by
        rw [Int.natCast_mul]
        congr 1
        omega
      rw [e]
      have : (z.length * n.toNat : Nat) ≤ 16777216 := hz
      omega
    have := (Int.le_ediv_iff_mul_le hp).mpr this
    omega
  · unfold Builtin.Str.tooLong
    have : (z.length * n.toNat : Nat) ≤ sizeLine := ln_of hz
    exact decide_eq_false (by omega)
  · obtain ⟨⟨l⟩⟩ := z
    by_cases c1 : n < 1
    · rw [if_pos c1]
      have hn : n.toNat = 0 := by omega
      refine ⟨by decide, .str (repS ⟨⟨l⟩⟩ n.toNat), H, I.tok _, ⟨s.toks, ?_⟩, q⟩
      rw [hn]
      rfl
    · rw [if_neg c1]
      by_cases c2 : (n == 1 || (⟨⟨l⟩⟩ : Str).length == 0) = true
      · rw [if_pos c2]
        refine ⟨.str (repS ⟨⟨l⟩⟩ n.toNat), H, I, ⟨t, ?_⟩, q⟩
        have e : repS ⟨⟨l⟩⟩ n.toNat = ⟨⟨l⟩⟩ := by
          unfold repS
          rcases Bool.or_eq_true _ _ ▸ c2 with c | c
          · have : n.toNat = 1 := by
              have := eq_of_beq c
              omega
            rw [this]
            simp
          · have hl : l = [] := by
              have := eq_of_beq c
              simpa [Str.length] using this
            subst hl
            simp
        rw [e]
      · rw [if_neg c2]
        refine ⟨?_, .str (repS ⟨⟨l⟩⟩ n.toNat), H, I.tok _, ⟨s.toks, ?_⟩, q⟩
        · refine PySem.fits_reps ?_
          unfold Builtin.Str.tooLong
          have := ln_of hz
          exact decide_eq_false (by omega)
        · have := foldl_repN l n.toNat []
          rw [List.nil_append] at this
          unfold repS
          rw [← this]
def mulD : G2 := fun x y h => match x, y with
  | .int i, .int j => if (-(2 ^ 64) < i ∧ i < 2 ^ 64) ∨ (-(2 ^ 64) < j ∧ j < 2 ^ 64) ∨ i.natAbs.log2 + j.natAbs.log2 < 1000000 then some (.int (i * j), h) else none
  | .str z, .int n => if 0 ≤ n ∧ n ≤ 1000000 ∧ z.length * n.toNat ≤ LN then some (.str (repS z n.toNat), h) else none
  | .at a, .int n => match h[a]? with
    | some (.lst xs) => if 0 ≤ n ∧ n ≤ 1000000 ∧ xs.length * n.toNat ≤ LN then some (.at h.length, h ++ [.lst (List.replicate n.toNat xs).flatten]) else none
    | _ => none
  | .tup xs, .int n => if xs ≠ [] ∧ 2 ≤ n ∧ n ≤ 1000 ∧ xs.length ≤ 1000 then some (.tup (List.replicate n.toNat xs).flatten, h) else none
  | _, _ => none
def rMulU (K : PySem.W.Frag) : R2 := fun x y H Q => rI CMul (fun i j => .int (i * j)) x y H Q ∨ rI CMulW (fun i j => .int (i * j)) x y H Q ∨ rMulS x y H Q ∨ rRep x y H Q ∨ rRepT K x y H Q
theorem op_mulU (hK : X.K = K := by rfl) : OpR X (binaryOp .Mult) (rMulU K) := by
  subst hK
  exact op_mul.or (op_mulW.or (op_mulS.or (op_rep.or op_repT)))
theorem Rps.rep {H : Hp} {μ : List Addr} {ds : List D} {vs : List V} (r : Rps K H μ ds vs) : ∀ n : Nat, Rps K H μ (List.replicate n ds).flatten (List.replicate n vs).flatten
  | 0 => Rps.nil
  | n + 1 => by
    rw [List.replicate_succ, List.replicate_succ, List.flatten_cons, List.flatten_cons]
    exact r.app (Rps.rep r n)
theorem so_mul : SO K (rMulU K) mulD := by
  intro Φ H μ h x y v w d h' S r1 r2 e Q k
  unfold mulD at e
  split at e
  · split at e
    · rename_i c
      cases e
      rcases c with c | c | c
      · exact .inl ⟨_, _, rp_int' r1, rp_int' r2, .inl c, k _ H μ S Le.refl rp_int⟩
      · exact .inl ⟨_, _, rp_int' r1, rp_int' r2, .inr c, k _ H μ S Le.refl rp_int⟩
      · exact .inr (.inl ⟨_, _, rp_int' r1, rp_int' r2, c, k _ H μ S Le.refl rp_int⟩)
    · cases e
  · split at e
    · rename_i c
      cases e
      exact .inr (.inr (.inl ⟨_, _, rp_str' r1, rp_int' r2, c.1, c.2.1, c.2.2, k _ H μ S Le.refl rp_str⟩))
    · cases e
  · split at e
    · rename_i e1
      split at e
      · rename_i c
        cases e
        obtain ⟨p, ea, rfl⟩ := rp_at' r1
        obtain ⟨vs, q1, q2⟩ := S.lst e1 ea
        exact .inr (.inr (.inr (.inl ⟨p, _, vs, rfl, rp_int' r2, q1, by omega, by omega, by rw [q2.len]; exact ln_of c.2.2, fun p3 hp => kn_lst S (q2.rep _) k p3 hp⟩)))
      · cases e
    · cases e
  · split at e
    · rename_i xs n c
      cases e
      obtain ⟨p, vs, rfl, q1, q2⟩ := rp_tup' r1
      refine .inr (.inr (.inr (.inr ⟨p, _, vs, rfl, rp_int' r2, q1, fun z => ?_, c.2.1, c.2.2.1, by rw [q2.len]; exact c.2.2.2, fun p3 hp => kn_tup S (q2.rep _) k p3 hp⟩)))
      subst z
      exact c.1 (by
        cases xs with
        | nil => rfl
        | cons a1 a2 => obtain ⟨_, _, z, _⟩ := q2.cons'; cases z)
    · cases e
  · cases e
def fdivD : G2 := fun x y h => match x, y with
  | .int i, .int j => if 0 < j ∧ j.natAbs.log2 < 9000 then some (.int (i / j), h) else none
  | _, _ => none
theorem so_fdiv : SO K (rI CDivW fun i j => .int (i / j)) fdivD := by
  intro Φ H μ h x y v w d h' S r1 r2 e Q k
  unfold fdivD at e
  split at e
  · split at e
    · rename_i c
      cases e
      exact ⟨_, _, rp_int' r1, rp_int' r2, c, k _ H μ S Le.refl rp_int⟩
    · cases e
  · cases e
def modD : G2 := fun x y h => match x, y with
  | .int i, .int j => if 0 < j then some (.int (i % j), h) else none
  | _, _ => none
theorem so_mod : SO K (rI (fun _ j => 0 < j) fun i j => .int (i % j)) modD := by
  intro Φ H μ h x y v w d h' S r1 r2 e Q k
  unfold modD at e
  split at e
  · split at e
    · rename_i c
      cases e
      exact ⟨_, _, rp_int' r1, rp_int' r2, c, k _ H μ S Le.refl rp_int⟩
    · cases e
  · cases e
def CPowW (i j : Int) : Prop := 0 ≤ j ∧ (Builtin.Int.intBits i : Int) * j ≤ 2 ^ 27
theorem op_powW : OpR X (binaryOp .Pow) (rI CPowW fun i j => .int (i ^ j.toNat)) := opI fun _ _ _ _ _ _ _ hc q => pow_int hc.1 hc.2 q
def powD : G2 := fun x y h => match x, y with
  | .int i, .int j => if 0 ≤ j ∧ (Builtin.Int.intBits i : Int) * j ≤ 2 ^ 27 then some (.int (i ^ j.toNat), h) else none
  | _, _ => none
theorem so_pow : SO K (rI CPowW fun i j => .int (i ^ j.toNat)) powD := by
  intro Φ H μ h x y v w d h' S r1 r2 e Q k
  unfold powD at e
  split at e
  · split at e
    · rename_i c
      cases e
      exact ⟨_, _, rp_int' r1, rp_int' r2, c, k _ H μ S Le.refl rp_int⟩
    · cases e
  · cases e
def negM (a : ME) : ME := fun sg h => match a sg h with
  | some (.int i, h1) => some (.int (-i), h1)
  | _ => none
theorem de_neg {pos : Pos} {a : Expr} {ta : TE} {ma : ME} (ha : DE K X a ta ma) : DE K X (.UnaryOp .USub a pos) (tUn (rU fun i => .int (-i)) ta) (negM ma) := ⟨ha.k, pe_un un_neg ha.p, by
  intro Φ σ H μ sg h d h' S rs e Q k
  unfold negM at e
  split at e
  · rename_i i h1 e1
    cases e
    exact ha.s σ H μ sg h _ _ S rs e1 _ fun v H1 μ1 S1 l1 r1 => ⟨_, rp_int' r1, k _ H1 μ1 S1 l1 rp_int⟩
  · cases e⟩
/-! ### < <= > >= -/
def ltS (a b : Str) : Bool := decide (a.cps.toList < b.cps.toList)
def ltD : G2 := fun x y h => match x, y with
  | .int i, .int j => some (.bl (decide (i < j)), h)
  | .str a, .str b => some (.bl (ltS a b), h)
  | _, _ => none
def leD : G2 := fun x y h => match x, y with
  | .int i, .int j => some (.bl (decide (i ≤ j)), h)
  | .str a, .str b => some (.bl (!ltS b a), h)
  | _, _ => none
def gtD : G2 := fun x y h => match x, y with
  | .int i, .int j => some (.bl (decide (j < i)), h)
  | .str a, .str b => some (.bl (ltS b a), h)
  | _, _ => none
def geD : G2 := fun x y h => match x, y with
  | .int i, .int j => some (.bl (decide (j ≤ i)), h)
  | .str a, .str b => some (.bl (!ltS a b), h)
  | _, _ => none
def rCmpS (g : Str → Str → Bool) : R2 := fun x y H Q => ∃ i j, x = .str i ∧ y = .str j ∧ Q (.bl (g i j)) H
def rCmpU (p : Int → Int → Bool) (g : Str → Str → Bool) : R2 := fun x y H Q => rI0 (fun i j => .bl (p i j)) x y H Q ∨ rCmpS g x y H Q
abbrev rLtU := rCmpU (fun i j => decide (i < j)) ltS
abbrev rLeU := rCmpU (fun i j => decide (i ≤ j)) fun a b => !ltS b a
abbrev rGtU := rCmpU (fun i j => decide (j < i)) fun a b => ltS b a
abbrev rGeU := rCmpU (fun i j => decide (j ≤ i)) fun a b => !ltS a b
theorem op_ltU : OpR X (compareOp .Lt) rLtU := op_lt.or (fun pins s σ H x y v u Q I a b c => op_lt_str pins s σ H x y v u Q I a b c)
theorem op_leU : OpR X (compareOp .LtE) rLeU := op_le.or (fun pins s σ H x y v u Q I a b c => op_le_str pins s σ H x y v u Q I a b c)
theorem op_gtU : OpR X (compareOp .Gt) rGtU := op_gt.or (fun pins s σ H x y v u Q I a b c => op_gt_str pins s σ H x y v u Q I a b c)
theorem op_geU : OpR X (compareOp .GtE) rGeU := op_ge.or (fun pins s σ H x y v u Q I a b c => op_ge_str pins s σ H x y v u Q I a b c)
theorem so_lt : SO K rLtU ltD := by
  intro Φ H μ h x y v w d h' S r1 r2 e Q k
  unfold ltD at e
  split at e
  · cases e; exact .inl ⟨_, _, rp_int' r1, rp_int' r2, k _ H μ S Le.refl rp_bl⟩
  · cases e; exact .inr ⟨_, _, rp_str' r1, rp_str' r2, k _ H μ S Le.refl rp_bl⟩
  · cases e
theorem so_le : SO K rLeU leD := by
  intro Φ H μ h x y v w d h' S r1 r2 e Q k
  unfold leD at e
  split at e
  · cases e; exact .inl ⟨_, _, rp_int' r1, rp_int' r2, k _ H μ S Le.refl rp_bl⟩
  · cases e; exact .inr ⟨_, _, rp_str' r1, rp_str' r2, k _ H μ S Le.refl rp_bl⟩
  · cases e
theorem so_gt : SO K rGtU gtD := by
  intro Φ H μ h x y v w d h' S r1 r2 e Q k
  unfold gtD at e
  split at e
  · cases e; exact .inl ⟨_, _, rp_int' r1, rp_int' r2, k _ H μ S Le.refl rp_bl⟩
  · cases e; exact .inr ⟨_, _, rp_str' r1, rp_str' r2, k _ H μ S Le.refl rp_bl⟩
  · cases e
theorem so_ge : SO K rGeU geD := by
  intro Φ H μ h x y v w d h' S r1 r2 e Q k
  unfold geD at e
  split at e
  · cases e; exact .inl ⟨_, _, rp_int' r1, rp_int' r2, k _ H μ S Le.refl rp_bl⟩
  · cases e; exact .inr ⟨_, _, rp_str' r1, rp_str' r2, k _ H μ S Le.refl rp_bl⟩
  · cases e
/-! ### == != -/
mutual
def toP (r : Nat → Option PyData) : D → Option PyData
  | .non => some .none
  | .bl b => some (.bool b)
  | .int i => some (.int i)
  | .str s => some (.str s)
  | .ty _ => none
  | .ad _ => none
  | .tup xs => match toPs r xs with
    | some ps => some (.tuple ps)
    | none => none
  | .rol xs => match toPs r xs with
    | some ps => some (.list ps)
    | none => none
  | .at n => r n
def toPs (r : Nat → Option PyData) : List D → Option (List PyData)
  | [] => some []
  | d :: ds => match toP r d with
    | some p => match toPs r ds with
      | some ps => some (p :: ps)
      | none => none
    | none => none
end
def rP : Nat → Hd → Nat → Option PyData
  | 0, _, _ => none
  | k + 1, h, n => match h[n]? with
    | some (.lst xs) => match toPs (rP k h) xs with
      | some ps => some (.list ps)
      | none => none
    | _ => none
mutual
theorem dp_of {H : Hp} {μ : List Addr} {r : Nat → Option PyData} (hr : ∀ n a p, μ[n]? = some a → r n = some p → Dp K H (.ref a) p) : ∀ (d : D) (v : V) (p : PyData), Rp K H μ d v → toP r d = some p → Dp K H v p
  | .non, v, p, h, e => by
    unfold toP at e
    cases e; rw [rp_non' h]; exact .non
  | .bl b, v, p, h, e => by
    unfold toP at e
    cases e; rw [rp_bl' h]; exact .bl b
  | .int b, v, p, h, e => by
    unfold toP at e
    cases e; rw [rp_int' h]; exact .int b
  | .str b, v, p, h, e => by
    unfold toP at e
    cases e; rw [rp_str' h]; exact .str b
  | .ty b, v, p, h, e => by
    unfold toP at e
    cases e
  | .ad b, v, p, h, e => by
    unfold toP at e
    cases e
  | .tup xs, v, p, h, e => by
    unfold toP at e
    split at e
    · rename_i ps q
      cases e
      obtain ⟨a, vs, rfl, b, c⟩ := rp_tup' h
      exact .tup b (dps_of hr xs vs ps c q)
    · cases e
  | .rol xs, v, p, h, e => by
    unfold toP at e
    split at e
    · rename_i ps q
      cases e
      obtain ⟨a, vs, rfl, b, c⟩ := rp_rol' h
      exact .lst b.l (dps_of hr xs vs ps c q)
    · cases e
  | .at n, v, p, h, e => by
    unfold toP at e
    obtain ⟨a, ea, rfl⟩ := rp_at' h
    exact hr n a p ea e
theorem dps_of {H : Hp} {μ : List Addr} {r : Nat → Option PyData} (hr : ∀ n a p, μ[n]? = some a → r n = some p → Dp K H (.ref a) p) : ∀ (ds : List D) (vs : List V) (ps : List PyData), Rps K H μ ds vs → toPs r ds = some ps → DpAll K H vs ps
  | [], vs, ps, h, e => by
    unfold toPs at e
    cases e; rw [h.nil']; exact .nil
  | d :: ds, vs, ps, h, e => by
    unfold toPs at e
    obtain ⟨v, vs', rfl, a, b⟩ := h.cons'
    split at e
    · rename_i p q
      split at e
      · rename_i ps' q'
        cases e
        exact .cons (dp_of hr d v p a q) (dps_of hr ds vs' ps' b q')
      · cases e
    · cases e
end
theorem rp_dp {H : Hp} {μ : List Addr} {h : Hd} (S : Sm Φ K H μ h) : ∀ (k n : Nat) (a : Addr) (p : PyData), μ[n]? = some a → rP k h n = some p → Dp K H (.ref a) p
  | 0, n, a, p, e, q => by
    unfold rP at q
    cases q
  | k + 1, n, a, p, e, q => by
    unfold rP at q
    split at q
    · rename_i xs e1
      split at q
      · rename_i ps e2
        cases q
        obtain ⟨vs, b, c⟩ := S.lst e1 e
        exact .lst (.of b) (dps_of (rp_dp S k) xs vs ps c e2)
      · cases q
    · cases q
def datD (h : Hd) (d : D) : Option PyData := toP (rP 3 h) d
theorem dat_of {H : Hp} {μ : List Addr} {h : Hd} {d : D} {v : V} {p : PyData} (S : Sm Φ K H μ h) (r : Rp K H μ d v) (e : datD h d = some p) : Dp K H v p := dp_of (rp_dp S 3) d v p r e
def rEqM (K : PySem.W.Frag) : R2 := fun x y H Q => (∃ d e, Dp K H x d ∧ Dp K H y e ∧ d.canLay0 = true ∧ e.canLay0 = true ∧ min d.depth e.depth ≤ 64 ∧ Q (.bl (PyData.eqv d e)) H) ∨ ∃ (a b : Addr) (xs ys : List V), x = .ref a ∧ y = .ref b ∧ SqL K H a xs ∧ SqL K H b ys ∧ xs.length ≠ ys.length ∧ Q (.bl false) H
def rNeM (K : PySem.W.Frag) : R2 := fun x y H Q => (∃ d e, Dp K H x d ∧ Dp K H y e ∧ d.canLay0 = true ∧ e.canLay0 = true ∧ min d.depth e.depth ≤ 64 ∧ Q (.bl (!PyData.eqv d e)) H) ∨ ∃ (a b : Addr) (xs ys : List V), x = .ref a ∧ y = .ref b ∧ SqL K H a xs ∧ SqL K H b ys ∧ xs.length ≠ ys.length ∧ Q (.bl true) H
theorem op_eqU (hu : X.A.units + 64 < cLine) (hK : X.K = K := by rfl) : OpR X (compareOp .Eq) (rEqM K) := by
  subst hK
  intro pins s σ H x y v u Q I rx ry h
  obtain ⟨d, e, hd, he, sd, se, hm, q⟩ | ⟨a, b, xs, ys, rfl, rfl, ha, hb, hl, q⟩ := h
  · obtain ⟨as, r1⟩ := Dp.reads I d x v hd rx
    obtain ⟨bs, r2⟩ := Dp.reads I e y u he ry
    exact SeqAt.compareEq_reads r1 r2 sd se (by omega) ⟨.bl _, H, I, rfl, q⟩
  · cases rx
    cases ry
    obtain ⟨is, rv, ⟨o, n, ho, hc, _, hd⟩, _⟩ := I.list ha
    obtain ⟨js, rw', ⟨o', n', ho', hc', _, hd'⟩, _⟩ := I.list hb
    have l1 := rv.length
    have l2 := rw'.length
    exact SeqAt.RcAt.lists_lengths ⟨_, ho, hc, _, hd⟩ ⟨_, ho', hc', _, hd'⟩ (by simp; omega) (by omega) _ _ _ _ ⟨.bl _, H, I, rfl, q⟩
theorem op_neU (hu : X.A.units + 64 < cLine) (hK : X.K = K := by rfl) : OpR X (compareOp .NotEq) (rNeM K) := by
  subst hK
  intro pins s σ H x y v u Q I rx ry h
  obtain ⟨d, e, hd, he, sd, se, hm, q⟩ | ⟨a, b, xs, ys, rfl, rfl, ha, hb, hl, q⟩ := h
  · obtain ⟨as, r1⟩ := Dp.reads I d x v hd rx
    obtain ⟨bs, r2⟩ := Dp.reads I e y u he ry
    exact SeqAt.compareNe_reads r1 r2 sd se (by omega) ⟨.bl _, H, I, rfl, q⟩
  · cases rx
    cases ry
    obtain ⟨is, rv, ⟨o, n, ho, hc, _, hd⟩, _⟩ := I.list ha
    obtain ⟨js, rw', ⟨o', n', ho', hc', _, hd'⟩, _⟩ := I.list hb
    have l1 := rv.length
    have l2 := rw'.length
    exact SeqAt.RcNeAt.lists_lengths ⟨_, ho, hc, _, hd⟩ ⟨_, ho', hc', _, hd'⟩ (by simp; omega) (by omega) _ _ _ _ ⟨.bl _, H, I, rfl, q⟩
/-- two lists of unlike lengths -/
def offD (h : Hd) : D → D → Bool
  | .at n, .at m => match h[n]?, h[m]? with
    | some (.lst xs), some (.lst ys) => decide (xs.length ≠ ys.length)
    | _, _ => false
  | _, _ => false
theorem off_of {Φ : Hp} {K : PySem.W.Frag} {H : Hp} {μ : List Addr} {h : Hd} {x y : D} {v w : V} (S : Sm Φ K H μ h) (r1 : Rp K H μ x v) (r2 : Rp K H μ y w) (e : offD h x y = true) : ∃ (a b : Addr) (xs ys : List V), v = .ref a ∧ w = .ref b ∧ SqL K H a xs ∧ SqL K H b ys ∧ xs.length ≠ ys.length := by
  unfold offD at e
  split at e
  · split at e
    · rename_i xs ys e1 e2
      obtain ⟨a, ea, rfl⟩ := rp_at' r1
      obtain ⟨b, eb, rfl⟩ := rp_at' r2
      obtain ⟨us, hu, ru⟩ := S.lst e1 ea
      obtain ⟨ws, hw, rw'⟩ := S.lst e2 eb
      have l1 := ru.len
      have l2 := rw'.len
      have := of_decide_eq_true e
      exact ⟨a, b, us, ws, rfl, rfl, SqL.of hu, SqL.of hw, by omega⟩
    · cases e
  · cases e
def eqD : G2 := fun x y h => match datD h x, datD h y with
  | some p, some q => if p.canLay0 = true ∧ q.canLay0 = true ∧ min p.depth q.depth ≤ 64 then some (.bl (PyData.eqv p q), h) else none
  | _, _ => if offD h x y = true then some (.bl false, h) else none
def neD : G2 := fun x y h => match datD h x, datD h y with
  | some p, some q => if p.canLay0 = true ∧ q.canLay0 = true ∧ min p.depth q.depth ≤ 64 then some (.bl (!PyData.eqv p q), h) else none
  | _, _ => if offD h x y = true then some (.bl true, h) else none
theorem so_eq : SO K (rEqM K) eqD := by
  intro Φ H μ h x y v w d h' S r1 r2 e Q k
  unfold eqD at e
  split at e
  · rename_i p q e1 e2
    split at e
    · rename_i c
      cases e
      exact .inl ⟨p, q, dat_of S r1 e1, dat_of S r2 e2, c.1, c.2.1, c.2.2, k _ H μ S Le.refl rp_bl⟩
    · cases e
  · split at e
    · rename_i c
      cases e
      obtain ⟨a, b, xs, ys, rfl, rfl, h1, h2, h3⟩ := off_of S r1 r2 c
      exact .inr ⟨a, b, xs, ys, rfl, rfl, h1, h2, h3, k _ H μ S Le.refl rp_bl⟩
    · cases e
theorem so_ne : SO K (rNeM K) neD := by
  intro Φ H μ h x y v w d h' S r1 r2 e Q k
  unfold neD at e
  split at e
  · rename_i p q e1 e2
    split at e
    · rename_i c
      cases e
      exact .inl ⟨p, q, dat_of S r1 e1, dat_of S r2 e2, c.1, c.2.1, c.2.2, k _ H μ S Le.refl rp_bl⟩
    · cases e
  · split at e
    · rename_i c
      cases e
      obtain ⟨a, b, xs, ys, rfl, rfl, h1, h2, h3⟩ := off_of S r1 r2 c
      exact .inr ⟨a, b, xs, ys, rfl, rfl, h1, h2, h3, k _ H μ S Le.refl rp_bl⟩
    · cases e
end
/-! ### in, not in: a sign in a text, a flat thing in a sequence -/
def flD : D → Option V
  | .non => some .non
  | .bl b => some (.bl b)
  | .int i => some (.int i)
  | .str s => some (.str s)
  | _ => none
def flDs : List D → Option (List V)
  | [] => some []
  | d :: ds => match flD d, flDs ds with
    | some v, some vs => some (v :: vs)
    | _, _ => none
theorem fl_of {K : PySem.W.Frag} {H : Hp} {μ : List Addr} {d : D} {v u : V} (r : Rp K H μ d v) (e : flD d = some u) : v = u ∧ flatV u = true := by
  unfold flD at e
  split at e <;> cases e
  · exact ⟨rp_non' r, rfl⟩
  · exact ⟨rp_bl' r, rfl⟩
  · exact ⟨rp_int' r, rfl⟩
  · exact ⟨rp_str' r, rfl⟩
theorem fls_of {K : PySem.W.Frag} {H : Hp} {μ : List Addr} : ∀ {ds : List D} {vs us : List V}, Rps K H μ ds vs → flDs ds = some us → vs = us ∧ us.all flatV = true
  | [], vs, us, r, e => by
    unfold flDs at e
    cases e
    exact ⟨r.nil', rfl⟩
  | d :: ds, vs, us, r, e => by
    unfold flDs at e
    obtain ⟨v, vs', rfl, a, b⟩ := r.cons'
    split at e
    · rename_i u us' e1 e2
      cases e
      obtain ⟨rfl, q1⟩ := fl_of a e1
      obtain ⟨rfl, q2⟩ := fls_of b e2
      exact ⟨rfl, by rw [List.all_cons, q1, q2]; rfl⟩
    · cases e
def inD (neg : Bool) : G2 := fun x y h => match y with
  | .str z => match x with
    | .str ⟨⟨[c]⟩⟩ => some (.bl (neg ^^ decide (c ∈ z.cps.toList)), h)
    | _ => none
  | y => match seqD h y with
    | some ys => match flD x, flDs ys with
      | some v, some vs => some (.bl (neg ^^ inV v vs), h)
      | _, _ => none
    | none => none
def rInSg (neg : Bool) : R2 := fun x y H Q => ∃ (c : Nat) (z : Str), x = .str ⟨#[c]⟩ ∧ y = .str z ∧ Q (.bl (neg ^^ decide (c ∈ z.cps.toList))) H
def rInU (K : PySem.W.Frag) (neg : Bool) : R2 := fun x y H Q => rInSg neg x y H Q ∨ rIn K neg x y H Q
section
variable {K : PySem.W.Frag} {X : Cx}
theorem op_inU (hK : X.K = K := by rfl) : OpR X (compareOp .In) (rInU K false) := by
  subst hK
  refine OpR.or (r := rInSg false) (fun pins s σ H x y v u Q I a b c => ?_) op_in_seq
  obtain ⟨c, z, h1, h2, q⟩ := c
  exact op_in_sign pins s σ H x y v u Q I a b ⟨c, z, h1, h2, by simpa using q⟩
theorem op_niU (hK : X.K = K := by rfl) : OpR X (compareOp .NotIn) (rInU K true) := by
  subst hK
  refine OpR.or (r := rInSg true) (fun pins s σ H x y v u Q I a b c => ?_) op_notIn_seq
  obtain ⟨c, z, h1, h2, q⟩ := c
  exact op_notIn_sign pins s σ H x y v u Q I a b ⟨c, z, h1, h2, by simpa using q⟩
theorem so_in (neg : Bool) : SO K (rInU K neg) (inD neg) := by
  intro Φ H μ h x y v w d h' S r1 r2 e Q k
  unfold inD at e
  split at e
  · split at e
    · cases e
      exact .inl ⟨_, _, rp_str' r1, rp_str' r2, k _ H μ S Le.refl rp_bl⟩
    · cases e
  · split at e
    · rename_i ys e1
      split at e
      · rename_i a vs e2 e3
        cases e
        obtain ⟨p, ws, rfl, q1, q2⟩ := seq_of S r2 e1
        obtain ⟨rfl, f1⟩ := fl_of r1 e2
        obtain ⟨rfl, f2⟩ := fls_of q2 e3
        refine .inr ⟨p, _, rfl, q1, f1, f2, ?_⟩
        have : (if neg = true then !inV v ws else inV v ws) = (neg ^^ inV v ws) := by cases neg <;> simp
        rw [this]
        exact k _ H μ S Le.refl rp_bl
      · cases e
    · cases e
end
end DL

/-! DL4: subscripts, slices, built-ins, methods. -/
namespace DL
open PySem L2 PySem.Spec PyProof.Rows

theorem PE.or {X : Cx} {e : Expr} {t u : TE} (h : PE X e t) (h' : PE X e u) : PE X e (fun σ H Q => t σ H Q ∨ u σ H Q) :=
  ⟨fun pins s σ H Q I q => q.elim (h.run pins s σ H Q I) (h'.run pins s σ H Q I)⟩

/-! ### dicts -/
def valD (kvs : List (Key × D)) (k : Key) : Option D := (kvs.find? fun kv => decide (kv.1 = k)).map (·.2)
def putD (kvs : List (Key × D)) (k : Key) (d : D) : List (Key × D) :=
  if (kvs.any fun kv => decide (kv.1 = k)) = true then kvs.map (fun kv => if kv.1 = k then (kv.1, d) else kv) else kvs ++ [(k, d)]
def keyD : D → Option Key
  | .int i => some (.inl i)
  | .str s => some (.inr s)
  | _ => none
section
variable {K : PySem.W.Frag} {H : Hp} {μ : List Addr}
theorem key_of {d : D} {v : V} {k : Key} (r : Rp K H μ d v) (e : keyD d = some k) : v = kV k := by
  unfold keyD at e
  split at e <;> cases e
  · exact rp_int' r
  · exact rp_str' r
/-- the pairs of a dict stand for those of another -/
def Rkv (K : PySem.W.Frag) (H : Hp) (μ : List Addr) (kvs : List (Key × D)) (kw : List (Key × V)) : Prop := kw.map (·.1) = kvs.map (·.1) ∧ Rps K H μ (kvs.map (·.2)) (kw.map (·.2))
theorem Rkv.nil : Rkv K H μ [] [] := ⟨rfl, Rps.nil⟩
theorem Rkv.nil' {kw : List (Key × V)} (r : Rkv K H μ [] kw) : kw = [] := by
  have := r.1
  simpa using this
theorem Rkv.cons' {k : Key} {d : D} {kvs : List (Key × D)} {kw : List (Key × V)} (r : Rkv K H μ ((k, d) :: kvs) kw) : ∃ v kw', kw = (k, v) :: kw' ∧ Rp K H μ d v ∧ Rkv K H μ kvs kw' := by
  obtain ⟨a, b⟩ := r
  cases kw with
  | nil => simp at a
  | cons p kw' =>
    obtain ⟨k', v⟩ := p
    simp only [List.map_cons, List.cons.injEq] at a b
    obtain ⟨w, ws, e, c1, c2⟩ := b.cons'
    cases e
    obtain ⟨rfl, a2⟩ := a
    exact ⟨v, kw', rfl, c1, a2, c2⟩
theorem Rkv.cons {k : Key} {d : D} {v : V} {kvs : List (Key × D)} {kw : List (Key × V)} (a : Rp K H μ d v) (r : Rkv K H μ kvs kw) : Rkv K H μ ((k, d) :: kvs) ((k, v) :: kw) :=
  ⟨by simp [r.1], Rps.cons a r.2⟩
theorem Rkv.val {k : Key} : ∀ {kvs : List (Key × D)} {kw : List (Key × V)}, Rkv K H μ kvs kw → (valD kvs k = none ∧ valV kw k = none) ∨ ∃ d v, valD kvs k = some d ∧ valV kw k = some v ∧ Rp K H μ d v
  | [], kw, r => by rw [r.nil']; exact .inl ⟨rfl, rfl⟩
  | (k', d) :: kvs, kw, r => by
    obtain ⟨v, kw', rfl, a, b⟩ := r.cons'
    by_cases e : k' = k
    · refine .inr ⟨d, v, ?_, valV_pos e, a⟩
      simp [valD, List.find?_cons, e]
    · rw [valV_neg (by exact e)]
      have : valD ((k', d) :: kvs) k = valD kvs k := by simp [valD, List.find?_cons, e]
      rw [this]
      exact Rkv.val b
theorem Rkv.any {k : Key} : ∀ {kvs : List (Key × D)} {kw : List (Key × V)}, Rkv K H μ kvs kw → (kvs.any fun kv => decide (kv.1 = k)) = (kw.any fun kv => decide (kv.1 = k))
  | [], kw, r => by rw [r.nil']; rfl
  | (k', d) :: kvs, kw, r => by
    obtain ⟨v, kw', rfl, a, b⟩ := r.cons'
    rw [List.any_cons, List.any_cons, Rkv.any b]
theorem Rkv.mapPut {k : Key} {d : D} {v : V} (a : Rp K H μ d v) : ∀ {kvs : List (Key × D)} {kw : List (Key × V)}, Rkv K H μ kvs kw → Rkv K H μ (kvs.map fun kv => if kv.1 = k then (kv.1, d) else kv) (kw.map fun kv => if kv.1 = k then (kv.1, v) else kv)
  | [], kw, r => by rw [r.nil']; exact Rkv.nil
  | (k', d') :: kvs, kw, r => by
    obtain ⟨v', kw', rfl, b, c⟩ := r.cons'
    rw [List.map_cons, List.map_cons]
    by_cases e : k' = k
    · rw [if_pos (show (k', d').1 = k from e), if_pos (show (k', v').1 = k from e)]
      exact Rkv.cons a (Rkv.mapPut a c)
    · rw [if_neg (show ¬ (k', d').1 = k from e), if_neg (show ¬ (k', v').1 = k from e)]
      exact Rkv.cons b (Rkv.mapPut a c)
theorem Rkv.app : ∀ {kvs kvs2 : List (Key × D)} {kw kw2 : List (Key × V)}, Rkv K H μ kvs kw → Rkv K H μ kvs2 kw2 → Rkv K H μ (kvs ++ kvs2) (kw ++ kw2)
  | [], kvs2, kw, kw2, r, q => by rw [r.nil']; exact q
  | (k', d') :: kvs, kvs2, kw, kw2, r, q => by
    obtain ⟨v', kw', rfl, b, c⟩ := r.cons'
    exact Rkv.cons b (Rkv.app c q)
theorem Rkv.put {k : Key} {d : D} {v : V} {kvs : List (Key × D)} {kw : List (Key × V)} (r : Rkv K H μ kvs kw) (a : Rp K H μ d v) : Rkv K H μ (putD kvs k d) (putK kw k v) := by
  unfold putD putK
  rw [Rkv.any r]
  split
  · exact Rkv.mapPut a r
  · exact Rkv.app r (Rkv.cons a Rkv.nil)
theorem Rkv.len {kvs : List (Key × D)} {kw : List (Key × V)} (r : Rkv K H μ kvs kw) : kw.length = kvs.length := by
  have := congrArg List.length r.1
  simpa using this
theorem Sm.dct {h : Hd} {n : Nat} {kvs : List (Key × D)} {a : Addr} (S : Sm Φ K H μ h) (e : h[n]? = some (.dct kvs)) (ea : μ[n]? = some a) : ∃ kw, H a = some (.dK kw) ∧ Rkv K H μ kvs kw := S.at ea e
end

/-! ### subscripts -/
def isDct (h : Hd) : D → Bool
  | .at n => match h[n]? with
    | some (.dct _) => true
    | _ => false
  | _ => false
def subsD : G2 := fun x y h => match x, y with
  | .str z, .int i => if z.length ≤ LN then match atI z.cps.toList i with
    | some c => some (.str ⟨#[c]⟩, h)
    | none => none else none
  | x, y => match seqD h x with
    | some xs => match y with
      | .int i => match atI xs i with
        | some d => some (d, h)
        | none => none
      | _ => none
    | none => match x with
      | .at n => match h[n]? with
        | some (.dct kvs) => match keyD y with
          | some k => match valD kvs k with
            | some d => some (d, h)
            | none => none
          | none => none
        | _ => none
      | _ => none
section
variable {K : PySem.W.Frag} {X : Cx} {pos : Pos} {a b : Expr} {ta tb : TE} {ma mb : ME}
theorem ix_U (hK : X.K = K := by rfl) : IxR X (rIx K) := by subst hK; exact ix_seq
def tSub (K : PySem.W.Frag) (ta tb : TE) : TE := fun σ H Q => tOp (rIx K) ta tb σ H Q ∨ tDGet ta tb σ H Q
theorem atI_get {H : Hp} {μ : List Addr} {xs : List D} {vs : List V} {i : Int} {d : D} (r : Rps K H μ xs vs) (e : atI xs i = some d) : ∃ v, atI vs i = some v ∧ Rp K H μ d v := by
  unfold atI at e ⊢
  rw [r.len]
  cases q : ixN xs.length i with
  | none => rw [q] at e; cases e
  | some j =>
    rw [q] at e
    exact r.get e
theorem de_sub (ha : DE K X a ta ma) (hb : DE K X b tb mb) (hu : X.A.units + 1 < cLine) (hs : PlainIx b := by exact fun _ _ => rfl) (hs2 : NoSl b := by exact fun _ _ => rfl) : DE K X (.Subscript a b pos) (tSub K ta tb) (opM subsD ma mb) := ⟨ha.k, PE.or (pe_ix (ix_U ha.k) ha.p hb.p hs) (pe_dget hu ha.p hb.p hs2), by
  intro Φ σ H μ sg h d h' S rs e Q k
  unfold opM at e
  split at e
  · rename_i x h1 e1
    split at e
    · rename_i y h2 e2
      unfold subsD at e
      split at e
      · rename_i z i
        split at e
        · rename_i hz
          split at e
          · rename_i c q
            cases e
            refine .inl (ha.s σ H μ sg h _ h1 S rs e1 _ fun v H1 μ1 S1 l1 r1 => ?_)
            refine hb.s σ H1 μ1 sg h1 _ _ S1 (rs.mono l1) e2 _ fun w H2 μ2 S2 l2 r2 => ?_
            exact .inr (.inr ⟨z, i, c, rp_str' r1, rp_int' r2, ln_of hz, q, k _ H2 μ2 S2 (l1.trans l2) rp_str⟩)
          · cases e
        · cases e
      · split at e
        · rename_i xs q1
          split at e
          · rename_i i _
            split at e
            · rename_i d1 q2
              cases e
              refine .inl (ha.s σ H μ sg h _ h1 S rs e1 _ fun v H1 μ1 S1 l1 r1 => ?_)
              refine hb.s σ H1 μ1 sg h1 _ _ S1 (rs.mono l1) e2 _ fun w H2 μ2 S2 l2 r2 => ?_
              obtain ⟨p, vs, rfl, c1, c2⟩ := seq_of S2 (Rp.mono l2 _ _ r1) q1
              obtain ⟨u, c3, c4⟩ := atI_get c2 q2
              rcases c1 with c1 | c1
              · exact .inl ⟨p, vs, i, u, rfl, rp_int' r2, c1, c3, k _ H2 μ2 S2 (l1.trans l2) c4⟩
              · exact .inr (.inl ⟨p, vs, i, u, rfl, rp_int' r2, c1, c3, k _ H2 μ2 S2 (l1.trans l2) c4⟩)
            · cases e
          · cases e
        · split at e
          · rename_i n
            split at e
            · rename_i kvs q2
              split at e
              · rename_i kk q3
                split at e
                · rename_i d1 q4
                  cases e
                  refine .inr (ha.s σ H μ sg h _ h1 S rs e1 _ fun v H1 μ1 S1 l1 r1 => ?_)
                  refine hb.s σ H1 μ1 sg h1 _ _ S1 (rs.mono l1) e2 _ fun w H2 μ2 S2 l2 r2 => ?_
                  obtain ⟨p, ep, rfl⟩ := rp_at' (Rp.mono l2 _ _ r1)
                  obtain ⟨kw, c1, c2⟩ := S2.dct q2 ep
                  rcases c2.val (k := kk) with ⟨z, _⟩ | ⟨d2, u, z1, z2, z3⟩
                  · rw [q4] at z; cases z
                  · rw [q4] at z1
                    cases z1
                    refine ⟨p, u, rfl, ?_, k _ H2 μ2 S2 (l1.trans l2) z3⟩
                    rw [key_of r2 q3, ← z2]
                    exact DGet.k c1
                · cases e
              · cases e
            · cases e
          · cases e
    · cases e
  · cases e⟩
end

/-! ### slices -/
abbrev MO := Sg → Hd → Option (Option Int × Hd)
def SOp (K : PySem.W.Frag) (t : TO) (m : MO) : Prop := ∀ {Φ : Hp} (σ : L2.St) (H : Hp) (μ : List Addr) (sg : Sg) (h : Hd) (o : Option Int) (h' : Hd), Sm Φ K H μ h → Rs K H μ sg σ → m sg h = some (o, h') → ∀ Q : Option Int → Hp → Prop,
  (∀ (H' : Hp) (μ' : List Addr), Sm Φ K H' μ' h' → Le K H μ H' μ' → Q o H') → t σ H Q
structure DO (K : PySem.W.Frag) (X : Cx) (e : Option Expr) (t : TO) (m : MO) : Prop where
  k : X.K = K
  p : PO X e t
  s : SOp K t m
def noM : MO := fun _ h => some (none, h)
def partM (a : ME) : MO := fun sg h => match a sg h with
  | some (.int i, h1) => some (some i, h1)
  | _ => none
def cutD (xs : List D) (lo hi : Option Int) : List D := (xs.drop (HT.sIx xs.length 0 lo)).take (HT.sIx xs.length xs.length hi - HT.sIx xs.length 0 lo)
def sliceD (x : D) (lo hi : Option Int) (h : Hd) : Option (D × Hd) := match x with
  | .str z => if z.length ≤ LN then some (.str (cutS z lo hi), h) else none
  | .tup xs => some (.tup (cutD xs lo hi), h)
  | .rol xs => some (.at h.length, h ++ [.lst (cutD xs lo hi)])
  | .at n => match h[n]? with
    | some (.lst xs) => some (.at h.length, h ++ [.lst (cutD xs lo hi)])
    | _ => none
  | _ => none
def slM (a : ME) (lo hi : MO) : ME := fun sg h => match a sg h with
  | some (x, h1) => match lo sg h1 with
    | some (l, h2) => match hi sg h2 with
      | some (u, h3) => sliceD x l u h3
      | none => none
    | none => none
  | none => none
def rSlU (K : PySem.W.Frag) : V → Option Int → Option Int → Hp → VK → Prop := fun x lo hi H Q => rSlA K x lo hi H Q ∨ rSlL K x lo hi H Q ∨ rSlS x lo hi H Q
section
variable {K : PySem.W.Frag} {X : Cx} {pos : Pos} {a : Expr} {ta : TE} {ma : ME} {lo hi : Option Expr} {tl th : TO} {ml mh : MO}
theorem do_none (hK : X.K = K := by rfl) : DO K X none tNoPart noM := ⟨hK, po_none, fun {Φ} σ H μ sg h o h' S rs e Q k => by cases e; exact k H μ S Le.refl⟩
theorem do_some (ha : DE K X a ta ma) : DO K X (some a) (tPart ta) (partM ma) := ⟨ha.k, po_some ha.p, by
  intro Φ σ H μ sg h o h' S rs e Q k
  unfold partM at e
  split at e
  · rename_i i h1 e1
    cases e
    exact ha.s σ H μ sg h _ _ S rs e1 _ fun v H1 μ1 S1 l1 r1 => ⟨i, rp_int' r1, k H1 μ1 S1 l1⟩
  · cases e⟩
theorem sl_U (hK : X.K = K := by rfl) : SlR X (rSlU K) := by subst hK; exact sl_tupA.or (sl_list.or sl_str)
theorem cut_of {H : Hp} {μ : List Addr} {xs : List D} {vs : List V} (r : Rps K H μ xs vs) (lo hi : Option Int) : Rps K H μ (cutD xs lo hi) (cutV vs lo hi) := by
  unfold cutD cutV
  rw [r.len]
  exact (r.drop _).take _
theorem de_slice {p2 : Pos} (ha : DE K X a ta ma) (hl : DO K X lo tl ml) (hh : DO K X hi th mh) : DE K X (.Subscript a (.Slice lo hi none p2) pos) (tSl (rSlU K) ta tl th) (slM ma ml mh) := ⟨ha.k, pe_slice (sl_U ha.k) ha.p hl.p hh.p, by
  intro Φ σ H μ sg h d h' S rs e Q k
  unfold slM at e
  split at e
  · rename_i x h1 e1
    split at e
    · rename_i l h2 e2
      split at e
      · rename_i u h3 e3
        refine ha.s σ H μ sg h x h1 S rs e1 _ fun v H1 μ1 S1 l1 r1 => ?_
        refine hl.s σ H1 μ1 sg h1 l h2 S1 (rs.mono l1) e2 _ fun H2 μ2 S2 l2 => ?_
        refine hh.s σ H2 μ2 sg h2 u h3 S2 (rs.mono (l1.trans l2)) e3 _ fun H3 μ3 S3 l3 => ?_
        have r3 := Rp.mono (l2.trans l3) _ _ r1
        have k3 : Kn Φ K H3 μ3 h' d Q := fun v H' μ' S' l' r' => k v H' μ' S' (((l1.trans l2).trans l3).trans l') r'
        unfold sliceD at e
        split at e
        · split at e
          · rename_i hz
            cases e
            exact .inr (.inr ⟨_, rp_str' r3, ln_of hz, k3 _ H3 μ3 S3 Le.refl rp_str⟩)
          · cases e
        · rename_i xs
          cases e
          obtain ⟨p, vs, rfl, c1, c2⟩ := rp_tup' r3
          refine .inl ⟨p, vs, rfl, c1, fun z => ?_, fun _ q hq => kn_tup S3 (cut_of c2 l u) k3 q hq⟩
          have : cutD xs l u = xs := by
            unfold cutD
            rw [c2.len] at z
            rw [z.1, z.2]
            simp
          rw [this] at k3
          exact k3 _ H3 μ3 S3 Le.refl r3
        · rename_i xs
          cases e
          obtain ⟨p, vs, rfl, c1, c2⟩ := rp_rol' r3
          exact .inr (.inl ⟨p, vs, rfl, c1.l, fun q hq => kn_lst S3 (cut_of c2 l u) k3 q hq⟩)
        · split at e
          · rename_i n _ xs q
            cases e
            obtain ⟨p, ep, rfl⟩ := rp_at' r3
            obtain ⟨vs, c1, c2⟩ := S3.lst q ep
            exact .inr (.inl ⟨p, vs, rfl, .of c1, fun q hq => kn_lst S3 (cut_of c2 l u) k3 q hq⟩)
          · cases e
        · cases e
      · cases e
    · cases e
  · cases e⟩
end
end DL

/-! DL5: calls of built-ins, methods of lists and dicts. -/
namespace DL
open PySem L2 PySem.Spec PyProof.Rows

/-! ### calls of built-ins by trees -/
abbrev GC := List D → Hd → Option (D × Hd)
def SC (K : PySem.W.Frag) (r : List V → Hp → VK → Prop) (g : GC) : Prop := ∀ {Φ : Hp} (H : Hp) (μ : List Addr) (h : Hd) (xs : List D) (vs : List V) (d : D) (h' : Hd), Sm Φ K H μ h → Rps K H μ xs vs → g xs h = some (d, h') → ∀ Q : VK, Kn Φ K H μ h' d Q → r vs H Q
def cbM (g : GC) (a : MA) : ME := fun sg h => match a sg h with
  | some (xs, h1) => g xs h1
  | none => none
section
variable {K : PySem.W.Frag} {X : Cx} {pos p : Pos} {e : Expr} {es : List Expr} {ta : TA} {ma : MA} {r : List V → Hp → VK → Prop} {g : GC}
theorem se_cb (hs : SC K r g) (ha : SA K ta ma) : SE K (tCB r ta) (cbM g ma) := by
  intro Φ σ H μ sg h d h' S rs e Q k
  unfold cbM at e
  split at e
  · rename_i xs h1 e1
    exact ha σ H μ sg h xs h1 S rs e1 _ fun vs H1 μ1 S1 l1 r1 => hs H1 μ1 h1 xs vs d h' S1 r1 e Q fun v H2 μ2 S2 l2 r2 => k v H2 μ2 S2 (l1.trans l2) r2
  · cases e
theorem de_callB {x : Str} {id : String} (hs : SC K r g) (hc : CallR X (.builtin id) r) (hm : X.mg x = none) (ha : DA K X (e :: es) ta ma) (hv : bootBuiltins x = some (.builtin id) := by decide +kernel) (hg : Gl X x := by rfl) (hn : x ≠ "__name__" := by decide) (hdb : (x == ("__debug__" : Str)) = false := by decide)
    (he : starEach (e :: es) X.env = (false, eval e X.env) :: starEach es X.env := by rfl) (hpl : (backTo pos (starEach es X.env)).any (·.1) = false := by rfl) : DE K X (.Call (.Name x p) (e :: es) [] pos) (tCB r ta) (cbM g ma) := ⟨ha.k, pe_callB hc hg hm hv ha.p hn hdb he hpl, se_cb hs ha.s⟩
theorem de_callTy {x : Str} {T : String} (hs : SC K r g) (hc : CallR X (.type T) r) (hm : X.mg x = none) (ha : DA K X (e :: es) ta ma) (hv : bootBuiltins x = some (.type T) := by decide +kernel) (hg : Gl X x := by rfl) (hn : x ≠ "__name__" := by decide) (hdb : (x == ("__debug__" : Str)) = false := by decide)
    (he : starEach (e :: es) X.env = (false, eval e X.env) :: starEach es X.env := by rfl) (hpl : (backTo pos (starEach es X.env)).any (·.1) = false := by rfl) : DE K X (.Call (.Name x p) (e :: es) [] pos) (tCB r ta) (cbM g ma) := ⟨ha.k, pe_callTy hc hg hm hv ha.p hn hdb he hpl, se_cb hs ha.s⟩
end
theorem rps1 {K : PySem.W.Frag} {H : Hp} {μ : List Addr} {d : D} {vs : List V} (r : Rps K H μ [d] vs) : ∃ v, vs = [v] ∧ Rp K H μ d v := by
  obtain ⟨v, vs', rfl, a, b⟩ := r.cons'
  rw [b.nil']
  exact ⟨v, rfl, a⟩
theorem rps2 {K : PySem.W.Frag} {H : Hp} {μ : List Addr} {d e : D} {vs : List V} (r : Rps K H μ [d, e] vs) : ∃ v w, vs = [v, w] ∧ Rp K H μ d v ∧ Rp K H μ e w := by
  obtain ⟨v, vs', rfl, a, b⟩ := r.cons'
  obtain ⟨w, rfl, c⟩ := rps1 b
  exact ⟨v, w, rfl, a, c⟩

section
variable {K : PySem.W.Frag} {X : Cx}
/-- len -/
def lenD : GC := fun xs h => match xs with
  | [.str s] => if s.length ≤ LN then some (.int s.length, h) else none
  | [.at n] => match h[n]? with
    | some (.lst ys) => some (.int ys.length, h)
    | some (.dct kvs) => some (.int kvs.length, h)
    | none => none
  | [.tup ys] => some (.int ys.length, h)
  | [.rol ys] => some (.int ys.length, h)
  | _ => none
def rLenA (K : PySem.W.Frag) : List V → Hp → VK → Prop := fun xs H Q => ∃ x n, xs = [x] ∧ LenV K x H n ∧ Q (.int n) H
def rLenDd : List V → Hp → VK → Prop := fun xs H Q => ∃ a kvs, xs = [V.ref a] ∧ H a = some (.dK kvs) ∧ Q (.int kvs.length) H
def rLenU (K : PySem.W.Frag) : List V → Hp → VK → Prop := fun xs H Q => rLenA K xs H Q ∨ rLenDd xs H Q
theorem call_lenU (hK : X.K = K := by rfl) : CallR X (.builtin "len") (rLenU K) := by
  subst hK
  exact CallR.or (r := rLenA X.K) (r' := rLenDd) call_len call_lenD
theorem sc_len : SC K (rLenU K) lenD := by
  intro Φ H μ h xs vs d h' S r e Q k
  unfold lenD at e
  split at e
  · split at e
    · rename_i hz
      cases e
      obtain ⟨v, rfl, a⟩ := rps1 r
      rw [rp_str' a]
      exact .inl ⟨_, _, rfl, ⟨ln_of hz, rfl⟩, k _ H μ S Le.refl rp_int⟩
    · cases e
  · obtain ⟨v, rfl, a⟩ := rps1 r
    obtain ⟨p, ep, rfl⟩ := rp_at' a
    split at e
    · rename_i ys q
      cases e
      obtain ⟨ws, b, c⟩ := S.lst q ep
      refine .inl ⟨_, _, rfl, .inl ⟨ws, .of b, rfl⟩, ?_⟩
      rw [c.len]
      exact k _ H μ S Le.refl rp_int
    · rename_i kvs q
      cases e
      obtain ⟨kw, b, c⟩ := S.dct q ep
      refine .inr ⟨p, kw, rfl, b, ?_⟩
      rw [c.len]
      exact k _ H μ S Le.refl rp_int
    · cases e
  · cases e
    obtain ⟨v, rfl, a⟩ := rps1 r
    obtain ⟨p, ws, rfl, b, c⟩ := rp_tup' a
    refine .inl ⟨_, _, rfl, .inr ⟨ws, b, rfl⟩, ?_⟩
    rw [c.len]
    exact k _ H μ S Le.refl rp_int
  · cases e
    obtain ⟨v, rfl, a⟩ := rps1 r
    obtain ⟨p, ws, rfl, b, c⟩ := rp_rol' a
    refine .inl ⟨_, _, rfl, .inl ⟨ws, b.l, rfl⟩, ?_⟩
    rw [c.len]
    exact k _ H μ S Le.refl rp_int
  · cases e
/-- abs, int, ord, min and max of two -/
def absD : GC := fun xs h => match xs with
  | [.int i] => some (.int (if i < 0 then -i else i), h)
  | _ => none
theorem sc_abs : SC K (fun xs H Q => ∃ i, xs = [.int i] ∧ Q (.int (if i < 0 then -i else i)) H) absD := by
  intro Φ H μ h xs vs d h' S r e Q k
  unfold absD at e
  split at e
  · cases e
    obtain ⟨v, rfl, a⟩ := rps1 r
    rw [rp_int' a]
    exact ⟨_, rfl, k _ H μ S Le.refl rp_int⟩
  · cases e
def intD : GC := fun xs h => match xs with
  | [.int i] => some (.int i, h)
  | [.bl b] => some (.int (if b then 1 else 0), h)
  | _ => none
theorem sc_int : SC K (fun xs H Q => (∃ i, xs = [.int i] ∧ Q (.int i) H) ∨ ∃ k, xs = [.bl k] ∧ Q (.int (if k then 1 else 0)) H) intD := by
  intro Φ H μ h xs vs d h' S r e Q k
  unfold intD at e
  split at e
  · cases e
    obtain ⟨v, rfl, a⟩ := rps1 r
    rw [rp_int' a]
    exact .inl ⟨_, rfl, k _ H μ S Le.refl rp_int⟩
  · cases e
    obtain ⟨v, rfl, a⟩ := rps1 r
    rw [rp_bl' a]
    exact .inr ⟨_, rfl, k _ H μ S Le.refl rp_int⟩
  · cases e
def ordD : GC := fun xs h => match xs with
  | [.str ⟨⟨[c]⟩⟩] => some (.int c, h)
  | _ => none
theorem sc_ord : SC K (fun xs H Q => ∃ x, xs = [.str x] ∧ x.length = 1 ∧ Q (.int (x.cps.getD 0 0 : Nat)) H) ordD := by
  intro Φ H μ h xs vs d h' S r e Q k
  unfold ordD at e
  split at e
  · cases e
    obtain ⟨v, rfl, a⟩ := rps1 r
    rw [rp_str' a]
    exact ⟨_, rfl, rfl, k _ H μ S Le.refl rp_int⟩
  · cases e
/-- all, any of a list of bools -/
def blsD : List D → Option (List Bool)
  | [] => some []
  | .bl b :: ds => match blsD ds with
    | some bs => some (b :: bs)
    | none => none
  | _ => none
theorem bls_of {H : Hp} {μ : List Addr} : ∀ {ds : List D} {vs : List V} {bs : List Bool}, Rps K H μ ds vs → blsD ds = some bs → vs = bs.map V.bl
  | [], vs, bs, r, e => by
    unfold blsD at e
    cases e
    exact r.nil'
  | .bl b :: ds, vs, bs, r, e => by
    unfold blsD at e
    obtain ⟨v, vs', rfl, a, c⟩ := r.cons'
    split at e
    · rename_i bs' q
      cases e
      rw [rp_bl' a, bls_of c q]
      rfl
    · cases e
  | .non :: ds, vs, bs, r, e => by unfold blsD at e; cases e
  | .int _ :: ds, vs, bs, r, e => by unfold blsD at e; cases e
  | .str _ :: ds, vs, bs, r, e => by unfold blsD at e; cases e
  | .ty _ :: ds, vs, bs, r, e => by unfold blsD at e; cases e
  | .ad _ :: ds, vs, bs, r, e => by unfold blsD at e; cases e
  | .tup _ :: ds, vs, bs, r, e => by unfold blsD at e; cases e
  | .rol _ :: ds, vs, bs, r, e => by unfold blsD at e; cases e
  | .at _ :: ds, vs, bs, r, e => by unfold blsD at e; cases e
def allD : GC := fun xs h => match xs with
  | [.at n] => match h[n]? with
    | some (.lst ys) => match blsD ys with
      | some bs => some (.bl (bs.all id), h)
      | none => none
    | _ => none
  | _ => none
theorem sc_all : SC K (rAll K) allD := by
  intro Φ H μ h xs vs d h' S r e Q k
  unfold allD at e
  split at e
  · split at e
    · rename_i ys q
      split at e
      · rename_i bs q2
        cases e
        obtain ⟨v, rfl, a⟩ := rps1 r
        obtain ⟨p, ep, rfl⟩ := rp_at' a
        obtain ⟨ws, b, c⟩ := S.lst q ep
        exact ⟨p, bs, rfl, by rw [← bls_of c q2]; exact .of b, k _ H μ S Le.refl rp_bl⟩
      · cases e
    · cases e
  · cases e
theorem call_allU (hK : X.K = K := by rfl) (hc : X.calm = true := by rfl) : CallR X (.builtin "all") (rAll K) := by subst hK; exact cr_all hc
/-- max, min: of two ints, of a list of ints -/
def intsD : List D → Option (List Int)
  | [] => some []
  | .int b :: ds => match intsD ds with
    | some bs => some (b :: bs)
    | none => none
  | _ => none
theorem ints_of {H : Hp} {μ : List Addr} : ∀ {ds : List D} {vs : List V} {bs : List Int}, Rps K H μ ds vs → intsD ds = some bs → vs = bs.map V.int
  | [], vs, bs, r, e => by
    unfold intsD at e
    cases e
    exact r.nil'
  | .int b :: ds, vs, bs, r, e => by
    unfold intsD at e
    obtain ⟨v, vs', rfl, a, c⟩ := r.cons'
    split at e
    · rename_i bs' q
      cases e
      rw [rp_int' a, ints_of c q]
      rfl
    · cases e
  | .non :: ds, vs, bs, r, e => by unfold intsD at e; cases e
  | .bl _ :: ds, vs, bs, r, e => by unfold intsD at e; cases e
  | .str _ :: ds, vs, bs, r, e => by unfold intsD at e; cases e
  | .ty _ :: ds, vs, bs, r, e => by unfold intsD at e; cases e
  | .ad _ :: ds, vs, bs, r, e => by unfold intsD at e; cases e
  | .tup _ :: ds, vs, bs, r, e => by unfold intsD at e; cases e
  | .rol _ :: ds, vs, bs, r, e => by unfold intsD at e; cases e
  | .at _ :: ds, vs, bs, r, e => by unfold intsD at e; cases e
def maxI : Int → List Int → Int
  | m, [] => m
  | m, x :: xs => maxI (if x > m then x else m) xs
theorem maxI_mem : ∀ (xs : List Int) (m : Int), maxI m xs ∈ m :: xs
  | [], m => by simp [maxI]
  | x :: xs, m => by
    unfold maxI
    have := maxI_mem xs (if x > m then x else m)
    by_cases c : x > m
    · rw [if_pos c] at this ⊢
      rcases List.mem_cons.mp this with q | q
      · rw [q]; simp
      · exact List.mem_cons_of_mem _ (List.mem_cons_of_mem _ q)
    · rw [if_neg c] at this ⊢
      rcases List.mem_cons.mp this with q | q
      · rw [q]; simp
      · exact List.mem_cons_of_mem _ (List.mem_cons_of_mem _ q)
theorem maxI_le : ∀ (xs : List Int) (m : Int), ∀ y ∈ m :: xs, y ≤ maxI m xs
  | [], m, y, h => by
    simp at h
    unfold maxI
    omega
  | x :: xs, m, y, h => by
    unfold maxI
    have q := maxI_le xs (if x > m then x else m)
    have q0 := q _ List.mem_cons_self
    rcases List.mem_cons.mp h with rfl | h
    · split at q0 <;> rename_i c
      · rw [if_pos c]; omega
      · rw [if_neg c]; omega
    · rcases List.mem_cons.mp h with rfl | h
      · split at q0 <;> rename_i c
        · rw [if_pos c]; omega
        · rw [if_neg c]; omega
      · exact q y (List.mem_cons_of_mem _ h)
def maxD : GC := fun xs h => match xs with
  | [.int i, .int j] => some (.int (if j > i then j else i), h)
  | [.at n] => match h[n]? with
    | some (.lst ys) => match intsD ys with
      | some (m :: ms) => some (.int (maxI m ms), h)
      | _ => none
    | _ => none
  | _ => none
def rMax2A : List V → Hp → VK → Prop := fun xs H Q => ∃ i j, xs = [.int i, .int j] ∧ Q (.int (if j > i then j else i)) H
def rMaxU (K : PySem.W.Frag) : List V → Hp → VK → Prop := fun xs H Q => rMax2A xs H Q ∨ rMax K xs H Q
theorem call_maxU (hK : X.K = K := by rfl) (hc : X.calm = true := by rfl) : CallR X (.builtin "max") (rMaxU K) := by
  subst hK
  exact CallR.or (r := rMax2A) (call_max2 hc) (cr_max hc)
theorem sc_max : SC K (rMaxU K) maxD := by
  intro Φ H μ h xs vs d h' S r e Q k
  unfold maxD at e
  split at e
  · cases e
    obtain ⟨v, w, rfl, a, b⟩ := rps2 r
    rw [rp_int' a, rp_int' b]
    exact .inl ⟨_, _, rfl, k _ H μ S Le.refl rp_int⟩
  · split at e
    · rename_i ys q
      split at e
      · rename_i m ms q2
        cases e
        obtain ⟨v, rfl, a⟩ := rps1 r
        obtain ⟨p, ep, rfl⟩ := rp_at' a
        obtain ⟨ws, b, c⟩ := S.lst q ep
        refine .inr ⟨p, m :: ms, rfl, by rw [← ints_of c q2]; exact .of b, by simp, fun z hz hm => ?_⟩
        have h1 := hm _ (maxI_mem ms m)
        have h2 := maxI_le ms m z hz
        have : z = maxI m ms := by omega
        rw [this]
        exact k _ H μ S Le.refl rp_int
      · cases e
    · cases e
  · cases e
def minD : GC := fun xs h => match xs with
  | [.int i, .int j] => some (.int (if j < i then j else i), h)
  | _ => none
theorem sc_min : SC K (fun xs H Q => ∃ i j, xs = [.int i, .int j] ∧ Q (.int (if j < i then j else i)) H) minD := by
  intro Φ H μ h xs vs d h' S r e Q k
  unfold minD at e
  split at e
  · cases e
    obtain ⟨v, w, rfl, a, b⟩ := rps2 r
    rw [rp_int' a, rp_int' b]
    exact ⟨_, _, rfl, k _ H μ S Le.refl rp_int⟩
  · cases e
/-- isinstance(x, T), T a built-in type -/
def kdD (h : Hd) : D → Option String
  | .non => some "NoneType"
  | .bl _ => some "bool"
  | .int _ => some "int"
  | .str _ => some "str"
  | .tup _ => some "tuple"
  | .rol _ => some "list"
  | .at n => match h[n]? with
    | some (.lst _) => some "list"
    | some (.dct _) => some "dict"
    | none => none
  | .ty _ => none
  | .ad _ => none
def isiD : GC := fun xs h => match xs with
  | [x, .ty T] => match kdD h x with
    | some k => match kitB k T with
      | some b => some (.bl b, h)
      | none => none
    | none => none
  | _ => none
theorem kd_of {H : Hp} {μ : List Addr} {h : Hd} {d : D} {v : V} {s : String} (S : Sm Φ K H μ h) (r : Rp K H μ d v) (e : kdD h d = some s) : TyX K H v (.type s) := by
  unfold kdD at e
  split at e
  · cases e; rw [rp_non' r]; exact .base .non
  · cases e; rw [rp_bl' r]; exact .base (.bl _)
  · cases e; rw [rp_int' r]; exact .base (.int _)
  · cases e; rw [rp_str' r]; exact .base (.str _)
  · cases e
    obtain ⟨p, ws, rfl, b, c⟩ := rp_tup' r
    rcases b with (b | ⟨ob, b⟩) | ⟨o, its, n, b, b2, _⟩
    · exact .base (.tup b)
    · exact .fTuple b
    · exact .kTuple b b2
  · cases e
    obtain ⟨p, ws, rfl, b, c⟩ := rp_rol' r
    rcases b with ⟨ob, b⟩ | ⟨o, its, n, b, b2, _⟩
    · exact .base (.frz b)
    · exact .kList b b2
  · obtain ⟨p, ep, rfl⟩ := rp_at' r
    split at e
    · rename_i ys q
      cases e
      obtain ⟨ws, b, c⟩ := S.lst q ep
      exact .base (.lst b)
    · rename_i ys q
      cases e
      obtain ⟨ws, b, c⟩ := S.dct q ep
      exact .base (.dK b)
    · cases e
  · cases e
  · cases e
theorem sc_isi : SC K (rIsi K) isiD := by
  intro Φ H μ h xs vs d h' S r e Q k
  unfold isiD at e
  split at e
  · split at e
    · rename_i kk q
      split at e
      · rename_i b q2
        cases e
        obtain ⟨v, w, rfl, a, c⟩ := rps2 r
        rw [rp_ty' c]
        exact ⟨v, _, _, _, b, rfl, .ty _, kd_of S a q, kit_ty q2, k _ H μ S Le.refl rp_bl⟩
      · cases e
    · cases e
  · cases e
theorem call_isiU (hK : X.K = K := by rfl) : CallR X (.builtin "isinstance") (rIsi K) := by subst hK; exact call_isi
/-- tuple(x), list(x) -/
def tuplD : GC := fun xs h => match xs with
  | [.tup ys] => some (.tup ys, h)
  | [.rol ys] => some (.tup ys, h)
  | [.at n] => match h[n]? with
    | some (.lst ys) => some (.tup ys, h)
    | _ => none
  | _ => none
def rTupl (K : PySem.W.Frag) : List V → Hp → VK → Prop := fun xs H Q => ∃ p ys, xs = [.ref p] ∧ ((SqL K H p ys ∧ ∀ l, H l = none → Q (.ref l) (upd H l (.tup ys))) ∨ (SqT K H p ys ∧ Q (.ref p) H))
theorem call_tuplU (hK : X.K = K := by rfl) : CallR X (.type "tuple") (rTupl K) := by subst hK; exact call_tuple_of
theorem sc_tupl : SC K (rTupl K) tuplD := by
  intro Φ H μ h xs vs d h' S r e Q k
  unfold tuplD at e
  split at e
  · cases e
    obtain ⟨v, rfl, a⟩ := rps1 r
    obtain ⟨p, ws, rfl, b, c⟩ := rp_tup' a
    exact ⟨p, ws, rfl, .inr ⟨b, k _ H μ S Le.refl a⟩⟩
  · cases e
    obtain ⟨v, rfl, a⟩ := rps1 r
    obtain ⟨p, ws, rfl, b, c⟩ := rp_rol' a
    exact ⟨p, ws, rfl, .inl ⟨b.l, fun l hl => kn_tup S c k l hl⟩⟩
  · split at e
    · rename_i ys q
      cases e
      obtain ⟨v, rfl, a⟩ := rps1 r
      obtain ⟨p, ep, rfl⟩ := rp_at' a
      obtain ⟨ws, b, c⟩ := S.lst q ep
      exact ⟨p, ws, rfl, .inl ⟨.of b, fun l hl => kn_tup S c k l hl⟩⟩
    · cases e
  · cases e
def kD : Key → D
  | .inl i => .int i
  | .inr s => .str s
theorem rps_keys {H : Hp} {μ : List Addr} : ∀ {kvs : List (Key × D)} {kw : List (Key × V)}, kw.map (·.1) = kvs.map (·.1) → Rps K H μ (kvs.map fun kv => kD kv.1) (kw.map fun kv => kV kv.1)
  | [], kw, e => by
    have : kw = [] := by simpa using e
    subst this
    exact Rps.nil
  | (k, d) :: kvs, [], e => by simp at e
  | (k, d) :: kvs, (k', v) :: kw, e => by
    simp only [List.map_cons, List.cons.injEq] at e
    obtain ⟨rfl, e⟩ := e
    refine Rps.cons ?_ (rps_keys e)
    cases k' with
    | inl i => exact rp_int
    | inr s => exact rp_str
def listD : GC := fun xs h => match xs with
  | [.tup ys] => some (.at h.length, h ++ [.lst ys])
  | [.rol ys] => some (.at h.length, h ++ [.lst ys])
  | [.at n] => match h[n]? with
    | some (.lst ys) => some (.at h.length, h ++ [.lst ys])
    | some (.dct kvs) => some (.at h.length, h ++ [.lst (kvs.map fun kv => kD kv.1)])
    | none => none
  | _ => none
def rListA (K : PySem.W.Frag) : List V → Hp → VK → Prop := fun xs H Q => ∃ p ys, xs = [.ref p] ∧ (SqL K H p ys ∨ SqT K H p ys) ∧ ∀ l, H l = none → Q (.ref l) (upd H l (.lst ys))
def rListU (K : PySem.W.Frag) : List V → Hp → VK → Prop := fun xs H Q => rListA K xs H Q ∨ rListD xs H Q
theorem call_listU (hK : X.K = K := by rfl) (hc : X.calm = true := by rfl) : CallR X (.type "list") (rListU K) := by
  subst hK
  exact CallR.or (r := rListA X.K) call_list_of (call_list_dK hc)
theorem sc_list : SC K (rListU K) listD := by
  intro Φ H μ h xs vs d h' S r e Q k
  unfold listD at e
  split at e
  · cases e
    obtain ⟨v, rfl, a⟩ := rps1 r
    obtain ⟨p, ws, rfl, b, c⟩ := rp_tup' a
    exact .inl ⟨p, ws, rfl, .inr b, fun l hl => kn_lst S c k l hl⟩
  · cases e
    obtain ⟨v, rfl, a⟩ := rps1 r
    obtain ⟨p, ws, rfl, b, c⟩ := rp_rol' a
    exact .inl ⟨p, ws, rfl, .inl b.l, fun l hl => kn_lst S c k l hl⟩
  · obtain ⟨v, rfl, a⟩ := rps1 r
    obtain ⟨p, ep, rfl⟩ := rp_at' a
    split at e
    · rename_i ys q
      cases e
      obtain ⟨ws, b, c⟩ := S.lst q ep
      exact .inl ⟨p, ws, rfl, .inl (.of b), fun l hl => kn_lst S c k l hl⟩
    · rename_i kvs q
      cases e
      obtain ⟨kw, b, c⟩ := S.dct q ep
      exact .inr ⟨p, kw, rfl, b, fun l hl => kn_lst S (rps_keys c.1) k l hl⟩
    · cases e
  · cases e
/-- dict(list of pairs) -/
def pairsD : List D → Option (List (Key × D))
  | [] => some []
  | .tup [a, b] :: ds => match keyD a, pairsD ds with
    | some k, some ps => some ((k, b) :: ps)
    | _, _ => none
  | _ => none
def mergeD (kvs more : List (Key × D)) : List (Key × D) := more.foldl (fun acc kv => putD acc kv.1 kv.2) kvs
theorem pairs_of {H : Hp} {μ : List Addr} : ∀ {ds : List D} {vs : List V} {ps : List (Key × D)}, Rps K H μ ds vs → pairsD ds = some ps →
    ∃ (as : List Addr) (kw : List (Key × V)), vs = as.map V.ref ∧ Paired (fun p kv => SqT K H p [kV kv.1, kv.2]) as kw ∧ Rkv K H μ ps kw := by
  intro ds
  induction ds with
  | nil =>
    intro vs ps r e
    unfold pairsD at e
    cases e
    exact ⟨[], [], r.nil', .nil, Rkv.nil⟩
  | cons d ds ih =>
    intro vs ps r e
    unfold pairsD at e
    split at e
    · rename_i heq; cases heq
    · rename_i a b ds' heq
      cases heq
      split at e
      · rename_i k ps' q1 q2
        cases e
        obtain ⟨v, vs', rfl, c1, c2⟩ := r.cons'
        obtain ⟨as, kw, rfl, c3, c4⟩ := ih c2 q2
        obtain ⟨p, ws, rfl, c5, c6⟩ := rp_tup' c1
        obtain ⟨u, w, rfl, c7, c8⟩ := rps2 c6
        rw [key_of c7 q1] at c5
        exact ⟨p :: as, (k, w) :: kw, rfl, .cons c5 c3, Rkv.cons c8 c4⟩
      · cases e
    · cases e
theorem Rkv.merge {H : Hp} {μ : List Addr} : ∀ {ps kvs : List (Key × D)} {kw kz : List (Key × V)}, Rkv K H μ ps kw → Rkv K H μ kvs kz → Rkv K H μ (mergeD kvs ps) (mergeK kz kw)
  | [], kvs, kw, kz, r, q => by rw [r.nil']; exact q
  | (k, d) :: ps, kvs, kw, kz, r, q => by
    obtain ⟨v, kw', rfl, a, b⟩ := r.cons'
    show Rkv K H μ (mergeD (putD kvs k d) ps) (mergeK (putK kz k v) kw')
    exact Rkv.merge b (q.put a)
def dictD : GC := fun xs h => match xs with
  | [.at n] => match h[n]? with
    | some (.lst ys) => match pairsD ys with
      | some ps => some (.at h.length, h ++ [.dct (mergeD [] ps)])
      | none => none
    | _ => none
  | _ => none
theorem kn_dct {H : Hp} {μ : List Addr} {h : Hd} {Q : VK} {kvs : List (Key × D)} {kw : List (Key × V)} (S : Sm Φ K H μ h) (r : Rkv K H μ kvs kw) (k : Kn Φ K H μ (h ++ [.dct kvs]) (.at h.length) Q) (p : Addr) (hp : H p = none) : Q (.ref p) (upd H p (.dK kw)) := by
  have l : Le K H μ (upd H p (.dK kw)) (μ ++ [p]) := le_obj hp
  exact k (.ref p) (upd H p (.dK kw)) (μ ++ [p]) (S.obj hp ⟨kw, upd_same, r.1, Rps.mono l _ _ r.2⟩) l (rp_at (obj_at S rfl))
def rDictP (K : PySem.W.Frag) : List V → Hp → VK → Prop := fun xs H Q => ∃ (a : Addr) (ps : List Addr) (kvs : List (Key × V)), xs = [.ref a] ∧ SqL K H a (ps.map V.ref) ∧ Paired (fun p kv => SqT K H p [kV kv.1, kv.2]) ps kvs ∧ ∀ p, H p = none → Q (.ref p) (upd H p (.dK (mergeK [] kvs)))
theorem call_dictU (hK : X.K = K := by rfl) (hc : X.calm = true := by rfl) : CallR X (.type "dict") (rDictP K) := by subst hK; exact call_dictP hc
theorem sc_dict : SC K (rDictP K) dictD := by
  intro Φ H μ h xs vs d h' S r e Q k
  unfold dictD at e
  split at e
  · split at e
    · rename_i ys q
      split at e
      · rename_i ps q2
        cases e
        obtain ⟨v, rfl, a⟩ := rps1 r
        obtain ⟨p, ep, rfl⟩ := rp_at' a
        obtain ⟨ws, b, c⟩ := S.lst q ep
        obtain ⟨as, kw, rfl, c3, c4⟩ := pairs_of c q2
        exact ⟨p, as, kw, rfl, .of b, c3, fun l hl => kn_dct S (Rkv.merge c4 Rkv.nil) k l hl⟩
      · cases e
    · cases e
  · cases e
end

/-! ### methods of lists -/
abbrev GM := D → List D → Hd → Option (D × Hd)
def SM (K : PySem.W.Frag) (r : V → List V → Hp → VK → Prop) (g : GM) : Prop := ∀ {Φ : Hp} (H : Hp) (μ : List Addr) (h : Hd) (x : D) (v : V) (xs : List D) (vs : List V) (d : D) (h' : Hd), Sm Φ K H μ h → Rp K H μ x v → Rps K H μ xs vs → g x xs h = some (d, h') → ∀ Q : VK, Kn Φ K H μ h' d Q → r v vs H Q
/-- the receiver's kind, seen ahead of the arguments -/
def kindD (T : String) (h : Hd) (x : D) : Bool := match x with
  | .str _ => T == "str"
  | .at n => match h[n]? with
    | some (.lst _) => T == "list"
    | some (.dct _) => T == "dict"
    | none => false
  | .rol _ => T == "list"
  | _ => false
theorem kind_of {K : PySem.W.Frag} {H : Hp} {μ : List Addr} {h : Hd} {T : String} {x : D} {v : V} (S : Sm Φ K H μ h) (r : Rp K H μ x v) (e : kindD T h x = true) : tyV K T v H := by
  unfold kindD at e
  split at e
  · rw [rp_str' r]
    exact eq_of_beq e
  · obtain ⟨p, ep, rfl⟩ := rp_at' r
    split at e
    · rename_i ys q
      obtain ⟨ws, b, c⟩ := S.lst q ep
      exact .inl ⟨eq_of_beq e, ws, .of b⟩
    · rename_i ys q
      obtain ⟨ws, b, c⟩ := S.dct q ep
      exact .inr (.inr (.inl ⟨eq_of_beq e, .inl ⟨ws, b⟩⟩))
    · cases e
  · obtain ⟨p, ws, rfl, b, c⟩ := rp_rol' r
    exact .inl ⟨eq_of_beq e, ws, b.l⟩
  · cases e
def bmM (T : String) (g : GM) (o : ME) (a : MA) : ME := fun sg h => match o sg h with
  | some (x, h1) => if kindD T h1 x = true then match a sg h1 with
    | some (xs, h2) => g x xs h2
    | none => none else none
  | none => none
section
variable {K : PySem.W.Frag} {X : Cx} {apos cpos : Pos} {o e : Expr} {es : List Expr} {to : TE} {mo : ME} {ta : TA} {ma : MA} {r : V → List V → Hp → VK → Prop} {g : GM} {T id : String} {name : Str}
theorem de_bm (hs : SM K r g) (pa : PlainAttrs T) (slot : Slot T name id) (hty : typeOf (.builtin id) = pure (.type "method_descriptor")) (hm : MtR X id r) (ho : DE K X o to mo) (ha : DA K X (e :: es) ta ma)
    (hbase : attributeBase o name X.env (eval o X.env) = eval o X.env := by rfl)
    (hfew : ((backTo cpos (starEach (e :: es) X.env)).all (fun x => !x.1) && (backToKw cpos (keywordEach [] X.env)).all (fun x => x.1.isSome)
      && decide ((e :: es).length + ([] : List Keyword).length + (if ([] : List Keyword).isEmpty then 0 else 1) < 30)) = true := by rfl)
    (hline : (apos.endLine == cpos.line) = true := by rfl) (hs1 : starEach (e :: es) X.env = (false, eval e X.env) :: starEach es X.env := by rfl) (hplain : (backTo cpos (starEach es X.env)).any (·.1) = false := by rfl) :
    DE K X (.Call (.Attribute o name apos) (e :: es) [] cpos) (tBM K T r to ta) (bmM T g mo ma) := ⟨ho.k, by
  have hk := ho.k
  subst hk
  exact pe_bm pa slot hty hm ho.p ha.p hbase hfew hline hs1 hplain, by
  intro Φ σ H μ sg h d h' S rs e Q k
  unfold bmM at e
  split at e
  · rename_i x h1 e1
    split at e
    · rename_i hk
      split at e
      · rename_i xs h2 e2
        refine ho.s σ H μ sg h x h1 S rs e1 _ fun v H1 μ1 S1 l1 r1 => ⟨kind_of S1 r1 hk, ?_⟩
        refine ha.s σ H1 μ1 sg h1 xs h2 S1 (rs.mono l1) e2 _ fun vs H2 μ2 S2 l2 r2 => ?_
        exact hs H2 μ2 h2 x v xs vs d h' S2 (Rp.mono l2 _ _ r1) r2 e Q fun v H3 μ3 S3 l3 r3 => k v H3 μ3 S3 ((l1.trans l2).trans l3) r3
      · cases e
    · cases e
  · cases e⟩
theorem de_bm0 (hs : SM K r g) (pa : PlainAttrs T) (slot : Slot T name id) (hty : typeOf (.builtin id) = pure (.type "method_descriptor")) (hm : MtR X id r) (ho : DE K X o to mo)
    (hbase : attributeBase o name X.env (eval o X.env) = eval o X.env := by rfl) (hline : (apos.endLine == cpos.line) = true := by rfl) :
    DE K X (.Call (.Attribute o name apos) [] [] cpos) (tBM0 K T r to) (bmM T g mo nilM) := ⟨ho.k, by
  have hk := ho.k
  subst hk
  exact pe_bm0 pa slot hty hm ho.p hbase hline, by
  intro Φ σ H μ sg h d h' S rs e Q k
  unfold bmM at e
  split at e
  · rename_i x h1 e1
    split at e
    · rename_i hk
      split at e
      · rename_i xs h2 e2
        cases e2
        refine ho.s σ H μ sg h x h1 S rs e1 _ fun v H1 μ1 S1 l1 r1 => ⟨kind_of S1 r1 hk, ?_⟩
        exact hs H1 μ1 h1 x v [] [] d h' S1 r1 Rps.nil e Q fun v H3 μ3 S3 l3 r3 => k v H3 μ3 S3 (l1.trans l3) r3
      · cases e
    · cases e
  · cases e⟩
def appendD : GM := fun x xs h => match x, xs with
  | .at n, [y] => match h[n]? with
    | some (.lst ys) => if ys.length < LN then some (.non, h.set n (.lst (ys ++ [y]))) else none
    | _ => none
  | _, _ => none
theorem ln_lt {n : Nat} (h : n < LN) : n < sizeLine := by rw [sizeLine_eq]; exact h
theorem sm_append : SM K rAppend appendD := by
  intro Φ H μ h x v xs vs d h' S r1 r2 e Q k
  unfold appendD at e
  split at e
  · split at e
    · rename_i ys q
      split at e
      · rename_i hz
        cases e
        obtain ⟨p, ep, rfl⟩ := rp_at' r1
        obtain ⟨w, rfl, a⟩ := rps1 r2
        obtain ⟨ws, b, c⟩ := S.lst q ep
        exact ⟨p, ws, w, rfl, rfl, b, by rw [c.len]; exact ln_lt hz, kn_set S ep (c.app (Rps.cons a Rps.nil)) rp_non k⟩
      · cases e
    · cases e
  · cases e
def popD : GM := fun x xs h => match x, xs with
  | .at n, [] => match h[n]? with
    | some (.lst ys) => match ys[ys.length - 1]? with
      | some y => some (y, h.set n (.lst ys.dropLast))
      | none => none
    | _ => none
  | _, _ => none
theorem Rps.dropLast {H : Hp} {μ : List Addr} {ds : List D} {vs : List V} (r : Rps K H μ ds vs) : Rps K H μ ds.dropLast vs.dropLast := by
  rw [List.dropLast_eq_take, List.dropLast_eq_take, r.len]
  exact r.take _
theorem sm_pop : SM K rPop popD := by
  intro Φ H μ h x v xs vs d h' S r1 r2 e Q k
  unfold popD at e
  split at e
  · split at e
    · rename_i ys q
      split at e
      · rename_i y q2
        cases e
        obtain ⟨p, ep, rfl⟩ := rp_at' r1
        obtain ⟨ws, b, c⟩ := S.lst q ep
        obtain ⟨w, c1, c2⟩ := c.get q2
        exact ⟨p, ws, w, rfl, r2.nil', b, by rw [c.len]; exact c1, kn_set S ep c.dropLast c2 k⟩
      · cases e
    · cases e
  · cases e
end
end DL

namespace PySem
open Sem Builtin
theorem list_extend_list_tup (l : Addr) (items : Array Value) (n : Nat) (b : Addr) (items2 : Array Value) (n2 : Nat) (dd : Option Addr) (sl : Array (Option Value)) (hs0 : ¬(!items.isEmpty && Builtin.List.listTooLong (items.size + items2.size)) = true) (hs1 : items.size ≤ sizeLine) (hs2 : items.size + items2.size ≤ sizeLine + 1) :
    Meets (Builtin.«list.extend» ⟨[.ref l, .ref b], []⟩) (fun _ R s => s.heap.get? l = some { cls := .type "list", dict := none, data := .seq items n, slots := #[] } ∧ s.heap.get? b = some { cls := .type "tuple", dict := dd, data := .seq items2 n2, slots := sl } ∧ R (.ok (.ret Value.none)) { s with heap := s.heap.update l (Obj.mapSeq fun x => x ++ items2), toks := s.toks }) :=
  .of_wp fun prog w A R s h => by
    obtain ⟨hp, g, d, tk, os⟩ := s; obtain ⟨hl, hb, h⟩ := h; have f1 := AutoSeq1.idx_int; have f2 := AutoSeq1.sub_tuple_tuple; have f3 := AutoSeq1.sub_list_list; have f4 := AutoSeq1.sub_tuple_list; have f5 := AutoSeq1.sub_list_tuple;
    have hz' : (items ++ items2).size ≤ sizeLine + 1 := by rw [Array.size_append]; exact hs2
    wp_walk using (wpAny_updateSeq hl rfl (hz := hs1) (_hz' := hz')), wpAny_loadPart' hl, wpAny_loadPart' hb; exact ⟨_, rfl, h⟩
end PySem
namespace DL
open PySem L2 PySem.Spec PyProof.Rows
section
variable {K : PySem.W.Frag} {X : Cx}
/-- xs.extend(a list, a tuple) -/
def rExtT (K : PySem.W.Frag) : V → List V → Hp → VK → Prop := fun x vs H Q => ∃ l b xs zs, x = .ref l ∧ vs = [.ref b] ∧ H l = some (.lst xs) ∧ SqT K H b zs ∧ xs.length + zs.length ≤ sizeLine ∧ Q .non (upd H l (.lst (xs ++ zs)))
theorem mt_extT : MtR X "list.extend" (rExtT X.K) := by
  intro pins s σ H x vs v us Q I rx rv h
  obtain ⟨l, b, xs, zs, rfl, rfl, hH, hB, hz, q⟩ := h
  cases rx
  obtain ⟨u, rfl, ru⟩ := rv.one
  cases ru
  obtain ⟨z, its, n, r, hl, e⟩ := I.lstM hH
  obtain ⟨its2, r2, ⟨⟨cls2, dd2, data2, sl2⟩, ho2, hc2, n2, hd2⟩, hz2⟩ := I.tuple hB
  simp only at hc2 hd2
  subst hc2 hd2
  have hl2 := r2.length
  have hsz : its.toArray.size + its2.toArray.size ≤ sizeLine := by rw [List.size_toArray, List.size_toArray]; omega
  have hlong : ¬ (!its.toArray.isEmpty && Builtin.List.listTooLong (its.toArray.size + its2.toArray.size)) = true := by
    rw [notLongL hsz, Bool.and_false]
    exact Bool.false_ne_true
  refine call_meets F.slot_list_extend ⟨_, e, rfl⟩ F.entry_list_extend (F.args_list_extend_2 _ _)
    (PySem.list_extend_list_tup l its.toArray n b its2.toArray n2 dd2 sl2 hlong (by rw [List.size_toArray]; omega) (by omega)) ⟨e, ho2, ?_⟩
  refine ⟨.non, _, I.lset (its' := its ++ its2) hH e (by simp) (r.append r2) ?_, rfl, q⟩
  rw [List.length_append]
  omega
def rExtU (K : PySem.W.Frag) : V → List V → Hp → VK → Prop := fun x xs H Q => rExtend x xs H Q ∨ rExtT K x xs H Q
theorem mt_extU (hK : X.K = K := by rfl) : MtR X "list.extend" (rExtU K) := by
  subst hK
  exact MtR.or (r := rExtend) (r' := rExtT X.K) mt_extend mt_extT
def extendD : GM := fun x xs h => match x, xs with
  | .at n, [.tup zs] => match h[n]? with
    | some (.lst ys) => if ys.length + zs.length ≤ LN then some (.non, h.set n (.lst (ys ++ zs))) else none
    | _ => none
  | .at n, [.at m] => match h[n]?, h[m]? with
    | some (.lst ys), some (.lst zs) => if ys.length + zs.length ≤ LN then some (.non, h.set n (.lst (ys ++ zs))) else none
    | _, _ => none
  | _, _ => none
theorem sm_extend : SM K (rExtU K) extendD := by
  intro Φ H μ h x v xs vs d h' S r1 r2 e Q k
  unfold extendD at e
  split at e
  · split at e
    · rename_i ys q
      split at e
      · rename_i hz
        cases e
        obtain ⟨p, ep, rfl⟩ := rp_at' r1
        obtain ⟨w, rfl, a⟩ := rps1 r2
        obtain ⟨ws, b, c⟩ := S.lst q ep
        obtain ⟨p2, ws2, rfl, b2, c2⟩ := rp_tup' a
        exact .inr ⟨p, p2, ws, ws2, rfl, rfl, b, b2, by rw [c.len, c2.len]; exact ln_of hz, kn_set S ep (c.app c2) rp_non k⟩
      · cases e
    · cases e
  · split at e
    · rename_i ys zs q q2
      split at e
      · rename_i hz
        cases e
        obtain ⟨p, ep, rfl⟩ := rp_at' r1
        obtain ⟨w, rfl, a⟩ := rps1 r2
        obtain ⟨ws, b, c⟩ := S.lst q ep
        obtain ⟨p2, ep2, rfl⟩ := rp_at' a
        obtain ⟨ws2, b2, c2⟩ := S.lst q2 ep2
        exact .inl ⟨p, p2, ws, ws2, rfl, rfl, b, b2, by rw [c.len, c2.len]; exact ln_of hz, kn_set S ep (c.app c2) rp_non k⟩
      · cases e
    · cases e
  · cases e
end
/-! ### d.get(k), d.get(k, x) -/
def getD2 (o a b : ME) : ME := fun sg h => match o sg h with
  | some (.at n, h1) => if isDct h1 (.at n) = true then match a sg h1 with
    | some (y, h2) => match b sg h2 with
      | some (z, h3) => match h3[n]? with
        | some (.dct kvs) => match keyD y with
          | some k => some ((valD kvs k).getD z, h3)
          | none => none
        | _ => none
      | none => none
    | none => none else none
  | _ => none
def getD1 (o a : ME) : ME := getD2 o a (cM .non)
section
variable {K : PySem.W.Frag} {X : Cx} {apos cpos : Pos} {o a b : Expr} {to ta tb : TE} {mo ma mb : ME}
theorem is_dct {H : Hp} {μ : List Addr} {h : Hd} {n : Nat} {p : Addr} (S : Sm Φ K H μ h) (ep : μ[n]? = some p) (e : isDct h (.at n) = true) : IsD H p := by
  unfold isDct at e
  simp only at e
  split at e
  · rename_i kvs q
    obtain ⟨kw, b, c⟩ := S.dct q ep
    exact .inl ⟨kw, .of b⟩
  · cases e
theorem de_get2 (hu : X.A.units + 1 < cLine) (ho : DE K X o to mo) (ha : DE K X a ta ma) (hb : DE K X b tb mb) (m : M2 X o "get" apos a b cpos := by exact ⟨rfl, rfl, rfl, rfl⟩) :
    DE K X (.Call (.Attribute o "get" apos) [a, b] [] cpos) (tDGet2 to ta tb) (getD2 mo ma mb) := ⟨ho.k, pe_dget2 hu ho.p ha.p hb.p m, by
  intro Φ σ H μ sg h d h' S rs e Q k
  unfold getD2 at e
  split at e
  · rename_i n h1 e1
    split at e
    · rename_i hd
      split at e
      · rename_i y h2 e2
        split at e
        · rename_i z h3 e3
          split at e
          · rename_i kvs q
            split at e
            · rename_i kk q2
              cases e
              refine ho.s σ H μ sg h _ h1 S rs e1 _ fun v H1 μ1 S1 l1 r1 => ?_
              obtain ⟨p, ep, rfl⟩ := rp_at' r1
              refine ⟨p, rfl, is_dct S1 ep hd, ?_⟩
              refine ha.s σ H1 μ1 sg h1 y h2 S1 (rs.mono l1) e2 _ fun w H2 μ2 S2 l2 r2 => ?_
              refine hb.s σ H2 μ2 sg h2 z _ S2 (rs.mono (l1.trans l2)) e3 _ fun u H3 μ3 S3 l3 r3 => ?_
              have ep3 := (l2.trans l3).get ep
              obtain ⟨kw, c1, c2⟩ := S3.dct q ep3
              refine ⟨valV kw kk, ?_, ?_⟩
              · rw [key_of (Rp.mono l3 _ _ r2) q2]
                exact DGet.k c1
              · rcases c2.val (k := kk) with ⟨z1, z2⟩ | ⟨d2, u2, z1, z2, z3⟩
                · rw [z2]
                  rw [z1] at k
                  exact k u H3 μ3 S3 ((l1.trans l2).trans l3) r3
                · rw [z2]
                  rw [z1] at k
                  exact k u2 H3 μ3 S3 ((l1.trans l2).trans l3) z3
            · cases e
          · cases e
        · cases e
      · cases e
    · cases e
  · cases e⟩
theorem de_get1 (hu : X.A.units + 1 < cLine) (ho : DE K X o to mo) (ha : DE K X a ta ma) (m : M1 X o "get" apos a cpos := by exact ⟨rfl, rfl, rfl, rfl⟩) :
    DE K X (.Call (.Attribute o "get" apos) [a] [] cpos) (tDGet1 to ta) (getD1 mo ma) := ⟨ho.k, pe_dget1 hu ho.p ha.p m, by
  intro Φ σ H μ sg h d h' S rs e Q k
  unfold getD1 getD2 at e
  split at e
  · rename_i n h1 e1
    split at e
    · rename_i hd
      split at e
      · rename_i y h2 e2
        split at e
        · rename_i z h3 e3
          cases e3
          split at e
          · rename_i kvs q
            split at e
            · rename_i kk q2
              cases e
              refine ho.s σ H μ sg h _ h1 S rs e1 _ fun v H1 μ1 S1 l1 r1 => ?_
              obtain ⟨p, ep, rfl⟩ := rp_at' r1
              refine ⟨p, rfl, is_dct S1 ep hd, ?_⟩
              refine ha.s σ H1 μ1 sg h1 y _ S1 (rs.mono l1) e2 _ fun w H2 μ2 S2 l2 r2 => ?_
              have ep3 := l2.get ep
              obtain ⟨kw, c1, c2⟩ := S2.dct q ep3
              refine ⟨valV kw kk, ?_, ?_⟩
              · rw [key_of r2 q2]
                exact DGet.k c1
              · rcases c2.val (k := kk) with ⟨z1, z2⟩ | ⟨d2, u2, z1, z2, z3⟩
                · rw [z2]
                  rw [z1] at k
                  exact k .non H2 μ2 S2 (l1.trans l2) rp_non
                · rw [z2]
                  rw [z1] at k
                  exact k u2 H2 μ2 S2 (l1.trans l2) z3
            · cases e
          · cases e
        · cases e
      · cases e
    · cases e
  · cases e⟩
/-- {} -/
def dnewM : ME := fun _ h => some (.at h.length, h ++ [.dct []])
theorem de_dnew {pos : Pos} (hK : X.K = K := by rfl) : DE K X (.Dict [] [] pos) tDNewK dnewM := ⟨hK, pe_dnewK, by
  intro Φ σ H μ sg h d h' S rs e Q k
  cases e
  exact fun p hp => kn_dct S Rkv.nil k p hp⟩
end
end DL

/-! DL6: statements, targets, loops, comprehensions. -/
namespace DL
open PySem L2 PySem.Spec PyProof.Rows

inductive Fl where
  | nx (sg : Sg) | rt (d : D) | bk (sg : Sg) | ct (sg : Sg)
abbrev MS := Sg → Hd → Option (Fl × Hd)
def Ek (Φ : Hp) (K : PySem.W.Frag) (H : Hp) (μ : List Addr) (h' : Hd) (f : Fl) (E : Ends) : Prop := match f with
  | .nx sg' => ∀ (σ' : L2.St) (H' : Hp) (μ' : List Addr), Sm Φ K H' μ' h' → Le K H μ H' μ' → Rs K H' μ' sg' σ' → E.nx σ' H'
  | .rt d => ∀ (v : V) (H' : Hp) (μ' : List Addr), Sm Φ K H' μ' h' → Le K H μ H' μ' → Rp K H' μ' d v → E.rt v H'
  | .bk sg' => ∀ (σ' : L2.St) (H' : Hp) (μ' : List Addr), Sm Φ K H' μ' h' → Le K H μ H' μ' → Rs K H' μ' sg' σ' → E.bk σ' H'
  | .ct sg' => ∀ (σ' : L2.St) (H' : Hp) (μ' : List Addr), Sm Φ K H' μ' h' → Le K H μ H' μ' → Rs K H' μ' sg' σ' → E.ct σ' H'
def SS (K : PySem.W.Frag) (t : TS) (m : MS) : Prop := ∀ {Φ : Hp} (σ : L2.St) (H : Hp) (μ : List Addr) (sg : Sg) (h : Hd) (f : Fl) (h' : Hd), Sm Φ K H μ h → Rs K H μ sg σ → m sg h = some (f, h') → ∀ E : Ends, Ek Φ K H μ h' f E → t E σ H
structure DS (K : PySem.W.Frag) (X : Cx) (st : Stmt) (t : TS) (m : MS) : Prop where
  k : X.K = K
  p : PS X st t
  s : SS K t m
structure DSs (K : PySem.W.Frag) (X : Cx) (st : List Stmt) (t : TS) (m : MS) : Prop where
  k : X.K = K
  p : PSs X st t
  s : SS K t m
theorem Ek.le {K : PySem.W.Frag} {H H1 : Hp} {μ μ1 : List Addr} {h' : Hd} {f : Fl} {E : Ends} (l : Le K H μ H1 μ1) (k : Ek Φ K H μ h' f E) : Ek Φ K H1 μ1 h' f E := by
  cases f <;> exact fun a b c d e g => k a b c d (l.trans e) g

/-! ### targets -/
abbrev MG := D → Sg → Hd → Option (Sg × Hd)
abbrev MGs := List D → Sg → Hd → Option (Sg × Hd)
def SG (K : PySem.W.Frag) (t : TG) (m : MG) : Prop := ∀ {Φ : Hp} (σ : L2.St) (H : Hp) (μ : List Addr) (sg : Sg) (h : Hd) (x : D) (v : V) (sg' : Sg) (h' : Hd), Sm Φ K H μ h → Rs K H μ sg σ → Rp K H μ x v → m x sg h = some (sg', h') →
  ∀ Q : L2.St → Hp → Prop, (∀ (σ' : L2.St) (H' : Hp) (μ' : List Addr), Sm Φ K H' μ' h' → Le K H μ H' μ' → Rs K H' μ' sg' σ' → Q σ' H') → t v σ H Q
def SGs (K : PySem.W.Frag) (t : TGs) (m : MGs) : Prop := ∀ {Φ : Hp} (σ : L2.St) (H : Hp) (μ : List Addr) (sg : Sg) (h : Hd) (xs : List D) (vs : List V) (sg' : Sg) (h' : Hd), Sm Φ K H μ h → Rs K H μ sg σ → Rps K H μ xs vs → m xs sg h = some (sg', h') →
  ∀ Q : L2.St → Hp → Prop, (∀ (σ' : L2.St) (H' : Hp) (μ' : List Addr), Sm Φ K H' μ' h' → Le K H μ H' μ' → Rs K H' μ' sg' σ' → Q σ' H') → t vs σ H Q
/-- what a target leaves of the slots vs of a comprehension -/
def Only (vs : List Nat) (t : TG) : Prop := ∀ (v : V) (σ : L2.St) (H : Hp) (Q : L2.St → Hp → Prop), t v σ H Q → t v σ H fun σ2 H2 => wipe σ2 vs = wipe σ vs ∧ Q σ2 H2
def Onlys (vs : List Nat) (t : TGs) : Prop := ∀ (v : List V) (σ : L2.St) (H : Hp) (Q : L2.St → Hp → Prop), t v σ H Q → t v σ H fun σ2 H2 => wipe σ2 vs = wipe σ vs ∧ Q σ2 H2
structure DG (K : PySem.W.Frag) (X : Cx) (e : Expr) (t : TG) (m : MG) : Prop where
  k : X.K = K
  p : PG X e t
  s : SG K t m
structure DGs (K : PySem.W.Frag) (X : Cx) (e : List Expr) (t : TGs) (m : MGs) : Prop where
  k : X.K = K
  p : PGs X e t
  s : SGs K t m
def nameG (i : Nat) : MG := fun d sg h => some (sg.set i (some d), h)
def nilG : MGs := fun ds sg h => match ds with
  | [] => some (sg, h)
  | _ => none
def consG (a : MG) (b : MGs) : MGs := fun ds sg h => match ds with
  | d :: ds => match a d sg h with
    | some (sg1, h1) => b ds sg1 h1
    | none => none
  | [] => none
def tupG (n : Nat) (a : MGs) : MG := fun d sg h => match d with
  | .tup xs => if xs.length = n then a xs sg h else none
  | _ => none
section
variable {K : PySem.W.Frag} {X : Cx} {pos : Pos}
theorem sg_name (i : Nat) : SG K (gName i) (nameG i) := by
  intro Φ σ H μ sg h x v sg' h' S rs r e Q k
  cases e
  exact k _ H μ S Le.refl (rs.put i r)
theorem dg_name (i : Nat) {x : Str} (hN : X.N.Nodup) (hi : X.N[i]? = some x := by rfl) (hx : Loc X.env.scope x := by first | exact Or.inl rfl | exact Or.inr rfl) (hf : X.fn x = true ∨ X.env.scope.names.lookup x = some .local := by first | exact .inl rfl | exact .inr rfl) (hK : X.K = K := by rfl) :
    DG K X (.Name x pos) (gName i) (nameG i) := ⟨hK, pg_name hN hi hx hf, sg_name i⟩
theorem dgs_nil (hK : X.K = K := by rfl) : DGs K X [] gNil nilG := ⟨hK, pgs_nil, by
  intro Φ σ H μ sg h x v sg' h' S rs r e Q k
  unfold nilG at e
  split at e
  · cases e
    exact ⟨r.nil', k σ H μ S Le.refl rs⟩
  · cases e⟩
theorem dgs_cons {e : Expr} {es : List Expr} {t : TG} {u : TGs} {m : MG} {n : MGs} (a : DG K X e t m) (b : DGs K X es u n) (hs : (assignEach (e :: es) X.env).map (·.2) = assign e X.env :: (assignEach es X.env).map (·.2) := by rfl) : DGs K X (e :: es) (gCons t u) (consG m n) := ⟨a.k, pgs_cons a.p b.p hs, by
  intro Φ σ H μ sg h x v sg' h' S rs r e Q k
  unfold consG at e
  split at e
  · split at e
    · rename_i sg1 h1 e1
      obtain ⟨w, ws, rfl, r1, r2⟩ := r.cons'
      refine ⟨w, ws, rfl, a.s σ H μ sg h _ w sg1 h1 S rs r1 e1 _ fun σ1 H1 μ1 S1 l1 rs1 => ?_⟩
      exact b.s σ1 H1 μ1 sg1 h1 _ ws sg' h' S1 rs1 (Rps.mono l1 _ _ r2) e Q fun σ2 H2 μ2 S2 l2 rs2 => k σ2 H2 μ2 S2 (l1.trans l2) rs2
    · cases e
  · cases e⟩
theorem dg_tup {es : List Expr} {k0 : Nat} {t : TGs} {m : MGs} {n : Nat} (a : DGs K X es t m) (hn : (assignEach es X.env).length = n := by rfl) (hst : (assignEach es X.env).findIdx? (·.1) = none := by rfl) (hc : X.calm = true := by rfl) :
    DG K X (.Tuple es k0 pos) (gTup K n t) (tupG n m) := ⟨a.k, by
  have hk := a.k
  subst hk
  exact pg_tup hc a.p hn hst, by
  intro Φ σ H μ sg h x v sg' h' S rs r e Q k
  unfold tupG at e
  split at e
  · split at e
    · rename_i hl
      obtain ⟨p, vs, rfl, b, c⟩ := rp_tup' r
      exact ⟨p, vs, rfl, b, by rw [c.len]; exact hl, a.s σ H μ sg h _ vs sg' h' S rs c e Q k⟩
    · cases e
  · cases e⟩
theorem wipe_set {σ : L2.St} {i : Nat} {o : Option V} : ∀ {vs : List Nat}, i ∈ vs → wipe (σ.set i o) vs = wipe σ vs
  | v :: vs, h => by
    unfold wipe
    by_cases e : i ∈ vs
    · rw [wipe_set e]
    · have : i = v := by
        rcases List.mem_cons.mp h with q | q
        · exact q
        · exact absurd q e
      subst this
      have : ∀ ws : List Nat, i ∉ ws → wipe (σ.set i o) ws = (wipe σ ws).set i o := by
        intro ws
        induction ws with
        | nil => intro _; rfl
        | cons w ws ih =>
          intro hn
          unfold wipe
          rw [ih (fun q => hn (List.mem_cons_of_mem _ q)), List.set_comm]
          intro z
          exact hn (by rw [z]; exact List.mem_cons_self)
      rw [this vs e, List.set_set]
theorem wipe_idem (σ : L2.St) : ∀ vs : List Nat, wipe (wipe σ vs) vs = wipe σ vs := by
  have key : ∀ (vs us : List Nat), (∀ i ∈ us, i ∈ vs) → wipe (wipe σ us) vs = wipe σ vs := by
    intro vs us
    induction us with
    | nil => intro _; rfl
    | cons u us ih =>
      intro h
      show wipe ((wipe σ us).set u none) vs = wipe σ vs
      rw [wipe_set (h u List.mem_cons_self)]
      exact ih fun i hi => h i (List.mem_cons_of_mem _ hi)
  exact fun vs => key vs vs fun i h => h
theorem only_name {i : Nat} {vs : List Nat} (h : i ∈ vs) : Only vs (gName i) := fun v σ H Q q => ⟨wipe_set h, q⟩
theorem onlys_nil {vs : List Nat} : Onlys vs gNil := fun v σ H Q q => ⟨q.1, rfl, q.2⟩
theorem onlys_cons {vs : List Nat} {t : TG} {u : TGs} (a : Only vs t) (b : Onlys vs u) (mono : ∀ v σ H (Q Q' : L2.St → Hp → Prop), t v σ H Q → (∀ σ' H', Q σ' H' → Q' σ' H') → t v σ H Q') : Onlys vs (gCons t u) := fun v σ H Q q => by
  obtain ⟨w, r, e, q⟩ := q
  refine ⟨w, r, e, mono _ _ _ _ _ (a _ _ _ _ q) fun σ1 H1 ⟨z1, z2⟩ => ?_⟩
  have := b _ _ _ _ z2
  rw [z1] at this
  exact this
theorem only_tup {vs : List Nat} {n : Nat} {t : TGs} (a : Onlys vs t) : Only vs (gTup K n t) := fun v σ H Q q => by
  obtain ⟨p, xs, e, h1, h2, q⟩ := q
  exact ⟨p, xs, e, h1, h2, a _ _ _ _ q⟩
theorem mono_name {i : Nat} : ∀ v σ H (Q Q' : L2.St → Hp → Prop), gName i v σ H Q → (∀ σ' H', Q σ' H' → Q' σ' H') → gName i v σ H Q' := fun v σ H Q Q' q f => f _ _ q
end

/-! ### statements -/
def passM : MS := fun sg h => some (.nx sg, h)
def brkM : MS := fun sg h => some (.bk sg, h)
def cntM : MS := fun sg h => some (.ct sg, h)
def exprM (a : ME) : MS := fun sg h => match a sg h with
  | some (_, h1) => some (.nx sg, h1)
  | none => none
def retM (a : ME) : MS := fun sg h => match a sg h with
  | some (d, h1) => some (.rt d, h1)
  | none => none
def asgM (a : ME) (g : MG) : MS := fun sg h => match a sg h with
  | some (d, h1) => match g d sg h1 with
    | some (sg', h2) => some (.nx sg', h2)
    | none => none
  | none => none
def seqM (a b : MS) : MS := fun sg h => match a sg h with
  | some (.nx sg1, h1) => b sg1 h1
  | r => r
def ifSM (c : MT) (a b : MS) : MS := fun sg h => match c sg h with
  | some (true, h1) => a sg h1
  | some (false, h1) => b sg h1
  | none => none
def neverM : MS := fun _ _ => none
def augM (i : Nat) (g : G2) (a : ME) : MS := fun sg h => match sg[i]? with
  | some (some x) => match a sg h with
    | some (y, h1) => match g x y h1 with
      | some (z, h2) => some (.nx (sg.set i (some z)), h2)
      | none => none
    | none => none
  | _ => none
def parM (i j : Nat) (a : MA) : MS := fun sg h => match a sg h with
  | some ([x, y], h1) => some (.nx ((sg.set i (some x)).set j (some y)), h1)
  | _ => none
section
variable {K : PySem.W.Frag} {X : Cx} {pos pos' : Pos} {e : Expr} {te : TE} {me : ME} {st : Stmt} {rest : List Stmt} {t u : TS} {m n : MS} {c : Expr} {tc : TT} {mc : MT}
theorem dss_nil (hK : X.K = K := by rfl) : DSs K X [] tNext passM := ⟨hK, pss_nil, fun {Φ} σ H μ sg h f h' S rs e E k => by cases e; exact k σ H μ S Le.refl rs⟩
theorem ss_seq (a : SS K t m) (b : SS K u n) : SS K (tSeq t u) (seqM m n) := by
  intro Φ σ H μ sg h f h' S rs e E k
  unfold seqM at e
  split at e
  · rename_i sg1 h1 e1
    exact a σ H μ sg h _ h1 S rs e1 _ fun σ1 H1 μ1 S1 l1 rs1 => b σ1 H1 μ1 sg1 h1 f h' S1 rs1 e E (k.le l1)
  · rename_i hn
    refine a σ H μ sg h f h' S rs e _ ?_
    cases f with
    | nx sg1 => exact absurd e (hn sg1 h')
    | rt d => exact k
    | bk sg1 => exact k
    | ct sg1 => exact k
theorem dss_cons (a : DS K X st t m) (b : DSs K X rest u n) : DSs K X (st :: rest) (tSeq t u) (seqM m n) := ⟨a.k, pss_cons a.p b.p, ss_seq a.s b.s⟩
theorem dss_one (a : DS K X st t m) : DSs K X [st] t m := ⟨a.k, pss_one a.p, a.s⟩
theorem ds_pass (hK : X.K = K := by rfl) : DS K X (.Pass pos) tNext passM := ⟨hK, ps_pass, fun {Φ} σ H μ sg h f h' S rs e E k => by cases e; exact k σ H μ S Le.refl rs⟩
theorem ds_break (hK : X.K = K := by rfl) : DS K X (.Break pos) tBreak brkM := ⟨hK, ps_break, fun {Φ} σ H μ sg h f h' S rs e E k => by cases e; exact k σ H μ S Le.refl rs⟩
theorem ds_cont (hK : X.K = K := by rfl) : DS K X (.Continue pos) tCont cntM := ⟨hK, ps_continue, fun {Φ} σ H μ sg h f h' S rs e E k => by cases e; exact k σ H μ S Le.refl rs⟩
theorem ss_expr (a : SE K te me) : SS K (tDrop te) (exprM me) := by
  intro Φ σ H μ sg h f h' S rs e E k
  unfold exprM at e
  split at e
  · rename_i d h1 e1
    cases e
    exact a σ H μ sg h d _ S rs e1 _ fun v H1 μ1 S1 l1 r1 => k σ H1 μ1 S1 l1 (rs.mono l1)
  · cases e
theorem ds_expr (a : DE K X e te me) (hs : swapsWith e none pos.line X.env = pure false := by rfl) : DS K X (.Expr e pos) (tDrop te) (exprM me) := ⟨a.k, ps_expr a.p hs, ss_expr a.s⟩
theorem ss_ret (a : SE K te me) : SS K (tRet te) (retM me) := by
  intro Φ σ H μ sg h f h' S rs e E k
  unfold retM at e
  split at e
  · rename_i d h1 e1
    cases e
    exact a σ H μ sg h d _ S rs e1 _ fun v H1 μ1 S1 l1 r1 => k v H1 μ1 S1 l1 r1
  · cases e
theorem ds_ret (a : DE K X e te me) : DS K X (.Return (some e) pos) (tRet te) (retM me) := ⟨a.k, ps_ret a.p, ss_ret a.s⟩
theorem ds_retN (hK : X.K = K := by rfl) : DS K X (.Return none pos) tRetN (fun sg h => some (.rt .non, h)) := ⟨hK, ps_retN, fun {Φ} σ H μ sg h f h' S rs e E k => by cases e; exact k .non H μ S Le.refl rp_non⟩
theorem ss_asg {tg : TG} {mg : MG} (a : SE K te me) (g : SG K tg mg) : SS K (tAsg te tg) (asgM me mg) := by
  intro Φ σ H μ sg h f h' S rs e E k
  unfold asgM at e
  split at e
  · rename_i d h1 e1
    split at e
    · rename_i sg2 h2 e2
      cases e
      exact a σ H μ sg h d h1 S rs e1 _ fun v H1 μ1 S1 l1 r1 => g σ H1 μ1 sg h1 d v sg2 _ S1 (rs.mono l1) r1 e2 _ fun σ2 H2 μ2 S2 l2 rs2 => k σ2 H2 μ2 S2 (l1.trans l2) rs2
    · cases e
  · cases e
theorem ds_asg {tg : Expr} {gt : TG} {mg : MG} (a : DE K X e te me) (g : DG K X tg gt mg) (hs : swapsWithSole [tg] e pos.line X.env = pure false := by rfl) (hw : swappedStores [tg] e X.env = pure none := by rfl)
    (h1 : (assignEach [tg] X.env).map (·.2) = [assign tg X.env] := by rfl) : DS K X (.Assign [tg] e pos) (tAsg te gt) (asgM me mg) := ⟨a.k, ps_asg a.p g.p hs hw h1, ss_asg a.s g.s⟩
theorem ds_set (i : Nat) {x : Str} (a : DE K X e te me) (hN : X.N.Nodup) (hi : X.N[i]? = some x := by rfl) (hx : Loc X.env.scope x := by first | exact Or.inl rfl | exact Or.inr rfl) (hs : swapsWith e (some (.Name x pos')) pos.line X.env = pure false := by rfl)
    (hf : X.fn x = true ∨ X.env.scope.names.lookup x = some .local := by first | exact .inl rfl | exact .inr rfl) : DS K X (.Assign [.Name x pos'] e pos) (tAsg te (gName i)) (asgM me (nameG i)) := ⟨a.k, ps_set hN hi hx a.p hs hf, ss_asg a.s (sg_name i)⟩
theorem ss_if (hc : ST K tc mc) (a : SS K t m) (b : SS K u n) : SS K (tIfS tc t u) (ifSM mc m n) := by
  intro Φ σ H μ sg h f h' S rs e E k
  unfold ifSM at e
  split at e
  · rename_i h1 e1
    exact hc σ H μ sg h _ h1 S rs e1 _ fun H1 μ1 S1 l1 => iteT (a σ H1 μ1 sg h1 f h' S1 (rs.mono l1) e E (k.le l1))
  · rename_i h1 e1
    exact hc σ H μ sg h _ h1 S rs e1 _ fun H1 μ1 S1 l1 => iteF (b σ H1 μ1 sg h1 f h' S1 (rs.mono l1) e E (k.le l1))
  · cases e
theorem ds_if {p q : List Stmt} (hc : DT K X c tc mc) (a : DSs K X p t m) (b : DSs K X q u n) : DS K X (.If c p q pos) (tIfS tc t u) (ifSM mc m n) := ⟨a.k, ps_if hc.p a.p b.p, ss_if hc.s a.s b.s⟩
theorem ds_never (hK : X.K = K := by rfl) : DS K X st tNever neverM := ⟨hK, ps_never, fun {Φ} σ H μ sg h f h' S rs e E k => by cases e⟩
theorem ds_aug (i : Nat) {x : Str} {op : Operator} {ti : TIp} {g : G2} (hs : SO K ti g) (ho : PIp X op ti) (a : DE K X e te me) (hN : X.N.Nodup) (hi : X.N[i]? = some x := by rfl) (hx : Loc X.env.scope x := by first | exact Or.inl rfl | exact Or.inr rfl)
    (hf : X.fn x = true ∨ X.env.scope.names.lookup x = some .local := by first | exact .inl rfl | exact .inr rfl) : DS K X (.AugAssign (.Name x pos') op e pos) (tAug i te ti) (augM i g me) := ⟨a.k, ps_aug hN hi hx a.p ho hf, by
  intro Φ σ H μ sg h f h' S rs e E k
  unfold augM at e
  split at e
  · rename_i x q
    split at e
    · rename_i y h1 e1
      split at e
      · rename_i z h2 e2
        cases e
        obtain ⟨v, q1, q2⟩ := rs.2 i x q
        refine ⟨v, q1, a.s σ H μ sg h y h1 S rs e1 _ fun w H1 μ1 S1 l1 r1 => ?_⟩
        exact hs H1 μ1 h1 x y v w z _ S1 (Rp.mono l1 _ _ q2) r1 e2 _ fun u H2 μ2 S2 l2 r2 => k _ H2 μ2 S2 (l1.trans l2) ((rs.mono (l1.trans l2)).put i r2)
      · cases e
    · cases e
  · cases e⟩
theorem ds_par (i j : Nat) {x y : Str} {a b : Expr} {ta : TA} {ma : MA} {px py pt : Pos} {kt k2 pt2} (d : DA K X [a, b] ta ma) (hN : X.N.Nodup) (hi : X.N[i]? = some x := by rfl) (hj : X.N[j]? = some y := by rfl) (hij : i ≠ j := by decide)
    (hx : X.env.scope.names.lookup x = some .local := by rfl) (hy : X.env.scope.names.lookup y = some .local := by rfl)
    (hw : swappedStores [.Tuple [.Name x px, .Name y py] kt pt] (.Tuple [a, b] k2 pt2) X.env = pure (some [x, y]) := by rfl)
    (hs : swapsWithSole [.Tuple [.Name x px, .Name y py] kt pt] (.Tuple [a, b] k2 pt2) pos.line X.env = pure false := by rfl) (hc : X.calm = true := by rfl) :
    DS K X (.Assign [.Tuple [.Name x px, .Name y py] kt pt] (.Tuple [a, b] k2 pt2) pos) (tPar i j ta) (parM i j ma) := ⟨d.k, ps_par hc hN hi hj hij hx hy d.p hw hs, by
  intro Φ σ H μ sg h f h' S rs e E k
  unfold parM at e
  split at e
  · rename_i x y h1 e1
    cases e
    refine d.s σ H μ sg h _ _ S rs e1 _ fun vs H1 μ1 S1 l1 r1 => ?_
    obtain ⟨v, w, rfl, r2, r3⟩ := rps2 r1
    exact ⟨v, w, rfl, k _ H1 μ1 S1 l1 (((rs.mono l1).put i r2).put j r3)⟩
  · cases e⟩
/-- o[i] = v, a list's or a dict's -/
def setD (o i v : ME) : MS := fun sg h => match v sg h with
  | some (z, h1) => match o sg h1 with
    | some (.at n, h2) => match i sg h2 with
      | some (y, h3) => match h3[n]? with
        | some (.lst xs) => match y with
          | .int j => match ixN xs.length j with
            | some q => some (.nx sg, h3.set n (.lst (xs.set q z)))
            | none => none
          | _ => none
        | some (.dct kvs) => match keyD y with
          | some k => if kvs.length < LN then some (.nx sg, h3.set n (.dct (putD kvs k z))) else none
          | none => none
        | none => none
      | none => none
    | _ => none
  | none => none
def tSetL (to ti tv : TE) : TS := tAsg tv (gSub to ti rSetL)
def tSetU (to ti tv : TE) : TS := fun E σ H => tSetL to ti tv E σ H ∨ sDPut to ti tv E σ H
theorem PS.or {t u : TS} (h : PS X st t) (h' : PS X st u) : PS X st (fun E σ H => t E σ H ∨ u E σ H) := ⟨fun pins s σ H E I q => q.elim (h.run pins s σ H E I) (h'.run pins s σ H E I)⟩
theorem ds_put {o i v : Expr} {to ti tv : TE} {mo mi mv : ME} (ho : DE K X o to mo) (hi : DE K X i ti mi) (hv : DE K X v tv mv) (hu : X.A.units + 1 < cLine) (hs : swapsWith v (some (.Subscript o i pos')) pos.line X.env = pure false := by rfl)
    (hs2 : swapsWithSole [.Subscript o i pos'] v pos.line X.env = pure false := by rfl) (hw : swappedStores [.Subscript o i pos'] v X.env = pure none := by rfl) (h1 : (assignEach [.Subscript o i pos'] X.env).map (·.2) = [assign (.Subscript o i pos') X.env] := by rfl)
    (ha : ∀ v, assign (.Subscript o i pos') X.env v = (do
      let ov ← holding [v] (eval o X.env)
      let iv ← holding [v, ov] (eval i X.env)
      standAt pos'
      holding [v, ov, iv] (setItem ov iv v)
      release [v, ov, iv] []) := by intro _; rfl) :
    DS K X (.Assign [.Subscript o i pos'] v pos) (tSetU to ti tv) (setD mo mi mv) := ⟨ho.k, PS.or (ps_asg hv.p (pg_sub ho.p hi.p set_list ha) hs2 hw h1) (ps_dput hu ho.p hi.p hv.p hs), by
  intro Φ σ H μ sg h f h' S rs e E k
  unfold setD at e
  split at e
  · rename_i z h1 e1
    split at e
    · rename_i n h2 e2
      split at e
      · rename_i y h3 e3
        split at e
        · rename_i xs q
          split at e
          · rename_i j
            split at e
            · rename_i qq e4
              cases e
              refine .inl (hv.s σ H μ sg h z h1 S rs e1 _ fun v H1 μ1 S1 l1 r1 => ?_)
              refine ho.s σ H1 μ1 sg h1 _ h2 S1 (rs.mono l1) e2 _ fun w H2 μ2 S2 l2 r2 => ?_
              refine hi.s σ H2 μ2 sg h2 _ _ S2 (rs.mono (l1.trans l2)) e3 _ fun u H3 μ3 S3 l3 r3 => ?_
              obtain ⟨p, ep, rfl⟩ := rp_at' (Rp.mono l3 _ _ r2)
              obtain ⟨ws, b, c⟩ := S3.lst q ep
              have rz := Rp.mono (l2.trans l3) _ _ r1
              refine ⟨p, ws, j, qq, rfl, rp_int' r3, b, by rw [c.len]; exact e4, ?_⟩
              have l4 : Le K H3 μ3 (upd H3 p (.lst (ws.set qq v))) μ3 := le_set S3 ep
              exact k σ _ μ3 (S3.set ep ⟨_, upd_same, Rps.mono l4 _ _ (c.set qq rz)⟩) (((l1.trans l2).trans l3).trans l4) (rs.mono (((l1.trans l2).trans l3).trans l4))
            · cases e
          · cases e
        · rename_i kvs q
          split at e
          · rename_i kk e4
            split at e
            · rename_i hz
              cases e
              refine .inr (hv.s σ H μ sg h z h1 S rs e1 _ fun v H1 μ1 S1 l1 r1 => ?_)
              refine ho.s σ H1 μ1 sg h1 _ h2 S1 (rs.mono l1) e2 _ fun w H2 μ2 S2 l2 r2 => ?_
              refine hi.s σ H2 μ2 sg h2 _ _ S2 (rs.mono (l1.trans l2)) e3 _ fun u H3 μ3 S3 l3 r3 => ?_
              obtain ⟨p, ep, rfl⟩ := rp_at' (Rp.mono l3 _ _ r2)
              obtain ⟨kw, b, c⟩ := S3.dct q ep
              have rz := Rp.mono (l2.trans l3) _ _ r1
              refine ⟨p, _, rfl, by rw [key_of r3 e4]; exact DPut.k b (by rw [c.len]; exact ln_lt hz), ?_⟩
              have l4 : Le K H3 μ3 (upd H3 p (.dK (putK kw kk v))) μ3 := le_set S3 ep
              have c2 := c.put (k := kk) rz
              exact k σ _ μ3 (S3.set ep ⟨_, upd_same, c2.1, Rps.mono l4 _ _ c2.2⟩) (((l1.trans l2).trans l3).trans l4) (rs.mono (((l1.trans l2).trans l3).trans l4))
            · cases e
          · cases e
        · cases e
      · cases e
    · cases e
  · cases e⟩
end

/-! ### while -/
def whileM (c : MT) (b : MS) : Nat → MS
  | 0 => fun _ _ => none
  | k + 1 => fun sg h => match c sg h with
    | some (true, h1) => match b sg h1 with
      | some (.nx sg2, h2) => whileM c b k sg2 h2
      | some (.ct sg2, h2) => whileM c b k sg2 h2
      | some (.bk sg2, h2) => some (.nx sg2, h2)
      | some (.rt d, h2) => some (.rt d, h2)
      | none => none
    | some (false, h1) => some (.nx sg, h1)
    | none => none
section
variable {K : PySem.W.Frag} {X : Cx} {pos : Pos} {c : Expr} {tc : TT} {mc : MT} {body : List Stmt} {tb : TS} {mb : MS}
theorem ss_while (N : Nat) (hc : ST K tc mc) (hb : SS K tb mb) : SS K (tWhile tc tb) (whileM mc mb N) := by
  intro Φ σ H μ sg h f h' S rs e E k
  refine ⟨fun m σ1 H1 => ∃ μ1 sg1 h1, Sm Φ K H1 μ1 h1 ∧ Le K H μ H1 μ1 ∧ Rs K H1 μ1 sg1 σ1 ∧ whileM mc mb m sg1 h1 = some (f, h'), ⟨N, μ, sg, h, S, Le.refl, rs, e⟩, ?_⟩
  rintro m σ1 H1 ⟨μ1, sg1, h1, S1, l1, rs1, e1⟩
  cases m with
  | zero => cases e1
  | succ m =>
    unfold whileM at e1
    split at e1
    · rename_i h2 e2
      refine hc σ1 H1 μ1 sg1 h1 _ h2 S1 rs1 e2 _ fun H2 μ2 S2 l2 => iteT ?_
      refine ⟨fun σ3 H3 => ∃ μ3 sg3 h3, Sm Φ K H3 μ3 h3 ∧ Le K H μ H3 μ3 ∧ Rs K H3 μ3 sg3 σ3 ∧ whileM mc mb m sg3 h3 = some (f, h'), fun σ3 H3 q => ⟨m, Nat.lt_succ_self _, q⟩, ?_⟩
      split at e1
      · rename_i sg3 h3 e3
        exact hb σ1 H2 μ2 sg1 h2 _ h3 S2 (rs1.mono l2) e3 _ fun σ3 H3 μ3 S3 l3 rs3 => ⟨μ3, sg3, h3, S3, (l1.trans l2).trans l3, rs3, e1⟩
      · rename_i sg3 h3 e3
        exact hb σ1 H2 μ2 sg1 h2 _ h3 S2 (rs1.mono l2) e3 _ fun σ3 H3 μ3 S3 l3 rs3 => ⟨μ3, sg3, h3, S3, (l1.trans l2).trans l3, rs3, e1⟩
      · rename_i sg3 h3 e3
        cases e1
        exact hb σ1 H2 μ2 sg1 h2 _ _ S2 (rs1.mono l2) e3 _ fun σ3 H3 μ3 S3 l3 rs3 => k σ3 H3 μ3 S3 ((l1.trans l2).trans l3) rs3
      · rename_i d h3 e3
        cases e1
        exact hb σ1 H2 μ2 sg1 h2 _ _ S2 (rs1.mono l2) e3 _ fun v H3 μ3 S3 l3 r3 => k v H3 μ3 S3 ((l1.trans l2).trans l3) r3
      · cases e1
    · rename_i h2 e2
      cases e1
      exact hc σ1 H1 μ1 sg1 h1 _ _ S1 rs1 e2 _ fun H2 μ2 S2 l2 => iteF (k σ1 H2 μ2 S2 (l1.trans l2) (rs1.mono l2))
    · cases e1
theorem ds_while (N : Nat) (hp : PassesOwn (model X.prog X.w) X.A X.env X.xe) (hc : DT K X c tc mc) (hb : DSs K X body tb mb) : DS K X (.While c body [] pos) (tWhile tc tb) (whileM mc mb N) := ⟨hc.k, ps_while hp hc.p hb.p, ss_while N hc.s hb.s⟩
end

/-! ### what a for walks -/
inductive Src where
  | fix (xs : List D) | obj (n : Nat) | enu (xs : List D) (n : Option Nat)
def Src.nxt (h : Hd) : Src → Nat → Option (Option D)
  | .fix xs, i => some xs[i]?
  | .obj n, i => match h[n]? with
    | some (.lst xs) => some xs[i]?
    | _ => none
  | .enu xs none, i => some (xs[i]?.map fun d => .tup [.int (i : Nat), d])
  | .enu _ (some n), i => match h[n]? with
    | some (.lst xs) => some (xs[i]?.map fun d => .tup [.int (i : Nat), d])
    | _ => none
abbrev MI := Sg → Hd → Option (Src × Hd)
def JOk (Φ : Hp) (K : PySem.W.Frag) (J : It) (s : Src) (H0 : Hp) (μ0 : List Addr) : Prop := ∀ (i : Nat) (H : Hp) (μ : List Addr) (h : Hd), Sm Φ K H μ h → Le K H0 μ0 H μ →
  (∀ d, s.nxt h i = some (some d) → J.go i H ∧ ∀ x H', J.yld i H x H' → Sm Φ K H' μ h ∧ Le K H μ H' μ ∧ Rp K H' μ d x) ∧ (s.nxt h i = some none → J.stop i H)
def SI (K : PySem.W.Frag) (t : TI) (m : MI) : Prop := ∀ {Φ : Hp} (σ : L2.St) (H : Hp) (μ : List Addr) (sg : Sg) (h : Hd) (s : Src) (h' : Hd), Sm Φ K H μ h → Rs K H μ sg σ → m sg h = some (s, h') → ∀ R : It → Hp → Prop,
  (∀ (J : It) (H' : Hp) (μ' : List Addr), Sm Φ K H' μ' h' → Le K H μ H' μ' → JOk Φ K J s H' μ' → R J H') → t σ H R
structure DI (K : PySem.W.Frag) (X : Cx) (tg e : Expr) (t : TI) (m : MI) : Prop where
  k : X.K = K
  p : PI X tg e t
  s : SI K t m
def seqI (a : ME) : MI := fun sg h => match a sg h with
  | some (.tup xs, h1) => some (.fix xs, h1)
  | some (.rol xs, h1) => some (.fix xs, h1)
  | some (.at n, h1) => match h1[n]? with
    | some (.lst _) => some (.obj n, h1)
    | _ => none
  | some (.str s, h1) => some (.fix (s.cps.toList.map fun c => .str ⟨⟨[c]⟩⟩), h1)
  | _ => none
def iSeq (K : PySem.W.Frag) (te : TE) : TI := fun σ H R => iList K te σ H R ∨ iTup K te σ H R ∨ iStr te σ H R
theorem PI.or {X : Cx} {tg e : Expr} {t u : TI} (h : PI X tg e t) (h' : PI X tg e u) : PI X tg e (fun σ H R => t σ H R ∨ u σ H R) := ⟨fun pins s σ H R I q => q.elim (h.run pins s σ H R I) (h'.run pins s σ H R I)⟩
section
variable {K : PySem.W.Frag} {X : Cx} {pos p : Pos} {tg e : Expr} {te : TE} {me : ME} {ta : TA} {ma : MA}
theorem j_lst {a : Addr} {n : Nat} {H0 : Hp} {μ0 : List Addr} (ea : μ0[n]? = some a) : JOk Φ K (Itl K a) (.obj n) H0 μ0 := by
  intro i H μ h S l
  have ep := l.get ea
  refine ⟨fun d q => ?_, fun q => ?_⟩
  · unfold Src.nxt at q
    simp only at q
    split at q
    · rename_i xs e1
      obtain ⟨vs, b, c⟩ := S.lst e1 ep
      obtain ⟨v, c1, c2⟩ := c.get (Option.some.inj q)
      refine ⟨⟨vs, v, .of b, c1⟩, fun x H' y => ?_⟩
      obtain ⟨rfl, y⟩ := y
      have := y vs (.of b)
      rw [c1] at this
      cases this
      exact ⟨S, Le.refl, c2⟩
    · cases q
  · unfold Src.nxt at q
    simp only at q
    split at q
    · rename_i xs e1
      obtain ⟨vs, b, c⟩ := S.lst e1 ep
      refine ⟨vs, .of b, ?_⟩
      rw [c.len]
      exact List.getElem?_eq_none_iff.mp (Option.some.inj q)
    · cases q
theorem j_frz {a : Addr} {xs : List D} {vs : List V} {H0 : Hp} {μ0 : List Addr} (b : SqF K H0 a vs) (c : Rps K H0 μ0 xs vs) : JOk Φ K (Itl K a) (.fix xs) H0 μ0 := by
  intro i H μ h S l
  have b' := (l.frz _ _ b).l
  have c' := Rps.mono l _ _ c
  refine ⟨fun d q => ?_, fun q => ?_⟩
  · obtain ⟨v, c1, c2⟩ := c'.get (Option.some.inj q)
    refine ⟨⟨vs, v, b', c1⟩, fun x H' y => ?_⟩
    obtain ⟨rfl, y⟩ := y
    have := y vs b'
    rw [c1] at this
    cases this
    exact ⟨S, Le.refl, c2⟩
  · refine ⟨vs, b', ?_⟩
    rw [c'.len]
    exact List.getElem?_eq_none_iff.mp (Option.some.inj q)
theorem j_tup {a : Addr} {xs : List D} {vs : List V} {H0 : Hp} {μ0 : List Addr} (b : SqT K H0 a vs) (c : Rps K H0 μ0 xs vs) : JOk Φ K (Itt K a) (.fix xs) H0 μ0 := by
  intro i H μ h S l
  have b' := l.tup _ _ b
  have c' := Rps.mono l _ _ c
  refine ⟨fun d q => ?_, fun q => ?_⟩
  · obtain ⟨v, c1, c2⟩ := c'.get (Option.some.inj q)
    refine ⟨⟨vs, v, b', c1⟩, fun x H' y => ?_⟩
    obtain ⟨rfl, y⟩ := y
    have := y vs b'
    rw [c1] at this
    cases this
    exact ⟨S, Le.refl, c2⟩
  · refine ⟨vs, b', ?_⟩
    rw [c'.len]
    exact List.getElem?_eq_none_iff.mp (Option.some.inj q)
theorem j_str {s : Str} {H0 : Hp} {μ0 : List Addr} : JOk Φ K (Its s) (.fix (s.cps.toList.map fun c => .str ⟨⟨[c]⟩⟩)) H0 μ0 := by
  intro i H μ h S l
  refine ⟨fun d q => ?_, fun q => ?_⟩
  · have q := Option.some.inj q
    rw [List.getElem?_map] at q
    cases q2 : s.cps.toList[i]? with
    | none => rw [q2] at q; cases q
    | some c =>
      rw [q2] at q
      cases q
      refine ⟨by
        have := (List.getElem?_eq_some_iff.mp q2).1
        show i < s.cps.size
        simpa using this, fun x H' y => ?_⟩
      obtain ⟨rfl, c', y1, rfl⟩ := y
      have : c' = c := by
        rw [← Array.getElem?_toList, q2] at y1
        exact (Option.some.inj y1).symm
      subst this
      exact ⟨S, Le.refl, rp_str⟩
  · have q := List.getElem?_eq_none_iff.mp (Option.some.inj q)
    show s.cps.size ≤ i
    simpa using q
theorem di_seq (a : DE K X e te me) : DI K X tg e (iSeq K te) (seqI me) := ⟨a.k, by
  have hk := a.k
  subst hk
  exact PI.or (pi_list a.p) (PI.or (pi_tup a.p) (pi_str a.p)), by
  intro Φ σ H μ sg h s h' S rs e R k
  unfold seqI at e
  split at e
  · rename_i xs h1 e1
    cases e
    refine .inr (.inl (a.s σ H μ sg h _ _ S rs e1 _ fun v H1 μ1 S1 l1 r1 => ?_))
    obtain ⟨p, vs, rfl, b, c⟩ := rp_tup' r1
    exact ⟨p, rfl, ⟨vs, b⟩, k _ H1 μ1 S1 l1 (j_tup b c)⟩
  · rename_i xs h1 e1
    cases e
    refine .inl (a.s σ H μ sg h _ _ S rs e1 _ fun v H1 μ1 S1 l1 r1 => ?_)
    obtain ⟨p, vs, rfl, b, c⟩ := rp_rol' r1
    exact ⟨p, rfl, ⟨vs, b.l⟩, k _ H1 μ1 S1 l1 (j_frz b c)⟩
  · rename_i n h1 e1
    split at e
    · rename_i xs q
      cases e
      refine .inl (a.s σ H μ sg h _ _ S rs e1 _ fun v H1 μ1 S1 l1 r1 => ?_)
      obtain ⟨p, ep, rfl⟩ := rp_at' r1
      obtain ⟨vs, b, c⟩ := S1.lst q ep
      exact ⟨p, rfl, ⟨vs, .of b⟩, k _ H1 μ1 S1 l1 (j_lst ep)⟩
    · cases e
  · rename_i s h1 e1
    cases e
    refine .inr (.inr (a.s σ H μ sg h _ _ S rs e1 _ fun v H1 μ1 S1 l1 r1 => ?_))
    exact ⟨s, rp_str' r1, k _ H1 μ1 S1 l1 j_str⟩
  · cases e⟩
/-- range(n), range(a, b) -/
def rngD (lo : Int) (n : Nat) : Src := .fix ((List.range n).map fun i => .int (lo + (i : Nat)))
def rngI (a : MA) : MI := fun sg h => match a sg h with
  | some ([.int j], h1) => if -(2 ^ 62) ≤ j ∧ j < 2 ^ 62 then some (rngD 0 j.toNat, h1) else none
  | _ => none
def rng2I (a : MA) : MI := fun sg h => match a sg h with
  | some ([.int i, .int j], h1) => if -(2 ^ 62) ≤ i ∧ i < 2 ^ 62 ∧ -(2 ^ 62) ≤ j ∧ j < 2 ^ 62 then some (rngD i (j - i).toNat, h1) else none
  | _ => none
theorem j_rng {lo : Int} {n : Nat} {H0 : Hp} {μ0 : List Addr} : JOk Φ K (Itr lo n) (rngD lo n) H0 μ0 := by
  intro i H μ h S l
  refine ⟨fun d q => ?_, fun q => ?_⟩
  · have q := Option.some.inj q
    rw [List.getElem?_map] at q
    by_cases hi : i < n
    · rw [List.getElem?_range hi] at q
      cases q
      refine ⟨hi, fun x H' y => ?_⟩
      obtain ⟨rfl, rfl⟩ := y
      exact ⟨S, Le.refl, rp_int⟩
    · rw [List.getElem?_eq_none (by simp; omega)] at q
      cases q
  · have q := List.getElem?_eq_none_iff.mp (Option.some.inj q)
    show n ≤ i
    simpa using q
theorem di_range1 {a : Expr} (ha : DA K X [a] ta ma) (hm : X.mg "range" = none) (hg : Gl X "range" := by rfl) (hs : starEach [a] X.env = [(false, eval a X.env)] := by rfl) : DI K X tg (.Call (.Name "range" p) [a] [] pos) (iRng1 ta) (rngI ma) := ⟨ha.k, pi_range1 hg hm ha.p hs, by
  intro Φ σ H μ sg h s h' S rs e R k
  unfold rngI at e
  split at e
  · rename_i j h1 e1
    split at e
    · rename_i hj
      cases e
      refine ha.s σ H μ sg h _ _ S rs e1 _ fun vs H1 μ1 S1 l1 r1 => ?_
      obtain ⟨v, rfl, r2⟩ := rps1 r1
      rw [rp_int' r2]
      exact ⟨j, rfl, hj.1, hj.2, k _ H1 μ1 S1 l1 j_rng⟩
    · cases e
  · cases e⟩
theorem di_range2 {a b : Expr} (ha : DA K X [a, b] ta ma) (hm : X.mg "range" = none) (hg : Gl X "range" := by rfl) (hs : starEach [a, b] X.env = [(false, eval a X.env), (false, eval b X.env)] := by rfl) (hs2 : starEach [b] X.env = [(false, eval b X.env)] := by rfl) : DI K X tg (.Call (.Name "range" p) [a, b] [] pos) (iRng2 ta) (rng2I ma) := ⟨ha.k, pi_range2 hg hm ha.p hs hs2, by
  intro Φ σ H μ sg h s h' S rs e R k
  unfold rng2I at e
  split at e
  · rename_i i j h1 e1
    split at e
    · rename_i hj
      cases e
      refine ha.s σ H μ sg h _ _ S rs e1 _ fun vs H1 μ1 S1 l1 r1 => ?_
      obtain ⟨v, w, rfl, r2, r3⟩ := rps2 r1
      rw [rp_int' r2, rp_int' r3]
      exact ⟨i, j, rfl, hj, k _ H1 μ1 S1 l1 j_rng⟩
    · cases e
  · cases e⟩
/-- enumerate(a list) -/
def enuI (a : MA) : MI := fun sg h => match a sg h with
  | some ([.at n], h1) => match h1[n]? with
    | some (.lst _) => some (.enu [] (some n), h1)
    | _ => none
  | some ([.rol xs], h1) => some (.enu xs none, h1)
  | _ => none
theorem j_enuL {a : Addr} {n : Nat} {H0 : Hp} {μ0 : List Addr} (ea : μ0[n]? = some a) : JOk Φ K (Ite K a) (.enu [] (some n)) H0 μ0 := by
  intro i H μ h S l
  have ep := l.get ea
  refine ⟨fun d q => ?_, fun q => ?_⟩
  · unfold Src.nxt at q
    simp only at q
    split at q
    · rename_i xs e1
      obtain ⟨vs, b, c⟩ := S.lst e1 ep
      cases q2 : xs[i]? with
      | none => rw [q2] at q; cases q
      | some d' =>
        rw [q2] at q
        cases q
        obtain ⟨v, c1, c2⟩ := c.get q2
        refine ⟨⟨vs, v, .of b, c1⟩, fun x H' y => ?_⟩
        obtain ⟨T, x', rfl, hT, rfl, y⟩ := y
        have := y vs (.of b)
        rw [c1] at this
        cases this
        have l4 : Le K H μ (upd H T (.tup [.int (i : Nat), v])) μ := le_new hT
        exact ⟨S.new hT, l4, rp_tup (SqT.of upd_same) (Rps.cons rp_int (Rps.cons (Rp.mono l4 _ _ c2) Rps.nil))⟩
    · cases q
  · unfold Src.nxt at q
    simp only at q
    split at q
    · rename_i xs e1
      obtain ⟨vs, b, c⟩ := S.lst e1 ep
      refine ⟨vs, .of b, ?_⟩
      rw [c.len]
      have := Option.some.inj q
      simpa using this
    · cases q
theorem j_enuF {a : Addr} {xs : List D} {vs : List V} {H0 : Hp} {μ0 : List Addr} (b : SqF K H0 a vs) (c : Rps K H0 μ0 xs vs) : JOk Φ K (Ite K a) (.enu xs none) H0 μ0 := by
  intro i H μ h S l
  have b' := (l.frz _ _ b).l
  have c' := Rps.mono l _ _ c
  refine ⟨fun d q => ?_, fun q => ?_⟩
  · have q := Option.some.inj q
    cases q2 : xs[i]? with
    | none => rw [q2] at q; cases q
    | some d' =>
      rw [q2] at q
      cases q
      obtain ⟨v, c1, c2⟩ := c'.get q2
      refine ⟨⟨vs, v, b', c1⟩, fun x H' y => ?_⟩
      obtain ⟨T, x', rfl, hT, rfl, y⟩ := y
      have := y vs b'
      rw [c1] at this
      cases this
      have l4 : Le K H μ (upd H T (.tup [.int (i : Nat), v])) μ := le_new hT
      exact ⟨S.new hT, l4, rp_tup (SqT.of upd_same) (Rps.cons rp_int (Rps.cons (Rp.mono l4 _ _ c2) Rps.nil))⟩
  · refine ⟨vs, b', ?_⟩
    rw [c'.len]
    have := Option.some.inj q
    simpa using this
theorem di_enum {elts : List Expr} {kk : Nat} {tpos : Pos} (ha : DA K X [e] ta ma) (hm : X.mg "enumerate" = none) (hg : Gl X "enumerate" := by rfl) (hs : starEach [e] X.env = [(false, eval e X.env)] := by rfl) :
    DI K X (.Tuple elts kk tpos) (.Call (.Name "enumerate" p) [e] [] pos) (iEnum K ta) (enuI ma) := ⟨ha.k, by
  have hk := ha.k
  subst hk
  exact pi_enum hg hm ha.p hs, by
  intro Φ σ H μ sg h s h' S rs e R k
  unfold enuI at e
  split at e
  · rename_i n h1 e1
    split at e
    · rename_i xs q
      cases e
      refine ha.s σ H μ sg h _ _ S rs e1 _ fun vs H1 μ1 S1 l1 r1 => ?_
      obtain ⟨v, rfl, r2⟩ := rps1 r1
      obtain ⟨p, ep, rfl⟩ := rp_at' r2
      obtain ⟨ws, b, c⟩ := S1.lst q ep
      exact ⟨p, ws, rfl, .of b, k _ H1 μ1 S1 l1 (j_enuL ep)⟩
    · cases e
  · rename_i xs h1 e1
    cases e
    refine ha.s σ H μ sg h _ _ S rs e1 _ fun vs H1 μ1 S1 l1 r1 => ?_
    obtain ⟨v, rfl, r2⟩ := rps1 r1
    obtain ⟨p, ws, rfl, b, c⟩ := rp_rol' r2
    exact ⟨p, ws, rfl, b.l, k _ H1 μ1 S1 l1 (j_enuF b c)⟩
  · cases e⟩
end

/-! ### for -/
def forM (s : Src) (g : MG) (b : MS) : Nat → Nat → MS
  | 0, _ => fun _ _ => none
  | k + 1, i => fun sg h => match s.nxt h i with
    | some (some d) => match g d sg h with
      | some (sg1, h1) => match b sg1 h1 with
        | some (.nx sg2, h2) => forM s g b k (i + 1) sg2 h2
        | some (.ct sg2, h2) => forM s g b k (i + 1) sg2 h2
        | some (.bk sg2, h2) => some (.nx sg2, h2)
        | some (.rt d, h2) => some (.rt d, h2)
        | none => none
      | none => none
    | some none => some (.nx sg, h)
    | none => none
def forSM (it : MI) (g : MG) (b : MS) (N : Nat) : MS := fun sg h => match it sg h with
  | some (s, h1) => forM s g b N 0 sg h1
  | none => none
section
variable {K : PySem.W.Frag} {X : Cx} {pos : Pos} {tg it : Expr} {ti : TI} {mi : MI} {gt : TG} {mg : MG} {body : List Stmt} {tb : TS} {mb : MS}
theorem ss_for (N : Nat) (hi : SI K ti mi) (hg : SG K gt mg) (hb : SS K tb mb) : SS K (tFor ti gt tb) (forSM mi mg mb N) := by
  intro Φ σ H μ sg h f h' S rs e E k
  unfold forSM at e
  split at e
  · rename_i s h0 e0
    refine hi σ H μ sg h s h0 S rs e0 _ fun J H0 μ0 S0 l0 hJ => ?_
    refine ⟨fun i m σ1 H1 => ∃ μ1 sg1 h1, Sm Φ K H1 μ1 h1 ∧ Le K H0 μ0 H1 μ1 ∧ Rs K H1 μ1 sg1 σ1 ∧ forM s mg mb m i sg1 h1 = some (f, h'), ⟨N, μ0, sg, h0, S0, Le.refl, rs.mono l0, e⟩, ?_⟩
    rintro i m σ1 H1 ⟨μ1, sg1, h1, S1, l1, rs1, e1⟩
    cases m with
    | zero => cases e1
    | succ m =>
      unfold forM at e1
      obtain ⟨j1, j2⟩ := hJ i H1 μ1 h1 S1 l1
      split at e1
      · rename_i d q
        obtain ⟨go, yld⟩ := j1 d q
        refine .inr ⟨go, fun σ3 H3 => ∃ μ3 sg3 h3, Sm Φ K H3 μ3 h3 ∧ Le K H0 μ0 H3 μ3 ∧ Rs K H3 μ3 sg3 σ3 ∧ forM s mg mb m (i + 1) sg3 h3 = some (f, h'), fun σ3 H3 q => ⟨m, Nat.lt_succ_self _, q⟩, fun x H2 y => ?_⟩
        obtain ⟨S2, l2, r2⟩ := yld x H2 y
        split at e1
        · rename_i sg3 h3 e3
          refine hg σ1 H2 μ1 sg1 h1 d x sg3 h3 S2 (rs1.mono l2) r2 e3 _ fun σ3 H3 μ3 S3 l3 rs3 => ?_
          split at e1
          · rename_i sg4 h4 e4
            exact hb σ3 H3 μ3 sg3 h3 _ h4 S3 rs3 e4 _ fun σ4 H4 μ4 S4 l4 rs4 => ⟨μ4, sg4, h4, S4, ((l1.trans l2).trans l3).trans l4, rs4, e1⟩
          · rename_i sg4 h4 e4
            exact hb σ3 H3 μ3 sg3 h3 _ h4 S3 rs3 e4 _ fun σ4 H4 μ4 S4 l4 rs4 => ⟨μ4, sg4, h4, S4, ((l1.trans l2).trans l3).trans l4, rs4, e1⟩
          · rename_i sg4 h4 e4
            cases e1
            exact hb σ3 H3 μ3 sg3 h3 _ _ S3 rs3 e4 _ fun σ4 H4 μ4 S4 l4 rs4 => k σ4 H4 μ4 S4 ((((l0.trans l1).trans l2).trans l3).trans l4) rs4
          · rename_i d4 h4 e4
            cases e1
            exact hb σ3 H3 μ3 sg3 h3 _ _ S3 rs3 e4 _ fun v H4 μ4 S4 l4 r4 => k v H4 μ4 S4 ((((l0.trans l1).trans l2).trans l3).trans l4) r4
          · cases e1
        · cases e1
      · rename_i q
        cases e1
        exact .inl ⟨j2 q, k σ1 H1 μ1 S1 (l0.trans l1) rs1⟩
      · cases e1
  · cases e
theorem ds_for (N : Nat) (hp : PassesOwn (model X.prog X.w) X.A X.env X.xe) (hi : DI K X tg it ti mi) (hg : DG K X tg gt mg) (hb : DSs K X body tb mb) (hs : ∀ x, foldedSetIterable it X.env x = pure x := by intro _; rfl) (hc : X.calm = true := by rfl) :
    DS K X (.For tg it body [] pos) (tFor ti gt tb) (forSM mi mg mb N) := ⟨hi.k, ps_for hp hc hi.p hg.p hb.p hs, ss_for N hi.s hg.s hb.s⟩

end

/-! ### [e for x in xs if c] -/
def lcM' (s : Src) (g : MG) (c : MT) (a : ME) (D0 : Nat) (sg0 : Sg) : Nat → Nat → Hd → Option Hd
  | 0, _ => fun _ => none
  | k + 1, i => fun h => match s.nxt h i with
    | some (some d) => match g d sg0 h with
      | some (sg1, h1) => match c sg1 h1 with
        | some (true, h2) => match a sg1 h2 with
          | some (y, h3) => match h3[D0]? with
            | some (.lst acc) => if acc.length < LN then lcM' s g c a D0 sg0 k (i + 1) (h3.set D0 (.lst (acc ++ [y]))) else none
            | _ => none
          | none => none
        | some (false, h2) => lcM' s g c a D0 sg0 k (i + 1) h2
        | none => none
      | none => none
    | some none => some h
    | none => none
def lcM (it : MI) (g : MG) (c : MT) (a : ME) (vs : List Nat) (N : Nat) : ME := fun sg h => match it sg h with
  | some (s, h1) => match lcM' s g c a h1.length (wipeD sg vs) N 0 (h1 ++ [.lst []]) with
    | some h2 => some (.at h1.length, h2)
    | none => none
  | none => none
def yesM : MT := fun _ h => some (true, h)
structure DTs (K : PySem.W.Frag) (X : Cx) (ifs : List Expr) (t : TT) (m : MT) : Prop where
  k : X.K = K
  p : PTs X ifs t
  s : ST K t m
section
variable {K : PySem.W.Frag} {X : Cx} {pos : Pos} {tg it elt : Expr} {ifs : List Expr} {ti : TI} {mi : MI} {gt : TG} {mg : MG} {tt : TT} {mt : MT} {te : TE} {me : ME} {scope : Scope} {own : List (Str × Nat)}
theorem dts_nil (hK : X.K = K := by rfl) : DTs K X [] tYes yesM := ⟨hK, pts_nil, fun {Φ} σ H μ sg h b h' S rs e Q k => by cases e; exact k H μ S Le.refl⟩
theorem dts_one {c : Expr} {t : TT} {m : MT} (a : DT K X c t m) : DTs K X [c] t m := ⟨a.k, pts_one a.p, a.s⟩
theorem de_lc (N : Nat) (hN : X.N.Nodup) (hi : DI K X tg it ti mi) (ok : BlkOk X.N X.env.scope scope own) (ho : Only (own.map (·.2)) gt)
    (hg : ∀ (s : Shared) (H : Hp) (C : Addr) (cl : List (Str × Addr)) (fp : List Addr), DG K (X.blk s H scope (compEnvC scope cl C X.env) fp) tg gt mg)
    (ht : ∀ (s : Shared) (H : Hp) (C : Addr) (cl : List (Str × Addr)) (fp : List Addr), DTs K (X.blk s H scope (compEnvC scope cl C X.env) fp) ifs tt mt)
    (he : ∀ (s : Shared) (H : Hp) (C : Addr) (cl : List (Str × Addr)) (fp : List Addr), DE K (X.blk s H scope (compEnvC scope cl C X.env) fp) elt te me) (hs : ∀ x, foldedSetIterable it X.env x = pure x := by intro _; rfl) (hc : X.calm = true := by rfl) :
    DE K X (.ListComp elt [⟨tg, it, ifs, 0⟩] scope pos) (tLc ti gt tt te (own.map (·.2))) (lcM mi mg mt me (own.map (·.2)) N) := ⟨hi.k, pe_lc hc hN hi.p ok (fun s H C cl fp => (hg s H C cl fp).p) (fun s H C cl fp => (ht s H C cl fp).p) (fun s H C cl fp => (he s H C cl fp).p) hs, by
  have sg_ : SG K gt mg := (hg X.s_0 X.H_0 0 [] []).s
  have st_ : ST K tt mt := (ht X.s_0 X.H_0 0 [] []).s
  have se_ : SE K te me := (he X.s_0 X.H_0 0 [] []).s
  intro Φ σ H μ sg h d h' S rs e Q k
  unfold lcM at e
  split at e
  · rename_i s h0 e0
    split at e
    · rename_i h9 e9
      cases e
      refine hi.s σ H μ sg h s h0 S rs e0 _ fun J H0 μ0 S0 l0 hJ => fun D hD => ?_
      have lD : Le K H0 μ0 (upd H0 D (.lst [])) (μ0 ++ [D]) := le_obj hD
      have SD : Sm Φ K (upd H0 D (.lst [])) (μ0 ++ [D]) (h0 ++ [.lst []]) := S0.obj hD ⟨[], upd_same, Rps.nil⟩
      have eD : (μ0 ++ [D])[h0.length]? = some D := obj_at S0 rfl
      refine ⟨fun i m H1 => ∃ μ1 h1, Sm Φ K H1 μ1 h1 ∧ Le K (upd H0 D (.lst [])) (μ0 ++ [D]) H1 μ1 ∧ lcM' s mg mt me h0.length (wipeD sg (own.map (·.2))) m i h1 = some h', ⟨N, μ0 ++ [D], _, SD, Le.refl, e9⟩, ?_⟩
      rintro i m H1 ⟨μ1, h1, S1, l1, e1⟩
      cases m with
      | zero => cases e1
      | succ m =>
        unfold lcM' at e1
        obtain ⟨j1, j2⟩ := hJ i H1 μ1 h1 S1 (lD.trans l1)
        have w0 : Rs K H1 μ1 (wipeD sg (own.map (·.2))) (wipe σ (own.map (·.2))) := (rs.mono ((l0.trans lD).trans l1)).wipe _
        split at e1
        · rename_i d q
          obtain ⟨go, yld⟩ := j1 d q
          refine .inr ⟨go, fun H3 => ∃ μ3 h3, Sm Φ K H3 μ3 h3 ∧ Le K (upd H0 D (.lst [])) (μ0 ++ [D]) H3 μ3 ∧ lcM' s mg mt me h0.length (wipeD sg (own.map (·.2))) m (i + 1) h3 = some h', fun H3 q => ⟨m, Nat.lt_succ_self _, q⟩, fun x H2 y => ?_⟩
          obtain ⟨S2, l2, r2⟩ := yld x H2 y
          split at e1
          · rename_i sg3 h3 e3
            rw [← wipe_idem σ (own.map (·.2))]
            have w1 : Rs K H2 μ1 (wipeD sg (own.map (·.2))) (wipe (wipe σ (own.map (·.2))) (own.map (·.2))) := by rw [wipe_idem]; exact w0.mono l2
            have q3 := ho x (wipe (wipe σ (own.map (·.2))) (own.map (·.2))) H2 (fun σ2 H2 => tt σ2 H2 fun b H3 => if b = true then te σ2 H3 fun y H4 => ∃ acc, H4 D = some (.lst acc) ∧ acc.length < sizeLine ∧ (fun H3 => ∃ μ3 h3, Sm Φ K H3 μ3 h3 ∧ Le K (upd H0 D (.lst [])) (μ0 ++ [D]) H3 μ3 ∧ lcM' s mg mt me h0.length (wipeD sg (own.map (·.2))) m (i + 1) h3 = some h') (upd H4 D (.lst (acc ++ [y]))) else (fun H3 => ∃ μ3 h3, Sm Φ K H3 μ3 h3 ∧ Le K (upd H0 D (.lst [])) (μ0 ++ [D]) H3 μ3 ∧ lcM' s mg mt me h0.length (wipeD sg (own.map (·.2))) m (i + 1) h3 = some h') H3)
              (sg_ _ H2 μ1 _ h1 d x sg3 h3 S2 w1 r2 e3 _ fun σ3 H3 μ3 S3 l3 rs3 => ?_)
            · rw [wipe_idem] at q3 ⊢
              rw [wipe_idem] at q3
              exact q3
            split at e1
            · rename_i h4 e4
              refine st_ σ3 H3 μ3 sg3 h3 _ h4 S3 rs3 e4 _ fun H4 μ4 S4 l4 => iteT ?_
              split at e1
              · rename_i y h5 e5
                refine se_ σ3 H4 μ4 sg3 h4 y h5 S4 (rs3.mono l4) e5 _ fun v H5 μ5 S5 l5 r5 => ?_
                split at e1
                · rename_i acc q5
                  split at e1
                  · rename_i hz
                    have lA := (((l1.trans l2).trans l3).trans l4).trans l5
                    have ep := lA.get eD
                    obtain ⟨ws, b, c⟩ := S5.lst q5 ep
                    have lB : Le K H5 μ5 (upd H5 D (.lst (ws ++ [v]))) μ5 := le_set S5 ep
                    have SB : Sm Φ K (upd H5 D (.lst (ws ++ [v]))) μ5 (h5.set h0.length (.lst (acc ++ [y]))) := S5.set ep ⟨_, upd_same, Rps.mono lB _ _ (c.app (Rps.cons r5 Rps.nil))⟩
                    exact ⟨ws, b, by rw [c.len]; exact ln_lt hz, μ5, _, SB, lA.trans lB, e1⟩
                  · cases e1
                · cases e1
              · cases e1
            · rename_i h4 e4
              refine st_ σ3 H3 μ3 sg3 h3 _ h4 S3 rs3 e4 _ fun H4 μ4 S4 l4 => iteF ?_
              exact ⟨μ4, h4, S4, ((l1.trans l2).trans l3).trans l4, e1⟩
            · cases e1
          · cases e1
        · rename_i q
          cases e1
          refine .inl ⟨j2 q, k _ H1 μ1 S1 ((l0.trans lD).trans l1) (rp_at (l1.get eD))⟩
        · cases e1
    · cases e
  · cases e⟩
end
end DL

/-! DM7: defs and their calls, with what they raise; slices backwards; the end. -/
namespace DL
open PySem L2 PySem.Spec PyProof.Rows

/-! ### room, and no repr that runs -/
structure RoomG (k : Nat) (A : Around) : Prop where
  r : Room k A
  g : A.guards = some []
theorem RoomG.mono {j k : Nat} {A : Around} (r : RoomG k A) (h : j ≤ k) : RoomG j A := ⟨r.r.mono h, r.g⟩
theorem hu1 {A : Around} {k : Nat} (hr : RoomG k A) : A.units + 1 < cLine := hu_of hr.r
theorem hu64 {A : Around} {k : Nat} (hr : RoomG k A) : A.units + 64 < cLine := by have := hr.r.un; omega

/-! ### a def's promise, given no repr that runs -/
structure FnG (P : Program) (w : World) (K : PySem.W.Frag) (mg : Str → Option Value) (base : Heap) (CX : CXT) (k : Nat) (f : Addr) (fd : FuncData) (ps : List Str) (sp : Sp) : Prop where
  len : ∀ vs H Q E, sp vs H Q E → vs.length = ps.length
  run : ∀ (A : Around) (outer : List Env) (s : Shared) (H : Hp) (args : Args) (us : List Value) (vs : List V) (Q : VK) (E : XK), RoomG k A → Env0 P w K mg base A outer s H → BindsTo s fd args (ps.zip us) → Vals vs us → sp vs H Q E →
    codeAny (model P w) A (.call (.ref f) args) (CR CX outer P w H s Q E) s
theorem FnG.mono {P : Program} {w : World} {K : PySem.W.Frag} {mg : Str → Option Value} {base : Heap} {CX : CXT} {j k : Nat} {f : Addr} {fd : FuncData} {ps : List Str} {sp : Sp} (F : FnG P w K mg base CX j f fd ps sp) (h : j ≤ k) :
    FnG P w K mg base CX k f fd ps sp := ⟨F.len, fun A outer s H args us vs Q E hr => F.run A outer s H args us vs Q E (hr.mono h)⟩
theorem fng_of {CX : CXT} {P : Program} {w : World} {K : PySem.W.Frag} {mg : Str → Option Value} {base : Heap} {k : Nat} {f : Addr} {name qual : Str} {params : Arguments} {body : List Stmt} {scope : Scope} {dV kV doc pm cdv ct oc : Value} {an od : Option Addr}
    {osl : Array (Option Value)} {N ps : List Str} {sp : Sp} (lk : K.lookup f = some ⟨oc, od, .func (PySem.W.fnOf name qual params body scope dV kV doc pm an cdv ct), osl⟩) (hcd : PySem.W.codeIn K cdv qual = true) (S : FnScope N ps scope)
    (len : ∀ vs H Q E, sp vs H Q E → vs.length = ps.length)
    (hbody : ∀ (A : Around) (outer : List Env) (s : Shared) (H : Hp) (vs : List V) (Q : VK) (E : XK), RoomG k (A.deeper (envOfC qual scope s.heap.objs.size f cdv)) → sp vs H Q E →
      ∃ t, PSs (cxOf CX P w K mg base N qual scope f cdv A outer s H E) body t ∧ t { nx := fun _ H' => Q .non H', rt := Q } (start N vs) H) :
    FnG P w K mg base CX (k + 1) f (PySem.W.fnOf name qual params body scope dV kV doc pm an cdv ct) ps sp := by
  refine ⟨len, fun A outer s H args us vs Q E hr e0 hb r hsp => ?_⟩
  have hl := len _ _ _ _ hsp
  have KX : K.In s.heap := e0.mod.kin.keeps fun b o e => (e0.bs b o e).1
  have lim : s.heap.NoLimit := e0.mod.nolimit.keeps fun b o e => (e0.bs b o e).1
  have hkind : ∀ y ∈ ps.zip us, scope.names.lookup y.1 = some .local ∨ (scope.names.lookup y.1 = some .cell ∧ ((cellsFrom (s.heap.objs.size + 1) scope.names []).lookup y.1).isSome = true) := fun ⟨n, v⟩ hy => by
    rcases S.par n (List.of_mem_zip hy).1 with q | q
    · exact .inl q
    · exact .inr ⟨q, PySem.W.cellsFrom_some _ _ _ (.inl q)⟩
  refine codeAny_call_function hr.r.depth (KX _ _ lk) rfl S.co S.gen rfl (PySem.W.codeRec_of KX hcd) (hb _ _ _ _ ?_)
  refine wpAny_newFunctionEnv_cells S.kind hkind fun env he s1 x => ?_
  subst he
  refine ⟨lim.keeps x.toInCall.keep, codeAny_func ?_⟩
  obtain ⟨t, ht, hq⟩ := hbody A outer s H vs Q E ⟨hr.r.deeper _, hr.g⟩ hsp
  have I : Inv (cxOf CX P w K mg base N qual scope f cdv A outer s H E) [] (start N vs) H s1 := inv_start S hr.r.hd e0 hl r x
  refine wpAny_mono (ht.run [] s1 (start N vs) H _ I hq) (fun fl s' hs => ?_) fun e s' hs => hs
  have fin : ∀ {σ' : L2.St} {H' : Hp} {v : V} {u : Value}, Inv (cxOf CX P w K mg base N qual scope f cdv A outer s H E) [] σ' H' s' → RelV v u → Q v H' → CE outer P w H s Q u s' :=
    fun {σ' H' v u} J rv q => ⟨v, H', J.os, J.bare, J.base, J.hok, rv, q⟩
  cases fl with
  | ret u =>
    obtain ⟨v, σ', H', J, rv, q⟩ := hs
    exact fin J rv q
  | next =>
    obtain ⟨σ', H', J, q⟩ := hs
    exact fin (v := V.non) (u := Value.none) J rfl q
  | brk =>
    obtain ⟨_, _, _, q⟩ := hs
    exact False.elim q
  | cont =>
    obtain ⟨_, _, _, q⟩ := hs
    exact False.elim q
section
variable {X : Cx} {CX : CXT} {k : Nat} {f : Addr} {fd : FuncData} {ps : List Str} {sp : Sp} {dvs : List V} {ds : List Value} {E : L2.St → XK} {x : Str} {p pos : Pos} {e : Expr} {es : List Expr} {t : TA}
theorem run_fnG {pins : List (Addr × Obj)} {σ : L2.St} {H : Hp} {s : Shared} {Q : VK} {us : List Value} {vs : List V} (F : FnG X.prog X.w X.K X.mg X.base CX k f fd ps sp) (hr : RoomG k X.A) (hb : Binds X.K fd ps ds) (hd : Vals dvs ds) (hx : PassesAt CX X σ (E σ))
    (I : Inv X pins σ H s) (r : Vals vs us) (h : sp (vs ++ dvs) H Q (E σ)) : wpAny (model X.prog X.w) X.A (call (.ref f) us) (EP X pins σ Q) X.xe s := by
  have r2 : Vals (vs ++ dvs) (us ++ ds) := r.append hd
  have hl : (us ++ ds).length = ps.length := by rw [← r2.length]; exact F.len _ _ _ _ h
  refine wpAny_call (codeAny_mono (F.run X.A X.stack s H ⟨us, []⟩ (us ++ ds) (vs ++ dvs) Q (E σ) hr I.env0 (hb s us I.kIn hl) r2 h) fun r s' hq => ?_)
  cases r with
  | error e => exact hx pins H s e s' I hq
  | ok fl =>
    cases fl with
    | ret u => exact I.after hq
    | next => exact False.elim hq
    | brk => exact False.elim hq
    | cont => exact False.elim hq
theorem pe_callG (F : FnG X.prog X.w X.K X.mg X.base CX k f fd ps sp) (hr : RoomG k X.A) (hg : Gl X x) (hm : X.mg x = some (.ref f)) (hk : PySem.W.keepIn X.K (.ref f) = true) (hb : Binds X.K fd ps ds) (hd : Vals dvs ds) (hx : ∀ σ, PassesAt CX X σ (E σ))
    (ha : PA X (e :: es) t) (hdb : (x == ("__debug__" : Str)) = false := by decide) (he : starEach (e :: es) X.env = (false, eval e X.env) :: starEach es X.env := by rfl) (hpl : (backTo pos (starEach es X.env)).any (·.1) = false := by rfl) :
    PE X (.Call (.Name x p) (e :: es) [] pos) (tCallSD sp dvs E t) := by
  refine ⟨fun pins s σ H Q I h => ?_⟩
  refine wpAny_Call_Name_kw (ld_glob I hg hm ?_ hdb)
  refine PySem.W.callWith_K (h₀ := X.base) I.ok.mod.kin hk (thn (ha.run pos pins s σ H _ I h) fun us s1 ⟨vs, H1, I1, r, q⟩ => ⟨I1.kIn, ?_⟩) he hpl
  exact run_fnG F hr hb hd (hx σ) I1 r q
theorem pe_callG0 (F : FnG X.prog X.w X.K X.mg X.base CX k f fd ps sp) (hr : RoomG k X.A) (hg : Gl X x) (hm : X.mg x = some (.ref f)) (hk : PySem.W.keepIn X.K (.ref f) = true) (hb : Binds X.K fd ps ds) (hd : Vals dvs ds) (hx : ∀ σ, PassesAt CX X σ (E σ))
    (hdb : (x == ("__debug__" : Str)) = false := by decide) : PE X (.Call (.Name x p) [] [] pos) (tCallSD sp dvs E tNil) := by
  refine ⟨fun pins s σ H Q I h => ?_⟩
  refine wpAny_Call_Name_kw (ld_glob I hg hm ?_ hdb)
  exact PySem.W.callWith_K0 I.kIn hk (run_fnG (us := []) F hr hb hd (hx σ) I .nil h)
theorem passE0 (σ : L2.St) : PassesAt (L2.CX X.prog X.w) X σ ((fun _ => E0) σ) := fun pins H s e s' I h => passL pins σ H s e s' I h
end

/-! ### what is raised -/
structure Xn where
  cls : Str
  fs : List (Str × D)
abbrev GX := List D → Hd → Option (Xn × Hd)
abbrev MX := Sg → Hd → Option (Xn × Sg × Hd)
def noX : MX := fun _ _ => none
def noGX : GX := fun _ _ => none
/-- the exception x is borne by the class cls and the dict d -/
def RX (K : PySem.W.Frag) (mg : Str → Option Value) (H : Hp) (μ : List Addr) (x : Xn) (cls : Value) (d : Option Addr) : Prop :=
  ∃ (C dx : Addr) (vs : List V), mg x.cls = some (.ref C) ∧ cls = .ref C ∧ d = some dx ∧ H dx = some (.xd ((x.fs.map (·.1)).zip vs)) ∧ Rps K H μ (x.fs.map (·.2)) vs
theorem RX.mono {K : PySem.W.Frag} {mg : Str → Option Value} {H H' : Hp} {μ μ' : List Addr} {x : Xn} {cls : Value} {d : Option Addr} (l : Le K H μ H' μ') (r : RX K mg H μ x cls d) : RX K mg H' μ' x cls d := by
  obtain ⟨C, dx, vs, h1, h2, h3, h4, h5⟩ := r
  exact ⟨C, dx, vs, h1, h2, h3, l.xdt _ _ h4, Rps.mono l _ _ h5⟩
def Wk (Φ : Hp) (K : PySem.W.Frag) (mg : Str → Option Value) (H : Hp) (μ : List Addr) (h' : Hd) (sg' : Sg) (x : Xn) (W : WX) : Prop :=
  ∀ (σ' : L2.St) (H' : Hp) (μ' : List Addr) (cls : Value) (d : Option Addr), Sm Φ K H' μ' h' → Le K H μ H' μ' → Rs K H' μ' sg' σ' → RX K mg H' μ' x cls d → W cls d σ' H'
theorem Wk.le {Φ : Hp} {K : PySem.W.Frag} {mg : Str → Option Value} {H H1 : Hp} {μ μ1 : List Addr} {h' : Hd} {sg' : Sg} {x : Xn} {W : WX} (l : Le K H μ H1 μ1) (k : Wk Φ K mg H μ h' sg' x W) : Wk Φ K mg H1 μ1 h' sg' x W :=
  fun σ' H' μ' cls d S l' rs r => k σ' H' μ' cls d S (l.trans l') rs r
def XEx (K : PySem.W.Frag) (mg : Str → Option Value) (W : WX) (t : TE) (x : MX) : Prop := ∀ {Φ : Hp} (σ : L2.St) (H : Hp) (μ : List Addr) (sg : Sg) (h : Hd) (xn : Xn) (sg' : Sg) (h' : Hd), Sm Φ K H μ h → Rs K H μ sg σ → x sg h = some (xn, sg', h') → Wk Φ K mg H μ h' sg' xn W → ∀ Q : VK, t σ H Q
def XSt (K : PySem.W.Frag) (mg : Str → Option Value) (W : WX) (t : TS) (x : MX) : Prop := ∀ {Φ : Hp} (σ : L2.St) (H : Hp) (μ : List Addr) (sg : Sg) (h : Hd) (xn : Xn) (sg' : Sg) (h' : Hd), Sm Φ K H μ h → Rs K H μ sg σ → x sg h = some (xn, sg', h') → Wk Φ K mg H μ h' sg' xn W → ∀ E : Ends, t E σ H
structure DEX (K : PySem.W.Frag) (mg : Str → Option Value) (X : Cx) (W : WX) (e : Expr) (t : TE) (m : ME) (x : MX) : Prop where
  k : X.K = K
  p : Takes X W → PE X e t
  s : SE K t m
  x : XEx K mg W t x
structure DSX (K : PySem.W.Frag) (mg : Str → Option Value) (X : Cx) (W : WX) (st : Stmt) (t : TS) (m : MS) (x : MX) : Prop where
  k : X.K = K
  p : Takes X W → PassesOwn (model X.prog X.w) X.A X.env X.xe → PS X st t
  s : SS K t m
  x : XSt K mg W t x
structure DSsX (K : PySem.W.Frag) (mg : Str → Option Value) (X : Cx) (W : WX) (st : List Stmt) (t : TS) (m : MS) (x : MX) : Prop where
  k : X.K = K
  p : Takes X W → PassesOwn (model X.prog X.w) X.A X.env X.xe → PSs X st t
  s : SS K t m
  x : XSt K mg W t x
theorem xst_no {K : PySem.W.Frag} {mg : Str → Option Value} {W : WX} {t : TS} : XSt K mg W t noX := by
  intro Φ σ H μ sg h xn sg' h' S rs e
  cases e
theorem DSs.x {K : PySem.W.Frag} {mg : Str → Option Value} {X : Cx} {W : WX} {st : List Stmt} {t : TS} {m : MS} (d : DSs K X st t m) : DSsX K mg X W st t m noX := ⟨d.k, fun _ _ => d.p, d.s, xst_no⟩
theorem DS.x {K : PySem.W.Frag} {mg : Str → Option Value} {X : Cx} {W : WX} {st : Stmt} {t : TS} {m : MS} (d : DS K X st t m) : DSX K mg X W st t m noX := ⟨d.k, fun _ _ => d.p, d.s, xst_no⟩

/-! ### what a def keeps -/
def spX (K : PySem.W.Frag) (mg : Str → Option Value) (n : Nat) (m : GC) (x : GX) : Sp := fun vs H Q E => ∃ (Φ : Hp) (μ : List Addr) (ds : List D) (h : Hd), Sm Φ K H μ h ∧ Rps K H μ ds vs ∧ ds.length = n ∧
  ((∃ (d : D) (h' : Hd), m ds h = some (d, h') ∧ Kn Φ K H μ h' d Q) ∨
    ∃ (xn : Xn) (h' : Hd), x ds h = some (xn, h') ∧ ∀ (H' : Hp) (μ' : List Addr) (cls : Value) (d : Option Addr), Sm Φ K H' μ' h' → Le K H μ H' μ' → RX K mg H' μ' xn cls d → E cls d H')
def startD (n : Nat) (ds : List D) : Sg := ds.map some ++ List.replicate (n - ds.length) none
def bodyM (n : Nat) (ms : MS) : GC := fun ds h => match ms (startD n ds) h with
  | some (.nx _, h') => some (.non, h')
  | some (.rt d, h') => some (d, h')
  | _ => none
def bodyX (n : Nat) (x : MX) : GX := fun ds h => match x (startD n ds) h with
  | some (xn, _, h') => some (xn, h')
  | none => none
theorem rs_start {K : PySem.W.Frag} {H : Hp} {μ : List Addr} {N : List Str} {ds : List D} {vs : List V} (r : Rps K H μ ds vs) : Rs K H μ (startD N.length ds) (L2.start N vs) := by
  unfold startD L2.start
  rw [r.len]
  refine ⟨by simp [r.len], fun i d e => ?_⟩
  rw [List.getElem?_append] at e ⊢
  rw [List.length_map] at e
  rw [List.length_map, r.len]
  split at e
  · rename_i hi
    rw [if_pos hi]
    rw [List.getElem?_map] at e ⊢
    cases q : ds[i]? with
    | none => rw [q] at e; cases e
    | some d' =>
      rw [q] at e
      cases e
      obtain ⟨v, a, b⟩ := r.get q
      exact ⟨v, by rw [a]; rfl, b⟩
  · rename_i hi
    rw [List.getElem?_replicate] at e
    split at e <;> cases e
section
variable {P : Program} {w : World} {K : PySem.W.Frag} {mg : Str → Option Value} {base : Heap}
theorem body_ok {N : List Str} {X : Cx} {body : List Stmt} {t : TS} {ms : MS} {xs : MX} {vs : List V} {H : Hp} {Q : VK} {E : XK} {n : Nat} (d : DSsX K mg X (fun cls d _ H => E cls d H) body t ms xs)
    (h : spX K mg n (bodyM N.length ms) (bodyX N.length xs) vs H Q E) : t { nx := fun _ H' => Q .non H', rt := Q } (L2.start N vs) H := by
  obtain ⟨Φ, μ, ds, h0, S, r, _, ⟨dd, h', e, k⟩ | ⟨xn, h', e, k⟩⟩ := h
  · unfold bodyM at e
    split at e
    · rename_i sg' h1 e1
      cases e
      exact d.s _ H μ _ h0 _ _ S (rs_start r) e1 _ fun σ' H' μ' S' l' r' => k .non H' μ' S' l' rp_non
    · rename_i d1 h1 e1
      cases e
      exact d.s _ H μ _ h0 _ _ S (rs_start r) e1 _ k
    · cases e
  · unfold bodyX at e
    split at e
    · rename_i xn1 sg1 h1 e1
      cases e
      exact d.x _ H μ _ h0 _ _ _ S (rs_start r) e1 (fun σ' H' μ' cls dd S' l' _ rx => k H' μ' cls dd S' l' rx) _
    · cases e
theorem sp_len {n : Nat} {m : GC} {x : GX} {vs : List V} {H : Hp} {Q : VK} {E : XK} (h : spX K mg n m x vs H Q E) : vs.length = n := by
  obtain ⟨Φ, μ, ds, h0, S, r, hl, _⟩ := h
  rw [r.len, hl]
/-- the wish of a body, and what passes through it -/
abbrev BdW (E : XK) : WX := fun cls d _ H => E cls d H
theorem fn_M {x qual : Str} {st : Stmt} {f : Addr} {fd : FuncData} {N ps : List Str} {k : Nat} {ms : MS} {xs : MX} (F : Fun K x qual st f fd) (S : FnScope N ps (defScope st))
    (hb : ∀ (cdv : Value) (A : Around) (outer : List Env) (s : Shared) (H : Hp) (E : XK), RoomG k (A.deeper (envOfC qual (defScope st) s.heap.objs.size f cdv)) →
      ∃ t, DSsX K mg (cxOf (L2.CX P w) P w K mg base N qual (defScope st) f cdv A outer s H E) (BdW E) (defBody st) t ms xs) : FnG P w K mg base (L2.CX P w) (k + 1) f fd ps (spX K mg ps.length (bodyM N.length ms) (bodyX N.length xs)) := by
  obtain ⟨oc, od, kV, doc, pm, an, cdv, ct, osl, rfl, lk, hcd⟩ := F.ex
  refine fng_of lk hcd S (fun vs H Q E h => sp_len h) fun A outer s H vs Q E hr h => ?_
  obtain ⟨t, d⟩ := hb cdv A outer s H E hr
  exact ⟨t, d.p (takes_of rfl rfl rfl rfl) (passes_of rfl), body_ok d h⟩
theorem fn_MD {x qual : Str} {pa : Arguments} {bd : List Stmt} {sc : Scope} {dvs : List V} {kws : List (Str × V)} {f : Addr} {fd : FuncData} {N ps : List Str} {k : Nat} {ms : MS} {xs : MX} (F : FunD K x qual pa bd sc dvs kws f fd) (S : FnScope N ps sc)
    (hb : ∀ (cdv : Value) (A : Around) (outer : List Env) (s : Shared) (H : Hp) (E : XK), RoomG k (A.deeper (envOfC qual sc s.heap.objs.size f cdv)) →
      ∃ t, DSsX K mg (cxOf (L2.CX P w) P w K mg base N qual sc f cdv A outer s H E) (BdW E) bd t ms xs) : FnG P w K mg base (L2.CX P w) (k + 1) f fd ps (spX K mg ps.length (bodyM N.length ms) (bodyX N.length xs)) := by
  obtain ⟨oc, od, dV, kV, doc, pm, an, cdv, ct, osl, rfl, lk, hcd, _, _⟩ := F.ex
  refine fng_of lk hcd S (fun vs H Q E h => sp_len h) fun A outer s H vs Q E hr h => ?_
  obtain ⟨t, d⟩ := hb cdv A outer s H E hr
  exact ⟨t, d.p (takes_of rfl rfl rfl rfl) (passes_of rfl), body_ok d h⟩
theorem fn_none {f : Addr} {fd : FuncData} {ps : List Str} {k n : Nat} : FnG P w K mg base (L2.CX P w) k f fd ps (spX K mg n (fun _ _ => none) noGX) :=
  ⟨fun vs H Q E h => (by
    obtain ⟨_, _, _, _, _, _, _, ⟨_, _, e, _⟩ | ⟨_, _, e, _⟩⟩ := h <;> cases e), fun A outer s H args us vs Q E _ _ _ _ h => (by
    obtain ⟨_, _, _, _, _, _, _, ⟨_, _, e, _⟩ | ⟨_, _, e, _⟩⟩ := h <;> cases e)⟩

/-- the def x keeps: called with n things it does what m says, or raises what xg says -/
structure CalM (P : Program) (w : World) (K : PySem.W.Frag) (mg : Str → Option Value) (base : Heap) (k : Nat) (x : Str) (n : Nat) (m : GC) (xg : GX) (dd : List D) : Prop where
  ex : ∃ (f : Addr) (fd : FuncData) (ps : List Str) (ds : List Value) (dvs : List V), FnG P w K mg base (L2.CX P w) k f fd ps (spX K mg n m xg) ∧ mg x = some (.ref f) ∧ PySem.W.keepIn K (.ref f) = true ∧ Binds K fd ps ds ∧ Vals dvs ds ∧ ∀ H μ, Rps K H μ dd dvs
theorem CalM.mono {j k : Nat} {x : Str} {n : Nat} {m : GC} {xg : GX} {dd : List D} (c : CalM P w K mg base j x n m xg dd) (h : j ≤ k) : CalM P w K mg base k x n m xg dd := by
  obtain ⟨f, fd, ps, ds, dvs, F, r⟩ := c.ex
  exact ⟨f, fd, ps, ds, dvs, F.mono h, r⟩
theorem rps_nil0 : ∀ H μ, Rps K H μ [] ([] : List V) := fun _ _ => Rps.nil
end
def callM (n : Nat) (m : GC) (dd : List D) (a : MA) : ME := fun sg h => match a sg h with
  | some (xs, h1) => if (xs ++ dd).length = n then m (xs ++ dd) h1 else none
  | none => none
def callX (n : Nat) (x : GX) (dd : List D) (a : MA) : MX := fun sg h => match a sg h with
  | some (xs, h1) => if (xs ++ dd).length = n then match x (xs ++ dd) h1 with
    | some (xn, h2) => some (xn, sg, h2)
    | none => none else none
  | none => none
def tcM (K : PySem.W.Frag) (mg : Str → Option Value) (n : Nat) (m : GC) (xg : GX) (dd : List D) (E : L2.St → XK) (ta : TA) : TE := fun σ H Q => ∀ dvs : List V, (∀ H μ, Rps K H μ dd dvs) → tCallSD (spX K mg n m xg) dvs E ta σ H Q
section
variable {P : Program} {w : World} {K : PySem.W.Frag} {mg : Str → Option Value} {base : Heap} {X : Cx} {pos p : Pos} {e : Expr} {es : List Expr} {ta : TA} {ma : MA} {x : Str} {n j k : Nat} {m : GC} {xg : GX} {dd : List D} {E : L2.St → XK} {W : WX}
theorem se_call (ha : SA K ta ma) : SE K (tcM K mg n m xg dd E ta) (callM n m dd ma) := by
  intro Φ σ H μ sg h d h' S rs e Q kk dvs hd
  unfold callM at e
  split at e
  · rename_i xs h1 e1
    split at e
    · rename_i hl
      exact ha σ H μ sg h xs h1 S rs e1 _ fun vs H1 μ1 S1 l1 r1 => ⟨Φ, μ1, xs ++ dd, h1, S1, r1.app (hd H1 μ1), hl, .inl ⟨d, h', e, fun v H2 μ2 S2 l2 r2 => kk v H2 μ2 S2 (l1.trans l2) r2⟩⟩
    · cases e
  · cases e
theorem xe_call (ha : SA K ta ma) : XEx K mg W (tcM K mg n m xg dd (WE W) ta) (callX n xg dd ma) := by
  intro Φ σ H μ sg h xn sg' h' S rs e kk Q dvs hd
  unfold callX at e
  split at e
  · rename_i xs h1 e1
    split at e
    · rename_i hl
      split at e
      · rename_i xn2 h2 e2
        cases e
        exact ha σ H μ sg h xs h1 S rs e1 _ fun vs H1 μ1 S1 l1 r1 => ⟨Φ, μ1, xs ++ dd, h1, S1, r1.app (hd H1 μ1), hl, .inr ⟨xn, h', e2, fun H2 μ2 cls d S2 l2 rx => kk σ H2 μ2 cls d S2 (l1.trans l2) (rs.mono (l1.trans l2)) rx⟩⟩
      · cases e
    · cases e
  · cases e
theorem de_call (c : CalM X.prog X.w K mg X.base j x n m xg dd) (hr : RoomG k X.A) (ha : DA K X (e :: es) ta ma) (hj : j ≤ k := by omega) (hmg : X.mg = mg := by rfl) (hg : Gl X x := by rfl)
    (hdb : (x == ("__debug__" : Str)) = false := by decide) (he : starEach (e :: es) X.env = (false, eval e X.env) :: starEach es X.env := by rfl) (hpl : (backTo pos (starEach es X.env)).any (·.1) = false := by rfl) :
    DE K X (.Call (.Name x p) (e :: es) [] pos) (tcM K mg n m xg dd (fun _ => E0) ta) (callM n m dd ma) := ⟨ha.k, by
  have hk := ha.k
  subst hk
  subst hmg
  obtain ⟨f, fd, ps, ds, dvs, F, h1, h2, h3, h4, h5⟩ := c.ex
  exact ⟨fun pins s σ H Q I q => (pe_callG F (hr.mono hj) hg h1 h2 h3 h4 (fun σ => passE0 σ) ha.p hdb he hpl).run pins s σ H Q I (q dvs h5)⟩, se_call ha.s⟩
theorem de_call0 (c : CalM X.prog X.w K mg X.base j x n m xg dd) (hr : RoomG k X.A) (hj : j ≤ k := by omega) (hmg : X.mg = mg := by rfl) (hg : Gl X x := by rfl)
    (hdb : (x == ("__debug__" : Str)) = false := by decide) (hK : X.K = K := by rfl) :
    DE K X (.Call (.Name x p) [] [] pos) (tcM K mg n m xg dd (fun _ => E0) tNil) (callM n m dd nilM) := ⟨hK, by
  have hk := hK
  subst hk
  subst hmg
  obtain ⟨f, fd, ps, ds, dvs, F, h1, h2, h3, h4, h5⟩ := c.ex
  exact ⟨fun pins s σ H Q I q => (pe_callG0 F (hr.mono hj) hg h1 h2 h3 h4 (fun σ => passE0 σ) hdb).run pins s σ H Q I (q dvs h5)⟩, se_call (da_nil (X := X) hK).s⟩
theorem dx_call (c : CalM X.prog X.w K mg X.base j x n m xg dd) (hr : RoomG k X.A) (ha : DA K X (e :: es) ta ma) (hj : j ≤ k := by omega) (hmg : X.mg = mg := by rfl) (hg : Gl X x := by rfl)
    (hdb : (x == ("__debug__" : Str)) = false := by decide) (he : starEach (e :: es) X.env = (false, eval e X.env) :: starEach es X.env := by rfl) (hpl : (backTo pos (starEach es X.env)).any (·.1) = false := by rfl) :
    DEX K mg X W (.Call (.Name x p) (e :: es) [] pos) (tcM K mg n m xg dd (WE W) ta) (callM n m dd ma) (callX n xg dd ma) := ⟨ha.k, fun tk => by
  subst hmg
  have hk := ha.k
  subst hk
  obtain ⟨f, fd, ps, ds, dvs, F, h1, h2, h3, h4, h5⟩ := c.ex
  exact ⟨fun pins s σ H Q I q => (pe_callG F (hr.mono hj) hg h1 h2 h3 h4 (passAt tk) ha.p hdb he hpl).run pins s σ H Q I (q dvs h5)⟩, se_call ha.s, xe_call ha.s⟩
theorem dx_call0 (c : CalM X.prog X.w K mg X.base j x n m xg dd) (hr : RoomG k X.A) (hj : j ≤ k := by omega) (hmg : X.mg = mg := by rfl) (hg : Gl X x := by rfl)
    (hdb : (x == ("__debug__" : Str)) = false := by decide) (hK : X.K = K := by rfl) :
    DEX K mg X W (.Call (.Name x p) [] [] pos) (tcM K mg n m xg dd (WE W) tNil) (callM n m dd nilM) (callX n xg dd nilM) := ⟨hK, fun tk => by
  subst hmg
  have hk := hK
  subst hk
  obtain ⟨f, fd, ps, ds, dvs, F, h1, h2, h3, h4, h5⟩ := c.ex
  exact ⟨fun pins s σ H Q I q => (pe_callG0 F (hr.mono hj) hg h1 h2 h3 h4 (passAt tk) hdb).run pins s σ H Q I (q dvs h5)⟩, se_call (da_nil (X := X) hK).s, xe_call (da_nil (X := X) hK).s⟩
end

/-! ### t[:0:-1], xs[::-1] -/
/-- the items from the last one down to the one behind the place hi -/
def backs {α : Type} (xs : List α) (hi : Option Int) : List α := match hi with
  | none => xs.reverse
  | some _ => (xs.drop 1).reverse
def TS3 := V → Option Int → Hp → VK → Prop
def rBackT (K : PySem.W.Frag) : V → Option Int → Hp → VK → Prop := fun x hi H Q => ∃ a xs, x = .ref a ∧ (hi = none ∨ hi = some 0) ∧ SqT K H a xs ∧ ∀ p, H p = none → Q (.ref p) (upd H p (.tup (backs xs hi)))
def rBackL (K : PySem.W.Frag) : V → Option Int → Hp → VK → Prop := fun x hi H Q => ∃ a xs, x = .ref a ∧ (hi = none ∨ hi = some 0) ∧ SqL K H a xs ∧ ∀ p, H p = none → Q (.ref p) (upd H p (.lst (backs xs hi)))
def tBack (r : V → Option Int → Hp → VK → Prop) (te : TE) (th : TO) (ts : TO) : TE := fun σ H Q => te σ H fun x H1 => th σ H1 fun u H2 => ts σ H2 fun st H3 => st = some (-1) ∧ r x u H3 Q
/-- x[:hi:-1] by values -/
def BkR (X : Cx) (r : V → Option Int → Hp → VK → Prop) : Prop :=
  ∀ (pins : List (Addr × Obj)) (s : Shared) (σ : L2.St) (H : Hp) (x : V) (v vu vs : Value) (hi : Option Int) (sl : Addr) (Q : VK), Inv X pins σ H s → RelV x v → s.heap.IsSliceOf sl .none vu vs → IsPart vu hi → IsPart vs (some (-1)) → r x hi H Q →
    ∃ T id, typeLookup (.type T) "__getitem__" = pure (some (.builtin id)) ∧ s.TypeIs v T ∧ wpAny (model X.prog X.w) X.A (getItem v (.ref sl)) (EP X pins σ Q) X.xe s
theorem pe_back {X : Cx} {e st : Expr} {hi : Option Expr} {p2 pos : Pos} {te : TE} {th ts : TO} {r : V → Option Int → Hp → VK → Prop} (hr : BkR X r) (he : PE X e te) (hu : PO X hi th) (hs : PO X (some st) ts) : PE X (.Subscript e (.Slice none hi (some st) p2) pos) (tBack r te th ts) := by
  refine ⟨fun pins s σ H Q I h => ?_⟩
  refine Subscript_ (thn (he.run pins s σ H _ I h) fun v s1 ⟨x, H1, I1, r1, q1⟩ => ?_)
  refine wpAny_Slice ?_
  rw [evalPart_none]
  refine wpAny_pure ?_
  refine thn (hu.run pins s1 σ H1 _ I1 q1) fun vu s3 ⟨u, H3, I3, pu, q3⟩ => ?_
  refine thn (hs.run pins s3 σ H3 _ I3 q3) fun vs s4 ⟨k, H4, I4, ps, ek, q4⟩ => ?_
  subst ek
  have I5 : Inv X pins σ H4 { s4 with heap := s4.heap.push { cls := .type "slice", data := .fields #[.none, vu, vs] } } := I4.kept (t' := s4.toks) fun b ob q => Heap.get?_push_of_some _ q
  obtain ⟨T, id, hT, ht, hg⟩ := hr pins { s4 with heap := s4.heap.push { cls := .type "slice", data := .fields #[.none, vu, vs] } } σ H4 x v vu vs u s4.heap.objs.size Q I5 r1 (Heap.IsSliceOf.new ..) pu ps q4
  show wpAny (model X.prog X.w) X.A (subscriptTail e (.Slice none hi (some st) p2) v (.ref s4.heap.objs.size)) (EP X pins σ Q) X.xe { s4 with heap := s4.heap.push { cls := .type "slice", data := .fields #[.none, vu, vs] } }
  exact tail_any (ops := [v, .ref s4.heap.objs.size]) ht hT hg (by with_unfolding_all rfl)
theorem fm_congr {α β : Type} {f g : α → Option β} : ∀ l : List α, (∀ x ∈ l, f x = g x) → l.filterMap f = l.filterMap g
  | [], _ => rfl
  | a :: l, h => by
    rw [List.filterMap_cons, List.filterMap_cons, h a List.mem_cons_self, fm_congr l fun x hx => h x (List.mem_cons_of_mem _ hx)]
theorem range_get (l : List Value) : ∀ n, (List.range n).filterMap (fun m => l[m]?) = l.take n
  | 0 => by simp
  | n + 1 => by
    rw [List.range_succ, List.filterMap_append, range_get l n, List.take_add_one]
    simp [List.filterMap_cons]
    cases l[n]? <;> simp
theorem backs_pick (l : List Value) (j : Nat) : (List.range (l.length - j)).filterMap (fun (m : Nat) => l.toArray[((l.length : Int) - 1 + (m : Int) * (-1)).toNat]?) = (l.drop j).reverse := by
  have e : (List.range (l.length - j)).filterMap (fun (m : Nat) => l.toArray[((l.length : Int) - 1 + (m : Int) * (-1)).toNat]?) = (List.range (l.length - j)).filterMap (fun m => l.reverse[m]?) := by
    refine fm_congr _ fun m hm => ?_
    have hm := List.mem_range.mp hm
    have h1 : ((l.length : Int) - 1 + (m : Int) * (-1)).toNat = l.length - 1 - m := by omega
    rw [h1, List.getElem?_toArray, List.getElem?_reverse (by omega)]
  rw [e, range_get]
  rw [List.reverse_drop]
theorem adjust_back {hi : Option Int} (h : hi = none ∨ hi = some 0) (n : Nat) : ∃ j : Nat, Builtin.Slice.sliceAdjust none hi (-1) (n : Int) = ((n : Int) - 1, (j : Int) - 1) ∧ Builtin.Slice.slicePlaces ((n : Int) - 1) ((j : Int) - 1) (-1) = n - j ∧ ∀ {α : Type} (xs : List α), xs.length = n → (xs.drop j).reverse = backs xs hi := by
  have h1 : ((-1 : Int) < 0) := by omega
  have pl : ∀ j : Nat, Builtin.Slice.slicePlaces ((n : Int) - 1) ((j : Int) - 1) (-1) = n - j := fun j => by
    unfold Builtin.Slice.slicePlaces
    have h2 : ¬ ((-1 : Int) > 0) := by omega
    simp only [h2, if_false]
    have h3 : (- (-1 : Int)) = 1 := by omega
    rw [h3, Int.ediv_one]
    split <;> omega
  rcases h with rfl | rfl
  · refine ⟨0, ?_, pl 0, fun xs _ => rfl⟩
    unfold Builtin.Slice.sliceAdjust
    simp only [h1, if_true]
    rfl
  · cases n with
    | zero =>
      refine ⟨0, ?_, pl 0, fun xs hx => ?_⟩
      · rfl
      · have : xs = [] := List.length_eq_zero_iff.mp hx
        subst this
        rfl
    | succ n =>
      refine ⟨1, ?_, pl 1, fun xs _ => rfl⟩
      unfold Builtin.Slice.sliceAdjust
      simp only [h1, if_true]
      have h2 : ¬ ((0 : Int) < 0) := by omega
      simp only [h2, if_false]
      refine Prod.ext rfl ?_
      show min (0 : Int) (((n + 1 : Nat) : Int) - 1) = ((1 : Nat) : Int) - 1
      omega
section
variable {prog : Program} {w : World} {A : Around} {E : Value → Shared → Prop} {s : Shared}
theorem sliceApplied_back {sl : Addr} {vu vs : Value} {hi : Option Int} {n j : Nat} {Q : Int × Int × Nat → Shared → Prop} (hs : s.heap.IsSliceOf sl .none vu vs) (pu : IsPart vu hi) (ps : IsPart vs (some (-1)))
    (ha : Builtin.Slice.sliceAdjust none hi (-1) (n : Int) = ((n : Int) - 1, (j : Int) - 1)) (hp : Builtin.Slice.slicePlaces ((n : Int) - 1) ((j : Int) - 1) (-1) = n - j)
    (h : Q ((n : Int) - 1, -1, n - j) s) : wpAny (model prog w) A (Builtin.Slice.sliceApplied (.ref sl) (pure (n : Int))) Q E s := by
  obtain ⟨os, hos, hcs, hds⟩ := id hs
  unfold Builtin.Slice.sliceApplied Builtin.Slice.sliceFields
  refine wpAny_bind (wpAny_bind (wpAny_field hos hds (x := .none) rfl (wpAny_bind (wpAny_field hos hds (x := vu) rfl (wpAny_bind (wpAny_field hos hds (x := vs) rfl (wpAny_pure ?_)))))))
  refine wpAny_bind (HT.slicePart_ ps ?_)
  show wpAny _ _ (if ((-1 : Int) == 0) = true then _ else _) _ _ s
  rw [if_neg (by decide)]
  refine wpAny_bind (HT.slicePart_ .none (wpAny_bind (HT.slicePart_ pu (wpAny_bind (wpAny_pure ?_)))))
  show wpAny _ _ (match Builtin.Slice.sliceAdjust none hi (-1) (n : Int) with | (lo, hi) => pure (lo, (-1 : Int), Builtin.Slice.slicePlaces lo hi (-1))) _ _ s
  rw [ha]
  show wpAny _ _ (pure ((n : Int) - 1, (-1 : Int), Builtin.Slice.slicePlaces ((n : Int) - 1) ((j : Int) - 1) (-1))) _ _ s
  rw [hp]
  exact wpAny_pure h
theorem getItem_tuple_back {t sl : Addr} {items : List Value} {vu vs : Value} {hi : Option Int} {Q : Value → Shared → Prop} (ht : IsTup s.heap t items.toArray) (hs : s.heap.IsSliceOf sl .none vu vs) (pu : IsPart vu hi) (ps : IsPart vs (some (-1))) (hh : hi = none ∨ hi = some 0)
    (h : Q (.ref s.heap.objs.size) { s with heap := s.heap.push { cls := .type "tuple", data := .seq (backs items hi).toArray } })
    (hsz : items.length ≤ sizeLine) : wpAny (model prog w) A (getItem (.ref t) (.ref sl)) Q E s := by
  obtain ⟨j, ha, hp, hb⟩ := adjust_back hh items.length
  have hb := hb items rfl
  have htake : sizeOk (.seq (backs items hi).toArray) := by
    show (backs items hi).toArray.size ≤ sizeLine
    rw [← hb, List.size_toArray, List.length_reverse, List.length_drop]
    omega
  obtain ⟨os, hos, hcs, hds⟩ := id hs
  have hTs : s.TypeIs (.ref sl) "slice" := ⟨os, hos, hcs⟩
  unfold getItem
  try with_reducible refine wpAny_holding ?_
  first | refine wpAny_bind (wpAny_pure ?_) | skip
  refine wpAny_bind (wpAny_sequenceKey ht.typeIs (by decide) ?_)
  refine wpAny_bind (wpAny_callSpecial?_slot (name := Str.ofString "__getitem__") ht.typeIs PyProof.Rows.slot_tuple_getitem
    (wpAny_call_entry PyProof.Rows.slot_tuple_getitem ht.typeIs entry_tuple_getitem ?_ (args_tuple_getitem _ _)))
  show wpAny _ _ (Builtin.Tuple.tupleItemsOf (.ref t) >>= _) _ _ s
  refine wpAny_bind (tupleItemsOf_ ht ?_)
  refine wpAny_bind (wpAny_typeOf hTs ?_)
  rw [if_pos (by decide)]
  rw [List.size_toArray]
  refine wpAny_bind (sliceApplied_back hs pu ps ha hp ?_)
  show wpAny _ _ (if (((items.length : Int) - 1) == 0 && (-1 : Int) == 1 && (items.length - j) == items.length) = true then _ else _) _ _ s
  rw [if_neg (by
    intro q
    rw [Bool.and_eq_true, Bool.and_eq_true] at q
    exact absurd q.1.2 (by decide)), backs_pick, hb]
  first
    | exact wpAny_bind (m := Builtin.Tuple.tupleExact _) (wpAny_newObj_type (wpAny_pure ⟨_, rfl, wpAny_pure h⟩) htake)
    | exact wpAny_bind (m := Builtin.Tuple.tupleExact _) (wpAny_newObj_type (wpAny_bind (wpAny_pure (wpAny_pure ⟨_, rfl, wpAny_pure h⟩))) htake)
    | exact wpAny_bind (wpAny_bind (m := Builtin.Tuple.tupleExact _) (wpAny_newObj_type (wpAny_pure (wpAny_pure ⟨_, rfl, wpAny_pure h⟩)) htake))
    | exact wpAny_bind (wpAny_bind (m := Builtin.Tuple.tupleExact _) (wpAny_newObj_type (wpAny_pure ⟨_, rfl, wpAny_pure h⟩) htake))
end
section
variable {X : Cx} {K : PySem.W.Frag}
theorem vals_backs {hi : Option Int} {xs : List V} {us : List Value} (r : Vals xs us) : Vals (backs xs hi) (backs us hi) := by
  cases hi with
  | none => exact Vals.reverse r
  | some i => exact Vals.reverse (r.drop 1)
theorem backs_length {α : Type} (xs : List α) (hi : Option Int) : (backs xs hi).length ≤ xs.length := by
  cases hi <;> simp [backs]
theorem bk_tup : BkR X (rBackT X.K) := by
  intro pins s σ H x v vu vs hi sl Q I rx hs pu ps h
  obtain ⟨a, xs, rfl, hh, hx, q⟩ := h
  cases rx
  obtain ⟨its, r, ht, hz⟩ := I.tuple hx
  refine ⟨"tuple", _, PyProof.Rows.slot_tuple_getitem.lookup, ht.typeIs, ?_⟩
  refine getItem_tuple_back ht hs pu ps hh ?_ (by rw [← r.length]; exact hz)
  refine ⟨.ref s.heap.objs.size, _, I.laid (t' := s.toks) (o := .tup (backs xs hi)) (fun b ob q => Heap.get?_push_of_some _ q) (Nat.le_refl _) ?_, rfl, q _ (I.hok.fresh (Nat.le_refl _))⟩
  exact ⟨Nat.le_trans (backs_length xs hi) hz, _, vals_backs r, IsTup.new _ _⟩
theorem bk_list : BkR X (fun x hi H Q => hi = none ∧ rBackL X.K x hi H Q) := by
  intro pins s σ H x v vu vs hi sl Q I rx hs pu ps h
  obtain ⟨rfl, a, xs, rfl, hh, hx, q⟩ := h
  cases rx
  obtain ⟨its, r, ht, hz⟩ := I.list hx
  have hlen := r.length
  refine ⟨"list", _, slot_list_getitem.lookup, ht.isList.typeIs, ?_⟩
  refine wpAny_getItem_list_slice ht.isList hs .none pu ps (by simp) ?_ (by rw [List.size_toArray] <;> omega)
  rw [PySem.W.krv_pick]
  refine ⟨.ref s.heap.objs.size, _, I.laid (t' := s.toks) (o := .lst (backs xs none)) (fun b ob q => Heap.get?_push_of_some _ q) (Nat.le_refl _) ?_, rfl, q _ (I.hok.fresh (Nat.le_refl _))⟩
  exact ⟨Nat.le_trans (backs_length xs none) hz, _, 0, Vals.reverse r, Heap.get?_push_size _ rfl⟩
def rBackU (K : PySem.W.Frag) : V → Option Int → Hp → VK → Prop := fun x hi H Q => rBackT K x hi H Q ∨ (hi = none ∧ rBackL K x hi H Q)
theorem bk_U (hK : X.K = K := by rfl) : BkR X (rBackU K) := by
  subst hK
  intro pins s σ H x v vu vs hi sl Q I rx hs pu ps h
  rcases h with h | h
  · exact bk_tup pins s σ H x v vu vs hi sl Q I rx hs pu ps h
  · exact bk_list pins s σ H x v vu vs hi sl Q I rx hs pu ps h
def backD (x : D) (hi : Option Int) (h : Hd) : Option (D × Hd) := match x with
  | .tup xs => match hi with
    | none => some (.tup (backs xs none), h)
    | some i => if i = 0 then some (.tup (backs xs (some 0)), h) else none
  | .rol xs => match hi with
    | none => some (.at h.length, h ++ [.lst xs.reverse])
    | some _ => none
  | .at n => match hi with
    | none => match h[n]? with
      | some (.lst xs) => some (.at h.length, h ++ [.lst xs.reverse])
      | _ => none
    | some _ => none
  | _ => none
def backM (a : ME) (hi st : MO) : ME := fun sg h => match a sg h with
  | some (x, h1) => match hi sg h1 with
    | some (u, h2) => match st sg h2 with
      | some (some k, h3) => if k = -1 then backD x u h3 else none
      | _ => none
    | none => none
  | none => none
theorem rps_backs {H : Hp} {μ : List Addr} {ds : List D} {vs : List V} (r : Rps K H μ ds vs) (hi : Option Int) : Rps K H μ (backs ds hi) (backs vs hi) := by
  cases hi with
  | none => exact r.rev
  | some i => exact (r.drop 1).rev
theorem de_back {a : Expr} {ta : TE} {ma : ME} {hi : Option Expr} {st : Expr} {th ts : TO} {mh ms : MO} {p2 pos : Pos} (ha : DE K X a ta ma) (hh : DO K X hi th mh) (hs : DO K X (some st) ts ms) : DE K X (.Subscript a (.Slice none hi (some st) p2) pos) (tBack (rBackU K) ta th ts) (backM ma mh ms) := ⟨ha.k, pe_back (bk_U ha.k) ha.p hh.p hs.p, by
  intro Φ σ H μ sg h d h' S rs e Q k
  unfold backM at e
  split at e
  · rename_i x h1 e1
    split at e
    · rename_i u h2 e2
      split at e
      · rename_i kk h3 e3
        split at e
        · rename_i hk
          subst hk
          refine ha.s σ H μ sg h x h1 S rs e1 _ fun v H1 μ1 S1 l1 r1 => ?_
          refine hh.s σ H1 μ1 sg h1 u h2 S1 (rs.mono l1) e2 _ fun H2 μ2 S2 l2 => ?_
          refine hs.s σ H2 μ2 sg h2 _ h3 S2 (rs.mono (l1.trans l2)) e3 _ fun H3 μ3 S3 l3 => ⟨rfl, ?_⟩
          have r3 := Rp.mono (l2.trans l3) _ _ r1
          have k3 : Kn Φ K H3 μ3 h' d Q := fun v H' μ' S' l' r' => k v H' μ' S' (((l1.trans l2).trans l3).trans l') r'
          unfold backD at e
          split at e
          · obtain ⟨p, vs, rfl, c1, c2⟩ := rp_tup' r3
            split at e
            · cases e
              exact .inl ⟨p, vs, rfl, .inl rfl, c1, fun q hq => kn_tup S3 (rps_backs c2 none) k3 q hq⟩
            · split at e
              · rename_i hi0
                subst hi0
                cases e
                exact .inl ⟨p, vs, rfl, .inr rfl, c1, fun q hq => kn_tup S3 (rps_backs c2 (some 0)) k3 q hq⟩
              · cases e
          · obtain ⟨p, vs, rfl, c1, c2⟩ := rp_rol' r3
            split at e
            · cases e
              exact .inr ⟨rfl, p, vs, rfl, .inl rfl, c1.l, fun q hq => kn_lst S3 (rps_backs c2 none) k3 q hq⟩
            · cases e
          · obtain ⟨p, ep, rfl⟩ := rp_at' r3
            split at e
            · split at e
              · rename_i xs q
                cases e
                obtain ⟨vs, c1, c2⟩ := S3.lst q ep
                exact .inr ⟨rfl, p, vs, rfl, .inl rfl, .of c1, fun q hq => kn_lst S3 (rps_backs c2 none) k3 q hq⟩
              · cases e
            · cases e
          · cases e
        · cases e
      · cases e
    · cases e
  · cases e⟩
end
/-! ### x += e of ints -/
def addID : G2 := fun x y h => match x, y with
  | .int i, .int j => some (.int (i + j), h)
  | _, _ => none
theorem so_addI {K : PySem.W.Frag} : SO K (rI0 fun i j => .int (i + j)) addID := by
  intro Φ H μ h x y v w d h' S r1 r2 e Q k
  unfold addID at e
  split at e
  · cases e
    exact ⟨_, _, rp_int' r1, rp_int' r2, k _ H μ S Le.refl rp_int⟩
  · cases e

/-! ### what the top has left of a def -/
structure Got (K : PySem.W.Frag) (mg : Str → Option Value) (x : Str) (st : Stmt) (ps : List Str) : Prop where
  ex : ∃ (f : Addr) (fd : FuncData), Fun K x x st f fd ∧ mg x = some (.ref f) ∧ Binds K fd ps []
theorem Got.cal {P : Program} {w : World} {K : PySem.W.Frag} {mg : Str → Option Value} {base : Heap} {k : Nat} {x : Str} {st : Stmt} {ps N : List Str} {ms : MS} {xs : MX} (g : Got K mg x st ps) (S : FnScope N ps (defScope st))
    (hb : ∀ (f : Addr) (cdv : Value) (A : Around) (outer : List Env) (s : Shared) (H : Hp) (E : XK), RoomG k (A.deeper (envOfC x (defScope st) s.heap.objs.size f cdv)) →
      ∃ t, DSsX K mg (cxOf (L2.CX P w) P w K mg base N x (defScope st) f cdv A outer s H E) (BdW E) (defBody st) t ms xs) : CalM P w K mg base (k + 1) x ps.length (bodyM N.length ms) (bodyX N.length xs) [] := by
  obtain ⟨f, fd, F, hm, hb0⟩ := g.ex
  exact ⟨f, fd, ps, [], [], fn_M F S (fun cdv A outer s H E hr => hb f cdv A outer s H E hr), hm, F.kp, hb0, .nil, fun _ _ => Rps.nil⟩
theorem Got.none {P : Program} {w : World} {K : PySem.W.Frag} {mg : Str → Option Value} {base : Heap} {k n : Nat} {x : Str} {st : Stmt} {ps : List Str} (g : Got K mg x st ps) : CalM P w K mg base k x n (fun _ _ => none) noGX [] := by
  obtain ⟨f, fd, F, hm, hb0⟩ := g.ex
  exact ⟨f, fd, ps, [], [], fn_none, hm, F.kp, hb0, .nil, fun _ _ => Rps.nil⟩
/-- one with defaults -/
structure GotD (K : PySem.W.Frag) (mg : Str → Option Value) (x : Str) (st : Stmt) (ps : List Str) (dvs : List V) : Prop where
  ex : ∃ (f : Addr) (fd : FuncData), FunD K x x (defArgs st) (defBody st) (defScope st) dvs [] f fd ∧ mg x = some (.ref f) ∧ Binds K fd ps [] ∧ ∃ ds, Vals dvs ds ∧ Binds K fd ps ds
theorem GotD.cal {P : Program} {w : World} {K : PySem.W.Frag} {mg : Str → Option Value} {base : Heap} {k : Nat} {x : Str} {st : Stmt} {ps N : List Str} {dvs : List V} {ms : MS} {xs : MX} (g : GotD K mg x st ps dvs) (S : FnScope N ps (defScope st))
    (hb : ∀ (f : Addr) (cdv : Value) (A : Around) (outer : List Env) (s : Shared) (H : Hp) (E : XK), RoomG k (A.deeper (envOfC x (defScope st) s.heap.objs.size f cdv)) →
      ∃ t, DSsX K mg (cxOf (L2.CX P w) P w K mg base N x (defScope st) f cdv A outer s H E) (BdW E) (defBody st) t ms xs) : CalM P w K mg base (k + 1) x ps.length (bodyM N.length ms) (bodyX N.length xs) [] := by
  obtain ⟨f, fd, F, hm, hb0, ds, h1, h2⟩ := g.ex
  exact ⟨f, fd, ps, [], [], fn_MD F S (fun cdv A outer s H E hr => hb f cdv A outer s H E hr), hm, F.kp, hb0, .nil, fun _ _ => Rps.nil⟩
theorem GotD.cald {P : Program} {w : World} {K : PySem.W.Frag} {mg : Str → Option Value} {base : Heap} {k : Nat} {x : Str} {st : Stmt} {ps N : List Str} {dvs : List V} {dd : List D} {ms : MS} {xs : MX} (g : GotD K mg x st ps dvs) (hd : ∀ H μ, Rps K H μ dd dvs) (S : FnScope N ps (defScope st))
    (hb : ∀ (f : Addr) (cdv : Value) (A : Around) (outer : List Env) (s : Shared) (H : Hp) (E : XK), RoomG k (A.deeper (envOfC x (defScope st) s.heap.objs.size f cdv)) →
      ∃ t, DSsX K mg (cxOf (L2.CX P w) P w K mg base N x (defScope st) f cdv A outer s H E) (BdW E) (defBody st) t ms xs) : CalM P w K mg base (k + 1) x ps.length (bodyM N.length ms) (bodyX N.length xs) dd := by
  obtain ⟨f, fd, F, hm, hb0, ds, h1, h2⟩ := g.ex
  exact ⟨f, fd, ps, ds, dvs, fn_MD F S (fun cdv A outer s H E hr => hb f cdv A outer s H E hr), hm, F.kp, h2, h1, hd⟩

/-! ### the end -/
theorem law_end {K : PySem.W.Frag} {mg : Str → Option Value} {m : GC} {x : GX} {H : Hp} {a : Addr} {ns : List Int} (hm : ∃ h', m [.rol (ns.map D.int)] [] = some (.bl true, h')) (hO : L2.Only H) (hS : SqL K H a (ns.map V.int)) :
    spX K mg 1 m x [.ref a] H (fun v _ => v = .bl true) fun _ _ _ => False := by
  obtain ⟨h', hm⟩ := hm
  have hF : SqF K H a (ns.map V.int) := by
    rcases hS with (h | h) | h
    · rcases hO a with q | ⟨o, xs, q⟩ <;> rw [q] at h <;> cases h
    · exact .inl h
    · exact .inr h
  have rI : ∀ ns : List Int, Rps K H [] (ns.map D.int) (ns.map V.int) := by
    intro ns
    induction ns with
    | nil => exact Rps.nil
    | cons n ns ih => exact Rps.cons rp_int ih
  refine ⟨fun _ => none, [], [.rol (ns.map D.int)], [], ⟨rfl, fun n m a e => by simp at e, fun n o e => by simp at e, fun a o e => by cases e⟩, ?_, rfl, .inl ⟨.bl true, h', hm, fun v H' μ' _ _ r => rp_bl' r⟩⟩
  refine Rps.cons ?_ Rps.nil
  unfold Rp
  exact ⟨a, _, rfl, hF, rI ns⟩
/-- the law's call, where the promise wants no repr that runs (as the hand layer's law_call) -/
theorem law_callG {P : Program} {w : World} {K : PySem.W.Frag} {mg mb : Str → Option Value} {CX : CXT} {k : Nat} {fa a : Addr} {fd : FuncData} {x : Str} {sp : Sp} {s₁ : Shared} {vs : List Value} {ns : List Int}
    (KX : K.In s₁.heap) (hns : s₁.heap.Ns mainGlobals mg) (hb : s₁.heap.Ns builtinsNs mb) (hbb : ∀ x : Str, x ≠ "__name__" → mb x = bootBuiltins x) (hlim : s₁.heap.NoLimit) (hg : s₁.gens = #[])
    (ha : s₁.heap.get? a = some { cls := .type "list", data := .seq vs.toArray }) (hi : IntsAre vs ns) (hl : ns.length ≤ sizeLine) (hr : Room k callerA)
    (F : ∀ base : Heap, K.In base → base.Ns mainGlobals mg → FnG P w K mg base CX k fa fd [x] sp) (hbind : ∀ (s : Shared) (u : Value), BindsTo s fd ⟨[u], []⟩ [(x, u)])
    (hsp : ∀ H : Hp, L2.Only H → SqL K H a (ns.map V.int) → sp [.ref a] H (fun v _ => v = .bl true) fun _ _ _ => False)
    (hCX : ∀ H e s', CX [] H s₁ (fun _ _ _ => False) e s' → False) :
    codeAny (model P w) callerA (.call (.ref fa) ⟨[.ref a], []⟩) (fun r s' => r = .ok (.ret (.bool true)) ∧ OldK s₁.heap s'.heap ∧ s'.os = s₁.os ∧ AllBare s'.gens) s₁ := by
  have rv := vals_ints hi
  have lenV := hi.length
  -- from an abstract heap in which nothing but the script may be tracked
  have core : ∀ H : Hp, L2.Only H → SqL K H a (ns.map V.int) → HOk P w H s₁.heap → (∀ b, H b ≠ none → b = a) → (H a ≠ none → K.lookup a = none) →
      codeAny (model P w) callerA (.call (.ref fa) ⟨[.ref a], []⟩) (fun r s' => r = .ok (.ret (.bool true)) ∧ OldK s₁.heap s'.heap ∧ s'.os = s₁.os ∧ AllBare s'.gens) s₁ := by
    intro H hO hS hok hA hK
    have base_of : ∀ {b : Addr} {o : Obj}, s₁.heap.get? b = some o → H b = none → (hidT s₁.heap H).get? b = some o := fun e n => hidT_get e n
    have noA : ∀ {b : Addr} {o : Obj} {es : Array DictEntry} {ep : Nat}, s₁.heap.get? b = some o → o.data = .dict es ep → H b = none := fun {b o es ep} e d => by
      cases q : H b with
      | none => rfl
      | some u =>
        have e' : b = a := hA b (by rw [q]; simp)
        subst e'
        rw [ha] at e; cases e
        have d' : Data.seq vs.toArray _ = Data.dict es ep := d
        cases d'
    have nsK : ∀ {b : Addr} {m : Str → Option Value}, s₁.heap.Ns b m → (hidT s₁.heap H).Ns b m := fun {b m} ⟨o, es, ep, e, d, r⟩ => ⟨o, es, ep, base_of e (noA e d), d, r⟩
    have hKb : K.In (hidT s₁.heap H) := fun b o e => base_of (KX b o e) (by
      cases q : H b with
      | none => rfl
      | some u =>
        have e' : b = a := hA b (by rw [q]; simp)
        subst e'
        rw [hK (by rw [q]; simp)] at e; cases e)
    have hM : Mod K mg (hidT s₁.heap H) := ⟨hKb, nsK hns, ⟨mb, nsK hb, hbb⟩, let ⟨mc, h1, h2⟩ := hlim; ⟨mc, nsK h1, h2⟩⟩
    have e0 : Env0 P w K mg (hidT s₁.heap H) callerA [] s₁ H := ⟨rfl, hM, fun b o e => of_hidT e, Nat.le_of_eq (hidT_size _ _), trivial, fun b hb => absurd (show b ∈ ([] : List Addr) from hb) (by simp), hok, .of_eq hg⟩
    refine codeAny_mono ((F _ hKb (nsK hns)).run callerA [] s₁ H ⟨[.ref a], []⟩ [.ref a] [.ref a] _ _ ⟨hr, rfl⟩ e0 (hbind s₁ (.ref a)) (.cons rfl .nil) (hsp H hO hS)) fun r s' h => ?_
    cases r with
    | error e => exact (hCX H e s' h).elim
    | ok fl =>
      cases fl with
      | next => exact False.elim h
      | brk => exact False.elim h
      | cont => exact False.elim h
      | ret u =>
        obtain ⟨v, H', os, bare, un, hok', r', q⟩ := h
        have q' : v = .bl true := q
        subst q'
        obtain rfl : u = Value.bool true := r'
        refine ⟨rfl, OldK.of_keep fun b o e => ?_, os, bare⟩
        cases q : H b with
        | none => exact un.keep b o e q (by intro z; exact absurd (show b ∈ ([] : List Addr) from z) (by simp)) (by simp)
        | some u =>
          rcases hO b with z | ⟨ob, xs, z⟩
          · rw [q] at z; cases z
          · have z2 := un.frzs b ob _ z
            obtain ⟨e1, _⟩ := hok b _ z
            obtain ⟨e2, _⟩ := hok' b _ z2
            rw [e] at e1; cases e1
            exact e2
  cases hk : K.lookup a with
  | some o =>
    -- the script is one of the module's own objects
    have e := KX a o hk
    rw [ha] at e
    cases e
    refine core (fun _ => none) (fun _ => .inl rfl) (.inr ⟨_, vs.toArray, _, hk, rfl, rfl, rfl, by rw [List.size_toArray, lenV]; exact hl, by simpa using rv⟩) (fun b u z => by have z' : (none : Option HO) = some u := z; cases z') (fun b z => absurd rfl z) fun z => absurd rfl z
  | none =>
    refine core (fun b => if b = a then some (.frz { cls := .type "list", data := .seq vs.toArray } (.lst (ns.map V.int))) else none) (fun b => ?_) (.inl (.inr ⟨{ cls := .type "list", data := .seq vs.toArray }, if_pos rfl⟩)) (fun b u z => ?_) (fun b z => ?_) fun _ => hk
    · by_cases hb : b = a
      · exact .inr ⟨_, _, if_pos hb⟩
      · exact .inl (if_neg hb)
    · by_cases hb : b = a
      · have z' := (if_pos hb).symm.trans z
        cases z'
        subst hb
        exact ⟨ha, by rw [List.length_map]; exact hl, vs, _, rv, ha⟩
      · have z' := (if_neg hb).symm.trans z
        cases z'
    · by_cases hb : b = a
      · exact hb
      · exact absurd (if_neg hb) z
/-- the end, as the hand layer's walk_of -/
theorem walk_G {l : PySem.W.OpenLaw} {n k : Nat} {q : Program} {loose : List Str} {XP : (Str → Option Value) → Heap → Prop} {YP : World → Heap → Prop} {d : DefRec} {K : Params → PySem.W.Frag} {CX : World → CXT} {sp : World → Sp} {x : Str}
    (hn : l.most = some n) (hn2 : n ≤ sizeLine) (hdf : d.params.defaults = []) (hr : Room k callerA)
    (hY : ∀ (w : World) (h : Heap), YP w h → (K w.params).In h)
    (F : ∀ (w : World) (mg : Str → Option Value) (fa : Addr) (h : Heap), (K w.params).In h → h.Ns mainGlobals mg → mg d.name = some (.ref fa) →
      ∃ fd : FuncData, (∀ (s : Shared) (u : Value), BindsTo s fd ⟨[u], []⟩ [(x, u)]) ∧
        ∀ base : Heap, (K w.params).In base → base.Ns mainGlobals mg → FnG l.prog w (K w.params) mg base (CX w) k fa fd [x] (sp w))
    (hsp : ∀ (w : World) (H : Hp) (a : Addr) (ns : List Int), ns.length ≤ n → L2.Only H → SqL (K w.params) H a (ns.map V.int) → sp w [.ref a] H (fun v _ => v = .bl true) fun _ _ _ => False)
    (hCX : ∀ (w : World) (H : Hp) (s : Shared) (e : Value) (s' : Shared), CX w [] H s (fun _ _ _ => False) e s' → False) :
    PySem.W.WalkO q loose XP YP l.row.toRowW d [] (fun f vs => PySem.call f vs) := by
  refine Att.attach_call hn hdf fun w s₀ s₁ mg mb fa o pm cd doc a vs ns G Y ho hd hcd hmg hobj hints hlen hg => ?_
  have KX := hY w _ Y
  obtain ⟨fd, hb, hF⟩ := F w mg fa _ KX G.T.g hmg
  exact law_callG KX G.T.g G.T.b G.T.builtins G.T.nolimit hg hobj hints (Nat.le_trans hlen hn2) hr hF hb (fun H hO hS => hsp w H a ns hlen hO hS) fun H e s' => hCX w H s₁ e s'
end DL

/-! DL8: three assigned at once, is None, constants of the module. -/
namespace DL
open PySem L2 PySem.Spec PyProof.Rows
theorem rps3 {K : PySem.W.Frag} {H : Hp} {μ : List Addr} {d e f : D} {vs : List V} (r : Rps K H μ [d, e, f] vs) : ∃ v w u, vs = [v, w, u] ∧ Rp K H μ d v ∧ Rp K H μ e w ∧ Rp K H μ f u := by
  obtain ⟨v, vs', rfl, a, b⟩ := r.cons'
  obtain ⟨w, u, rfl, c, d⟩ := rps2 b
  exact ⟨v, w, u, rfl, a, c, d⟩
def par3M (i j l : Nat) (a : MA) : MS := fun sg h => match a sg h with
  | some ([x, y, z], h1) => some (.nx (((sg.set i (some x)).set j (some y)).set l (some z)), h1)
  | _ => none
section
variable {K : PySem.W.Frag} {X : Cx} {pos : Pos}
theorem ds_par3 (i j l : Nat) {x y z : Str} {a b c : Expr} {ta : TA} {ma : MA} {px py pz pt : Pos} {kt k2 pt2} (d : DA K X [a, b, c] ta ma) (hN : X.N.Nodup) (hi : X.N[i]? = some x := by rfl) (hj : X.N[j]? = some y := by rfl) (hl : X.N[l]? = some z := by rfl) (hij : i ≠ j := by decide) (hil : i ≠ l := by decide) (hjl : j ≠ l := by decide)
    (hx : X.env.scope.names.lookup x = some .local := by rfl) (hy : X.env.scope.names.lookup y = some .local := by rfl) (hz : X.env.scope.names.lookup z = some .local := by rfl)
    (hw : swappedStores [.Tuple [.Name x px, .Name y py, .Name z pz] kt pt] (.Tuple [a, b, c] k2 pt2) X.env = pure (some [x, y, z]) := by rfl)
    (hs : swapsWithSole [.Tuple [.Name x px, .Name y py, .Name z pz] kt pt] (.Tuple [a, b, c] k2 pt2) pos.line X.env = pure false := by rfl) (hc : X.calm = true := by rfl) :
    DS K X (.Assign [.Tuple [.Name x px, .Name y py, .Name z pz] kt pt] (.Tuple [a, b, c] k2 pt2) pos) (tPar3 i j l ta) (par3M i j l ma) := ⟨d.k, ps_par3 hc hN hi hj hl hij hil hjl hx hy hz d.p hw hs, by
  intro Φ σ H μ sg h f h' S rs e E k
  unfold par3M at e
  split at e
  · rename_i x y z h1 e1
    cases e
    refine d.s σ H μ sg h _ _ S rs e1 _ fun vs H1 μ1 S1 l1 r1 => ?_
    obtain ⟨v, w, u, rfl, r2, r3, r4⟩ := rps3 r1
    exact ⟨v, w, u, rfl, k _ H1 μ1 S1 l1 ((((rs.mono l1).put i r2).put j r3).put l r4)⟩
  · cases e⟩
/-- x is None, x is not None -/
def isNonD : D → Bool
  | .non => true
  | _ => false
def isD : G2 := fun x y h => match y with
  | .non => some (.bl (isNonD x), h)
  | _ => none
def isntD : G2 := fun x y h => match y with
  | .non => some (.bl (!isNonD x), h)
  | _ => none
def rIsNo : R2 := fun x y H Q => y = .non ∧ Q (.bl (decide (x = .non))) H
def rIsntNo : R2 := fun x y H Q => y = .non ∧ Q (.bl (!decide (x = .non))) H
theorem is_non {H : Hp} {μ : List Addr} {x : D} {v : V} (r : Rp K H μ x v) : decide (v = .non) = isNonD x := by
  cases x with
  | non => rw [rp_non' r]; rfl
  | bl b => rw [rp_bl' r]; rfl
  | int b => rw [rp_int' r]; rfl
  | str b => rw [rp_str' r]; rfl
  | ty b => rw [rp_ty' r]; rfl
  | tup b => obtain ⟨p, vs, rfl, _⟩ := rp_tup' r; rfl
  | rol b => obtain ⟨p, vs, rfl, _⟩ := rp_rol' r; rfl
  | «at» b => obtain ⟨p, _, rfl⟩ := rp_at' r; rfl
  | ad a => rw [rp_ad' r]; rfl
theorem so_is : SO K rIsNo isD := by
  intro Φ H μ h x y v w d h' S r1 r2 e Q k
  unfold isD at e
  split at e
  · cases e
    exact ⟨rp_non' r2, by rw [is_non r1]; exact k _ H μ S Le.refl rp_bl⟩
  · cases e
theorem so_isnt : SO K rIsntNo isntD := by
  intro Φ H μ h x y v w d h' S r1 r2 e Q k
  unfold isntD at e
  split at e
  · cases e
    exact ⟨rp_non' r2, by rw [is_non r1]; exact k _ H μ S Le.refl rp_bl⟩
  · cases e
theorem op_is0 : OpR X (compareOp .Is) rIsNo := op_isN
theorem op_isnt0 : OpR X (compareOp .IsNot) rIsntNo := op_notN
/-- a constant of the module: what the name holds -/
structure Kst (K : PySem.W.Frag) (mg : Str → Option Value) (x : Str) (d : D) : Prop where
  ex : ∃ (u : Value) (v : V), mg x = some u ∧ RelV v u ∧ ∀ H μ, Rp K H μ d v
def tKst (K : PySem.W.Frag) (d : D) : TE := fun _ H Q => ∀ v : V, (∀ H μ, Rp K H μ d v) → Q v H
theorem Kst.de {x : Str} {d : D} (c : Kst K X.mg x d) (hK : X.K = K := by rfl) (hg : Gl X x := by rfl) (hd : (x == ("__debug__" : Str)) = false := by decide) : DE K X (.Name x pos) (tKst K d) (cM d) := ⟨hK, by
  obtain ⟨u, v, h1, h2, h3⟩ := c.ex
  exact ⟨fun pins s σ H Q I q => (pe_glob hg h1 h2 hd).run pins s σ H Q I (q v h3)⟩, by
  intro Φ σ H μ sg h d h' S rs e Q k
  cases e
  exact fun v hv => k v H μ S Le.refl (hv H μ)⟩
theorem Kst.int {mg : Str → Option Value} {x : Str} {i : Int} (h : ∃ t, mg x = some (.int i t)) : Kst K mg x (.int i) := by
  obtain ⟨t, h⟩ := h
  exact ⟨_, .int i, h, ⟨t, rfl⟩, fun _ _ => rp_int⟩
theorem Kst.str {mg : Str → Option Value} {x : Str} {i : Str} (h : ∃ t, mg x = some (.str i t)) : Kst K mg x (.str i) := by
  obtain ⟨t, h⟩ := h
  exact ⟨_, .str i, h, ⟨t, rfl⟩, fun _ _ => rp_str⟩
end
end DL

namespace DL
open PySem L2
/-! ### what a run gives, told from its end -/
def Ev {α : Type} (r : Option (α × Hd)) (Q : α → Hd → Prop) : Prop := ∃ d h', r = some (d, h') ∧ Q d h'
def Rt {α : Type} (r : Option (α × Hd)) (d : α) (P : Hd → Prop) : Prop := ∃ h', r = some (d, h') ∧ P h'
section
variable {α : Type} {r : Option (α × Hd)} {Q : α → Hd → Prop} {d : α} {h h' : Hd} {P : Hd → Prop}
theorem ev_eq (e : r = some (d, h')) (q : Q d h') : Ev r Q := ⟨d, h', e, q⟩
theorem ev_of (a : Rt r d P) (q : ∀ h', P h' → Q d h') : Ev r Q := by
  obtain ⟨h', e, p⟩ := a
  exact ⟨d, h', e, q h' p⟩
theorem rt_of (a : Ev r fun d' h' => d' = d ∧ P h') : Rt r d P := by
  obtain ⟨d', h', e, rfl, p⟩ := a
  exact ⟨h', e, p⟩
theorem Ev.mono {R : α → Hd → Prop} (a : Ev r Q) (k : ∀ d h', Q d h' → R d h') : Ev r R := by
  obtain ⟨d', h', e, p⟩ := a
  exact ⟨d', h', e, k _ _ p⟩
theorem Rt.mono {R : Hd → Prop} (a : Rt r d P) (k : ∀ h', P h' → R h') : Rt r d R := by
  obtain ⟨h', e, p⟩ := a
  exact ⟨h', e, k _ p⟩
def Br (t : Bool) (A B : Prop) : Prop := (t = true → A) ∧ (t = false → B)
theorem br {t : Bool} {A B : Prop} (a : t = true → A) (b : t = false → B) : Br t A B := ⟨a, b⟩
theorem br_t {t : Bool} {A B : Prop} (e : t = true) (a : A) : Br t A B := ⟨fun _ => a, fun f => by rw [e] at f; cases f⟩
theorem br_f {t : Bool} {A B : Prop} (e : t = false) (b : B) : Br t A B := ⟨fun f => (by rw [e] at f; cases f), fun _ => b⟩
def TrK (h : Hd) (x : D) (A : Bool → Prop) : Prop := ∃ t, truD h x = some t ∧ A t
def BlK (x : D) (A : Bool → Prop) : Prop := ∃ t, x = .bl t ∧ A t
def ItK (x : D) (A : Int → Prop) : Prop := ∃ t, x = .int t ∧ A t
def P2K (xs : List D) (A : D → D → Prop) : Prop := ∃ x y, xs = [x, y] ∧ A x y
def P3K (xs : List D) (A : D → D → D → Prop) : Prop := ∃ x y z, xs = [x, y, z] ∧ A x y z
def M1K (k : Option Int) (A : Prop) : Prop := k = some (-1) ∧ A
def KdK (T : String) (h : Hd) (x : D) (A : Prop) : Prop := kindD T h x = true ∧ A
theorem tr_bl {h : Hd} {b : Bool} {A : Bool → Prop} (q : A b) : TrK h (.bl b) A := ⟨b, rfl, q⟩
theorem tr_int {h : Hd} {i : Int} {A : Bool → Prop} (q : A (i != 0)) : TrK h (.int i) A := ⟨_, rfl, q⟩
theorem tr_tup {h : Hd} {xs : List D} {A : Bool → Prop} (q : A (!xs.isEmpty)) : TrK h (.tup xs) A := ⟨_, rfl, q⟩
theorem tr_non {h : Hd} {A : Bool → Prop} (q : A false) : TrK h .non A := ⟨_, rfl, q⟩
theorem tr_str {h : Hd} {s : Str} {A : Bool → Prop} (l : s.length ≤ LN) (q : A ((s.length : Int) != 0)) : TrK h (.str s) A := ⟨_, by simp only [truD, if_pos l], q⟩
theorem tr_lst {h : Hd} {n : Nat} {xs : List D} {A : Bool → Prop} (e : h[n]? = some (.lst xs)) (q : A (!xs.isEmpty)) : TrK h (.at n) A := ⟨_, by simp only [truD, e], q⟩
theorem tr_dct {h : Hd} {n : Nat} {xs : List (Key × D)} {A : Bool → Prop} (e : h[n]? = some (.dct xs)) (q : A (!xs.isEmpty)) : TrK h (.at n) A := ⟨_, by simp only [truD, e], q⟩
theorem blk {b : Bool} {A : Bool → Prop} (q : A b) : BlK (.bl b) A := ⟨b, rfl, q⟩
theorem itk {b : Int} {A : Int → Prop} (q : A b) : ItK (.int b) A := ⟨b, rfl, q⟩
theorem p2k {x y : D} {A : D → D → Prop} (q : A x y) : P2K [x, y] A := ⟨x, y, rfl, q⟩
theorem p3k {x y z : D} {A : D → D → D → Prop} (q : A x y z) : P3K [x, y, z] A := ⟨x, y, z, rfl, q⟩
theorem m1k {A : Prop} (q : A) : M1K (some (-1)) A := ⟨rfl, q⟩
theorem kd_lst {h : Hd} {n : Nat} {ws : List D} {A : Prop} (e : h[n]? = some (.lst ws)) (q : A) : KdK "list" h (.at n) A := ⟨by
  unfold kindD
  simp [e], q⟩
theorem br_tt {A B : Prop} (a : A) : Br true A B := br_t rfl a
theorem br_ff {A B : Prop} (b : B) : Br false A B := br_f rfl b
end
section
variable {sg : Sg} {h : Hd} {Q : D → Hd → Prop} {a b c : ME} {g g' : G2}
theorem ev_var {i : Nat} {d : D} (e : sg[i]? = some (some d)) (q : Q d h) : Ev (varM i sg h) Q := ⟨d, h, by simp only [varM, e], q⟩
theorem ev_c {d : D} (q : Q d h) : Ev (cM d sg h) Q := ⟨d, h, rfl, q⟩
theorem ev_op (q : Ev (a sg h) fun x h1 => Ev (b sg h1) fun y h2 => Ev (g x y h2) Q) : Ev (opM g a b sg h) Q := by
  obtain ⟨x, h1, e1, y, h2, e2, d, h3, e3, q⟩ := q
  exact ⟨d, h3, by simp only [opM, e1, e2, e3], q⟩
theorem ev_chain (q : Ev (a sg h) fun x h1 => Ev (b sg h1) fun y h2 => Ev (g x y h2) fun d h3 => BlK d fun t => Br t (Ev (c sg h3) fun z h4 => Ev (g' y z h4) Q) (Q (.bl false) h3)) : Ev (chainM g g' a b c sg h) Q := by
  obtain ⟨x, h1, e1, y, h2, e2, d, h3, e3, t, rfl, q1, q2⟩ := q
  cases t with
  | true =>
    obtain ⟨z, h4, e4, d, h5, e5, q⟩ := q1 rfl
    exact ⟨d, h5, by simp only [chainM, e1, e2, e3, e4, e5], q⟩
  | false => exact ⟨_, _, by simp only [chainM, e1, e2, e3], q2 rfl⟩
theorem ev_neg (q : Ev (a sg h) fun x h1 => ItK x fun i => Q (.int (-i)) h1) : Ev (negM a sg h) Q := by
  obtain ⟨x, h1, e1, i, rfl, q⟩ := q
  exact ⟨_, h1, by simp only [negM, e1], q⟩
theorem ev_and (q : Ev (a sg h) fun x h1 => TrK h1 x fun t => Br t (Ev (b sg h1) Q) (Q x h1)) : Ev (DL.andM a b sg h) Q := by
  obtain ⟨x, h1, e1, t, e2, q1, q2⟩ := q
  cases t with
  | true =>
    obtain ⟨d, h2, e3, q⟩ := q1 rfl
    exact ⟨d, h2, by simp only [DL.andM, e1, e2, e3], q⟩
  | false => exact ⟨x, h1, by simp only [DL.andM, e1, e2], q2 rfl⟩
theorem ev_or (q : Ev (a sg h) fun x h1 => TrK h1 x fun t => Br t (Q x h1) (Ev (b sg h1) Q)) : Ev (DL.orM a b sg h) Q := by
  obtain ⟨x, h1, e1, t, e2, q1, q2⟩ := q
  cases t with
  | false =>
    obtain ⟨d, h2, e3, q⟩ := q2 rfl
    exact ⟨d, h2, by simp only [DL.orM, e1, e2, e3], q⟩
  | true => exact ⟨x, h1, by simp only [DL.orM, e1, e2], q1 rfl⟩
theorem ev_not (q : Ev (a sg h) fun x h1 => TrK h1 x fun t => Q (.bl (!t)) h1) : Ev (DL.notM a sg h) Q := by
  obtain ⟨x, h1, e1, t, e2, q⟩ := q
  exact ⟨_, h1, by simp only [DL.notM, e1, e2], q⟩
theorem ev_ifE {t : MT} (q : Ev (t sg h) fun b0 h1 => Br b0 (Ev (a sg h1) Q) (Ev (b sg h1) Q)) : Ev (ifM t a b sg h) Q := by
  obtain ⟨x, h1, e1, q1, q2⟩ := q
  cases x with
  | true =>
    obtain ⟨d, h2, e3, q⟩ := q1 rfl
    exact ⟨d, h2, by simp only [ifM, e1, e3], q⟩
  | false =>
    obtain ⟨d, h2, e3, q⟩ := q2 rfl
    exact ⟨d, h2, by simp only [ifM, e1, e3], q⟩
end
section
variable {sg : Sg} {h : Hd} {Q : Bool → Hd → Prop} {a : ME} {s t : MT}
theorem ev_test (q : Ev (a sg h) fun x h1 => BlK x fun b => Q b h1) : Ev (testM a sg h) Q := by
  obtain ⟨x, h1, e1, b, rfl, q⟩ := q
  exact ⟨b, h1, by simp only [testM, e1], q⟩
theorem ev_tru (q : Ev (a sg h) fun x h1 => TrK h1 x fun b => Q b h1) : Ev (truM a sg h) Q := by
  obtain ⟨x, h1, e1, b, e2, q⟩ := q
  exact ⟨b, h1, by simp only [truM, e1, e2], q⟩
theorem ev_tand (q : Ev (s sg h) fun b h1 => Br b (Ev (t sg h1) Q) (Q false h1)) : Ev (tandM s t sg h) Q := by
  obtain ⟨x, h1, e1, q1, q2⟩ := q
  cases x with
  | true =>
    obtain ⟨d, h2, e3, q⟩ := q1 rfl
    exact ⟨d, h2, by simp only [tandM, e1, e3], q⟩
  | false => exact ⟨false, h1, by simp only [tandM, e1], q2 rfl⟩
theorem ev_tor (q : Ev (s sg h) fun b h1 => Br b (Q true h1) (Ev (t sg h1) Q)) : Ev (torM s t sg h) Q := by
  obtain ⟨x, h1, e1, q1, q2⟩ := q
  cases x with
  | false =>
    obtain ⟨d, h2, e3, q⟩ := q2 rfl
    exact ⟨d, h2, by simp only [torM, e1, e3], q⟩
  | true => exact ⟨true, h1, by simp only [torM, e1], q1 rfl⟩
theorem ev_tnot (q : Ev (s sg h) fun b h1 => Q (!b) h1) : Ev (tnotM s sg h) Q := by
  obtain ⟨x, h1, e1, q⟩ := q
  exact ⟨_, h1, by simp only [tnotM, e1], q⟩
theorem ev_yes (q : Q true h) : Ev (yesM sg h) Q := ⟨_, _, rfl, q⟩
end
section
variable {sg : Sg} {h : Hd} {Q : List D → Hd → Prop} {a : ME} {b : MA}
theorem ev_nil (q : Q [] h) : Ev (nilM sg h) Q := ⟨_, _, rfl, q⟩
theorem ev_cons (q : Ev (a sg h) fun x h1 => Ev (b sg h1) fun xs h2 => Q (x :: xs) h2) : Ev (consM a b sg h) Q := by
  obtain ⟨x, h1, e1, xs, h2, e2, q⟩ := q
  exact ⟨_, _, by simp only [consM, e1, e2], q⟩
end
section
variable {sg : Sg} {h : Hd} {Q : D → Hd → Prop} {a o : ME} {b : MA} {lo hi st : MO} {g : GC} {gm : GM}
def LnK (n : Nat) (A : Prop) : Prop := n ≤ LN ∧ A
theorem ln_k {n : Nat} {A : Prop} (e : n ≤ LN) (q : A) : LnK n A := ⟨e, q⟩
theorem ev_tup (q : Ev (b sg h) fun xs h1 => LnK xs.length (Q (.tup xs) h1)) : Ev (tupM b sg h) Q := by
  obtain ⟨xs, h1, e1, l, q⟩ := q
  exact ⟨_, h1, by simp only [tupM, e1, if_pos l], q⟩
theorem ev_lst (q : Ev (b sg h) fun xs h1 => LnK xs.length (Q (.at h1.length) (h1 ++ [.lst xs]))) : Ev (lstM b sg h) Q := by
  obtain ⟨xs, h1, e1, l, q⟩ := q
  exact ⟨_, _, by simp only [lstM, e1, if_pos l], q⟩
theorem ev_dnew (q : Q (.at h.length) (h ++ [.dct []])) : Ev (dnewM sg h) Q := ⟨_, _, rfl, q⟩
theorem ev_cb (q : Ev (b sg h) fun xs h1 => Ev (g xs h1) Q) : Ev (cbM g b sg h) Q := by
  obtain ⟨xs, h1, e1, d, h2, e2, q⟩ := q
  exact ⟨_, _, by simp only [cbM, e1, e2], q⟩
theorem ev_bm {T : String} (q : Ev (o sg h) fun x h1 => KdK T h1 x <| Ev (b sg h1) fun xs h2 => Ev (gm x xs h2) Q) : Ev (bmM T gm o b sg h) Q := by
  obtain ⟨x, h1, e1, k, xs, h2, e2, d, h3, e3, q⟩ := q
  exact ⟨_, _, by simp only [bmM, e1, if_pos k, e2, e3], q⟩
theorem ev_no {Q : Option Int → Hd → Prop} (q : Q none h) : Ev (noM sg h) Q := ⟨_, _, rfl, q⟩
theorem ev_part {Q : Option Int → Hd → Prop} (q : Ev (a sg h) fun x h1 => ItK x fun i => Q (some i) h1) : Ev (partM a sg h) Q := by
  obtain ⟨x, h1, e1, i, rfl, q⟩ := q
  exact ⟨_, h1, by simp only [partM, e1], q⟩
theorem ev_sl (q : Ev (a sg h) fun x h1 => Ev (lo sg h1) fun l h2 => Ev (hi sg h2) fun u h3 => Ev (sliceD x l u h3) Q) : Ev (slM a lo hi sg h) Q := by
  obtain ⟨x, h1, e1, l, h2, e2, u, h3, e3, d, h4, e4, q⟩ := q
  exact ⟨_, _, by simp only [slM, e1, e2, e3, e4], q⟩
theorem ev_back (q : Ev (a sg h) fun x h1 => Ev (hi sg h1) fun u h2 => Ev (st sg h2) fun k h3 => M1K k <| Ev (backD x u h3) Q) : Ev (backM a hi st sg h) Q := by
  obtain ⟨x, h1, e1, l, h2, e2, u, h3, e3, rfl, d, h4, e4, q⟩ := q
  exact ⟨_, _, by simp only [backM, e1, e2, e3, if_true, e4], q⟩
def ClK (n : Nat) (m : GC) (xs : List D) (h : Hd) (Q : D → Hd → Prop) : Prop := xs.length = n ∧ Ev (m xs h) Q
theorem cl_k {n : Nat} {m : GC} {xs : List D} (e : xs.length = n) (q : Ev (m xs h) Q) : ClK n m xs h Q := ⟨e, q⟩
theorem ev_call {n : Nat} {m : GC} {dd : List D} (q : Ev (b sg h) fun xs h1 => ClK n m (xs ++ dd) h1 Q) : Ev (callM n m dd b sg h) Q := by
  obtain ⟨xs, h1, e1, l, d, h2, e2, q⟩ := q
  exact ⟨_, _, by simp only [callM, e1, if_pos l, e2], q⟩
end
section
variable {sg : Sg} {h : Hd} {Q : Fl → Hd → Prop} {a o i : ME} {m n : MS} {g : MG} {t : MT}
theorem ev_pass (q : Q (.nx sg) h) : Ev (passM sg h) Q := ⟨_, _, rfl, q⟩
theorem ev_brk (q : Q (.bk sg) h) : Ev (brkM sg h) Q := ⟨_, _, rfl, q⟩
theorem ev_cnt (q : Q (.ct sg) h) : Ev (cntM sg h) Q := ⟨_, _, rfl, q⟩
theorem ev_expr (q : Ev (a sg h) fun _ h1 => Q (.nx sg) h1) : Ev (exprM a sg h) Q := by
  obtain ⟨x, h1, e1, q⟩ := q
  exact ⟨_, _, by simp only [exprM, e1], q⟩
theorem ev_ret (q : Ev (a sg h) fun d h1 => Q (.rt d) h1) : Ev (retM a sg h) Q := by
  obtain ⟨x, h1, e1, q⟩ := q
  exact ⟨_, _, by simp only [retM, e1], q⟩
theorem ev_asg (q : Ev (a sg h) fun d h1 => Ev (g d sg h1) fun sg' h2 => Q (.nx sg') h2) : Ev (asgM a g sg h) Q := by
  obtain ⟨x, h1, e1, sg', h2, e2, q⟩ := q
  exact ⟨_, _, by simp only [asgM, e1, e2], q⟩
def SqK (n : MS) (Q : Fl → Hd → Prop) : Fl → Hd → Prop
  | .nx sg, h => Ev (n sg h) Q
  | f, h => Q f h
theorem sq_nx (q : Ev (n sg h) Q) : SqK n Q (.nx sg) h := q
theorem sq_rt {d : D} (q : Q (.rt d) h) : SqK n Q (.rt d) h := q
theorem sq_bk (q : Q (.bk sg) h) : SqK n Q (.bk sg) h := q
theorem sq_ct (q : Q (.ct sg) h) : SqK n Q (.ct sg) h := q
theorem ev_seq (q : Ev (m sg h) fun f h1 => SqK n Q f h1) : Ev (seqM m n sg h) Q := by
  obtain ⟨f, h1, e1, q⟩ := q
  cases f with
  | nx sg1 =>
    obtain ⟨f2, h2, e2, q⟩ := q
    exact ⟨_, _, by simp only [seqM, e1, e2], q⟩
  | rt d => exact ⟨_, _, by simp only [seqM, e1], q⟩
  | bk d => exact ⟨_, _, by simp only [seqM, e1], q⟩
  | ct d => exact ⟨_, _, by simp only [seqM, e1], q⟩
theorem ev_ifS (q : Ev (t sg h) fun b0 h1 => Br b0 (Ev (m sg h1) Q) (Ev (n sg h1) Q)) : Ev (ifSM t m n sg h) Q := by
  obtain ⟨x, h1, e1, q1, q2⟩ := q
  cases x with
  | true =>
    obtain ⟨d, h2, e3, q⟩ := q1 rfl
    exact ⟨d, h2, by simp only [ifSM, e1, e3], q⟩
  | false =>
    obtain ⟨d, h2, e3, q⟩ := q2 rfl
    exact ⟨d, h2, by simp only [ifSM, e1, e3], q⟩
theorem ev_aug {i : Nat} {g : G2} {x : D} (e : sg[i]? = some (some x)) (q : Ev (a sg h) fun y h1 => Ev (g x y h1) fun z h2 => Q (.nx (sg.set i (some z))) h2) : Ev (augM i g a sg h) Q := by
  obtain ⟨y, h1, e1, z, h2, e2, q⟩ := q
  exact ⟨_, _, by simp only [augM, e, e1, e2], q⟩
theorem ev_par {i j : Nat} {b : MA} (q : Ev (b sg h) fun xs h1 => P2K xs fun x y => Q (.nx ((sg.set i (some x)).set j (some y))) h1) : Ev (parM i j b sg h) Q := by
  obtain ⟨xs, h1, e1, x, y, rfl, q⟩ := q
  exact ⟨_, _, by simp only [parM, e1], q⟩
theorem ev_par3 {i j l : Nat} {b : MA} (q : Ev (b sg h) fun xs h1 => P3K xs fun x y z => Q (.nx (((sg.set i (some x)).set j (some y)).set l (some z))) h1) : Ev (par3M i j l b sg h) Q := by
  obtain ⟨xs, h1, e1, x, y, z, rfl, q⟩ := q
  exact ⟨_, _, by simp only [par3M, e1], q⟩
theorem ev_setL {v : ME} {Q : Fl → Hd → Prop} (q : Ev (v sg h) fun z h1 => Ev (o sg h1) fun x h2 => Ev (i sg h2) fun y h3 => ∃ n xs j p, x = .at n ∧ h3[n]? = some (.lst xs) ∧ y = .int j ∧ ixN xs.length j = some p ∧ Q (.nx sg) (h3.set n (.lst (xs.set p z)))) : Ev (setD o i v sg h) Q := by
  obtain ⟨z, h1, e1, x, h2, e2, y, h3, e3, n, xs, j, p, rfl, e4, rfl, e5, q⟩ := q
  exact ⟨_, _, by simp only [setD, e1, e2, e3, e4, e5], q⟩
theorem ev_setK {v : ME} {Q : Fl → Hd → Prop} (q : Ev (v sg h) fun z h1 => Ev (o sg h1) fun x h2 => Ev (i sg h2) fun y h3 => ∃ n kvs k, x = .at n ∧ h3[n]? = some (.dct kvs) ∧ keyD y = some k ∧ kvs.length < LN ∧ Q (.nx sg) (h3.set n (.dct (putD kvs k z)))) : Ev (setD o i v sg h) Q := by
  obtain ⟨z, h1, e1, x, h2, e2, y, h3, e3, n, kvs, k, rfl, e4, e5, l, q⟩ := q
  exact ⟨_, _, by simp only [setD, e1, e2, e3, e4, e5, if_pos l], q⟩
theorem ev_get2 {a b : ME} {Q : D → Hd → Prop} (q : Ev (o sg h) fun x h1 => ∃ n, x = .at n ∧ isDct h1 (.at n) = true ∧ Ev (a sg h1) fun y h2 => Ev (b sg h2) fun z h3 => ∃ kvs k, h3[n]? = some (.dct kvs) ∧ keyD y = some k ∧ Q ((valD kvs k).getD z) h3) : Ev (getD2 o a b sg h) Q := by
  obtain ⟨x, h1, e1, n, rfl, k0, y, h2, e2, z, h3, e3, kvs, k, e4, e5, q⟩ := q
  exact ⟨_, _, by simp only [getD2, e1, if_pos k0, e2, e3, e4, e5], q⟩
end
section
variable {sg : Sg} {h : Hd} {Q : Sg → Hd → Prop}
theorem ev_name {i : Nat} {d : D} (q : Q (sg.set i (some d)) h) : Ev (nameG i d sg h) Q := ⟨_, _, rfl, q⟩
theorem ev_nilG (q : Q sg h) : Ev (nilG [] sg h) Q := ⟨_, _, rfl, q⟩
theorem ev_consG {a : MG} {b : MGs} {d : D} {ds : List D} (q : Ev (a d sg h) fun sg1 h1 => Ev (b ds sg1 h1) Q) : Ev (consG a b (d :: ds) sg h) Q := by
  obtain ⟨sg1, h1, e1, sg2, h2, e2, q⟩ := q
  exact ⟨_, _, by simp only [consG, e1, e2], q⟩
theorem ev_tupG {n : Nat} {a : MGs} {xs : List D} (l : xs.length = n) (q : Ev (a xs sg h) Q) : Ev (tupG n a (.tup xs) sg h) Q := by
  obtain ⟨sg1, h1, e1, q⟩ := q
  exact ⟨_, _, by simp only [tupG, if_pos l, e1], q⟩
end
section
variable {h : Hd} {Q : D → Hd → Prop} {ms : MS} {n : Nat} {ds : List D}
def BdK (Q : D → Hd → Prop) : Fl → Hd → Prop
  | .nx _, h => Q .non h
  | .rt d, h => Q d h
  | _, _ => False
theorem bd_nx {sg : Sg} (q : Q .non h) : BdK Q (.nx sg) h := q
theorem bd_rt {d : D} (q : Q d h) : BdK Q (.rt d) h := q
theorem ev_body (q : Ev (ms (startD n ds) h) (BdK Q)) : Ev (bodyM n ms ds h) Q := by
  obtain ⟨f, h1, e1, q⟩ := q
  cases f with
  | nx sg => exact ⟨_, _, by simp only [bodyM, e1], q⟩
  | rt d => exact ⟨_, _, by simp only [bodyM, e1], q⟩
  | bk sg => exact q.elim
  | ct sg => exact q.elim
end
/-! ### sources -/
section
variable {sg : Sg} {h : Hd} {Q : Src → Hd → Prop} {a : ME} {b : MA}
def sqS (x : D) (h : Hd) : Option (Src × Hd) := match x with
  | .tup xs => some (.fix xs, h)
  | .rol xs => some (.fix xs, h)
  | .at n => match h[n]? with
    | some (.lst _) => some (.obj n, h)
    | _ => none
  | .str s => some (.fix (s.cps.toList.map fun c => .str ⟨⟨[c]⟩⟩), h)
  | _ => none
theorem ev_seqI (q : Ev (a sg h) fun x h1 => Ev (sqS x h1) Q) : Ev (seqI a sg h) Q := by
  obtain ⟨x, h1, e1, s, h2, e2, q⟩ := q
  refine ⟨s, h2, ?_, q⟩
  rw [← e2]
  simp only [seqI, e1, sqS]
  cases x <;> rfl
theorem ev_rngI (q : Ev (b sg h) fun xs h1 => ∃ j, xs = [.int j] ∧ (-(2 ^ 62) ≤ j ∧ j < 2 ^ 62) ∧ Q (rngD 0 j.toNat) h1) : Ev (rngI b sg h) Q := by
  obtain ⟨xs, h1, e1, j, rfl, c, q⟩ := q
  exact ⟨_, _, by simp only [rngI, e1, if_pos c], q⟩
theorem ev_enuI (q : Ev (b sg h) fun xs h1 => ∃ n ys, xs = [.at n] ∧ h1[n]? = some (.lst ys) ∧ Q (.enu [] (some n)) h1) : Ev (enuI b sg h) Q := by
  obtain ⟨xs, h1, e1, n, ys, rfl, e2, q⟩ := q
  exact ⟨_, _, by simp only [enuI, e1, e2], q⟩
end
/-! ### loops -/
def LpK (Q : Fl → Hd → Prop) (I : Sg → Hd → Prop) : Fl → Hd → Prop
  | .nx sg, h => I sg h
  | .ct sg, h => I sg h
  | .bk sg, h => Q (.nx sg) h
  | .rt d, h => Q (.rt d) h
theorem lp_nx {Q : Fl → Hd → Prop} {I : Sg → Hd → Prop} {sg : Sg} {h : Hd} (q : I sg h) : LpK Q I (.nx sg) h := q
theorem lp_ct {Q : Fl → Hd → Prop} {I : Sg → Hd → Prop} {sg : Sg} {h : Hd} (q : I sg h) : LpK Q I (.ct sg) h := q
theorem lp_bk {Q : Fl → Hd → Prop} {I : Sg → Hd → Prop} {sg : Sg} {h : Hd} (q : Q (.nx sg) h) : LpK Q I (.bk sg) h := q
theorem lp_rt {Q : Fl → Hd → Prop} {I : Sg → Hd → Prop} {d : D} {h : Hd} (q : Q (.rt d) h) : LpK Q I (.rt d) h := q
theorem ev_while {c : MT} {b : MS} {Q : Fl → Hd → Prop} (I : Nat → Sg → Hd → Prop)
    (step : ∀ n sg h, I n sg h → Ev (c sg h) fun t h1 => Br t (Ev (b sg h1) (LpK Q fun sg2 h2 => ∃ m, m < n ∧ I m sg2 h2)) (Q (.nx sg) h1)) :
    ∀ (N n : Nat) (sg : Sg) (h : Hd), I n sg h → n < N → Ev (whileM c b N sg h) Q
  | 0, n, sg, h, i, l => by omega
  | N + 1, n, sg, h, i, l => by
    obtain ⟨t, h1, e1, q1, q2⟩ := step n sg h i
    cases t with
    | false => exact ⟨_, _, by simp only [whileM, e1], q2 rfl⟩
    | true =>
      obtain ⟨f, h2, e2, q⟩ := q1 rfl
      cases f with
      | nx sg2 =>
        obtain ⟨m, hm, i2⟩ := q
        obtain ⟨f3, h3, e3, q3⟩ := ev_while I step N m sg2 h2 i2 (by omega)
        exact ⟨_, _, by simp only [whileM, e1, e2, e3], q3⟩
      | ct sg2 =>
        obtain ⟨m, hm, i2⟩ := q
        obtain ⟨f3, h3, e3, q3⟩ := ev_while I step N m sg2 h2 i2 (by omega)
        exact ⟨_, _, by simp only [whileM, e1, e2, e3], q3⟩
      | bk sg2 => exact ⟨_, _, by simp only [whileM, e1, e2], q⟩
      | rt d => exact ⟨_, _, by simp only [whileM, e1, e2], q⟩
/-- what a source yields, for as long as I holds -/
def Yields (s : Src) (xs : List D) (h : Hd) : Prop := ∀ i, s.nxt h i = some xs[i]?
theorem yl_fix {xs : List D} {h : Hd} : Yields (.fix xs) xs h := fun i => rfl
theorem yl_obj {xs : List D} {n : Nat} {h : Hd} (e : h[n]? = some (.lst xs)) : Yields (.obj n) xs h := fun i => by simp only [Src.nxt, e]
def enuL (xs : List D) : List D := xs.mapIdx fun i d => .tup [.int (i : Nat), d]
theorem yl_enu {xs : List D} {n : Nat} {h : Hd} (e : h[n]? = some (.lst xs)) : Yields (.enu [] (some n)) (enuL xs) h := fun i => by
  simp only [Src.nxt, e, enuL, List.getElem?_mapIdx]
theorem ev_forM {s : Src} {g : MG} {b : MS} {Q : Fl → Hd → Prop} {xs : List D} (I : List D → Sg → Hd → Prop)
    (hy : ∀ as sg h, I as sg h → Yields s xs h)
    (step : ∀ as x bs sg h, xs = as ++ x :: bs → I as sg h → Ev (g x sg h) fun sg1 h1 => Ev (b sg1 h1) (LpK Q (I (as ++ [x]))))
    (fin : ∀ sg h, I xs sg h → Q (.nx sg) h) :
    ∀ (N : Nat) (as bs : List D) (sg : Sg) (h : Hd), xs = as ++ bs → I as sg h → bs.length < N → Ev (forM s g b N as.length sg h) Q
  | 0, as, bs, sg, h, e, i, l => by omega
  | N + 1, as, [], sg, h, e, i, l => by
    have hn := hy as sg h i as.length
    rw [List.append_nil] at e
    subst e
    rw [List.getElem?_eq_none (Nat.le_refl _)] at hn
    exact ⟨_, _, by simp only [forM, hn], fin _ _ i⟩
  | N + 1, as, x :: bs, sg, h, e, i, l => by
    have hn := hy as sg h i as.length
    have hx : xs[as.length]? = some x := by
      rw [e]
      simp
    rw [hx] at hn
    obtain ⟨sg1, h1, e1, f, h2, e2, q⟩ := step as x bs sg h e i
    have e' : xs = (as ++ [x]) ++ bs := by simp [e]
    have hlen : (as ++ [x]).length = as.length + 1 := by simp
    simp only [List.length_cons] at l
    cases f with
    | nx sg2 =>
      have ih := ev_forM I hy step fin N (as ++ [x]) bs sg2 h2 e' q (by omega)
      rw [hlen] at ih
      obtain ⟨f3, h3, e3, q3⟩ := ih
      exact ⟨_, _, by simp only [forM, hn, e1, e2, e3], q3⟩
    | ct sg2 =>
      have ih := ev_forM I hy step fin N (as ++ [x]) bs sg2 h2 e' q (by omega)
      rw [hlen] at ih
      obtain ⟨f3, h3, e3, q3⟩ := ih
      exact ⟨_, _, by simp only [forM, hn, e1, e2, e3], q3⟩
    | bk sg2 => exact ⟨_, _, by simp only [forM, hn, e1, e2], q⟩
    | rt d => exact ⟨_, _, by simp only [forM, hn, e1, e2], q⟩
theorem ev_forS {it : MI} {g : MG} {b : MS} {N : Nat} {sg : Sg} {h : Hd} {Q : Fl → Hd → Prop} (q : Ev (it sg h) fun s h1 => Ev (forM s g b N 0 sg h1) Q) : Ev (forSM it g b N sg h) Q := by
  obtain ⟨s, h1, e1, f, h2, e2, q⟩ := q
  exact ⟨_, _, by simp only [forSM, e1, e2], q⟩
theorem ev_for {s : Src} {g : MG} {b : MS} {Q : Fl → Hd → Prop} {xs : List D} {N : Nat} {sg : Sg} {h : Hd} (I : List D → Sg → Hd → Prop) (i : I [] sg h) (l : xs.length < N)
    (hy : ∀ as sg h, I as sg h → Yields s xs h)
    (step : ∀ as x bs sg h, xs = as ++ x :: bs → I as sg h → Ev (g x sg h) fun sg1 h1 => Ev (b sg1 h1) (LpK Q (I (as ++ [x]))))
    (fin : ∀ sg h, I xs sg h → Q (.nx sg) h) : Ev (forM s g b N 0 sg h) Q := ev_forM I hy step fin N [] xs sg h rfl i l
/-! ### comprehensions -/
theorem ev_lcM' {s : Src} {g : MG} {c : MT} {a : ME} {D0 : Nat} {sg0 : Sg} {xs : List D} (I : List D → List D → Hd → Prop)
    (hy : ∀ as ys h, I as ys h → h[D0]? = some (.lst ys) → Yields s xs h)
    (step : ∀ as x bs ys h, xs = as ++ x :: bs → I as ys h → h[D0]? = some (.lst ys) → Ev (g x sg0 h) fun sg1 h1 => Ev (c sg1 h1) fun t h2 => Br t (Ev (a sg1 h2) fun y h3 => h3[D0]? = some (.lst ys) ∧ I (as ++ [x]) (ys ++ [y]) (h3.set D0 (.lst (ys ++ [y])))) (h2[D0]? = some (.lst ys) ∧ I (as ++ [x]) ys h2)) :
    ∀ (N : Nat) (as bs ys : List D) (h : Hd), xs = as ++ bs → I as ys h → h[D0]? = some (.lst ys) → bs.length < N → ys.length + bs.length ≤ LN →
      ∃ h' zs, lcM' s g c a D0 sg0 N as.length h = some h' ∧ h'[D0]? = some (.lst zs) ∧ I xs zs h'
  | 0, as, bs, ys, h, e, i, d, l, l2 => by omega
  | N + 1, as, [], ys, h, e, i, d, l, l2 => by
    have hn := hy as ys h i d as.length
    rw [List.append_nil] at e
    subst e
    rw [List.getElem?_eq_none (Nat.le_refl _)] at hn
    exact ⟨h, ys, by simp only [lcM', hn], d, i⟩
  | N + 1, as, x :: bs, ys, h, e, i, d, l, l2 => by
    have hn := hy as ys h i d as.length
    have hx : xs[as.length]? = some x := by
      rw [e]
      simp
    rw [hx] at hn
    obtain ⟨sg1, h1, e1, t, h2, e2, q1, q2⟩ := step as x bs ys h e i d
    have e' : xs = (as ++ [x]) ++ bs := by simp [e]
    have hlen : (as ++ [x]).length = as.length + 1 := by simp
    simp only [List.length_cons] at l l2
    cases t with
    | true =>
      obtain ⟨y, h3, e3, d3, i3⟩ := q1 rfl
      have d4 : (h3.set D0 (O.lst (ys ++ [y])))[D0]? = some (.lst (ys ++ [y])) := by rw [List.getElem?_set_self (List.getElem?_eq_some_iff.mp d3).1]
      obtain ⟨h', zs, e4, q⟩ := ev_lcM' I hy step N (as ++ [x]) bs (ys ++ [y]) _ e' i3 d4 (by omega) (by simp; omega)
      rw [hlen] at e4
      exact ⟨h', zs, by simp only [lcM', hn, e1, e2, e3, d3]; rw [if_pos (by show _ < 16777216; have : LN = 16777216 := rfl; omega)]; exact e4, q⟩
    | false =>
      obtain ⟨d3, i3⟩ := q2 rfl
      obtain ⟨h', zs, e4, q⟩ := ev_lcM' I hy step N (as ++ [x]) bs ys _ e' i3 d3 (by omega) (by omega)
      rw [hlen] at e4
      exact ⟨h', zs, by simp only [lcM', hn, e1, e2]; exact e4, q⟩
theorem ev_lc {it : MI} {g : MG} {c : MT} {a : ME} {vs : List Nat} {N : Nat} {sg : Sg} {h : Hd} {Q : D → Hd → Prop}
    (q : Ev (it sg h) fun s h1 => ∃ (xs : List D) (I : List D → List D → Hd → Prop), xs.length < N ∧ xs.length ≤ LN ∧ I [] [] (h1 ++ [.lst []]) ∧
      (∀ as ys h, I as ys h → h[h1.length]? = some (.lst ys) → Yields s xs h) ∧
      (∀ as x bs ys h, xs = as ++ x :: bs → I as ys h → h[h1.length]? = some (.lst ys) → Ev (g x (wipeD sg vs) h) fun sg1 h1' => Ev (c sg1 h1') fun t h2 => Br t (Ev (a sg1 h2) fun y h3 => h3[h1.length]? = some (.lst ys) ∧ I (as ++ [x]) (ys ++ [y]) (h3.set h1.length (.lst (ys ++ [y])))) (h2[h1.length]? = some (.lst ys) ∧ I (as ++ [x]) ys h2)) ∧
      (∀ zs h', h'[h1.length]? = some (.lst zs) → I xs zs h' → Q (.at h1.length) h')) : Ev (lcM it g c a vs N sg h) Q := by
  obtain ⟨s, h1, e1, xs, I, l1, l2, i0, hy, st, fin⟩ := q
  obtain ⟨h', zs, e2, d, i⟩ := ev_lcM' I hy st N [] xs [] _ rfl i0 (by simp) l1 (by simpa using l2)
  exact ⟨_, _, by simp only [lcM, e1]; rw [show (0 : Nat) = ([] : List D).length from rfl, e2], fin zs h' d i⟩
/-! ### kinds of built-in things -/
theorem kb1 : kitB "tuple" "int" = some false := by decide +kernel
theorem kb2 : kitB "int" "int" = some true := by decide +kernel
theorem kb3 : kitB "str" "int" = some false := by decide +kernel
theorem kb4 : kitB "bool" "int" = some true := by decide +kernel
theorem kb5 : kitB "tuple" "bool" = some false := by decide +kernel
theorem kb6 : kitB "int" "bool" = some false := by decide +kernel
theorem kb7 : kitB "str" "bool" = some false := by decide +kernel
theorem kb8 : kitB "bool" "bool" = some true := by decide +kernel
theorem kb9 : kitB "tuple" "tuple" = some true := by decide +kernel
theorem kb10 : kitB "int" "tuple" = some false := by decide +kernel
theorem kb11 : kitB "str" "tuple" = some false := by decide +kernel
theorem kb12 : kitB "bool" "tuple" = some false := by decide +kernel
theorem kb13 : kitB "tuple" "str" = some false := by decide +kernel
theorem kb14 : kitB "int" "str" = some false := by decide +kernel
theorem kb15 : kitB "str" "str" = some true := by decide +kernel
theorem kb16 : kitB "bool" "str" = some false := by decide +kernel
theorem kbN1 : kitB "NoneType" "int" = some false := by decide +kernel
theorem kbN2 : kitB "NoneType" "bool" = some false := by decide +kernel
theorem kbN3 : kitB "NoneType" "tuple" = some false := by decide +kernel
theorem kbN4 : kitB "NoneType" "str" = some false := by decide +kernel
theorem eq_ii (i j : Int) (h : Hd) : eqD (.int i) (.int j) h = some (.bl (decide (i = j)), h) := by
  unfold eqD datD
  simp only [toP, PyData.canLay0, PyData.depth, PyData.eqv, true_and, Nat.min_self, Nat.zero_le, if_true]
  rw [Bool.beq_eq_decide_eq]
theorem ne_ii (i j : Int) (h : Hd) : neD (.int i) (.int j) h = some (.bl (!decide (i = j)), h) := by
  unfold neD datD
  simp only [toP, PyData.canLay0, PyData.depth, PyData.eqv, true_and, Nat.min_self, Nat.zero_le, if_true]
  rw [Bool.beq_eq_decide_eq]
/-! ### what the built-in things give -/
section
variable {h : Hd} {Q : D → Hd → Prop} {i j : Int} {s : Str} {xs ys zs ws : List D} {n m : Nat} {d : D}
theorem lf_isi {x : D} {k T : String} {b : Bool} (e1 : kdD h x = some k) (e2 : kitB k T = some b) (q : Q (.bl b) h) : Ev (isiD [x, .ty T] h) Q := ⟨_, _, by simp only [isiD, e1, e2], q⟩
theorem lf_addI (q : Q (.int (i + j)) h) : Ev (addD (.int i) (.int j) h) Q := ⟨_, _, rfl, q⟩
theorem lf_addT (l : xs.length + ys.length ≤ LN) (q : Q (.tup (xs ++ ys)) h) : Ev (addD (.tup xs) (.tup ys) h) Q := ⟨_, _, by simp only [addD, if_pos l], q⟩
theorem lf_addL (e1 : h[n]? = some (.lst xs)) (e2 : h[m]? = some (.lst ys)) (l : xs.length + ys.length ≤ LN) (q : Q (.at h.length) (h ++ [.lst (xs ++ ys)])) : Ev (addD (.at n) (.at m) h) Q := ⟨_, _, by simp only [addD, e1, e2, if_pos l], q⟩
theorem lf_addIDI (q : Q (.int (i + j)) h) : Ev (addID (.int i) (.int j) h) Q := ⟨_, _, by simp [addID], q⟩
theorem lf_subI (q : Q (.int (i - j)) h) : Ev (subD (.int i) (.int j) h) Q := ⟨_, _, rfl, q⟩
theorem lf_mulI (c : (-(2 ^ 64) < i ∧ i < 2 ^ 64) ∨ (-(2 ^ 64) < j ∧ j < 2 ^ 64) ∨ i.natAbs.log2 + j.natAbs.log2 < 1000000) (q : Q (.int (i * j)) h) : Ev (mulD (.int i) (.int j) h) Q := ⟨_, _, by simp only [mulD, if_pos c], q⟩
theorem lf_fdiv (c : 0 < j ∧ j.natAbs.log2 < 9000) (q : Q (.int (i / j)) h) : Ev (fdivD (.int i) (.int j) h) Q := ⟨_, _, by simp only [fdivD, if_pos c], q⟩
theorem lf_pow (c : 0 ≤ j ∧ (Builtin.Int.intBits i : Int) * j ≤ 2 ^ 27) (q : Q (.int (i ^ j.toNat)) h) : Ev (powD (.int i) (.int j) h) Q := ⟨_, _, by simp only [powD, if_pos c], q⟩
theorem lf_mulS (c : 0 ≤ j ∧ j ≤ 1000000 ∧ s.length * j.toNat ≤ LN) (q : Q (.str (repS s j.toNat)) h) : Ev (mulD (.str s) (.int j) h) Q := ⟨_, _, by simp only [mulD, if_pos c], q⟩
theorem lf_mulL (e : h[n]? = some (.lst xs)) (c : 0 ≤ j ∧ j ≤ 1000000 ∧ xs.length * j.toNat ≤ LN) (q : Q (.at h.length) (h ++ [.lst (List.replicate j.toNat xs).flatten])) : Ev (mulD (.at n) (.int j) h) Q := ⟨_, _, by simp only [mulD, e, if_pos c], q⟩
theorem lf_mod (c : 0 < j) (q : Q (.int (i % j)) h) : Ev (modD (.int i) (.int j) h) Q := ⟨_, _, by simp only [modD, if_pos c], q⟩
theorem lf_lt (q : Q (.bl (decide (i < j))) h) : Ev (ltD (.int i) (.int j) h) Q := ⟨_, _, rfl, q⟩
theorem lf_le (q : Q (.bl (decide (i ≤ j))) h) : Ev (leD (.int i) (.int j) h) Q := ⟨_, _, rfl, q⟩
theorem lf_gt (q : Q (.bl (decide (j < i))) h) : Ev (gtD (.int i) (.int j) h) Q := ⟨_, _, rfl, q⟩
theorem lf_ge (q : Q (.bl (decide (j ≤ i))) h) : Ev (geD (.int i) (.int j) h) Q := ⟨_, _, rfl, q⟩
theorem lf_eqI (q : Q (.bl (decide (i = j))) h) : Ev (eqD (.int i) (.int j) h) Q := ⟨_, _, eq_ii i j h, q⟩
theorem lf_neI (q : Q (.bl (!decide (i = j))) h) : Ev (neD (.int i) (.int j) h) Q := ⟨_, _, ne_ii i j h, q⟩
theorem lf_lenT (q : Q (.int xs.length) h) : Ev (lenD [.tup xs] h) Q := ⟨_, _, rfl, q⟩
theorem lf_lenR (q : Q (.int xs.length) h) : Ev (lenD [.rol xs] h) Q := ⟨_, _, rfl, q⟩
theorem lf_lenS (l : s.length ≤ LN) (q : Q (.int s.length) h) : Ev (lenD [.str s] h) Q := ⟨_, _, by simp only [lenD, if_pos l], q⟩
theorem lf_lenL (e : h[n]? = some (.lst xs)) (q : Q (.int xs.length) h) : Ev (lenD [.at n] h) Q := ⟨_, _, by simp only [lenD, e], q⟩
theorem lf_abs (q : Q (.int (if i < 0 then -i else i)) h) : Ev (absD [.int i] h) Q := ⟨_, _, rfl, q⟩
theorem lf_intI (q : Q (.int i) h) : Ev (intD [.int i] h) Q := ⟨_, _, rfl, q⟩
theorem lf_intB {b : Bool} (q : Q (.int (if b then 1 else 0)) h) : Ev (intD [.bl b] h) Q := ⟨_, _, rfl, q⟩
theorem lf_max (q : Q (.int (if j > i then j else i)) h) : Ev (maxD [.int i, .int j] h) Q := ⟨_, _, rfl, q⟩
theorem lf_min (q : Q (.int (if j < i then j else i)) h) : Ev (minD [.int i, .int j] h) Q := ⟨_, _, rfl, q⟩
theorem lf_tuplT (q : Q (.tup xs) h) : Ev (tuplD [.tup xs] h) Q := ⟨_, _, rfl, q⟩
theorem lf_tuplL (e : h[n]? = some (.lst xs)) (q : Q (.tup xs) h) : Ev (tuplD [.at n] h) Q := ⟨_, _, by simp only [tuplD, e], q⟩
theorem lf_ix (e : atI xs i = some d) (q : Q d h) : Ev (subsD (.tup xs) (.int i) h) Q := ⟨_, _, by simp only [subsD, seqD, e], q⟩
theorem lf_ixR (e : atI xs i = some d) (q : Q d h) : Ev (subsD (.rol xs) (.int i) h) Q := ⟨_, _, by simp only [subsD, seqD, e], q⟩
theorem lf_ixL (e0 : h[n]? = some (.lst xs)) (e : atI xs i = some d) (q : Q d h) : Ev (subsD (.at n) (.int i) h) Q := ⟨_, _, by simp only [subsD, seqD, e0, e], q⟩
theorem lf_ixD {kvs : List (Key × D)} {x : D} {k : Key} (e0 : h[n]? = some (.dct kvs)) (e1 : keyD x = some k) (e : valD kvs k = some d) (q : Q d h) : Ev (subsD (.at n) x h) Q := ⟨_, _, by simp only [subsD, seqD, e0, e1, e], q⟩
theorem lf_pop (e : h[n]? = some (.lst (ws ++ [d]))) (q : Q d (h.set n (.lst ws))) : Ev (popD (.at n) [] h) Q := ⟨_, _, by unfold popD; simp [e], q⟩
theorem lf_append (e : h[n]? = some (.lst ws)) (l : ws.length < LN) (q : Q .non (h.set n (.lst (ws ++ [d])))) : Ev (appendD (.at n) [d] h) Q := ⟨_, _, by simp only [appendD, e, if_pos l], q⟩
theorem lf_extendT (e : h[n]? = some (.lst ws)) (l : ws.length + zs.length ≤ LN) (q : Q .non (h.set n (.lst (ws ++ zs)))) : Ev (extendD (.at n) [.tup zs] h) Q := ⟨_, _, by simp only [extendD, e, if_pos l], q⟩
theorem lf_extendL (e : h[n]? = some (.lst ws)) (e2 : h[m]? = some (.lst zs)) (l : ws.length + zs.length ≤ LN) (q : Q .non (h.set n (.lst (ws ++ zs)))) : Ev (extendD (.at n) [.at m] h) Q := ⟨_, _, by simp only [extendD, e, e2, if_pos l], q⟩
theorem lf_slT {lo hi : Option Int} (q : Q (.tup (cutD xs lo hi)) h) : Ev (sliceD (.tup xs) lo hi h) Q := ⟨_, _, rfl, q⟩
theorem lf_slL {lo hi : Option Int} (e : h[n]? = some (.lst xs)) (q : Q (.at h.length) (h ++ [.lst (cutD xs lo hi)])) : Ev (sliceD (.at n) lo hi h) Q := ⟨_, _, by simp only [sliceD, e], q⟩
theorem lf_backT0 (q : Q (.tup (backs xs (some 0))) h) : Ev (backD (.tup xs) (some 0) h) Q := ⟨_, _, rfl, q⟩
theorem lf_listL (e : h[n]? = some (.lst xs)) (q : Q (.at h.length) (h ++ [.lst xs])) : Ev (listD [.at n] h) Q := ⟨_, _, by simp only [listD, e], q⟩
theorem lf_listD {kvs : List (Key × D)} (e : h[n]? = some (.dct kvs)) (q : Q (.at h.length) (h ++ [.lst (kvs.map fun kv => kD kv.1)])) : Ev (listD [.at n] h) Q := ⟨_, _, by simp only [listD, e], q⟩
theorem lf_dictL {ps : List (Key × D)} (e : h[n]? = some (.lst xs)) (e2 : pairsD xs = some ps) (q : Q (.at h.length) (h ++ [.dct (mergeD [] ps)])) : Ev (dictD [.at n] h) Q := ⟨_, _, by simp only [dictD, e, e2], q⟩
theorem sq_fix {Q : Src → Hd → Prop} (q : Q (.fix xs) h) : Ev (sqS (.tup xs) h) Q := ⟨_, _, rfl, q⟩
theorem sq_rol {Q : Src → Hd → Prop} (q : Q (.fix xs) h) : Ev (sqS (.rol xs) h) Q := ⟨_, _, rfl, q⟩
theorem sq_obj {Q : Src → Hd → Prop} (e : h[n]? = some (.lst xs)) (q : Q (.obj n) h) : Ev (sqS (.at n) h) Q := ⟨_, _, by simp only [sqS, e], q⟩
theorem sq_str {Q : Src → Hd → Prop} (q : Q (.fix (s.cps.toList.map fun c => .str ⟨⟨[c]⟩⟩)) h) : Ev (sqS (.str s) h) Q := ⟨_, _, rfl, q⟩
theorem at0 {α : Type} (x : α) (xs : List α) : L2.atI (x :: xs) 0 = some x := by
  unfold L2.atI L2.ixN
  simp
end
end DL

/-! DL10: bits, division by negative numbers, reversed, dict displays, tuples of the module. -/
namespace DL
open PySem L2 RT
/-! ### numbers -/
def CDivZ (i j : Int) : Prop := j ≠ 0 ∧ j.natAbs.log2 < 9000
section
variable {K : PySem.W.Frag} {X : Cx}
theorem op_fdivZ : OpR X (binaryOp .FloorDiv) (rI CDivZ fun i j => .int (i.fdiv j)) := opI fun i j _ _ _ _ _ hc q => PyProof.Rows.floordiv_int hc.1 q (.inl (PyProof.noPylong_of_log2 hc.2))
def fdivZD : G2 := fun x y h => match x, y with
  | .int i, .int j => if j ≠ 0 ∧ j.natAbs.log2 < 9000 then some (.int (i.fdiv j), h) else none
  | _, _ => none
theorem so_fdivZ : SO K (rI CDivZ fun i j => .int (i.fdiv j)) fdivZD := by
  intro Φ H μ h x y v w d h' S r1 r2 e Q k
  unfold fdivZD at e
  split at e
  · split at e
    · rename_i c
      cases e
      exact ⟨_, _, rp_int' r1, rp_int' r2, c, k _ H μ S Le.refl rp_int⟩
    · cases e
  · cases e
def modZD : G2 := fun x y h => match x, y with
  | .int i, .int j => if j ≠ 0 then some (.int (i.fmod j), h) else none
  | _, _ => none
theorem so_modZ : SO K (rI (fun _ j => j ≠ 0) fun i j => .int (i.fmod j)) modZD := by
  intro Φ H μ h x y v w d h' S r1 r2 e Q k
  unfold modZD at e
  split at e
  · split at e
    · rename_i c
      cases e
      exact ⟨_, _, rp_int' r1, rp_int' r2, c, k _ H μ S Le.refl rp_int⟩
    · cases e
  · cases e
def shlD : G2 := fun x y h => match x, y with
  | .int i, .int j => if 0 ≤ j ∧ (Builtin.Int.intBits i : Int) + j ≤ 2 ^ 27 then some (.int (i * 2 ^ j.toNat), h) else none
  | _, _ => none
theorem so_shl : SO K (rI CShl fun i j => .int (i * 2 ^ j.toNat)) shlD := by
  intro Φ H μ h x y v w d h' S r1 r2 e Q k
  unfold shlD at e
  split at e
  · split at e
    · rename_i c
      cases e
      exact ⟨_, _, rp_int' r1, rp_int' r2, c, k _ H μ S Le.refl rp_int⟩
    · cases e
  · cases e
def shrD : G2 := fun x y h => match x, y with
  | .int i, .int j => if 0 ≤ j then some (.int (i / 2 ^ j.toNat), h) else none
  | _, _ => none
theorem so_shr : SO K (rI (fun _ j => 0 ≤ j) fun i j => .int (i / 2 ^ j.toNat)) shrD := by
  intro Φ H μ h x y v w d h' S r1 r2 e Q k
  unfold shrD at e
  split at e
  · split at e
    · rename_i c
      cases e
      exact ⟨_, _, rp_int' r1, rp_int' r2, c, k _ H μ S Le.refl rp_int⟩
    · cases e
  · cases e
def bitD (f : Int → Int → Int) : G2 := fun x y h => match x, y with
  | .int i, .int j => some (.int (f i j), h)
  | _, _ => none
theorem so_bit (f : Int → Int → Int) : SO K (rI0 fun i j => .int (f i j)) (bitD f) := by
  intro Φ H μ h x y v w d h' S r1 r2 e Q k
  unfold bitD at e
  split at e
  · cases e
    exact ⟨_, _, rp_int' r1, rp_int' r2, k _ H μ S Le.refl rp_int⟩
  · cases e
abbrev andBD : G2 := bitD Builtin.bitAnd
abbrev orBD : G2 := bitD Builtin.bitOr
abbrev xorBD : G2 := bitD Builtin.bitXor
/-- x.bit_length() -/
def bitsM (a : ME) : ME := fun sg h => match a sg h with
  | some (.int i, h1) => some (.int (Builtin.Int.intBits i : Nat), h1)
  | _ => none
theorem de_bits {o : Expr} {to : TE} {mo : ME} {apos pos : Pos} (ho : DE K X o to mo) (hbase : attributeBase o "bit_length" X.env (eval o X.env) = eval o X.env := by rfl) (hline : (apos.endLine == pos.line) = true := by rfl) :
    DE K X (.Call (.Attribute o "bit_length" apos) [] [] pos) (tBits to) (bitsM mo) := ⟨ho.k, pe_bits ho.p hbase hline, by
  intro Φ σ H μ sg h d h' S rs e Q k
  unfold bitsM at e
  split at e
  · rename_i i h1 e1
    cases e
    exact ho.s σ H μ sg h _ _ S rs e1 _ fun v H1 μ1 S1 l1 r1 => ⟨i, rp_int' r1, k _ H1 μ1 S1 l1 rp_int⟩
  · cases e⟩
/-! ### reversed -/
def revI (a : ME) : MI := fun sg h => match a sg h with
  | some (.tup xs, h1) => some (.fix xs.reverse, h1)
  | some (.rol xs, h1) => some (.fix xs.reverse, h1)
  | _ => none
theorem rev_get {α : Type} {xs : List α} {i : Nat} (h : i < xs.length) : xs.reverse[i]? = xs[xs.length - 1 - i]? := List.getElem?_reverse h
theorem j_revT {a : Addr} {xs : List D} {vs : List V} {H0 : Hp} {μ0 : List Addr} (b : SqT K H0 a vs) (c : Rps K H0 μ0 xs vs) : JOk Φ K (ItvT K a vs.length) (.fix xs.reverse) H0 μ0 := by
  intro i H μ h S l
  have b' := l.tup _ _ b
  have c' := Rps.mono l _ _ c
  have hlen := c'.len
  refine ⟨fun d q => ?_, fun q => ?_⟩
  · have q := Option.some.inj q
    have hi : i < xs.length := by
      have := (List.getElem?_eq_some_iff.mp q).1
      simpa using this
    rw [rev_get hi] at q
    obtain ⟨v, c1, c2⟩ := c'.get q
    rw [← hlen] at c1
    refine ⟨⟨by rw [hlen]; exact hi, vs, v, b', c1⟩, fun x H' y => ?_⟩
    obtain ⟨rfl, y⟩ := y
    have := y vs b'
    rw [c1] at this
    cases this
    exact ⟨S, Le.refl, c2⟩
  · have := List.getElem?_eq_none_iff.mp (Option.some.inj q)
    rw [List.length_reverse] at this
    show vs.length ≤ i
    rw [hlen]
    exact this
theorem j_revF {a : Addr} {xs : List D} {vs : List V} {H0 : Hp} {μ0 : List Addr} (b : SqF K H0 a vs) (c : Rps K H0 μ0 xs vs) : JOk Φ K (Itv K a vs.length) (.fix xs.reverse) H0 μ0 := by
  intro i H μ h S l
  have b' := (l.frz _ _ b).l
  have c' := Rps.mono l _ _ c
  have hlen := c'.len
  refine ⟨fun d q => ?_, fun q => ?_⟩
  · have q := Option.some.inj q
    have hi : i < xs.length := by
      have := (List.getElem?_eq_some_iff.mp q).1
      simpa using this
    rw [rev_get hi] at q
    obtain ⟨v, c1, c2⟩ := c'.get q
    rw [← hlen] at c1
    refine ⟨⟨by rw [hlen]; exact hi, vs, v, b', c1⟩, fun x H' y => ?_⟩
    obtain ⟨rfl, y⟩ := y
    have := y vs b'
    rw [c1] at this
    cases this
    exact ⟨S, Le.refl, c2⟩
  · have := List.getElem?_eq_none_iff.mp (Option.some.inj q)
    rw [List.length_reverse] at this
    show vs.length ≤ i
    rw [hlen]
    exact this
theorem di_rev {tg e : Expr} {te : TE} {me : ME} {p pos : Pos} (a : DE K X e te me) (hm : X.mg "reversed" = none) (hg : Gl X "reversed" := by rfl) (hs : starEach [e] X.env = (false, eval e X.env) :: starEach [] X.env := by rfl) :
    DI K X tg (.Call (.Name "reversed" p) [e] [] pos) (iRevA K te) (revI me) := ⟨a.k, by
  have hk := a.k
  subst hk
  exact pi_revA hg hm a.p hs, by
  intro Φ σ H μ sg h s h' S rs e R k
  unfold revI at e
  split at e
  · rename_i xs h1 e1
    cases e
    refine a.s σ H μ sg h _ _ S rs e1 _ fun v H1 μ1 S1 l1 r1 => ?_
    obtain ⟨p, vs, rfl, b, c⟩ := rp_tup' r1
    exact ⟨p, vs, rfl, .inr ⟨b, k _ H1 μ1 S1 l1 (j_revT b c)⟩⟩
  · rename_i xs h1 e1
    cases e
    refine a.s σ H μ sg h _ _ S rs e1 _ fun v H1 μ1 S1 l1 r1 => ?_
    obtain ⟨p, vs, rfl, b, c⟩ := rp_rol' r1
    exact ⟨p, vs, rfl, .inl ⟨b.l, k _ H1 μ1 S1 l1 (j_revF b c)⟩⟩
  · cases e⟩
/-! ### several names from a tuple or a list -/
theorem PG.or {tg : Expr} {t u : TG} (h : PG X tg t) (h' : PG X tg u) : PG X tg (fun v σ H Q => t v σ H Q ∨ u v σ H Q) := ⟨fun pins s σ H v w Q I r q => q.elim (h.run pins s σ H v w Q I r) (h'.run pins s σ H v w Q I r)⟩
def uplG (n : Nat) (a : MGs) : MG := fun d sg h => match d with
  | .tup xs => if xs.length = n then a xs sg h else none
  | .at l => match h[l]? with
    | some (.lst xs) => if xs.length = n then a xs sg h else none
    | _ => none
  | _ => none
theorem dg_upl {es : List Expr} {k0 : Nat} {t : TGs} {m : MGs} {n : Nat} {pos : Pos} (a : DGs K X es t m) (hn : (assignEach es X.env).length = n := by rfl) (hst : (assignEach es X.env).findIdx? (·.1) = none := by rfl) (hc : X.calm = true := by rfl) :
    DG K X (.Tuple es k0 pos) (fun v σ H Q => gTup K n t v σ H Q ∨ gLst K n t v σ H Q) (uplG n m) := ⟨a.k, by
  have hk := a.k
  subst hk
  exact PG.or (pg_tup hc a.p hn hst) (pg_lst hc a.p hn hst), by
  intro Φ σ H μ sg h x v sg' h' S rs r e Q k
  unfold uplG at e
  split at e
  · split at e
    · rename_i hl
      obtain ⟨p, vs, rfl, b, c⟩ := rp_tup' r
      exact .inl ⟨p, vs, rfl, b, by rw [c.len]; exact hl, a.s σ H μ sg h _ vs sg' h' S rs c e Q k⟩
    · cases e
  · split at e
    · rename_i q
      split at e
      · rename_i hl
        obtain ⟨p, ep, rfl⟩ := rp_at' r
        obtain ⟨vs, b, c⟩ := S.lst q ep
        exact .inr ⟨p, vs, rfl, .of b, by rw [c.len]; exact hl, a.s σ H μ sg h _ vs sg' h' S rs c e Q k⟩
      · cases e
    · cases e
  · cases e⟩
/-! ### dict displays -/
abbrev MP := Sg → Hd → Option (List (Key × D) × Hd)
def SPr (K : PySem.W.Frag) (trs : List (TE × TE)) (m : MP) : Prop := ∀ {Φ : Hp} (σ : L2.St) (H : Hp) (μ : List Addr) (sg : Sg) (h : Hd) (kvs : List (Key × D)) (h' : Hd), Sm Φ K H μ h → Rs K H μ sg σ → m sg h = some (kvs, h') → ∀ Q : List (V × V) → Hp → Prop,
  (∀ (kw : List (Key × V)) (H' : Hp) (μ' : List Addr), Sm Φ K H' μ' h' → Le K H μ H' μ' → Rkv K H' μ' kvs kw → Q (kw.map fun kv => (kV kv.1, kv.2)) H') → tPairs trs σ H Q
structure DP (K : PySem.W.Frag) (X : Cx) (pos : Pos) (keys : List (Option Expr)) (values : List Expr) (trs : List (TE × TE)) (m : MP) : Prop where
  k : X.K = K
  p : PPs X pos keys values trs
  s : SPr K trs m
def pnilM : MP := fun _ h => some ([], h)
def pconsM (a b : ME) (r : MP) : MP := fun sg h => match a sg h with
  | some (x, h1) => match keyD x with
    | some k => match b sg h1 with
      | some (y, h2) => match r sg h2 with
        | some (kvs, h3) => some ((k, y) :: kvs, h3)
        | none => none
      | none => none
    | none => none
  | none => none
theorem dp_nil {pos : Pos} (hK : X.K = K := by rfl) : DP K X pos [] [] [] pnilM := ⟨hK, pps_nil, by
  intro Φ σ H μ sg h kvs h' S rs e Q k
  cases e
  exact k [] H μ S Le.refl Rkv.nil⟩
theorem dp_cons {pos : Pos} {ke ve : Expr} {keys : List (Option Expr)} {values : List Expr} {tk tv : TE} {mk mv : ME} {trs : List (TE × TE)} {mr : MP} (ha : DE K X ke tk mk) (hb : DE K X ve tv mv) (hr : DP K X pos keys values trs mr) :
    DP K X pos (some ke :: keys) (ve :: values) ((tk, tv) :: trs) (pconsM mk mv mr) := ⟨ha.k, pps_cons ha.p hb.p hr.p, by
  intro Φ σ H μ sg h kvs h' S rs e Q k
  unfold pconsM at e
  split at e
  · rename_i x h1 e1
    split at e
    · rename_i kk ek
      split at e
      · rename_i y h2 e2
        split at e
        · rename_i kvs' h3 e3
          cases e
          refine ha.s σ H μ sg h x h1 S rs e1 _ fun v H1 μ1 S1 l1 r1 => ?_
          refine hb.s σ H1 μ1 sg h1 y h2 S1 (rs.mono l1) e2 _ fun w H2 μ2 S2 l2 r2 => ?_
          refine hr.s σ H2 μ2 sg h2 kvs' _ S2 (rs.mono (l1.trans l2)) e3 _ fun kw H3 μ3 S3 l3 r3 => ?_
          rw [key_of r1 ek]
          exact k ((kk, w) :: kw) H3 μ3 S3 ((l1.trans l2).trans l3) ⟨by simp [r3.1], Rps.cons (Rp.mono l3 _ _ r2) r3.2⟩
        · cases e
      · cases e
    · cases e
  · cases e⟩
def dispM (r : MP) : ME := fun sg h => match r sg (h ++ [.dct []]) with
  | some (kvs, h2) => match h2[h.length]? with
    | some (.dct []) => if kvs.length ≤ 15 then some (.at h.length, h2.set h.length (.dct (mergeD [] kvs))) else none
    | _ => none
  | none => none
theorem de_disp {pos : Pos} {keys : List (Option Expr)} {values : List Expr} {trs : List (TE × TE)} {mr : MP} (hr : DP K X pos keys values trs mr) (hall : keys.all (·.isSome) = true := by rfl) (hl : keys.length = values.length := by rfl) (h0 : keys ≠ [] := by simp)
    (h15 : keys.length ≤ 15 := by decide) : DE K X (.Dict keys values pos) (tDisp trs) (dispM mr) := ⟨hr.k, pe_disp hr.p hall hl h0 h15, by
  intro Φ σ H μ sg h d h' S rs e Q k
  unfold dispM at e
  split at e
  · rename_i kvs h2 e2
    split at e
    · rename_i q
      split at e
      · rename_i hlen
        cases e
        intro p hp
        have l0 : Le K H μ (upd H p (.dK [])) (μ ++ [p]) := le_obj hp
        have S0 : Sm Φ K (upd H p (.dK [])) (μ ++ [p]) (h ++ [.dct []]) := S.obj hp ⟨[], upd_same, Rkv.nil⟩
        refine hr.s σ _ _ sg _ kvs h2 S0 (rs.mono l0) e2 _ fun kw H2 μ2 S2 l2 r2 => ?_
        have ep := l2.get (obj_at S rfl)
        obtain ⟨kw0, b, c⟩ := S2.dct q ep
        have hk0 : kw0 = [] := by
          have := c.len
          cases kw0 with
          | nil => rfl
          | cons _ _ => simp at this
        subst hk0
        refine ⟨b, kw, rfl, ?_, ?_⟩
        · have := congrArg List.length r2.1
          simp at this
          omega
        have l4 : Le K H2 μ2 (upd H2 p (.dK (mergeK [] kw))) μ2 := le_set S2 ep
        have c2 := Rkv.merge r2 (Rkv.nil (K := K) (H := H2) (μ := μ2))
        exact k _ _ μ2 (S2.set ep ⟨_, upd_same, c2.1, Rps.mono l4 _ _ c2.2⟩) ((l0.trans l2).trans l4) (rp_at ep)
      · cases e
    · cases e
  · cases e⟩
end
/-- a tuple of texts in the module -/
theorem Kst.strs {K : PySem.W.Frag} {mg : Str → Option Value} {x : Str} {a : Addr} {od : Option Addr} {n : Nat} {sl : Array (Option Value)} {arr : Array Value} (h : mg x = some (.ref a)) (l : K.lookup a = some ⟨.type "tuple", od, .seq arr n, sl⟩) (ss : List Str) (e : Vals (ss.map V.str) arr.toList) (hz : arr.size ≤ 16777216) :
    Kst K mg x (.tup (ss.map D.str)) := ⟨.ref a, .ref a, h, rfl, fun H μ => by
  have r : Rps K H μ (ss.map D.str) (ss.map V.str) := by
    clear e
    induction ss with
    | nil => exact Rps.nil
    | cons s ss ih => exact Rps.cons rp_str ih
  exact rp_tup (.inr ⟨_, arr, n, l, rfl, rfl, by rw [sizeLine_eq]; exact hz, e⟩) r⟩
/-! ### rules told from the end -/
section
variable {sg : Sg} {h : Hd} {Q : D → Hd → Prop} {a b : ME} {r : MP} {i j : Int} {xs : List D}
theorem ev_bits (q : Ev (a sg h) fun x h1 => ItK x fun i => Q (.int (Builtin.Int.intBits i : Nat)) h1) : Ev (bitsM a sg h) Q := by
  obtain ⟨x, h1, e1, i, rfl, q⟩ := q
  exact ⟨_, h1, by simp only [bitsM, e1], q⟩
theorem ev_uplT {n : Nat} {m : MGs} {Q : Sg → Hd → Prop} (l : xs.length = n) (q : Ev (m xs sg h) Q) : Ev (uplG n m (.tup xs) sg h) Q := by
  obtain ⟨sg1, h1, e1, q⟩ := q
  exact ⟨_, _, by simp only [uplG, if_pos l, e1], q⟩
theorem ev_uplL {n k : Nat} {m : MGs} {Q : Sg → Hd → Prop} (e : h[k]? = some (.lst xs)) (l : xs.length = n) (q : Ev (m xs sg h) Q) : Ev (uplG n m (.at k) sg h) Q := by
  obtain ⟨sg1, h1, e1, q⟩ := q
  exact ⟨_, _, by simp only [uplG, e, if_pos l, e1], q⟩
theorem lf_fdivZ (c : j ≠ 0 ∧ j.natAbs.log2 < 9000) (q : Q (.int (i.fdiv j)) h) : Ev (fdivZD (.int i) (.int j) h) Q := ⟨_, _, by simp only [fdivZD]; rw [if_pos c], q⟩
theorem lf_modZ (c : j ≠ 0) (q : Q (.int (i.fmod j)) h) : Ev (modZD (.int i) (.int j) h) Q := ⟨_, _, by simp only [modZD]; rw [if_pos c], q⟩
theorem lf_fdivZp (c : 0 < j ∧ j.natAbs.log2 < 9000) (q : Q (.int (i / j)) h) : Ev (fdivZD (.int i) (.int j) h) Q := lf_fdivZ ⟨by omega, c.2⟩ (by rw [Int.fdiv_eq_ediv_of_nonneg i (by omega)]; exact q)
theorem lf_modZp (c : 0 < j) (q : Q (.int (i % j)) h) : Ev (modZD (.int i) (.int j) h) Q := lf_modZ (by omega) (by rw [Int.fmod_eq_emod_of_nonneg i (by omega)]; exact q)
theorem lf_shl (c : 0 ≤ j ∧ (Builtin.Int.intBits i : Int) + j ≤ 2 ^ 27) (q : Q (.int (i * 2 ^ j.toNat)) h) : Ev (shlD (.int i) (.int j) h) Q := ⟨_, _, by simp only [shlD]; rw [if_pos c], q⟩
theorem lf_shr (c : 0 ≤ j) (q : Q (.int (i / 2 ^ j.toNat)) h) : Ev (shrD (.int i) (.int j) h) Q := ⟨_, _, by simp only [shrD]; rw [if_pos c], q⟩
theorem lf_bit {f : Int → Int → Int} (q : Q (.int (f i j)) h) : Ev (bitD f (.int i) (.int j) h) Q := ⟨_, _, rfl, q⟩
def rvS (x : D) (h : Hd) : Option (Src × Hd) := match x with
  | .tup xs => some (.fix xs.reverse, h)
  | .rol xs => some (.fix xs.reverse, h)
  | _ => none
theorem ev_revI {Q : Src → Hd → Prop} (q : Ev (a sg h) fun x h1 => Ev (rvS x h1) Q) : Ev (revI a sg h) Q := by
  obtain ⟨x, h1, e1, s, h2, e2, q⟩ := q
  refine ⟨s, h2, ?_, q⟩
  rw [← e2]
  simp only [revI, e1, rvS]
  cases x <;> rfl
theorem rv_tup {Q : Src → Hd → Prop} (q : Q (.fix xs.reverse) h) : Ev (rvS (.tup xs) h) Q := ⟨_, _, rfl, q⟩
def KyK (x : D) (A : Key → Prop) : Prop := ∃ k, keyD x = some k ∧ A k
theorem ky_int {A : Key → Prop} (q : A (.inl i)) : KyK (.int i) A := ⟨_, rfl, q⟩
theorem ky_str {A : Key → Prop} {s : Str} (q : A (.inr s)) : KyK (.str s) A := ⟨_, rfl, q⟩
theorem ev_pnil {Q : List (Key × D) → Hd → Prop} (q : Q [] h) : Ev (pnilM sg h) Q := ⟨_, _, rfl, q⟩
theorem ev_pcons {Q : List (Key × D) → Hd → Prop} (q : Ev (a sg h) fun x h1 => KyK x fun k => Ev (b sg h1) fun y h2 => Ev (r sg h2) fun kvs h3 => Q ((k, y) :: kvs) h3) : Ev (pconsM a b r sg h) Q := by
  obtain ⟨x, h1, e1, k, e2, y, h2, e3, kvs, h3, e4, q⟩ := q
  exact ⟨_, _, by simp only [pconsM, e1, e2, e3, e4], q⟩
theorem ev_disp (q : Ev (r sg (h ++ [.dct []])) fun kvs h2 => h2[h.length]? = some (.dct []) ∧ kvs.length ≤ 15 ∧ Q (.at h.length) (h2.set h.length (.dct (mergeD [] kvs)))) : Ev (dispM r sg h) Q := by
  obtain ⟨kvs, h2, e1, e2, l, q⟩ := q
  exact ⟨_, _, by simp only [dispM, e1, e2, if_pos l], q⟩
end
end DL

/-! DM11: what is raised goes through statements; raise; try; own exceptions with their own __init__. -/
namespace PySem.W
open PySem PySem.Calls PyProof.Rows
section
variable {prog : Program} {w : World} {A : Around} {E : Value → Shared → Prop} {s : Shared} {K : Frag} {name : Str}
/-- C.name, called: a class of the text -/
theorem method_ref {C : Addr} {v : Value} {pl : Sem Bool} {Q : Value × List Value → Shared → Prop} (X : K.In s.heap) (hr : readsIn K C (.type "type") = true) (e : findCls K (.ref C) (.type "type") name = some (.val v)) (hh : handedIn v = true)
    (h : Q (v, []) { s with toks := s.toks + 1 }) : wpAny (model prog w) A (getMethod (.ref C) name pl) Q E s := by
  have hr' := hr
  simp only [readsIn, Bool.and_eq_true, beq_iff_eq] at hr'
  obtain ⟨⟨⟨⟨_, b⟩, c'⟩, _⟩, _⟩ := hr'
  have L0 := looks_typeIn (M := model prog w) X b
  unfold getMethod specialOf
  refine wpAny_bind (wpAny_bind (L0.here ((looks_findIn X c').here ?_)))
  dsimp only
  rw [if_pos canon_tga]
  refine wpAny_bind (wpAny_mono (Q := fun v => Q (v, [])) (E := E) ?_ (fun _ _ z => wpAny_pure z) fun _ _ z => z)
  exact cls_value X hr e hh h
end
end PySem.W
namespace DL
open PySem L2 PySem.Spec PyProof.Rows

/-! ### through statements -/
def seqX (ax : MX) (a : MS) (bx : MX) : MX := fun sg h => match ax sg h with
  | some r => some r
  | none => match a sg h with
    | some (.nx sg1, h1) => bx sg1 h1
    | _ => none
def ifX (c : MT) (ax bx : MX) : MX := fun sg h => match c sg h with
  | some (true, h1) => ax sg h1
  | some (false, h1) => bx sg h1
  | none => none
def whileX (c : MT) (b : MS) (bx : MX) : Nat → MX
  | 0 => noX
  | k + 1 => fun sg h => match c sg h with
    | some (true, h1) => match bx sg h1 with
      | some r => some r
      | none => match b sg h1 with
        | some (.nx sg2, h2) => whileX c b bx k sg2 h2
        | some (.ct sg2, h2) => whileX c b bx k sg2 h2
        | _ => none
    | _ => none
def forX (s : Src) (g : MG) (b : MS) (bx : MX) : Nat → Nat → MX
  | 0, _ => noX
  | k + 1, i => fun sg h => match s.nxt h i with
    | some (some d) => match g d sg h with
      | some (sg1, h1) => match bx sg1 h1 with
        | some r => some r
        | none => match b sg1 h1 with
          | some (.nx sg2, h2) => forX s g b bx k (i + 1) sg2 h2
          | some (.ct sg2, h2) => forX s g b bx k (i + 1) sg2 h2
          | _ => none
      | none => none
    | _ => none
def forSX (it : MI) (g : MG) (b : MS) (bx : MX) (N : Nat) : MX := fun sg h => match it sg h with
  | some (s, h1) => forX s g b bx N 0 sg h1
  | none => none
section
variable {K : PySem.W.Frag} {mg : Str → Option Value} {X : Cx} {W : WX} {pos pos' : Pos} {e : Expr} {te : TE} {me : ME} {xe : MX} {st : Stmt} {rest : List Stmt} {t u : TS} {m n : MS} {x y : MX} {c : Expr} {tc : TT} {mc : MT}
theorem dssx_one (a : DSX K mg X W st t m x) : DSsX K mg X W [st] t m x := ⟨a.k, fun tk po => pss_one (a.p tk po), a.s, a.x⟩
theorem dssx_nil (hK : X.K = K := by rfl) : DSsX K mg X W [] tNext passM noX := (dss_nil hK).x
theorem xst_seq (as : SS K t m) (ax : XSt K mg W t x) (bx : XSt K mg W u y) : XSt K mg W (tSeq t u) (seqX x m y) := by
  intro Φ σ H μ sg h xn sg' h' S rs e k E
  unfold seqX at e
  split at e
  · rename_i r e1
    cases e
    exact ax σ H μ sg h xn sg' h' S rs e1 k _
  · split at e
    · rename_i sg1 h1 e1
      exact as σ H μ sg h _ h1 S rs e1 _ fun σ1 H1 μ1 S1 l1 rs1 => bx σ1 H1 μ1 sg1 h1 xn sg' h' S1 rs1 e (k.le l1) E
    · cases e
theorem dssx_cons (a : DSX K mg X W st t m x) (b : DSsX K mg X W rest u n y) : DSsX K mg X W (st :: rest) (tSeq t u) (seqM m n) (seqX x m y) := ⟨a.k, fun tk po => pss_cons (a.p tk po) (b.p tk po), ss_seq a.s b.s, xst_seq a.s a.x b.x⟩
theorem dsx_expr (a : DEX K mg X W e te me xe) (hs : swapsWith e none pos.line X.env = pure false := by rfl) : DSX K mg X W (.Expr e pos) (tDrop te) (exprM me) xe :=
  ⟨a.k, fun tk _ => ps_expr (a.p tk) hs, ss_expr a.s, fun {Φ} σ H μ sg h xn sg' h' S rs e k E => a.x σ H μ sg h xn sg' h' S rs e k _⟩
theorem dsx_ret (a : DEX K mg X W e te me xe) : DSX K mg X W (.Return (some e) pos) (tRet te) (retM me) xe :=
  ⟨a.k, fun tk _ => ps_ret (a.p tk), ss_ret a.s, fun {Φ} σ H μ sg h xn sg' h' S rs e k E => a.x σ H μ sg h xn sg' h' S rs e k _⟩
theorem xst_asg {tg : TG} (a : XEx K mg W te xe) : XSt K mg W (tAsg te tg) xe := fun {Φ} σ H μ sg h xn sg' h' S rs e k E => a σ H μ sg h xn sg' h' S rs e k _
theorem dsx_asg {tg : Expr} {gt : TG} {mg' : MG} (a : DEX K mg X W e te me xe) (g : DG K X tg gt mg') (hs : swapsWithSole [tg] e pos.line X.env = pure false := by rfl) (hw : swappedStores [tg] e X.env = pure none := by rfl)
    (h1 : (assignEach [tg] X.env).map (·.2) = [assign tg X.env] := by rfl) : DSX K mg X W (.Assign [tg] e pos) (tAsg te gt) (asgM me mg') xe := ⟨a.k, fun tk _ => ps_asg (a.p tk) g.p hs hw h1, ss_asg a.s g.s, xst_asg a.x⟩
theorem dsx_set (i : Nat) {x : Str} (a : DEX K mg X W e te me xe) (hN : X.N.Nodup) (hi : X.N[i]? = some x := by rfl) (hx : Loc X.env.scope x := by first | exact Or.inl rfl | exact Or.inr rfl) (hs : swapsWith e (some (.Name x pos')) pos.line X.env = pure false := by rfl)
    (hf : X.fn x = true ∨ X.env.scope.names.lookup x = some .local := by first | exact .inl rfl | exact .inr rfl) : DSX K mg X W (.Assign [.Name x pos'] e pos) (tAsg te (gName i)) (asgM me (nameG i)) xe := ⟨a.k, fun tk _ => ps_set hN hi hx (a.p tk) hs hf, ss_asg a.s (sg_name i), xst_asg a.x⟩
theorem dsx_if {p q : List Stmt} (hc : DT K X c tc mc) (a : DSsX K mg X W p t m x) (b : DSsX K mg X W q u n y) : DSX K mg X W (.If c p q pos) (tIfS tc t u) (ifSM mc m n) (ifX mc x y) := ⟨a.k, fun tk po => ps_if hc.p (a.p tk po) (b.p tk po), ss_if hc.s a.s b.s, by
  intro Φ σ H μ sg h xn sg' h' S rs e k E
  unfold ifX at e
  split at e
  · rename_i h1 e1
    exact hc.s σ H μ sg h _ h1 S rs e1 _ fun H1 μ1 S1 l1 => iteT (a.x σ H1 μ1 sg h1 xn sg' h' S1 (rs.mono l1) e (k.le l1) E)
  · rename_i h1 e1
    exact hc.s σ H μ sg h _ h1 S rs e1 _ fun H1 μ1 S1 l1 => iteF (b.x σ H1 μ1 sg h1 xn sg' h' S1 (rs.mono l1) e (k.le l1) E)
  · cases e⟩
theorem dsx_while {body : List Stmt} {tb : TS} {mb : MS} {xb : MX} (N : Nat) (hc : DT K X c tc mc) (hb : DSsX K mg X W body tb mb xb) : DSX K mg X W (.While c body [] pos) (tWhile tc tb) (whileM mc mb N) (whileX mc mb xb N) := ⟨hc.k, fun tk po => ps_while po hc.p (hb.p tk po), ss_while N hc.s hb.s, by
  intro Φ σ H μ sg h xn sg' h' S rs e k E
  refine ⟨fun m σ1 H1 => ∃ μ1 sg1 h1, Sm Φ K H1 μ1 h1 ∧ Le K H μ H1 μ1 ∧ Rs K H1 μ1 sg1 σ1 ∧ whileX mc mb xb m sg1 h1 = some (xn, sg', h'), ⟨N, μ, sg, h, S, Le.refl, rs, e⟩, ?_⟩
  rintro m σ1 H1 ⟨μ1, sg1, h1, S1, l1, rs1, e1⟩
  cases m with
  | zero => cases e1
  | succ m =>
    unfold whileX at e1
    split at e1
    · rename_i h2 e2
      refine hc.s σ1 H1 μ1 sg1 h1 _ h2 S1 rs1 e2 _ fun H2 μ2 S2 l2 => iteT ?_
      refine ⟨fun σ3 H3 => ∃ μ3 sg3 h3, Sm Φ K H3 μ3 h3 ∧ Le K H μ H3 μ3 ∧ Rs K H3 μ3 sg3 σ3 ∧ whileX mc mb xb m sg3 h3 = some (xn, sg', h'), fun σ3 H3 q => ⟨m, Nat.lt_succ_self _, q⟩, ?_⟩
      split at e1
      · rename_i r e3
        cases e1
        exact hb.x σ1 H2 μ2 sg1 h2 xn sg' h' S2 (rs1.mono l2) e3 ((k.le l1).le l2) _
      · split at e1
        · rename_i sg3 h3 e3
          exact hb.s σ1 H2 μ2 sg1 h2 _ h3 S2 (rs1.mono l2) e3 _ fun σ3 H3 μ3 S3 l3 rs3 => ⟨μ3, sg3, h3, S3, (l1.trans l2).trans l3, rs3, e1⟩
        · rename_i sg3 h3 e3
          exact hb.s σ1 H2 μ2 sg1 h2 _ h3 S2 (rs1.mono l2) e3 _ fun σ3 H3 μ3 S3 l3 rs3 => ⟨μ3, sg3, h3, S3, (l1.trans l2).trans l3, rs3, e1⟩
        · cases e1
    · cases e1⟩
theorem dsx_for {tg it : Expr} {ti : TI} {mi : MI} {gt : TG} {mg' : MG} {body : List Stmt} {tb : TS} {mb : MS} {xb : MX} (N : Nat) (hi : DI K X tg it ti mi) (hg : DG K X tg gt mg') (hb : DSsX K mg X W body tb mb xb) (hs : ∀ x, foldedSetIterable it X.env x = pure x := by intro _; rfl) (hc : X.calm = true := by rfl) :
    DSX K mg X W (.For tg it body [] pos) (tFor ti gt tb) (forSM mi mg' mb N) (forSX mi mg' mb xb N) := ⟨hi.k, fun tk po => ps_for po hc hi.p hg.p (hb.p tk po) hs, ss_for N hi.s hg.s hb.s, by
  intro Φ σ H μ sg h xn sg' h' S rs e k E
  unfold forSX at e
  split at e
  · rename_i s h0 e0
    refine hi.s σ H μ sg h s h0 S rs e0 _ fun J H0 μ0 S0 l0 hJ => ?_
    refine ⟨fun i m σ1 H1 => ∃ μ1 sg1 h1, Sm Φ K H1 μ1 h1 ∧ Le K H0 μ0 H1 μ1 ∧ Rs K H1 μ1 sg1 σ1 ∧ forX s mg' mb xb m i sg1 h1 = some (xn, sg', h'), ⟨N, μ0, sg, h0, S0, Le.refl, rs.mono l0, e⟩, ?_⟩
    rintro i m σ1 H1 ⟨μ1, sg1, h1, S1, l1, rs1, e1⟩
    cases m with
    | zero => cases e1
    | succ m =>
      unfold forX at e1
      obtain ⟨j1, j2⟩ := hJ i H1 μ1 h1 S1 l1
      split at e1
      · rename_i d q
        obtain ⟨go, yld⟩ := j1 d q
        refine .inr ⟨go, fun σ3 H3 => ∃ μ3 sg3 h3, Sm Φ K H3 μ3 h3 ∧ Le K H0 μ0 H3 μ3 ∧ Rs K H3 μ3 sg3 σ3 ∧ forX s mg' mb xb m (i + 1) sg3 h3 = some (xn, sg', h'), fun σ3 H3 q => ⟨m, Nat.lt_succ_self _, q⟩, fun x H2 y => ?_⟩
        obtain ⟨S2, l2, r2⟩ := yld x H2 y
        split at e1
        · rename_i sg3 h3 e3
          refine hg.s σ1 H2 μ1 sg1 h1 d x sg3 h3 S2 (rs1.mono l2) r2 e3 _ fun σ3 H3 μ3 S3 l3 rs3 => ?_
          split at e1
          · rename_i r e4
            cases e1
            exact hb.x σ3 H3 μ3 sg3 h3 xn sg' h' S3 rs3 e4 ((((k.le l0).le l1).le l2).le l3) _
          · split at e1
            · rename_i sg4 h4 e4
              exact hb.s σ3 H3 μ3 sg3 h3 _ h4 S3 rs3 e4 _ fun σ4 H4 μ4 S4 l4 rs4 => ⟨μ4, sg4, h4, S4, ((l1.trans l2).trans l3).trans l4, rs4, e1⟩
            · rename_i sg4 h4 e4
              exact hb.s σ3 H3 μ3 sg3 h3 _ h4 S3 rs3 e4 _ fun σ4 H4 μ4 S4 l4 rs4 => ⟨μ4, sg4, h4, S4, ((l1.trans l2).trans l3).trans l4, rs4, e1⟩
            · cases e1
        · cases e1
      · cases e1
  · cases e⟩
end

/-! ### an own exception's own __init__ -/
/-- what the written part says of a base class whose __init__ is called by its name -/
structure BasC (K : PySem.W.Frag) (mg : Str → Option Value) (x : Str) : Prop where
  ex : ∃ C : Addr, mg x = some (.ref C) ∧ PySem.W.readsIn K C (.type "type") = true ∧ PySem.W.findCls K (.ref C) (.type "type") "__init__" = some (.val (.builtin "ValueError.__init__"))
section
variable {X : Cx} {x : Str} {e : Expr} {es : List Expr} {ta : TA} {p1 p2 pos : Pos}
theorem pe_binit {pl : Sem Bool} (b : BasC X.K X.mg x) (hg : Gl X x) (ha : PA X (e :: es) ta) (hdb : (x == ("__debug__" : Str)) = false := by decide)
    (hc : eval (.Call (.Attribute (.Name x p1) "__init__" p2) (e :: es) [] pos) X.env = (do
      let ov ← eval (.Name x p1) X.env
      standAt p2.atName
      let (f, first) ← holding [ov] (getMethod ov "__init__" pl)
      callWith pos f first (backTo pos (starEach (e :: es) X.env)) (backToKw pos (keywordEach [] X.env))) := by rfl)
    (he : starEach (e :: es) X.env = (false, eval e X.env) :: starEach es X.env := by rfl) (hpl : (backTo pos (starEach es X.env)).any (·.1) = false := by rfl) :
    PE X (.Call (.Attribute (.Name x p1) "__init__" p2) (e :: es) [] pos) (tVeI X.K ta) := by
  obtain ⟨CB, hm, hr, hf⟩ := b.ex
  refine ⟨fun pins s σ H Q I h => ?_⟩
  refine PySem.W.methodCall_KW (ld_glob I hg hm ?_ hdb) hc
  refine PySem.W.method_ref I.kIn hr hf (by decide +kernel) ?_
  show wpAny _ _ (callWith pos (Value.builtin "ValueError.__init__") [] (backTo pos (starEach (e :: es) X.env)) []) _ _ _
  refine PyProof.Rows.callWith_method1 (thn (ha.run pos pins _ σ H _ (I.tok _) h) fun us s1 ⟨vs, H1, I1, r1, a, C, ws, ev, hl, T, ea, q⟩ => ?_) he hpl
  subst ev
  cases r1 with
  | @cons _ u0 _ ur ra rw' =>
    obtain rfl : u0 = Value.ref a := ra
    have hlen : ur.length ≤ sizeLine := by
      rw [← Paired.length rw', sizeLine_eq]
      omega
    exact oinit_ok T I1 ea hlen fun s' J => ⟨.non, H1, J, rfl, q⟩
end
end DL

/-! DM12: several except clauses, with names or without. -/
namespace DL
open PySem L2 PySem.Spec PyProof.Rows
/-- one clause: its class, the slot of its name, its suite -/
structure Hs where
  c : Value
  i : Option Nat
  ts : Addr → Value → Option Addr → TS
def putI (i : Option Nat) (σ : L2.St) (o : Option V) : L2.St := match i with
  | some i => σ.set i o
  | none => σ
def endI (i : Option Nat) (D : Ends) : Ends := { nx := fun σ' H' => D.nx (putI i σ' none) H', rt := D.rt, bk := fun σ' H' => D.bk (putI i σ' none) H', ct := fun σ' H' => D.ct (putI i σ' none) H' }
/-- what the clauses wish of an exception of the body, one after the other -/
def wHs (K : PySem.W.Frag) (Wout : WX) (D : Ends) : List Hs → WX
  | [] => Wout
  | q :: r => fun cls d σ H => ∃ b, PySem.W.exmOne K cls q.c = some b ∧ (b = true → ∀ a, H a = none → q.ts a cls d (endI q.i D) (putI q.i σ (some (.ref a))) H) ∧ (b = false → wHs K Wout D r cls d σ H)
inductive HsOk (X : Cx) : List ExceptHandler → List Hs → Prop
  | nil : HsOk X [] []
  | cons {x : Str} {c : Value} {ts : Addr → Value → Option Addr → TS} {b₀ : Stmt} {suite : List Stmt} {np pos' : Pos} {hds : List ExceptHandler} {l : List Hs} (hc : Names X x c)
      (hsu : ∀ (a : Addr) (oe : Obj) (cls : Value) (d : Option Addr) (pn : List (Addr × Obj)), Zc cls d oe → (∃ vs, oe.data = .fields vs) → PSs (X.suite a ((a, oe) :: pn)) (b₀ :: suite) (ts a cls d)) (r : HsOk X hds l) :
      HsOk X (.ExceptHandler (some (.Name x np)) none (b₀ :: suite) pos' :: hds) (⟨c, none, ts⟩ :: l)
  | consA {x n : Str} {i : Nat} {c : Value} {ts : Addr → Value → Option Addr → TS} {b₀ : Stmt} {suite : List Stmt} {np pos' : Pos} {hds : List ExceptHandler} {l : List Hs} (hc : Names X x c) (hi : X.N[i]? = some n) (hln : X.env.kindOf n = some .local)
      (hsu : ∀ (a : Addr) (oe : Obj) (cls : Value) (d : Option Addr) (pn : List (Addr × Obj)), Zc cls d oe → (∃ vs, oe.data = .fields vs) → PSs (X.suite a ((a, oe) :: pn)) (b₀ :: suite) (ts a cls d)) (r : HsOk X hds l) :
      HsOk X (.ExceptHandler (some (.Name x np)) (some n) (b₀ :: suite) pos' :: hds) (⟨c, some i, ts⟩ :: l)
section
variable {X : Cx} {body : List Stmt} {h₀ : ExceptHandler} {hds : List ExceptHandler} {l : List Hs} {pos : Pos} {tb : WX → TS} {Wout : WX}
theorem ps_try_hs (hs : X.stack = X.env :: X.outer) (hf : X.env.frame = some X.env.locals) (hN : X.N.Nodup) (tk : Takes X Wout)
    (hb : ∀ (W : WX) (pn : List (Addr × Obj)) (xe : Value → Shared → Prop), Takes (X.tr pn xe) W → PassesOwn (model X.prog X.w) X.A X.env xe → PSs (X.tr pn xe) body (tb W))
    (hh : HsOk X (h₀ :: hds) l) : PS X (.Try body (h₀ :: hds) [] [] pos) (fun D σ H => tb (wHs X.K Wout D l) D σ H) := by
  refine ⟨fun pins s σ H D I h => ?_⟩
  have ok := I.ok
  have hfr : X.A.frames = some (X.env :: X.outer) := by rw [ok.frames, hs]
  refine wpAny_Try_except ?_
  refine wpAny_mono ((hb (wHs X.K Wout D l) (X.pn ++ pins) (fun e s₁ => wpAny (model X.prog X.w) X.A (noteFrame e X.env) (fun _ s₂ => wpAny (model X.prog X.w) X.A (setFlight e none) (fun _ s₃ =>
    wpAny (model X.prog X.w) X.A (handleBy e X.env (h₀ :: hds)) (SP X pins D) X.xe s₃) X.xe s₂) X.xe s₁) (fun u s' xx => ?_) PassesOwn.looking).run [] s σ H D (I.toTry _) h) (fun f s1 hsp => ?_) (fun e s1 he => he)
  · obtain ⟨a, B, sI, pins', σ', H', cls, d, rfl, J', nb, up, sky, na, os, ag, w⟩ := xx
    have J : Inv X pins σ' H' sI := J'.ofTry ok
    have sky' : Sky B (X.env :: X.outer) a (Zc cls d) X.env.locals s'.heap := by rw [← hs]; exact sky
    show wpAny (model X.prog X.w) X.A (noteFrame (.ref a) X.env) _ _ _
    refine Sky.land Zc.steady hfr hf sky' fun h3 fl3 up3 => ?_
    have J3 : Inv X pins σ' H' { s' with heap := h3 } := J.landed nb fl3.1 (up.trans up3) os ag
    obtain ⟨oe3, vs3, he3, hz3, hd3⟩ := fl3.there
    have nfr : a ∉ frs (X.env :: X.outer) := fun hm => by
      obtain ⟨_, o', e', hnf⟩ := fl3.2.2.1.mem hm
      rw [he3] at e'; cases e'
      exact hnf _ hd3
    have nL : a ≠ X.env.locals := fun z => nfr (List.mem_filterMap.mpr ⟨X.env, List.mem_cons_self, by rw [hf, z]⟩)
    have nF : a ∉ X.fs := fun hm => by
      obtain ⟨e, he, q⟩ := List.mem_filterMap.mp hm
      exact nfr (List.mem_filterMap.mpr ⟨e, List.mem_cons_of_mem _ he, q⟩)
    have S3 := J3.suite he3 hd3 na nL nF
    have LT : PySem.W.Looks (model X.prog X.w) h3 (typeOf (.ref a)) cls := fun A Q E s k q => wpAny_typeOf_ref (k _ _ he3) (by rw [hz3.1]; exact q)
    have test : ∀ {x : Str} {c : Value} {np : Pos}, Names X x c → ∀ {Q : Value → Shared → Prop} {E : Value → Shared → Prop}, Q c { s' with heap := h3 } → wpAny (model X.prog X.w) (X.A.mark (some (.ref a))) (eval (.Name x np) X.env) Q E { s' with heap := h3 } := fun {x c np} hc {Q E} q => by
      obtain ⟨hg, hdbg, hm | ⟨hm, hv, hnn⟩⟩ := hc
      · exact ld_glob (X := X.suite a ((a, oe3) :: (X.pn ++ pins))) S3 hg hm q hdbg
      · exact ld_blt (X := X.suite a ((a, oe3) :: (X.pn ++ pins))) S3 hg hm hv q hnn hdbg
    have go : ∀ {hds' : List ExceptHandler} {l' : List Hs}, HsOk X hds' l' → wHs X.K Wout D l' cls d σ' H' → wpAny (model X.prog X.w) X.A (handleBy (.ref a) X.env hds') (SP X pins D) X.xe { s' with heap := h3 } := by
      intro hds' l' hk
      induction hk with
      | nil =>
        intro w
        refine wpAny_handleBy_nil ?_
        obtain ⟨k1, k2, k3, oe, vs, T, oT, ts', he, hz, hd, h1, hr⟩ := id fl3
        unfold PySem.passOn
        refine wpAny_bind (wpAny_field he hd h1 ?_)
        rw [if_neg (show ¬ ((Value.ref T == Value.none) = true) from by simp)]
        have fin : wpAny (model X.prog X.w) X.A (setFlight (.ref a) X.env.frame) (fun _ s4 => wpAny (model X.prog X.w) X.A (throw (.ref a) : Sem Flow) (SP X pins D) X.xe s4) X.xe { s' with heap := h3 } := by
          rw [hf]
          refine HandSPX.setFlight_upZ fl3 fun h4 hh4 up4 => wpAny_throw (tk _ _ ?_)
          exact ⟨a, B, sI, pins, σ', H', cls, d, rfl, J, nb, (up.trans up3).trans up4, .inr (.inr (by rw [hs]; exact hh4)), na, os, ag, w⟩
        first
          | exact wpAny_bind (wpAny_pure (wpAny_bind fin))
          | exact wpAny_bind fin
      | @cons x c ts b₀ suite np pos' hds2 l2 hc hsu r ih =>
        intro w
        obtain ⟨b, hb1, hyes, hno⟩ := w
        refine wpAny_handleBy_cons (codeAny_handlers_test ?_) (by intro q; cases q)
        refine test hc ((PySem.W.exm_one (M := model X.prog X.w) (J3.kIn) LT hb1).here ?_)
        cases b with
        | true =>
          refine codeAny_handlers_suite ?_
          refine HandSPX.lands_againZ fl3 fun h4 fl4 up4 => ?_
          have J4 : Inv X pins σ' H' { s' with heap := h4 } := J.landed nb fl4.1 ((up.trans up3).trans up4) os ag
          obtain ⟨oe4, vs4, he4, hz4, hd4⟩ := fl4.there
          have S4 := J4.suite he4 hd4 na nL nF
          refine wpAny_mono ((hsu a oe4 cls d (X.pn ++ pins) hz4 ⟨_, hd4⟩).run [] _ _ H' _ S4 (hyes rfl a na)) (fun f s6 hsp => ?_) (fun _ _ z => False.elim z)
          cases f with
          | next =>
            obtain ⟨σ6, H6, S6, q6⟩ := hsp
            exact ⟨_, _, S6.unsuite ok, q6⟩
          | brk =>
            obtain ⟨σ6, H6, S6, q6⟩ := hsp
            exact ⟨_, _, S6.unsuite ok, q6⟩
          | cont =>
            obtain ⟨σ6, H6, S6, q6⟩ := hsp
            exact ⟨_, _, S6.unsuite ok, q6⟩
          | ret u =>
            obtain ⟨v6, σ6, H6, S6, r6, q6⟩ := hsp
            exact ⟨_, _, _, S6.unsuite ok, r6, q6⟩
        | false =>
          show wpAny _ X.A (handleBy (.ref a) X.env hds2) _ _ _
          exact ih (hno rfl)
      | @consA x n i c ts b₀ suite np pos' hds2 l2 hc hi hln hsu r ih =>
        intro w
        obtain ⟨b, hb1, hyes, hno⟩ := w
        refine wpAny_handleBy_cons (codeAny_handlers_test ?_) (by intro q; cases q)
        refine test hc ((PySem.W.exm_one (M := model X.prog X.w) (J3.kIn) LT hb1).here ?_)
        cases b with
        | true =>
          refine codeAny_handlers_suite_as ?_
          refine HandSPX.lands_againZ fl3 fun h4 fl4 up4 => ?_
          have J4 : Inv X pins σ' H' { s' with heap := h4 } := J.landed nb fl4.1 ((up.trans up3).trans up4) os ag
          obtain ⟨oe4, vs4, he4, hz4, hd4⟩ := fl4.there
          have S4 := J4.suite he4 hd4 na nL nF
          refine store_ok (X := X.suite a ((a, oe4) :: (X.pn ++ pins))) (v := .ref a) S4 hN hi (.inl hln) rfl (fun s5 S5 => ?_) (.inr hln)
          refine wpAny_mono ((hsu a oe4 cls d (X.pn ++ pins) hz4 ⟨_, hd4⟩).run [] s5 _ H' _ S5 (hyes rfl a na)) (fun f s6 hsp => ?_) (fun _ _ z => False.elim z)
          have end_ : ∀ {σ6 : L2.St} {H6 : Hp} {Q : Shared → Prop}, Inv (X.suite a ((a, oe4) :: (X.pn ++ pins))) [] σ6 H6 s6 → (∀ s7, Inv X pins (σ6.set i none) H6 s7 → Q s7) →
              wpAny (model X.prog X.w) X.A (do bindName X.env n .none; unbindBehindTheSuite X.env n pos') (fun _ s7 => Q s7) X.xe s6 := fun {σ6 H6 Q} S6 hq => gone_ok (S6.unsuite ok) hN hi hln hq
          cases f with
          | next =>
            obtain ⟨σ6, H6, S6, q6⟩ := hsp
            exact end_ S6 fun s7 J7 => ⟨_, _, J7, q6⟩
          | brk =>
            obtain ⟨σ6, H6, S6, q6⟩ := hsp
            exact end_ S6 fun s7 J7 => ⟨_, _, J7, q6⟩
          | cont =>
            obtain ⟨σ6, H6, S6, q6⟩ := hsp
            exact end_ S6 fun s7 J7 => ⟨_, _, J7, q6⟩
          | ret u =>
            obtain ⟨v6, σ6, H6, S6, r6, q6⟩ := hsp
            exact end_ S6 fun s7 J7 => ⟨_, _, _, J7, r6, q6⟩
        | false =>
          show wpAny _ X.A (handleBy (.ref a) X.env hds2) _ _ _
          exact ih (hno rfl)
    exact go hh w
  · cases f with
    | next =>
      obtain ⟨σ', H', J', q⟩ := hsp
      exact wpAny_execs_nil ⟨σ', H', J'.ofTry ok, q⟩
    | brk =>
      obtain ⟨σ', H', J', q⟩ := hsp
      exact ⟨σ', H', J'.ofTry ok, q⟩
    | cont =>
      obtain ⟨σ', H', J', q⟩ := hsp
      exact ⟨σ', H', J'.ofTry ok, q⟩
    | ret u =>
      obtain ⟨v, σ', H', J', r, q⟩ := hsp
      exact ⟨v, σ', H', J'.ofTry ok, r, q⟩
end
end DL

/-! DM13: raise C(..); own exceptions; suites; try. -/
namespace DL
open PySem L2 PySem.Spec PyProof.Rows

/-! ### what an own __init__ keeps -/
def spI (K : PySem.W.Frag) (C : Addr) (fs : List Str) : Sp := fun vs H Q _ => ∃ (a : Addr) (ys : List V), vs = .ref a :: ys ∧ ys.length = fs.length ∧ H a = some (exo a C none) ∧
  ∀ (H' : Hp) (dx : Addr), H dx = none → dx ≠ a → H' a = some (exo a C (some dx)) → H' dx = some (exd dx (fs.zip ys).reverse) → (∀ b, b ≠ a → b ≠ dx → H' b = H b) → Q .non H'
theorem spI_len {K : PySem.W.Frag} {C : Addr} {fs : List Str} {vs : List V} {H : Hp} {Q : VK} {E : XK} (h : spI K C fs vs H Q E) : vs.length = fs.length + 1 := by
  obtain ⟨a, ys, rfl, hl, _⟩ := h
  rw [List.length_cons, hl]
section
variable {K : PySem.W.Frag} {C : Addr} {N : List Str} {H : Hp} {Q : VK} {E : XK} {vs : List V}
theorem ini1 {f : Str} (T : OexC K C) (hno : PySem.W.findIn K (.ref C) f = some none) (h : spI K C [f] vs H Q E) :
    tSeq (tDrop (tVeI K (tCons (tVar 0) tNil))) (tOst K f (tVar 0) (tVar 1)) { nx := fun _ H' => Q .non H', rt := Q } (L2.start [("self" : Str), f] vs) H := by
  obtain ⟨a, ys, rfl, hl, ha, k⟩ := h
  match ys, hl with
  | [y], _ =>
    refine ⟨_, rfl, a, C, [], rfl, by decide, T, ha, y, rfl, _, rfl, a, C, rfl, T, hno, .inl ⟨ha, fun dx hd hne => ?_⟩⟩
    exact k _ dx hd hne upd_same (by rw [upd_ne hne]; exact upd_same) fun b hb hb2 => by rw [upd_ne hb, upd_ne hb2]
theorem ini2 {f g : Str} (T : OexC K C) (hno : PySem.W.findIn K (.ref C) f = some none) (hno2 : PySem.W.findIn K (.ref C) g = some none) (h : spI K C [f, g] vs H Q E) :
    tSeq (tDrop (tVeI K (tCons (tVar 0) tNil))) (tSeq (tOst K f (tVar 0) (tVar 1)) (tOst K g (tVar 0) (tVar 2))) { nx := fun _ H' => Q .non H', rt := Q } (L2.start [("self" : Str), f, g] vs) H := by
  obtain ⟨a, ys, rfl, hl, ha, k⟩ := h
  match ys, hl with
  | [y, z], _ =>
    refine ⟨_, rfl, a, C, [], rfl, by decide, T, ha, y, rfl, _, rfl, a, C, rfl, T, hno, .inl ⟨ha, fun dx hd hne => ?_⟩⟩
    refine ⟨z, rfl, _, rfl, a, C, rfl, T, hno2, .inr ⟨dx, _, upd_same, by rw [upd_ne hne]; exact upd_same, by simp, ?_⟩⟩
    exact k _ dx hd hne (by rw [upd_ne fun z => hne z.symm]; exact upd_same) upd_same fun b hb hb2 => by rw [upd_ne hb2, upd_ne hb, upd_ne hb2]
end
/-- what the text says of an own exception class with fields fs -/
structure ExT (K : PySem.W.Frag) (mg : Str → Option Value) (x : Str) (fs : List Str) : Prop where
  ex : ∃ (C fI : Addr) (fd : FuncData), mg x = some (.ref C) ∧ OexC K C ∧ PySem.W.findIn K (.ref C) "__init__" = some (some (.ref fI)) ∧ PySem.W.typeIn K (.ref fI) = some (.type "function") ∧
    (∀ (P : Program) (w : World) (base : Heap), FnOk P w K mg base (L2.CX P w) 1 fI fd ("self" :: fs) (spI K C fs)) ∧ Binds K fd ("self" :: fs) [] ∧ XfC K C ∧ ∀ f ∈ fs, PySem.W.findIn K (.ref C) f = some none

/-! ### raise -/
def raiseX (x : Str) (fs : List Str) (a : MA) : MX := fun sg h => match a sg h with
  | some (ds, h1) => if ds.length = fs.length ∧ fs.length ≤ 1000 then some (⟨x, (fs.zip ds).reverse⟩, sg, h1) else none
  | none => none
def tRaise (K : PySem.W.Frag) (mg : Str → Option Value) (x : Str) (fs : List Str) (W : WX) (ta : TA) : TS := fun _ σ H => ∀ C, mg x = some (.ref C) → tMkO C (spI K C fs) [] ta σ H fun cls d H' => W cls d σ H'
theorem zip_rev {α β : Type} : ∀ {as : List α} {bs : List β}, as.length = bs.length → (as.zip bs).reverse = as.reverse.zip bs.reverse
  | [], [], _ => rfl
  | a :: as, b :: bs, h => by
    have h' : as.length = bs.length := by simpa using h
    rw [List.zip_cons_cons, List.reverse_cons, zip_rev h', List.reverse_cons, List.reverse_cons, List.zip_append (by simp [h'])]
    rfl
theorem le_xd {K : PySem.W.Frag} {H : Hp} {μ : List Addr} {p : Addr} {o : HO} (hp : H p = none) : Le K H μ (upd H p o) μ := le_new hp
section
variable {K : PySem.W.Frag} {mg : Str → Option Value} {X : Cx} {W : WX} {x : Str} {fs : List Str} {e : Expr} {es : List Expr} {ta : TA} {ma : MA} {p pos pos' : Pos} {k : Nat}
theorem dsx_raise (T : ExT K mg x fs) (hr : RoomG (k + 2) X.A) (ha : DA K X (e :: es) ta ma) (hmg : X.mg = mg := by rfl) (hc : X.calm = true := by rfl) (hg : Gl X x := by rfl) (hdb : (x == ("__debug__" : Str)) = false := by decide)
    (he : starEach (e :: es) X.env = (false, eval e X.env) :: starEach es X.env := by rfl) (hpl : (backTo pos (starEach es X.env)).any (·.1) = false := by rfl) :
    DSX K mg X W (.Raise (some (.Call (.Name x p) (e :: es) [] pos)) none pos') (tRaise K mg x fs W ta) neverM (raiseX x fs ma) := ⟨ha.k, fun tk _ => by
  have hk := ha.k
  subst hk
  subst hmg
  obtain ⟨C, fI, fd, hm, oC, iC, tI, F1, hb, _, _⟩ := T.ex
  exact ⟨fun pins s σ H D I q => (ps_raise hc tk (pmk_oex oC iC tI (F1 _ _ _) (hr.r.mono (by omega)) hb .nil passL hg hm ha.p hdb he hpl)).run pins s σ H D I (q C hm)⟩,
  fun {Φ} σ H μ sg h f h' S rs e E k => (by cases e), by
  intro Φ σ H μ sg h xn sg' h' S rs e kk E C hC
  unfold raiseX at e
  split at e
  · rename_i ds h1 e1
    split at e
    · rename_i hl
      cases e
      refine ha.s σ H μ sg h ds _ S rs e1 _ fun vs H1 μ1 S1 l1 r1 => ⟨by rw [r1.len, hl.1]; exact hl.2, fun a hna => ?_⟩
      refine ⟨a, vs, by rw [List.append_nil], by rw [r1.len, hl.1], upd_same, fun H' dx hd hne ea ed kp => ⟨rfl, dx, _, ea, ed, ?_, ?_⟩⟩
      · rw [upd_ne hne] at hd; exact hd
      · rw [upd_ne hne] at hd
        have eH : upd (del H' a) dx (.xd (fs.zip vs).reverse) = upd H1 dx (.xd (fs.zip vs).reverse) := by
          funext b
          by_cases hb : b = dx
          · rw [hb, upd_same, upd_same]
          · rw [upd_ne hb, upd_ne hb]
            by_cases hba : b = a
            · rw [hba, del_same, hna]
            · rw [del_ne hba, kp b hba hb, upd_ne hba]
        rw [eH]
        have l2 : Le K H1 μ1 (upd H1 dx (.xd (fs.zip vs).reverse)) μ1 := le_xd hd
        refine kk σ _ μ1 _ _ (S1.new hd) (l1.trans l2) (rs.mono (l1.trans l2)) ⟨C, dx, vs.reverse, hC, rfl, rfl, ?_, ?_⟩
        · rw [upd_same]
          congr 2
          show _ = (((fs.zip ds).reverse).map (·.1)).zip vs.reverse
          rw [List.map_reverse, List.map_fst_zip (by omega), zip_rev (by rw [r1.len, hl.1])]
        · show Rps K _ μ1 (((fs.zip ds).reverse).map (·.2)) vs.reverse
          rw [List.map_reverse, List.map_snd_zip (by omega)]
          exact (Rps.mono l2 _ _ r1).rev
    · cases e
  · cases e⟩
end

/-! ### what stands in a suite -/
structure Hx (K : PySem.W.Frag) (mg : Str → Option Value) (H : Hp) (μ : List Addr) (σ : L2.St) (sl : Option Nat) (a : Addr) (xn : Xn) (cls : Value) (d : Option Addr) : Prop where
  r : RX K mg H μ xn cls d
  s : ∀ i, sl = some i → σ[i]? = some (some (.ref a))
theorem Hx.mono {K : PySem.W.Frag} {mg : Str → Option Value} {H H' : Hp} {μ μ' : List Addr} {σ : L2.St} {sl : Option Nat} {a : Addr} {xn : Xn} {cls : Value} {d : Option Addr} (l : Le K H μ H' μ') (x : Hx K mg H μ σ sl a xn cls d) : Hx K mg H' μ' σ sl a xn cls d := ⟨x.r.mono l, x.s⟩
def SEh (K : PySem.W.Frag) (mg : Str → Option Value) (sl : Option Nat) (a : Addr) (xn : Xn) (cls : Value) (d : Option Addr) (t : TE) (m : ME) : Prop :=
  ∀ {Φ : Hp} (σ : L2.St) (H : Hp) (μ : List Addr) (sg : Sg) (h : Hd) (y : D) (h' : Hd), Sm Φ K H μ h → Rs K H μ sg σ → Hx K mg H μ σ sl a xn cls d → m sg h = some (y, h') → ∀ Q : VK, Kn Φ K H μ h' y Q → t σ H Q
def SAh (K : PySem.W.Frag) (mg : Str → Option Value) (sl : Option Nat) (a : Addr) (xn : Xn) (cls : Value) (d : Option Addr) (t : TA) (m : MA) : Prop :=
  ∀ {Φ : Hp} (σ : L2.St) (H : Hp) (μ : List Addr) (sg : Sg) (h : Hd) (ys : List D) (h' : Hd), Sm Φ K H μ h → Rs K H μ sg σ → Hx K mg H μ σ sl a xn cls d → m sg h = some (ys, h') → ∀ Q : List V → Hp → Prop,
    (∀ (vs : List V) (H' : Hp) (μ' : List Addr), Sm Φ K H' μ' h' → Le K H μ H' μ' → Rps K H' μ' ys vs → Q vs H') → t σ H Q
structure DEh (K : PySem.W.Frag) (mg : Str → Option Value) (X : Cx) (sl : Option Nat) (a : Addr) (xn : Xn) (cls : Value) (d : Option Addr) (e : Expr) (t : TE) (m : ME) : Prop where
  k : X.K = K
  p : PE X e t
  s : SEh K mg sl a xn cls d t m
structure DAh (K : PySem.W.Frag) (mg : Str → Option Value) (X : Cx) (sl : Option Nat) (a : Addr) (xn : Xn) (cls : Value) (d : Option Addr) (e : List Expr) (t : TA) (m : MA) : Prop where
  k : X.K = K
  p : PA X e t
  s : SAh K mg sl a xn cls d t m
section
variable {K : PySem.W.Frag} {mg : Str → Option Value} {X : Cx} {sl : Option Nat} {a : Addr} {xn : Xn} {cls : Value} {d : Option Addr} {e e1 e2 : Expr} {es : List Expr} {t u : TE} {m n : ME} {ta : TA} {ma : MA} {pos : Pos}
theorem deh_of (x : DE K X e t m) : DEh K mg X sl a xn cls d e t m := ⟨x.k, x.p, fun {Φ} σ H μ sg h y h' S rs _ q Q k => x.s σ H μ sg h y h' S rs q Q k⟩
theorem dah_nil (hK : X.K = K := by rfl) : DAh K mg X sl a xn cls d [] tNil nilM := ⟨hK, pa_nil, fun {Φ} σ H μ sg h y h' S rs _ q Q k => (da_nil (X := X) hK).s σ H μ sg h y h' S rs q Q k⟩
theorem dah_cons (ha : DEh K mg X sl a xn cls d e t m) (hb : DAh K mg X sl a xn cls d es ta ma) (hs : starEach (e :: es) X.env = (false, eval e X.env) :: starEach es X.env := by rfl) : DAh K mg X sl a xn cls d (e :: es) (tCons t ta) (consM m ma) := ⟨ha.k, pa_cons ha.p hb.p hs, by
  intro Φ σ H μ sg h ds h' S rs hx e Q k
  unfold consM at e
  split at e
  · rename_i x h1 e1
    split at e
    · rename_i xs h2 e2
      cases e
      refine ha.s σ H μ sg h x h1 S rs hx e1 _ fun v H1 μ1 S1 l1 r1 => ?_
      refine hb.s σ H1 μ1 sg h1 xs _ S1 (rs.mono l1) (hx.mono l1) e2 _ fun vs H2 μ2 S2 l2 r2 => ?_
      exact k _ H2 μ2 S2 (l1.trans l2) (Rps.cons (Rp.mono l2 _ _ r1) r2)
    · cases e
  · cases e⟩
theorem deh_tup {x1} (ha : DAh K mg X sl a xn cls d es ta ma) : DEh K mg X sl a xn cls d (.Tuple es x1 pos) (tTup ta) (tupM ma) := ⟨ha.k, pe_tup ha.p, by
  intro Φ σ H μ sg h y h' S rs hx e Q k
  unfold tupM at e
  split at e
  · rename_i xs h1 e1
    split at e
    · rename_i hz
      cases e
      refine ha.s σ H μ sg h xs _ S rs hx e1 _ fun vs H1 μ1 S1 l1 r1 => ⟨by rw [r1.len]; exact ln_of hz, fun p hp => kn_tup S1 r1 (fun v H2 μ2 S2 l2 r2 => k v H2 μ2 S2 (l1.trans l2) r2) p hp⟩
    · cases e
  · cases e⟩
theorem seh_op {r : R2} {g : G2} (hs : SO K r g) (ha : SEh K mg sl a xn cls d t m) (hb : SEh K mg sl a xn cls d u n) : SEh K mg sl a xn cls d (tOp r t u) (opM g m n) := by
  intro Φ σ H μ sg h y h' S rs hx e Q k
  unfold opM at e
  split at e
  · rename_i x h1 e1
    split at e
    · rename_i z h2 e2
      refine ha σ H μ sg h x h1 S rs hx e1 _ fun v H1 μ1 S1 l1 r1 => ?_
      refine hb σ H1 μ1 sg h1 z h2 S1 (rs.mono l1) (hx.mono l1) e2 _ fun w H2 μ2 S2 l2 r2 => ?_
      exact hs H2 μ2 h2 x z v w y h' S2 (Rp.mono l2 _ _ r1) r2 e Q fun u H3 μ3 S3 l3 r3 => k u H3 μ3 S3 ((l1.trans l2).trans l3) r3
    · cases e
  · cases e
theorem deh_cmp {op : CmpOp} {r : R2} {g : G2} (hs : SO K r g) (ho : OpR X (compareOp op) r) (ha : DEh K mg X sl a xn cls d e1 t m) (hb : DEh K mg X sl a xn cls d e2 u n) (hm : lastMarks [op] [e2] = false := by with_unfolding_all rfl) : DEh K mg X sl a xn cls d (.Compare e1 [op] [e2] pos) (tOp r t u) (opM g m n) :=
  ⟨ha.k, pe_cmpR ho ha.p hb.p hm, seh_op hs ha.s hb.s⟩
theorem deh_one {op : BoolOp} (ha : DEh K mg X sl a xn cls d e t m) : DEh K mg X sl a xn cls d (.BoolOp op [e] pos) t m := ⟨ha.k, pe_one ha.p, ha.s⟩
theorem deh_and {rest : List Expr} (ha : DEh K mg X sl a xn cls d e1 t m) (hb : DEh K mg X sl a xn cls d (.BoolOp .And (e2 :: rest) pos) u n) : DEh K mg X sl a xn cls d (.BoolOp .And (e1 :: e2 :: rest) pos) (tAndT K t u) (DL.andM m n) := ⟨ha.k, by
  have hk := ha.k
  subst hk
  exact pe_andT ha.p hb.p, by
  intro Φ σ H μ sg h y h' S rs hx e Q k
  unfold DL.andM at e
  split at e
  · rename_i x h1 e1
    refine ha.s σ H μ sg h x h1 S rs hx e1 _ fun v H1 μ1 S1 l1 r1 => ?_
    split at e
    · rename_i et
      exact ⟨true, tru_of S1 r1 et, iteT (hb.s σ H1 μ1 sg h1 y h' S1 (rs.mono l1) (hx.mono l1) e Q fun u H2 μ2 S2 l2 r2 => k u H2 μ2 S2 (l1.trans l2) r2)⟩
    · rename_i et
      cases e
      exact ⟨false, tru_of S1 r1 et, iteF (k v H1 μ1 S1 l1 r1)⟩
    · cases e
  · cases e⟩
end
/-! ### e.f -/
abbrev XTab := List (Str × List Str)
def ExTab (K : PySem.W.Frag) (mg : Str → Option Value) (T : XTab) : Prop := ∀ p ∈ T, ExT K mg p.1 p.2
def fldX (T : XTab) (xn : Xn) (f : Str) : ME := fun _ h => if (T.any fun p => decide (p.1 = xn.cls) && p.2.contains f) = true then match xn.fs.lookup f with
  | some d => some (d, h)
  | none => none else none
theorem lookup_zip {K : PySem.W.Frag} {H : Hp} {μ : List Addr} {f : Str} {d : D} : ∀ {fs : List (Str × D)} {vs : List V}, fs.lookup f = some d → Rps K H μ (fs.map (·.2)) vs → ∃ v, ((fs.map (·.1)).zip vs).lookup f = some v ∧ Rp K H μ d v
  | [], vs, e, r => by cases e
  | (g, y) :: fs, vs, e, r => by
    obtain ⟨v, vs', rfl, r1, r2⟩ := r.cons'
    by_cases hb : (f == g) = true
    · rw [List.lookup_cons, hb] at e
      cases e
      exact ⟨v, by rw [List.map_cons, List.zip_cons_cons, List.lookup_cons, hb], r1⟩
    · have hb' : (f == g) = false := by simpa using hb
      rw [List.lookup_cons, hb'] at e
      obtain ⟨w, q1, q2⟩ := lookup_zip e r2
      exact ⟨w, by rw [List.map_cons, List.zip_cons_cons, List.lookup_cons, hb']; exact q1, q2⟩
def tFld (K : PySem.W.Frag) (a : Addr) (cls : Value) (d : Option Addr) (f : Str) (te : TE) : TE := fun σ H Q => ∃ C, cls = .ref C ∧ XfC K C ∧ PySem.W.findIn K (.ref C) f = some none ∧ tXf a cls d C f te σ H Q
section
variable {K : PySem.W.Frag} {mg : Str → Option Value} {X : Cx} {i : Nat} {a : Addr} {oe : Obj} {xn : Xn} {cls : Value} {d : Option Addr} {pn : List (Addr × Obj)} {f n : Str} {p pos : Pos} {T : XTab}
theorem deh_fld (i : Nat) (tb : ExTab K mg T) (hz : Zc cls d oe) (hf : ∃ vs, oe.data = .fields vs) (hN : X.N[i]? = some n := by rfl) (hV : Vis X.env.scope n := by exact .inl rfl) (hK : X.K = K := by rfl) (hd : (n == ("__debug__" : Str)) = false := by decide) (hcd : (n == ("__classdict__" : Str)) = false := by decide)
    (hb : attributeBase (.Name n p) f X.env (eval (.Name n p) X.env) = eval (.Name n p) X.env := by rfl) :
    DEh K mg (X.suite a ((a, oe) :: pn)) (some i) a xn cls d (.Attribute (.Name n p) f pos) (tFld K a cls d f (tVar i)) (fldX T xn f) := ⟨hK, by
  have hk := hK
  subst hk
  exact ⟨fun pins s σ H Q I ⟨C, ec, xc, hno, q⟩ => (pe_xf xc hno hz hf (pe_var (X := X.suite a ((a, oe) :: pn)) hN hV (hd := hd) (hcd := hcd)) hb).run pins s σ H Q I q⟩, by
  intro Φ σ H μ sg h y h' S rs hx e Q k
  unfold fldX at e
  split at e
  · rename_i hin
    split at e
    · rename_i dd q
      cases e
      obtain ⟨C, dx, vs, h1, h2, h3, h4, h5⟩ := hx.r
      obtain ⟨v, q1, q2⟩ := lookup_zip q h5
      obtain ⟨pr, hpr, hc⟩ := List.any_eq_true.mp hin
      obtain ⟨c1, c2⟩ := Bool.and_eq_true_iff.mp hc
      obtain ⟨C', fI, fd, m1, _, _, _, _, _, xc, hno⟩ := (tb pr hpr).ex
      rw [of_decide_eq_true c1, h1] at m1
      cases m1
      exact ⟨C, h2, xc, hno f (by simpa using c2), .ref a, hx.s i rfl, rfl, h2, dx, _, v, h3, h4, q1, k v H μ S Le.refl q2⟩
    · cases e
  · cases e⟩
end
end DL

/-! DM14: repr; suites with built-ins; try. -/
namespace DL
open PySem L2 PySem.Spec PyProof.Rows

/-! ### repr -/
def rRepr (K : PySem.W.Frag) : List V → Hp → VK → Prop := fun vs H Q => ∃ (v : V), vs = [v] ∧
  ((∃ d, Dp K H v d ∧ d.showable = true ∧ d.hasDict = false ∧ d.depth ≤ 64 ∧ d.shown.length ≤ sizeLine ∧ Q (.str d.shown) H) ∨
    ∃ a, v = .ref a ∧ H a = some (.dK []) ∧ Q (.str (PyData.dict []).shown) H)
section
variable {K : PySem.W.Frag} {X : Cx}
theorem call_reprU (hg : X.A.guards = some []) (hu : X.A.units + 100 < cLine) (hK : X.K = K := by rfl) : CallR X (.builtin "repr") (rRepr K) := by
  subst hK
  intro pins s σ H xs us Q I r h
  obtain ⟨v, rfl, ⟨d, hd, hs, hn, hdp, hl, q⟩ | ⟨a, rfl, ha, q⟩⟩ := h
  · obtain ⟨u, rfl, r1⟩ := vals1 r
    obtain ⟨as, rd⟩ := Dp.reads I d v u hd r1
    cases rd with
    | none => exact PySem.P.repr_of_none ⟨.str _, H, I.tok _, ⟨_, rfl⟩, q⟩
    | bool b => exact PySem.P.repr_of_bool ⟨.str _, H, I.tok _, ⟨_, rfl⟩, q⟩
    | int i t => exact PySem.P.repr_of_int (by simpa [PyData.showable] using hs) ⟨.str _, H, I.tok _, ⟨_, rfl⟩, q⟩
    | str x t => exact PySem.P.repr_of_str ⟨.str _, H, I.tok _, ⟨_, rfl⟩, q⟩ (by simpa [PyData.shown] using hl)
    | list h1 h2 h3 h4 => exact repr_of_reads' (.list h1 h2 h3 h4) hs (fun z => by rw [hn] at z; cases z) hg (by omega) (fun _ _ z => z) (fun h' u tk kp => ⟨.str _, H, I.kept (t' := tk) kp, ⟨_, rfl⟩, q⟩) hl
    | tuple h1 h2 h3 h4 => exact repr_of_reads' (.tuple h1 h2 h3 h4) hs (fun z => by rw [hn] at z; cases z) hg (by omega) (fun _ _ z => z) (fun h' u tk kp => ⟨.str _, H, I.kept (t' := tk) kp, ⟨_, rfl⟩, q⟩) hl
    | dict h1 h2 h3 h4 h5 => simp [PyData.hasDict] at hn
  · obtain ⟨u, rfl, r1⟩ := vals1 r
    obtain rfl : u = Value.ref a := r1
    obtain ⟨_, hm, vs, kv, o, es, ep, ho, hx, hdt, _, hp, _⟩ := I.hok a _ ha
    have e0 : vs = [] := by cases kv; rfl
    subst e0
    have e1 : es.toList = [] := by
      generalize es.toList = l at hp ⊢
      cases hp
      rfl
    have rd : Reads s.heap (.ref a) (.dict []) (a :: [] ++ []) := .dict (n := ep) ho hx.1 hdt (by rw [e1]; exact .nil) (by rw [e1]; exact .nil)
    have hdp : PyData.depth (.dict []) ≤ 2 := by decide
    refine repr_of_reads' rd rfl (fun _ hm' => ?_) hg (by omega) (fun _ _ z => z) (fun h' u tk kp => ⟨.str _, H, I.kept (t' := tk) kp, ⟨_, rfl⟩, q⟩) (by rw [sizeLine_eq]; decide +kernel)
    have : sysModules = a := by simpa using hm'
    rw [← this] at hm
    simp at hm
def reprD : GC := fun xs h => match xs with
  | [x] => match datD h x with
    | some p => if p.showable = true ∧ p.hasDict = false ∧ p.depth ≤ 64 ∧ p.shown.length ≤ LN then some (.str p.shown, h) else none
    | none => match x with
      | .at n => match h[n]? with
        | some (.dct []) => some (.str (PyData.dict []).shown, h)
        | _ => none
      | _ => none
  | _ => none
theorem sc_repr : SC K (rRepr K) reprD := by
  intro Φ H μ h xs vs d h' S r e Q k
  unfold reprD at e
  split at e
  · obtain ⟨v, rfl, r1⟩ := rps1 r
    split at e
    · rename_i p q
      split at e
      · rename_i hc
        cases e
        exact ⟨v, rfl, .inl ⟨p, dat_of S r1 q, hc.1, hc.2.1, hc.2.2.1, ln_of hc.2.2.2, k _ H μ S Le.refl rp_str⟩⟩
      · cases e
    · split at e
      · split at e
        · rename_i q
          cases e
          obtain ⟨a, ea, rfl⟩ := rp_at' r1
          obtain ⟨kw, hk, rk⟩ := S.dct q ea
          rw [rk.nil'] at hk
          exact ⟨_, rfl, .inr ⟨a, rfl, hk, k _ H μ S Le.refl rp_str⟩⟩
        · cases e
      · cases e
  · cases e
end

/-! ### built-ins in a suite -/
section
variable {K : PySem.W.Frag} {mg : Str → Option Value} {X : Cx} {sl : Option Nat} {a : Addr} {xn : Xn} {cls : Value} {d : Option Addr} {e : Expr} {es : List Expr} {t u : TE} {m n : ME} {ta : TA} {ma : MA} {pos p : Pos} {r : List V → Hp → VK → Prop} {g : GC}
theorem deh_callB {x : Str} {id : String} (hs : SC K r g) (hc : CallR X (.builtin id) r) (hm : X.mg x = none) (ha : DAh K mg X sl a xn cls d (e :: es) ta ma) (hv : bootBuiltins x = some (.builtin id) := by decide +kernel) (hg : Gl X x := by rfl) (hn : x ≠ "__name__" := by decide) (hdb : (x == ("__debug__" : Str)) = false := by decide)
    (he : starEach (e :: es) X.env = (false, eval e X.env) :: starEach es X.env := by rfl) (hpl : (backTo pos (starEach es X.env)).any (·.1) = false := by rfl) : DEh K mg X sl a xn cls d (.Call (.Name x p) (e :: es) [] pos) (tCB r ta) (cbM g ma) := ⟨ha.k, pe_callB hc hg hm hv ha.p hn hdb he hpl, by
  intro Φ σ H μ sg h y h' S rs hx e Q k
  unfold cbM at e
  split at e
  · rename_i xs h1 e1
    exact ha.s σ H μ sg h xs h1 S rs hx e1 _ fun vs H1 μ1 S1 l1 r1 => hs H1 μ1 h1 xs vs y h' S1 r1 e Q fun v H2 μ2 S2 l2 r2 => k v H2 μ2 S2 (l1.trans l2) r2
  · cases e⟩
end

/-! ### try -/
structure Hn where
  cls : Str
  sl : Option Nat
  to : Option Nat
  me : Xn → ME
def setI (i : Option Nat) (sg : Sg) (d : Option D) : Sg := match i with
  | some i => sg.set i d
  | none => sg
def okI (i : Option Nat) (sg : Sg) : Bool := match i with
  | some i => decide (i < sg.length)
  | none => true
def handM (q : Hn) (xn : Xn) (sg : Sg) (h : Hd) : Option (Fl × Hd) := if okI q.sl sg = true then match q.me xn (setI q.sl sg none) h with
  | some (d, h2) => match q.to with
    | none => some (.rt d, h2)
    | some j => some (.nx (setI q.sl ((setI q.sl sg none).set j (some d)) none), h2)
  | none => none else none
def handsM (sub : Str → Str → Bool) : List Hn → Xn → Sg → Hd → Option (Fl × Hd)
  | [], _, _, _ => none
  | q :: r, xn, sg, h => if sub xn.cls q.cls = true then handM q xn sg h else handsM sub r xn sg h
def handsX (sub : Str → Str → Bool) : List Hn → Xn → Bool
  | [], _ => true
  | q :: r, xn => if sub xn.cls q.cls = true then false else handsX sub r xn
def tryM (sub : Str → Str → Bool) (L : List Str) (hs : List Hn) (m : MS) (x : MX) : MS := fun sg h => match x sg h with
  | some (xn, sg1, h1) => if L.contains xn.cls = true then handsM sub hs xn sg1 h1 else none
  | none => m sg h
def tryX (sub : Str → Str → Bool) (L : List Str) (hs : List Hn) (x : MX) : MX := fun sg h => match x sg h with
  | some (xn, sg1, h1) => if L.contains xn.cls = true ∧ handsX sub hs xn = true then some (xn, sg1, h1) else none
  | none => none
theorem rs_putI {K : PySem.W.Frag} {H : Hp} {μ : List Addr} {sg : Sg} {σ : L2.St} (i : Option Nat) (o : Option V) (r : Rs K H μ sg σ) : Rs K H μ (setI i sg none) (putI i σ o) := by
  cases i with
  | none => exact r
  | some i =>
    refine ⟨by show (List.set _ _ _).length = (List.set _ _ _).length; rw [List.length_set, List.length_set, r.1], fun j e q => ?_⟩
    show ∃ v, (List.set σ i o)[j]? = _ ∧ _
    have q' : (List.set sg i none)[j]? = some (some e) := q
    by_cases hj : j = i
    · subst hj
      rw [List.getElem?_set] at q'
      simp at q'
    · rw [List.getElem?_set_ne (fun z => hj z.symm)] at q' ⊢
      exact r.2 j e q'
/-- one suite: return e, or n = e -/
def toS (to : Option Nat) (te : TE) : TS := match to with
  | none => tRet te
  | some j => tAsg te (gName j)
structure HnD (K : PySem.W.Frag) (mg : Str → Option Value) (sub : Str → Str → Bool) (L : List Str) (q : Hn) (r : Hs) (te : Addr → Value → Option Addr → TE) : Prop where
  c : ∃ C, mg q.cls = some (.ref C) ∧ r.c = .ref C ∧ ∀ x ∈ L, ∀ Cx, mg x = some (.ref Cx) → PySem.W.exmOne K (.ref Cx) (.ref C) = some (sub x q.cls)
  i : r.i = q.sl
  t : ∀ a cls d, r.ts a cls d = toS q.to (te a cls d)
  s : ∀ a xn cls d, SEh K mg q.sl a xn cls d (te a cls d) (q.me xn)
inductive HnDs (K : PySem.W.Frag) (mg : Str → Option Value) (sub : Str → Str → Bool) (L : List Str) : List Hn → List Hs → Prop
  | nil : HnDs K mg sub L [] []
  | cons {q : Hn} {r : Hs} {te : Addr → Value → Option Addr → TE} {qs : List Hn} {rs : List Hs} : HnD K mg sub L q r te → HnDs K mg sub L qs rs → HnDs K mg sub L (q :: qs) (r :: rs)
section
variable {K : PySem.W.Frag} {mg : Str → Option Value} {sub : Str → Str → Bool} {L : List Str} {W : WX} {Φ : Hp}
theorem hands_ok {qs : List Hn} {rs : List Hs} (hd : HnDs K mg sub L qs rs) {H : Hp} {μ : List Addr} {sg : Sg} {h : Hd} {σ : L2.St} {xn : Xn} {cls : Value} {d : Option Addr} {f : Fl} {h' : Hd} {E : Ends} (S : Sm Φ K H μ h) (rsg : Rs K H μ sg σ)
    (hx : RX K mg H μ xn cls d) (hL : xn.cls ∈ L) (e : handsM sub qs xn sg h = some (f, h')) (k : Ek Φ K H μ h' f E) : wHs K W E rs cls d σ H := by
  induction hd with
  | nil => cases e
  | @cons q r te qs rs hq _ ih =>
    obtain ⟨C, hC, hr, hsub⟩ := hq.c
    obtain ⟨Cx, dx, vs, h1, h2, h3, h4, h5⟩ := id hx
    refine ⟨sub xn.cls q.cls, by rw [hr, h2]; exact hsub _ hL Cx h1, fun hb a na => ?_, fun hb => ?_⟩
    · unfold handsM at e
      rw [if_pos hb] at e
      unfold handM at e
      rw [hq.t, hq.i]
      split at e
      · rename_i hok
        have hsl : ∀ i, q.sl = some i → i < σ.length := fun i hi => by
          rw [hi] at hok
          rw [← rsg.1]
          exact of_decide_eq_true hok
        split at e
        · rename_i y h2' e1
          have hxx : Hx K mg H μ (putI q.sl σ (some (.ref a))) q.sl a xn cls d := ⟨hx, fun i hi => by
            rw [hi]
            show (List.set σ i _)[i]? = _
            rw [List.getElem?_set_self (hsl i hi)]⟩
          have rs1 : Rs K H μ (setI q.sl sg none) (putI q.sl σ (some (.ref a))) := rs_putI _ _ rsg
          unfold toS
          split at e
          · rename_i hto
            cases e
            rw [hto]
            exact hq.s a xn cls d _ H μ _ h _ _ S rs1 hxx e1 _ fun v H1 μ1 S1 l1 r1 => k v H1 μ1 S1 l1 r1
          · rename_i j hto
            cases e
            rw [hto]
            exact hq.s a xn cls d _ H μ _ h _ _ S rs1 hxx e1 _ fun v H1 μ1 S1 l1 r1 => k _ H1 μ1 S1 l1 (rs_putI q.sl none ((rs1.mono l1).put j r1))
        · cases e
      · cases e
    · unfold handsM at e
      rw [if_neg (by rw [hb]; exact Bool.false_ne_true)] at e
      exact ih e
end
section
variable {K : PySem.W.Frag} {mg : Str → Option Value} {sub : Str → Str → Bool} {L : List Str} {W : WX} {Φ : Hp}
theorem handsX_ok {qs : List Hn} {rs : List Hs} (hd : HnDs K mg sub L qs rs) {H : Hp} {μ : List Addr} {σ : L2.St} {xn : Xn} {cls : Value} {d : Option Addr} {E : Ends}
    (hx : RX K mg H μ xn cls d) (hL : xn.cls ∈ L) (e : handsX sub qs xn = true) (k : W cls d σ H) : wHs K W E rs cls d σ H := by
  induction hd with
  | nil => exact k
  | @cons q r te qs rs hq _ ih =>
    obtain ⟨C, hC, hr, hsub⟩ := hq.c
    obtain ⟨Cx, dx, vs, h1, h2, h3, h4, h5⟩ := id hx
    refine ⟨sub xn.cls q.cls, by rw [hr, h2]; exact hsub _ hL Cx h1, fun hb a na => ?_, fun hb => ?_⟩
    · unfold handsX at e
      rw [if_pos hb] at e
      cases e
    · unfold handsX at e
      rw [if_neg (by rw [hb]; exact Bool.false_ne_true)] at e
      exact ih e
theorem Ek.le' {K : PySem.W.Frag} {H H1 : Hp} {μ μ1 : List Addr} {h' : Hd} {f : Fl} {E : Ends} (k : Ek Φ K H μ h' f E) (l : Le K H μ H1 μ1) : Ek Φ K H1 μ1 h' f E := k.le l
end
section
variable {K : PySem.W.Frag} {mg : Str → Option Value} {X : Cx} {W : WX} {sub : Str → Str → Bool} {L : List Str} {body : List Stmt} {h₀ : ExceptHandler} {hds : List ExceptHandler} {qs : List Hn} {l : List Hs} {pos : Pos} {tb : WX → TS} {m : MS} {x : MX}
/-- what the text says of a clause -/
inductive HnOk (K : PySem.W.Frag) (mg : Str → Option Value) (X : Cx) (sub : Str → Str → Bool) (L : List Str) : List ExceptHandler → List Hn → List Hs → Prop
  | nil : HnOk K mg X sub L [] [] []
  | ret {x : Str} {C : Addr} {np pos' p : Pos} {e : Expr} {te : Addr → Value → Option Addr → TE} {me : Xn → ME} {hds : List ExceptHandler} {qs : List Hn} {l : List Hs} (hm : mg x = some (.ref C)) (hg : Gl X x) (hdb : (x == ("__debug__" : Str)) = false)
      (hx : ∀ r ∈ L, ∀ Cx, mg r = some (.ref Cx) → PySem.W.exmOne K (.ref Cx) (.ref C) = some (sub r x))
      (hsu : ∀ (a : Addr) (oe : Obj) (cls : Value) (d : Option Addr) (pn : List (Addr × Obj)) (xn : Xn), Zc cls d oe → (∃ vs, oe.data = .fields vs) → DEh K mg (X.suite a ((a, oe) :: pn)) none a xn cls d e (te a cls d) (me xn))
      (r : HnOk K mg X sub L hds qs l) : HnOk K mg X sub L (.ExceptHandler (some (.Name x np)) none [.Return (some e) p] pos' :: hds) (⟨x, none, none, me⟩ :: qs) (⟨.ref C, none, fun a cls d => toS none (te a cls d)⟩ :: l)
  | retA {x n : Str} {C : Addr} {i : Nat} {np pos' p : Pos} {e : Expr} {te : Addr → Value → Option Addr → TE} {me : Xn → ME} {hds : List ExceptHandler} {qs : List Hn} {l : List Hs} (hm : mg x = some (.ref C)) (hg : Gl X x) (hdb : (x == ("__debug__" : Str)) = false)
      (hx : ∀ r ∈ L, ∀ Cx, mg r = some (.ref Cx) → PySem.W.exmOne K (.ref Cx) (.ref C) = some (sub r x)) (hi : X.N[i]? = some n) (hln : X.env.kindOf n = some .local)
      (hsu : ∀ (a : Addr) (oe : Obj) (cls : Value) (d : Option Addr) (pn : List (Addr × Obj)) (xn : Xn), Zc cls d oe → (∃ vs, oe.data = .fields vs) → DEh K mg (X.suite a ((a, oe) :: pn)) (some i) a xn cls d e (te a cls d) (me xn))
      (r : HnOk K mg X sub L hds qs l) : HnOk K mg X sub L (.ExceptHandler (some (.Name x np)) (some n) [.Return (some e) p] pos' :: hds) (⟨x, some i, none, me⟩ :: qs) (⟨.ref C, some i, fun a cls d => toS none (te a cls d)⟩ :: l)
  | set {x : Str} {C : Addr} {j : Nat} {np pos' : Pos} {e : Expr} {st : Stmt} {te : Addr → Value → Option Addr → TE} {me : Xn → ME} {hds : List ExceptHandler} {qs : List Hn} {l : List Hs} (hm : mg x = some (.ref C)) (hg : Gl X x) (hdb : (x == ("__debug__" : Str)) = false)
      (hx : ∀ r ∈ L, ∀ Cx, mg r = some (.ref Cx) → PySem.W.exmOne K (.ref Cx) (.ref C) = some (sub r x))
      (hst : ∀ (a : Addr) (pn : List (Addr × Obj)) (t : TE), PE (X.suite a pn) e t → PS (X.suite a pn) st (tAsg t (gName j)))
      (hsu : ∀ (a : Addr) (oe : Obj) (cls : Value) (d : Option Addr) (pn : List (Addr × Obj)) (xn : Xn), Zc cls d oe → (∃ vs, oe.data = .fields vs) → DEh K mg (X.suite a ((a, oe) :: pn)) none a xn cls d e (te a cls d) (me xn))
      (r : HnOk K mg X sub L hds qs l) : HnOk K mg X sub L (.ExceptHandler (some (.Name x np)) none [st] pos' :: hds) (⟨x, none, some j, me⟩ :: qs) (⟨.ref C, none, fun a cls d => toS (some j) (te a cls d)⟩ :: l)
  | setA {x n : Str} {C : Addr} {i j : Nat} {np pos' : Pos} {e : Expr} {st : Stmt} {te : Addr → Value → Option Addr → TE} {me : Xn → ME} {hds : List ExceptHandler} {qs : List Hn} {l : List Hs} (hm : mg x = some (.ref C)) (hg : Gl X x) (hdb : (x == ("__debug__" : Str)) = false)
      (hx : ∀ r ∈ L, ∀ Cx, mg r = some (.ref Cx) → PySem.W.exmOne K (.ref Cx) (.ref C) = some (sub r x)) (hi : X.N[i]? = some n) (hln : X.env.kindOf n = some .local)
      (hst : ∀ (a : Addr) (pn : List (Addr × Obj)) (t : TE), PE (X.suite a pn) e t → PS (X.suite a pn) st (tAsg t (gName j)))
      (hsu : ∀ (a : Addr) (oe : Obj) (cls : Value) (d : Option Addr) (pn : List (Addr × Obj)) (xn : Xn), Zc cls d oe → (∃ vs, oe.data = .fields vs) → DEh K mg (X.suite a ((a, oe) :: pn)) (some i) a xn cls d e (te a cls d) (me xn))
      (r : HnOk K mg X sub L hds qs l) : HnOk K mg X sub L (.ExceptHandler (some (.Name x np)) (some n) [st] pos' :: hds) (⟨x, some i, some j, me⟩ :: qs) (⟨.ref C, some i, fun a cls d => toS (some j) (te a cls d)⟩ :: l)
theorem HnOk.hs (h : HnOk K X.mg X sub L hds qs l) : HsOk X hds l := by
  induction h with
  | nil => exact .nil
  | ret hm hg hdb hx hsu r ih => exact .cons ⟨hg, hdb, .inl hm⟩ (fun a oe cls d pn hz hf => pss_one (ps_ret (hsu a oe cls d pn ⟨("" : Str), []⟩ hz hf).p)) ih
  | retA hm hg hdb hx hi hln hsu r ih => exact .consA ⟨hg, hdb, .inl hm⟩ hi hln (fun a oe cls d pn hz hf => pss_one (ps_ret (hsu a oe cls d pn ⟨("" : Str), []⟩ hz hf).p)) ih
  | set hm hg hdb hx hst hsu r ih => exact .cons ⟨hg, hdb, .inl hm⟩ (fun a oe cls d pn hz hf => pss_one (hst _ _ _ (hsu a oe cls d pn ⟨("" : Str), []⟩ hz hf).p)) ih
  | setA hm hg hdb hx hi hln hst hsu r ih => exact .consA ⟨hg, hdb, .inl hm⟩ hi hln (fun a oe cls d pn hz hf => pss_one (hst _ _ _ (hsu a oe cls d pn ⟨("" : Str), []⟩ hz hf).p)) ih
def oeOf (cls : Value) (d : Option Addr) : Obj := { cls := cls, dict := d, data := .fields #[] }
theorem HnOk.ds (h : HnOk K X.mg X sub L hds qs l) : HnDs K X.mg sub L qs l := by
  induction h with
  | nil => exact .nil
  | ret hm hg hdb hx hsu r ih => exact .cons ⟨⟨_, hm, rfl, hx⟩, rfl, fun _ _ _ => rfl, fun a xn cls d => (hsu a (oeOf cls d) cls d [] xn ⟨rfl, rfl⟩ ⟨_, rfl⟩).s⟩ ih
  | retA hm hg hdb hx hi hln hsu r ih => exact .cons ⟨⟨_, hm, rfl, hx⟩, rfl, fun _ _ _ => rfl, fun a xn cls d => (hsu a (oeOf cls d) cls d [] xn ⟨rfl, rfl⟩ ⟨_, rfl⟩).s⟩ ih
  | set hm hg hdb hx hst hsu r ih => exact .cons ⟨⟨_, hm, rfl, hx⟩, rfl, fun _ _ _ => rfl, fun a xn cls d => (hsu a (oeOf cls d) cls d [] xn ⟨rfl, rfl⟩ ⟨_, rfl⟩).s⟩ ih
  | setA hm hg hdb hx hi hln hst hsu r ih => exact .cons ⟨⟨_, hm, rfl, hx⟩, rfl, fun _ _ _ => rfl, fun a xn cls d => (hsu a (oeOf cls d) cls d [] xn ⟨rfl, rfl⟩ ⟨_, rfl⟩).s⟩ ih
/-- try: body / except ..: .. -/
theorem dsx_try (hN : X.N.Nodup) (hb : ∀ (W' : WX) (pn : List (Addr × Obj)) (xe : Value → Shared → Prop), DSsX K mg (X.tr pn xe) W' body (tb W') m x)
    (hh : HnOk K mg X sub L (h₀ :: hds) qs l) (hs : X.stack = X.env :: X.outer := by rfl) (hf : X.env.frame = some X.env.locals := by rfl) (hK : X.K = K := by rfl) (hmg : X.mg = mg := by rfl) :
    DSX K mg X W (.Try body (h₀ :: hds) [] [] pos) (fun D σ H => tb (wHs K W D l) D σ H) (tryM sub L qs m x) (tryX sub L qs x) := ⟨hK, fun tk _ => by
  have hk := hK
  subst hk
  subst hmg
  exact ps_try_hs hs hf hN tk (fun W' pn xe tk' po => (hb W' pn xe).p tk' po) hh.hs, by
  have hk := hK
  subst hk
  subst hmg
  intro Φ σ H μ sg h f h' S rs e E k
  have B := hb (wHs X.K W E l) [] fun _ _ => False
  unfold tryM at e
  split at e
  · rename_i xn sg1 h1 e1
    split at e
    · rename_i hL
      refine B.x σ H μ sg h xn sg1 h1 S rs e1 (fun σ1 H1 μ1 cls d S1 l1 rs1 rx => ?_) E
      exact hands_ok hh.ds S1 rs1 rx (by simpa using hL) e (k.le l1)
    · cases e
  · exact B.s σ H μ sg h f h' S rs e E k, by
  have hk := hK
  subst hk
  subst hmg
  intro Φ σ H μ sg h xn sg' h' S rs e k E
  have B := hb (wHs X.K W E l) [] fun _ _ => False
  unfold tryX at e
  split at e
  · rename_i xn1 sg1 h1 e1
    split at e
    · rename_i hL
      cases e
      refine B.x σ H μ sg h xn sg' h' S rs e1 (fun σ1 H1 μ1 cls d S1 l1 rs1 rx => ?_) E
      exact handsX_ok hh.ds rx (by simpa using hL.1) hL.2 (k σ1 H1 μ1 cls d S1 l1 rs1 rx)
    · cases e
  · cases e⟩
end
end DL

/-! DM15: a def whose arguments hold no object's number: its run is told from no objects at all, its new objects stand behind those that are there. -/
namespace DL
open PySem L2 PySem.Spec PyProof.Rows
mutual
def shD (n : Nat) : D → D
  | .at k => .at (n + k)
  | .tup xs => .tup (shDs n xs)
  | .rol xs => .rol (shDs n xs)
  | .non => .non
  | .bl b => .bl b
  | .int i => .int i
  | .str s => .str s
  | .ty s => .ty s
  | .ad a => .ad a
def shDs (n : Nat) : List D → List D
  | [] => []
  | d :: ds => shD n d :: shDs n ds
end
mutual
def cloD : D → Bool
  | .at _ => false
  | .tup xs => cloDs xs
  | .rol xs => cloDs xs
  | .non => true
  | .bl _ => true
  | .int _ => true
  | .str _ => true
  | .ty _ => true
  | .ad _ => true
def cloDs : List D → Bool
  | [] => true
  | d :: ds => cloD d && cloDs ds
end
def shO (n : Nat) : O → O
  | .lst xs => .lst (shDs n xs)
  | .dct kvs => .dct (kvs.map fun kv => (kv.1, shD n kv.2))
def shH (n : Nat) (h : Hd) : Hd := h.map (shO n)
def shX (n : Nat) (x : Xn) : Xn := ⟨x.cls, x.fs.map fun p => (p.1, shD n p.2)⟩
mutual
theorem shD_clo (n : Nat) : ∀ d : D, cloD d = true → shD n d = d
  | .at _, h => by simp [cloD] at h
  | .tup xs, h => by simp only [cloD] at h; simp only [shD, shDs_clo n xs h]
  | .rol xs, h => by simp only [cloD] at h; simp only [shD, shDs_clo n xs h]
  | .non, _ => rfl
  | .bl _, _ => rfl
  | .int _, _ => rfl
  | .str _, _ => rfl
  | .ty _, _ => rfl
  | .ad _, _ => rfl
theorem shDs_clo (n : Nat) : ∀ ds : List D, cloDs ds = true → shDs n ds = ds
  | [], _ => rfl
  | d :: ds, h => by
    simp only [cloDs, Bool.and_eq_true] at h
    simp only [shDs, shD_clo n d h.1, shDs_clo n ds h.2]
end
theorem shDs_map (n : Nat) : ∀ ds : List D, shDs n ds = ds.map (shD n)
  | [] => rfl
  | d :: ds => by simp only [shDs, List.map_cons, shDs_map n ds]
section
variable {K : PySem.W.Frag} {H : Hp} {μ μ1 : List Addr}
mutual
theorem rp_clo : ∀ (d : D) (v : V), cloD d = true → Rp K H μ d v → Rp K H μ1 d v
  | .at _, _, h, _ => by simp [cloD] at h
  | .tup xs, v, h, r => by
    unfold Rp at *
    obtain ⟨p, vs, a, b, c⟩ := r
    exact ⟨p, vs, a, b, rps_clo xs vs (by simpa only [cloD] using h) c⟩
  | .rol xs, v, h, r => by
    unfold Rp at *
    obtain ⟨p, vs, a, b, c⟩ := r
    exact ⟨p, vs, a, b, rps_clo xs vs (by simpa only [cloD] using h) c⟩
  | .non, _, _, r => by unfold Rp at *; exact r
  | .bl _, _, _, r => by unfold Rp at *; exact r
  | .int _, _, _, r => by unfold Rp at *; exact r
  | .str _, _, _, r => by unfold Rp at *; exact r
  | .ty _, _, _, r => by unfold Rp at *; exact r
  | .ad _, _, _, r => by unfold Rp at *; exact r
theorem rps_clo : ∀ (ds : List D) (vs : List V), cloDs ds = true → Rps K H μ ds vs → Rps K H μ1 ds vs
  | [], _, _, r => by unfold Rps at *; exact r
  | d :: ds, vs, h, r => by
    simp only [cloDs, Bool.and_eq_true] at h
    obtain ⟨v, vs', rfl, a, b⟩ := r.cons'
    exact Rps.cons (rp_clo d v h.1 a) (rps_clo ds vs' h.2 b)
end
mutual
theorem rp_sh : ∀ (d : D) (v : V), Rp K H μ1 d v → Rp K H (μ ++ μ1) (shD μ.length d) v
  | .at k, v, r => by
    unfold Rp at r
    obtain ⟨a, ea, rfl⟩ := r
    simp only [shD]
    unfold Rp
    exact ⟨a, by rw [List.getElem?_append_right (by omega), show μ.length + k - μ.length = k by omega]; exact ea, rfl⟩
  | .tup xs, v, r => by
    simp only [shD]
    unfold Rp at *
    obtain ⟨p, vs, a, b, c⟩ := r
    exact ⟨p, vs, a, b, rps_sh xs vs c⟩
  | .rol xs, v, r => by
    simp only [shD]
    unfold Rp at *
    obtain ⟨p, vs, a, b, c⟩ := r
    exact ⟨p, vs, a, b, rps_sh xs vs c⟩
  | .non, _, r => by simp only [shD]; unfold Rp at *; exact r
  | .bl _, _, r => by simp only [shD]; unfold Rp at *; exact r
  | .int _, _, r => by simp only [shD]; unfold Rp at *; exact r
  | .str _, _, r => by simp only [shD]; unfold Rp at *; exact r
  | .ty _, _, r => by simp only [shD]; unfold Rp at *; exact r
  | .ad _, _, r => by simp only [shD]; unfold Rp at *; exact r
theorem rps_sh : ∀ (ds : List D) (vs : List V), Rps K H μ1 ds vs → Rps K H (μ ++ μ1) (shDs μ.length ds) vs
  | [], _, r => by simp only [shDs]; unfold Rps at *; exact r
  | d :: ds, vs, r => by
    obtain ⟨v, vs', rfl, a, b⟩ := r.cons'
    simp only [shDs]
    exact Rps.cons (rp_sh d v a) (rps_sh ds vs' b)
end
theorem ok_sh {a : Addr} : ∀ {o : O}, Ok K H μ1 a o → Ok K H (μ ++ μ1) a (shO μ.length o)
  | .lst xs, ⟨vs, h, r⟩ => ⟨vs, h, rps_sh xs vs r⟩
  | .dct kvs, ⟨kw, h, k, r⟩ => by
    refine ⟨kw, h, ?_, ?_⟩
    · rw [k]
      simp [shO]
    · have := rps_sh (μ := μ) _ _ r
      rw [shDs_map] at this
      simpa [shO, Function.comp_def] using this
/-- all that is there is put aside -/
theorem sm_hide {Φ : Hp} {h : Hd} (S : Sm Φ K H μ h) : ∃ Φ' : Hp, Sm Φ' K H [] [] ∧ ∀ (H' : Hp) (μ1 : List Addr) (h1 : Hd), Sm Φ' K H' μ1 h1 → Le K H [] H' μ1 → Sm Φ K H' (μ ++ μ1) (h ++ shH h.length h1) ∧ Le K H μ H' (μ ++ μ1) := by
  classical
  refine ⟨fun a => if a ∈ μ then H a else Φ a, ⟨rfl, fun n m a e => by simp at e, fun n o e => by simp at e, fun a o e => ?_⟩, fun H' μ1 h1 S1 l1 => ?_⟩
  · refine ⟨?_, by simp⟩
    by_cases ha : a ∈ μ
    · rw [if_pos ha] at e; exact e
    · rw [if_neg ha] at e; exact (S.fr a o e).1
  have kp : ∀ a, a ∈ μ → (∃ u, H a = some u ∧ H' a = some u) ∧ a ∉ μ1 := fun a ha => by
    obtain ⟨n, hn⟩ := List.mem_iff_getElem?.mp ha
    obtain ⟨u, hu, _⟩ := S.has hn
    obtain ⟨q1, q2⟩ := S1.fr a u (by rw [if_pos ha]; exact hu)
    exact ⟨⟨u, hu, q1⟩, q2⟩
  have l : Le K H μ H' (μ ++ μ1) := ⟨⟨μ1, rfl⟩, l1.tup, l1.frz, l1.xdt⟩
  refine ⟨⟨by simp [shH, S.len, S1.len], fun n m a e1 e2 => ?_, fun n o e => ?_, fun a o e => ?_⟩, l⟩
  · rw [List.getElem?_append] at e1 e2
    split at e1 <;> split at e2
    · exact S.nd n m a e1 e2
    · exact absurd (List.mem_of_getElem? e2) (kp a (List.mem_of_getElem? e1)).2
    · exact absurd (List.mem_of_getElem? e1) (kp a (List.mem_of_getElem? e2)).2
    · have := S1.nd _ _ a e1 e2
      omega
  · rw [List.getElem?_append] at e
    split at e
    · obtain ⟨a, ea, k⟩ := S.ob n o e
      obtain ⟨⟨u, h1', h2'⟩, _⟩ := kp a (List.mem_of_getElem? ea)
      exact ⟨a, by rw [List.getElem?_append_left (List.getElem?_eq_some_iff.mp ea).1]; exact ea, k.mono l (by rw [h1', h2'])⟩
    · rename_i hn
      unfold shH at e
      rw [List.getElem?_map] at e
      obtain ⟨o1, e1, rfl⟩ := Option.map_eq_some_iff.mp e
      obtain ⟨a, ea, k⟩ := S1.ob _ _ e1
      refine ⟨a, ?_, ?_⟩
      · rw [List.getElem?_append_right (by rw [S.len]; omega), S.len]
        exact ea
      · have := ok_sh (μ := μ) k
        rw [S.len] at this
        exact this
  · obtain ⟨q1, q2⟩ := S.fr a o e
    obtain ⟨q3, q4⟩ := S1.fr a o (by rw [if_neg q2]; exact e)
    exact ⟨q3, fun z => (List.mem_append.mp z).elim q2 q4⟩
end
def frM (m : GC) : GC := fun xs h => if cloDs xs = true then match m xs [] with
  | some (d, h1) => some (shD h.length d, h ++ shH h.length h1)
  | none => none else none
def frX (x : GX) : GX := fun xs h => if cloDs xs = true then match x xs [] with
  | some (xn, h1) => some (shX h.length xn, h ++ shH h.length h1)
  | none => none else none
section
variable {P : Program} {w : World} {K : PySem.W.Frag} {mg : Str → Option Value} {base : Heap}
theorem rx_sh {H : Hp} {μ μ1 : List Addr} {x : Xn} {cls : Value} {d : Option Addr} (r : RX K mg H μ1 x cls d) : RX K mg H (μ ++ μ1) (shX μ.length x) cls d := by
  obtain ⟨C, dx, vs, h1, h2, h3, h4, h5⟩ := r
  refine ⟨C, dx, vs, h1, h2, h3, ?_, ?_⟩
  · rw [h4]
    simp [shX, Function.comp_def]
  · have := rps_sh (μ := μ) _ _ h5
    rw [shDs_map] at this
    simpa [shX, Function.comp_def] using this
theorem sp_fr {n : Nat} {m : GC} {x : GX} {vs : List V} {H : Hp} {Q : VK} {E : XK} (h : spX K mg n (frM m) (frX x) vs H Q E) : spX K mg n m x vs H Q E := by
  obtain ⟨Φ, μ, ds, h0, S, r, hl, q⟩ := h
  obtain ⟨Φ', S', up⟩ := sm_hide S
  rcases q with ⟨d, h', e, k⟩ | ⟨xn, h', e, k⟩
  · unfold frM at e
    split at e
    · rename_i hc
      split at e
      · rename_i d1 h1 e1
        cases e
        refine ⟨Φ', [], ds, [], S', rps_clo _ _ hc r, hl, .inl ⟨d1, h1, e1, fun v H1 μ1 S1 l1 r1 => ?_⟩⟩
        obtain ⟨S2, l2⟩ := up H1 μ1 h1 S1 l1
        refine k v H1 (μ ++ μ1) S2 l2 ?_
        have := rp_sh (μ := μ) _ _ r1
        rw [S.len] at this
        exact this
      · cases e
    · cases e
  · unfold frX at e
    split at e
    · rename_i hc
      split at e
      · rename_i d1 h1 e1
        cases e
        refine ⟨Φ', [], ds, [], S', rps_clo _ _ hc r, hl, .inr ⟨d1, h1, e1, fun H1 μ1 cls d S1 l1 r1 => ?_⟩⟩
        obtain ⟨S2, l2⟩ := up H1 μ1 h1 S1 l1
        refine k H1 (μ ++ μ1) cls d S2 l2 ?_
        have := rx_sh (μ := μ) r1
        rw [S.len] at this
        exact this
      · cases e
    · cases e
theorem CalM.fr {k n : Nat} {x : Str} {m : GC} {xg : GX} {dd : List D} (c : CalM P w K mg base k x n m xg dd) : CalM P w K mg base k x n (frM m) (frX xg) dd := by
  obtain ⟨f, fd, ps, ds, dvs, F, r⟩ := c.ex
  exact ⟨f, fd, ps, ds, dvs, ⟨fun vs H Q E h => F.len vs H Q E (sp_fr h), fun A outer s H args us vs Q E h1 h2 h3 h4 h5 => F.run A outer s H args us vs Q E h1 h2 h3 h4 (sp_fr h5)⟩, r⟩
end
end DL

/-! DM16: isinstance(e, C) in a suite. -/
namespace PySem.W
open PySem PySem.Spec PySem.Calls PyProof.Rows
section
variable {prog : Program} {w : World} {A : Around} {E : Value → Shared → Prop} {s : Shared} {K : Frag} {x D : Addr} {ox : Obj} {od : Option Obj}
theorem findObj_dataG {C : Addr} {name : Str} {a g : Value} (hc : (clsIn K C).isSome = true) (ha : findIn K (.ref C) name = some (some a)) (hg : specialIn K a "__get__" = some (some g)) (ht : takesIn K a = some true) : findObj K C od name = some (.bind g a) := by
  obtain ⟨cd, hc⟩ := Option.isSome_iff_exists.mp hc
  unfold findObj
  rw [hc, Option.bind_some, ha, Option.bind_some]
  simp [hg, ht]
/-- as kin_classE, of an exception that has a dict -/
theorem kin_classG {Q : Option Value → Shared → Prop} (hga : findIn K (.ref D) "__getattribute__" = some (some (.builtin "BaseException.__getattribute__"))) (hgt : findIn K (.ref D) "__getattr__" = some none) (hsub : subIn K (.ref D) (.type "BaseException") = some true)
    (hdct : hasDictIn K D = true) (ha : findIn K (.ref D) "__class__" = some (some (.builtin "object.__class__")))
    (hn : specialIn K (.builtin "object.__class__") "__get__" = some (some (.builtin "getset_descriptor.__get__"))) (htk : takesIn K (.builtin "object.__class__") = some true) (hm : mroIn K D (.type "object") = some true)
    (X : K.In s.heap) (I : InstAt s.heap x ox D od) (h : Q (some (.ref D)) { s with toks := s.toks + 1 }) : wpAny (model prog w) A (getAttr? (.ref x) "__class__") Q E s := by
  have hf : findObj K D od "__class__" = some (.bind (.builtin "getset_descriptor.__get__") (.builtin "object.__class__")) := findObj_dataG (by obtain ⟨cd, hc, _⟩ := any_some hdct; rw [hc]; rfl) ha hn htk
  obtain ⟨hp, g, d, t, os⟩ := s
  have L0 := I.type (M := model prog w)
  have L1 := looks_findIn (M := model prog w) X hga
  have L2 := looks_findIn (M := model prog w) X hgt
  have L3 := looks_find (M := model prog w) X I hf
  have sub : Looks (model prog w) hp (isInstance (.ref x) (.type "BaseException")) true := L0.andThen (looks_subIn X hsub)
  have hx0 : (false && onTheHeap (Value.builtin "BaseException.__getattribute__")) = false := rfl
  have hx2 : (Value.builtin "BaseException.__getattribute__" == Value.builtin "object.__getattribute__") = false := by decide +kernel
  have hx1 : (onTheHeap (Value.ref D) && Value.builtin "BaseException.__getattribute__" == Value.builtin "object.__getattribute__") = false := by rw [hx2]; rfl
  unfold getAttr? getAttrBy? getAttrBy
  refine wpAny_bind (wpAny_mkText (wpAny_bind (wpAny_attempt (wpAny_holding (wpAny_bind (L0.at (wpAny_bind (L1.at ?_))))))))
  show wpAny _ _ (if (onTheHeap (Value.ref D) && Value.builtin "BaseException.__getattribute__" == Value.builtin "object.__getattribute__") = true then _ else _) _ _ _
  rw [hx1, if_neg Bool.false_ne_true]
  unfold getAttrByItsOwn hookBefore
  refine wpAny_bind ?_
  rw [if_pos (show onTheHeap (Value.ref D) = true from rfl)]
  refine L2.at ?_
  refine wpAny_bind (wpAny_attempt (wpAny_holding ?_))
  unfold callGetattribute
  rw [hx0, if_neg Bool.false_ne_true]
  unfold boundAndCalled
  rw [PySem.F.excAttr_ValueError.ga.bind (.ref x)]
  refine wpAny_bind (wpAny_pure ?_)
  show wpAny _ _ (call (.builtin "BaseException.__getattribute__") [.ref x, .str "__class__" t]) _ _ _
  refine wpAny_call (codeAny_call_builtin PySem.F.excAttr_ValueError.ga.plain PySem.F.entry_bexc_ga ?_)
  refine @check_slot (model prog w) _ _ ⟨hp, g, d, t + 1, os⟩ "BaseException.__getattribute__" "BaseException" "__getattribute__" (.ref x) [.str "__class__" t] [] _ (by decide +kernel) (by decide +kernel) sub (PySem.F.args_bexc_ga (.ref x) (.str "__class__" t)) ?_
  unfold Builtin.«object.__getattribute__»
  refine wpAny_bind (wpAny_of_eq (a := ((Value.ref x : Value), [Value.str "__class__" t])) (by first | rfl | (simp only [slotArgs]; rfl)) ?_)
  refine wpAny_bind (wpAny_pure (wpAny_bind (L0.at (wpAny_bind (L3.at ?_)))))
  show wpAny _ _ (holding [Value.builtin "object.__class__"] (call (.builtin "getset_descriptor.__get__") [.builtin "object.__class__", .ref x, .ref D]) >>= ret) _ _ _
  refine wpAny_bind (wpAny_holding (wpAny_call (class_get (s := ⟨hp, g, d, t + 1, os⟩) (ox := ox) (od := od) X I hm ?_)))
  refine wpAny_pure ?_
  show wpAny _ _ (handedOut (.ref D)) _ _ _
  rw [handedOut_of (v := .ref D) rfl]
  first
    | exact wpAny_pure (wpAny_pure h)
    | exact wpAny_pure h
    | exact wpAny_pure (wpAny_bind (wpAny_pure (wpAny_pure h)))
/-- as kitx_exc -/
theorem kitxG (hga : findIn K (.ref D) "__getattribute__" = some (some (.builtin "BaseException.__getattribute__"))) (hgt : findIn K (.ref D) "__getattr__" = some none) (hsub : subIn K (.ref D) (.type "BaseException") = some true) (hdct : hasDictIn K D = true) (ha : findIn K (.ref D) "__class__" = some (some (.builtin "object.__class__")))
    (hn : specialIn K (.builtin "object.__class__") "__get__" = some (some (.builtin "getset_descriptor.__get__"))) (htk : takesIn K (.builtin "object.__class__") = some true) (hm : mroIn K D (.type "object") = some true) :
    KitX K (.ref x) (.ref D) (fun h => ∃ od, InstAt h x ox D od) where
  ty := fun _ _ _ I => by obtain ⟨od, I⟩ := I; exact I.type
  it := fun _ _ X _ => by
    obtain ⟨cdD, hcD, _⟩ := any_some hdct
    unfold clsIn at hcD
    split at hcD
    · rename_i c' d' cd' sl' ho
      intro A' Q' E' s' k q
      unfold isType loadHead
      exact wpAny_bind (wpAny_loadPart (k _ _ (X _ _ ho)) (wpAny_pure q))
    · cases hcD
  ne := fun h tp dd its n sl X htp => by
    obtain ⟨cdD, hcD, _⟩ := any_some hdct
    refine Bool.eq_false_iff.mpr fun q => ?_
    have e : D = tp := Value.ref.inj (beq_iff_eq.mp q)
    subst e
    unfold clsIn at hcD
    split at hcD
    · rename_i c' d' cd' sl' ho
      have z := (X _ _ ho).symm.trans htp
      cases z
    · cases hcD
  ca := fun X I k => by
    obtain ⟨od, I⟩ := I
    exact kin_classG hga hgt hsub hdct ha hn htk hm X I k
end
end PySem.W
namespace DL
open PySem L2 PySem.Spec PyProof.Rows
/-- isinstance(e, c) -/
def tIsE (K : PySem.W.Frag) (a : Addr) (cls : Value) (d : Option Addr) (c : Addr) (te : TE) : TE := fun σ H Q => te σ H fun x H1 => ∃ (D dd : Addr) (fs : List (Str × V)) (b : Bool), x = .ref a ∧ cls = .ref D ∧ d = some dd ∧ H1 dd = some (.xd fs) ∧ ExcC K D ∧ PySem.W.kitOne K (.ref D) (.ref c) = some b ∧ Q (.bl b) H1
/-- what the text says, so that isinstance asks the instances of x rightly, for the class y -/
structure IsT (K : PySem.W.Frag) (mg : Str → Option Value) (sub : Str → Str → Bool) (L : List Str) (y : Str) : Prop where
  ex : ∃ c, mg y = some (.ref c) ∧ ∀ x ∈ L, ∀ D, mg x = some (.ref D) → ExcC K D ∧ PySem.W.kitOne K (.ref D) (.ref c) = some (sub x y)
def isxM (sub : Str → Str → Bool) (L : List Str) (xn : Xn) (y : Str) : ME := fun _ h => if L.contains xn.cls = true then some (.bl (sub xn.cls y), h) else none
def tIsX (K : PySem.W.Frag) (mg : Str → Option Value) (a : Addr) (cls : Value) (d : Option Addr) (y : Str) (te : TE) : TE := fun σ H Q => ∀ c, mg y = some (.ref c) → tIsE K a cls d c te σ H Q
section
variable {K : PySem.W.Frag} {mg : Str → Option Value} {X : Cx} {a : Addr} {oe : Obj} {xn : Xn} {cls : Value} {d : Option Addr} {pn : List (Addr × Obj)} {n y : Str} {p p1 p2 pos : Pos} {sub : Str → Str → Bool} {L : List Str}
theorem deh_isE (i : Nat) (T : IsT K mg sub L y) (hz : Zc cls d oe) (hf : ∃ vs, oe.data = .fields vs) (hm : mg "isinstance" = none) (hN : X.N[i]? = some n := by rfl) (hV : Vis X.env.scope n := by exact .inl rfl) (hg : Gl X y := by rfl) (hg2 : Gl X "isinstance" := by rfl) (hK : X.K = K := by rfl) (hmg : X.mg = mg := by rfl)
    (hd : (n == ("__debug__" : Str)) = false := by decide) (hcd : (n == ("__classdict__" : Str)) = false := by decide) (hdy : (y == ("__debug__" : Str)) = false := by decide)
    (he : starEach [.Name n p1, .Name y p2] X.env = (false, eval (.Name n p1) X.env) :: starEach [.Name y p2] X.env := by rfl) (he2 : starEach [.Name y p2] X.env = (false, eval (.Name y p2) X.env) :: starEach [] X.env := by rfl)
    (hpl : (backTo pos (starEach [.Name y p2] X.env)).any (·.1) = false := by rfl) :
    DEh K mg (X.suite a ((a, oe) :: pn)) (some i) a xn cls d (.Call (.Name "isinstance" p) [.Name n p1, .Name y p2] [] pos) (tIsX K mg a cls d y (tVar i)) (isxM sub L xn y) := ⟨hK, by
  have hk := hK
  subst hk
  subst hmg
  obtain ⟨c, hc, _⟩ := T.ex
  refine ⟨fun pins s σ H Q I h => ?_⟩
  have h := h c hc
  have hcall : CallR (X.suite a ((a, oe) :: pn)) (.builtin "isinstance") (fun xs H Q => ∃ (D dd : Addr) (fs : List (Str × V)) (b : Bool), xs = [.ref a, .ref c] ∧ cls = .ref D ∧ d = some dd ∧ H dd = some (.xd fs) ∧ ExcC X.K D ∧ PySem.W.kitOne X.K (.ref D) (.ref c) = some b ∧ Q (.bl b) H) := by
    intro pins s σ H xs us Q I r h
    obtain ⟨D, dd, fs, b, rfl, hD, hdd, hxd, C, e, q⟩ := h
    cases r with
    | cons rx rr =>
      cases rr with
      | cons rt rr =>
        cases rr
        cases rx
        cases rt
        obtain ⟨hget, _⟩ := I.pin (a, oe) (List.mem_append.mpr (.inl List.mem_cons_self))
        obtain ⟨vs, hv⟩ := hf
        have hx : ObjOk X.prog X.w H s.heap dd (.xd fs) := I.hok dd _ hxd
        obtain ⟨mA, hns, _⟩ := hx
        obtain ⟨od, ho, _⟩ := lookIn_ns hns
        have J : PySem.W.InstAt s.heap a oe D (some od) := ⟨hget, by rw [hz.1, hD], by unfold PySem.W.notCls; rw [hv] <;> rfl, by rw [hz.2, hdd]; exact ho⟩
        exact PySem.W.kia_one (PySem.W.kitxG C.hg C.hk C.hs C.hd C.ha C.hn C.ht C.hm) I.kIn ⟨_, J⟩ e (fun z => nomatch z) fun tk => ⟨.bl b, H, I.kept (t' := tk) fun _ _ z => z, rfl, q⟩
  obtain ⟨v, hv, D, dd, fs, b, rfl, h2, h3, h4, h5, h6, h7⟩ := h
  exact (pe_callB (X := X.suite a ((a, oe) :: pn)) hcall hg2 hm (by decide +kernel) (pa_cons (pe_var (X := X.suite a ((a, oe) :: pn)) hN hV hd hcd) (pa_cons (pe_glob (X := X.suite a ((a, oe) :: pn)) (v := .ref c) hg hc rfl hdy) pa_nil he2) he) (he := he) (hpl := hpl)).run pins s σ H Q I
    ⟨.ref a, hv, D, dd, fs, b, rfl, h2, h3, h4, h5, h6, h7⟩, by
  intro Φ σ H μ sg h y' h' S rs hx e Q k c hc
  unfold isxM at e
  split at e
  · rename_i hL
    cases e
    obtain ⟨c', hc', hT⟩ := T.ex
    rw [hc] at hc'
    cases hc'
    obtain ⟨C, dx, vs, h1, h2, h3, h4, h5⟩ := hx.r
    obtain ⟨t1, t2⟩ := hT xn.cls (by simpa using hL) C h1
    exact ⟨.ref a, hx.s i rfl, C, dx, _, _, rfl, h2, h3, h4, t1, t2, k _ H μ S Le.refl rp_bl⟩
  · cases e⟩
end
end DL

/-! DM17: where nothing is raised; small words for what gen2.py prints. -/
namespace DL
open PySem L2 PySem.Spec PyProof.Rows
theorem hu100 {A : Around} {k : Nat} (hr : RoomG k A) : A.units + 100 < cLine := by have := hr.r.un; omega
def adr (mg : Str → Option Value) (x : Str) : Addr := match mg x with
  | some (.ref C) => C
  | _ => 0
theorem adr_of {mg : Str → Option Value} {x : Str} {C : Addr} (h : mg x = some (.ref C)) : adr mg x = C := by unfold adr; rw [h]
def clsBody : Stmt → List Stmt
  | .ClassDef (body := b) .. => b
  | _ => []
section
variable {K : PySem.W.Frag} {mg : Str → Option Value} {X : Cx} {W : WX} {pos : Pos} {st : Stmt} {rest sts : List Stmt} {t u : TS} {m n : MS} {x y : MX} {c : Expr} {tc : TT} {mc : MT}
theorem DSsX.no (a : DSsX K mg X W sts t m x) : DSsX K mg X W sts t m noX := ⟨a.k, a.p, a.s, xst_no⟩
theorem DSX.no (a : DSX K mg X W st t m x) : DSX K mg X W st t m noX := ⟨a.k, a.p, a.s, xst_no⟩
theorem dssx_cons0 (a : DSX K mg X W st t m x) (b : DSsX K mg X W rest u n y) : DSsX K mg X W (st :: rest) (tSeq t u) (seqM m n) noX := (dssx_cons a b).no
theorem dsx_if0 {p q : List Stmt} (hc : DT K X c tc mc) (a : DSsX K mg X W p t m x) (b : DSsX K mg X W q u n y) : DSX K mg X W (.If c p q pos) (tIfS tc t u) (ifSM mc m n) noX := (dsx_if hc a b).no
theorem dsx_while0 {body : List Stmt} {tb : TS} {mb : MS} {xb : MX} (N : Nat) (hc : DT K X c tc mc) (hb : DSsX K mg X W body tb mb xb) : DSX K mg X W (.While c body [] pos) (tWhile tc tb) (whileM mc mb N) noX := (dsx_while N hc hb).no
theorem dsx_for0 {tg it : Expr} {ti : TI} {mi : MI} {gt : TG} {mg' : MG} {body : List Stmt} {tb : TS} {mb : MS} {xb : MX} (N : Nat) (hi : DI K X tg it ti mi) (hg : DG K X tg gt mg') (hb : DSsX K mg X W body tb mb xb) (hs : ∀ x, foldedSetIterable it X.env x = pure x := by intro _; rfl) (hc : X.calm = true := by rfl) :
    DSX K mg X W (.For tg it body [] pos) (tFor ti gt tb) (forSM mi mg' mb N) noX := (dsx_for N hi hg hb hs hc).no
end
end DL

/-! DM18: n = [.. for ..]. -/
namespace DL
open PySem L2 PySem.Spec PyProof.Rows
section
variable {K : PySem.W.Frag} {X : Cx} {pos spos py : Pos} {tg it elt : Expr} {ifs : List Expr} {ti : TI} {mi : MI} {gt : TG} {mg : MG} {tt : TT} {mt : MT} {te : TE} {me : ME} {scope : Scope} {own : List (Str × Nat)} {n : Str}
theorem ds_setLc (i N : Nat) (hN : X.N.Nodup) (hi : DI K X tg it ti mi) (ok : BlkOk X.N X.env.scope scope own) (ho : Only (own.map (·.2)) gt)
    (hg : ∀ (s : Shared) (H : Hp) (C : Addr) (cl : List (Str × Addr)) (fp : List Addr), DG K (X.blk s H scope (compEnvC scope cl C X.env) fp) tg gt mg)
    (ht : ∀ (s : Shared) (H : Hp) (C : Addr) (cl : List (Str × Addr)) (fp : List Addr), DTs K (X.blk s H scope (compEnvC scope cl C X.env) fp) ifs tt mt)
    (he : ∀ (s : Shared) (H : Hp) (C : Addr) (cl : List (Str × Addr)) (fp : List Addr), DE K (X.blk s H scope (compEnvC scope cl C X.env) fp) elt te me)
    (ha : (scope.names.any fun (m, k) => m == n && (k == .local || k == .cell)) = false) (hy : X.N[i]? = some n := by rfl) (hyl : X.env.scope.names.lookup n = some .local := by rfl) (hk : X.env.scope.kind = .function := by rfl) (hl : (py.line == pos.line) = true := by rfl)
    (hs : ∀ x, foldedSetIterable it X.env x = pure x := by intro _; rfl) (hc : X.calm = true := by rfl) :
    DS K X (.Assign [.Name n py] (.ListComp elt [⟨tg, it, ifs, 0⟩] scope pos) spos) (tAsg (tLc ti gt tt te (own.map (·.2))) (gName i)) (asgM (lcM mi mg mt me (own.map (·.2)) N) (nameG i)) :=
  ⟨hi.k, ps_setLc hc hN hy hyl (sw_true hk hyl hl ha) hi.p ok (fun s H C cl fp => (hg s H C cl fp).p) (fun s H C cl fp => (ht s H C cl fp).p) (fun s H C cl fp => (he s H C cl fp).p) hs, ss_asg (de_lc (pos := pos) N hN hi ok ho hg ht he hs hc).s (sg_name i)⟩
end
/-! ### the law's promise: no exception -/
def spN (K : PySem.W.Frag) (n : Nat) (m : GC) : Sp := fun vs H Q _ => ∃ (Φ : Hp) (μ : List Addr) (ds : List D) (h : Hd) (d : D) (h' : Hd), Sm Φ K H μ h ∧ Rps K H μ ds vs ∧ ds.length = n ∧ m ds h = some (d, h') ∧ Kn Φ K H μ h' d Q
theorem FnG.toN {P : Program} {w : World} {K : PySem.W.Frag} {mg : Str → Option Value} {base : Heap} {CX : CXT} {k n : Nat} {f : Addr} {fd : FuncData} {ps : List Str} {m : GC} {x : GX} (F : FnG P w K mg base CX k f fd ps (spX K mg n m x)) : FnG P w K mg base CX k f fd ps (spN K n m) := by
  have key : ∀ vs H Q E, spN K n m vs H Q E → spX K mg n m x vs H Q E := fun vs H Q E ⟨Φ, μ, ds, h, d, h', S, r, hl, e, k⟩ => ⟨Φ, μ, ds, h, S, r, hl, .inl ⟨d, h', e, k⟩⟩
  exact ⟨fun vs H Q E h => F.len vs H Q E (key _ _ _ _ h), fun A outer s H args us vs Q E h1 h2 h3 h4 h5 => F.run A outer s H args us vs Q E h1 h2 h3 h4 (key _ _ _ _ h5)⟩
theorem law_endN {K : PySem.W.Frag} {m : GC} {H : Hp} {a : Addr} {ns : List Int} (hm : ∃ h', m [.rol (ns.map D.int)] [] = some (.bl true, h')) (hO : L2.Only H) (hS : SqL K H a (ns.map V.int)) :
    spN K 1 m [.ref a] H (fun v _ => v = .bl true) fun _ _ _ => False := by
  obtain ⟨Φ, μ, ds, h, S, r, hl, ⟨d, h', e, k⟩ | ⟨xn, h', e, _⟩⟩ := law_end (mg := fun _ => none) (x := noGX) hm hO hS
  · exact ⟨Φ, μ, ds, h, d, h', S, r, hl, e, k⟩
  · cases e
/-- isinstance of classes of the text, by what is below what -/
theorem kit_ref {K : PySem.W.Frag} {D C : Addr} {b : Bool} (hdct : PySem.W.hasDictIn K C = true) (ht : PySem.W.typeIn K (.ref C) = some (.type "type")) (hs : PySem.W.subIn K (.ref C) (.ref C) = some true) (h4 : PySem.W.subIn K (.ref D) (.ref C) = some b) : PySem.W.kitOne K (.ref D) (.ref C) = some b := by
  obtain ⟨cd, hc, _⟩ := PySem.W.any_some hdct
  have e2 : ((PySem.W.clsIn K C).isSome && PySem.W.typeIn K (.ref C) == some (.type "type")) = true := by rw [hc, ht] <;> rfl
  unfold PySem.W.kitOne
  by_cases h : D = C
  · subst h
    rw [hs] at h4
    cases h4
    rw [if_pos (by simp)]
  · rw [if_neg (by simp; exact h)]
    show (if ((PySem.W.clsIn K C).isSome && PySem.W.typeIn K (.ref C) == some (.type "type")) = true then PySem.W.subIn K (.ref D) (.ref C) else none) = some b
    rw [if_pos e2]
    exact h4
end DL

/-! DM19: is, is not of bools. -/
namespace DL
open PySem L2 PySem.Spec PyProof.Rows
section
variable {K : PySem.W.Frag} {X : Cx}
def isBD : G2 := fun x y h => match x, y with
  | .bl a, .bl b => some (.bl (decide (a = b)), h)
  | _, _ => none
def isntBD : G2 := fun x y h => match x, y with
  | .bl a, .bl b => some (.bl (!decide (a = b)), h)
  | _, _ => none
theorem so_isB : SO K rIsB isBD := by
  intro Φ H μ h x y v w d h' S r1 r2 e Q k
  unfold isBD at e
  split at e
  · cases e
    exact ⟨_, _, rp_bl' r1, rp_bl' r2, k _ H μ S Le.refl rp_bl⟩
  · cases e
theorem so_isntB : SO K rNotB isntBD := by
  intro Φ H μ h x y v w d h' S r1 r2 e Q k
  unfold isntBD at e
  split at e
  · cases e
    exact ⟨_, _, rp_bl' r1, rp_bl' r2, k _ H μ S Le.refl rp_bl⟩
  · cases e
theorem op_isB : OpR X (compareOp .Is) rIsB := op_isBl
theorem op_isntB : OpR X (compareOp .IsNot) rNotB := op_notBl
end
theorem lf_isB {a b : Bool} {h : Hd} {Q : D → Hd → Prop} (q : Q (.bl (decide (a = b))) h) : Ev (isBD (.bl a) (.bl b) h) Q := ⟨_, _, rfl, q⟩
theorem lf_isntB {a b : Bool} {h : Hd} {Q : D → Hd → Prop} (q : Q (.bl (!decide (a = b))) h) : Ev (isntBD (.bl a) (.bl b) h) Q := ⟨_, _, rfl, q⟩
end DL

namespace K21
open PySem L2 DL
def topS (i : Nat) : Stmt := PySem.Challenge.pw_hornhall_k21_bodies_and_clauses.main.body.getD i (.Pass ⟨0, 0, 0, 0⟩)
structure Zs (mg : Str → Option Value) : Prop where
  «abs» : mg "abs" = none
  «all» : mg "all" = none
  «bool» : mg "bool" = none
  «enumerate» : mg "enumerate" = none
  «int» : mg "int" = none
  «isinstance» : mg "isinstance" = none
  «len» : mg "len" = none
  «list» : mg "list" = none
  «ord» : mg "ord" = none
  «range» : mg "range" = none
  «repr» : mg "repr" = none
  «reversed» : mg "reversed" = none
  «str» : mg "str" = none
  «tuple» : mg "tuple" = none
abbrev k_MOST_ARGUMENTS : D := .int 8
abbrev k_MOST_SIGNS : D := .int 40
abbrev k_ONE : D := .tup [.str "\\+", .str "once", .str "ignore"]
abbrev k_TOO_GREAT : D := .int 1000000000000000000000000000000000000000000000000000000000000000000000000000000000000000000000000000000000000000000000000000000000000000000000000000000000000000000000000000000000000000000000000000000000000000000000000000000000000000000000000000000000000000000000000000000000000000000000000000000000000
abbrev k_TWO : D := .tup [.str ",", .str ";", .str "->", .str "*->", .str "forall"]
structure Ys (K : PySem.W.Frag) (mg : Str → Option Value) : Prop where
  g_MOST_ARGUMENTS : Kst K mg "MOST_ARGUMENTS" k_MOST_ARGUMENTS
  g_MOST_SIGNS : Kst K mg "MOST_SIGNS" k_MOST_SIGNS
  g_ONE : Kst K mg "ONE" k_ONE
  g_TOO_GREAT : Kst K mg "TOO_GREAT" k_TOO_GREAT
  g_TWO : Kst K mg "TWO" k_TWO
/-! ### own exceptions -/
abbrev LX : List Str := ["NoClause"]
abbrev TX : XTab := [("NoClause", ["why"])]
def subX (a b : Str) : Bool := ([("NoClause", "NoClause"), ("NoClause", "HornError")] : List (Str × Str)).contains (a, b)
abbrev si_NoClause : Stmt := (clsBody (topS 2)).getD 0 (.Pass ⟨0, 0, 0, 0⟩)
theorem sci_NoClause : FnScope ["self", "why"] ["self", "why"] (defScope si_NoClause) := ⟨rfl, rfl, rfl, by decide +kernel, rfl, by decide +kernel, by decide +kernel⟩
theorem i_NoClause {P : Program} {w : World} {K : PySem.W.Frag} {mg : Str → Option Value} {base : Heap} {C fI : Addr} {fd : FuncData} (b : BasC K mg "HornError") (T : OexC K C) (n0 : PySem.W.findIn K (.ref C) "why" = some none) (F : Fun K "__init__" "NoClause.__init__" si_NoClause fI fd) : FnOk P w K mg base (L2.CX P w) 1 fI fd ["self", "why"] (spI K C ["why"]) :=
  F.okX sci_NoClause (fun vs H Q E h => spI_len h) fun cdv A outer s H vs Q E hr h => ⟨_, pss_cons (ps_expr (pe_binit b rfl (pa_cons (pv 0) pa_nil))) (pss_one (ps_ost (pv 0) (pv 1))), ini1 T n0 h⟩
structure Qs (K : PySem.W.Frag) (mg : Str → Option Value) : Prop where
  t_NoClause : ExT K mg "NoClause" ["why"]
  tab : ExTab K mg TX
  m_HornError : mg "HornError" = some (.ref (adr mg "HornError"))
  e_HornError : ∀ r ∈ LX, ∀ Cx, mg r = some (.ref Cx) → PySem.W.exmOne K (.ref Cx) (.ref (adr mg "HornError")) = some (subX r "HornError")
  m_NoClause : mg "NoClause" = some (.ref (adr mg "NoClause"))
  e_NoClause : ∀ r ∈ LX, ∀ Cx, mg r = some (.ref Cx) → PySem.W.exmOne K (.ref Cx) (.ref (adr mg "NoClause")) = some (subX r "NoClause")
abbrev s_is_int : Stmt := topS 7
abbrev N_is_int : List Str := ["thing"]
abbrev P_is_int : List Str := ["thing"]
theorem sc_is_int : FnScope N_is_int P_is_int (defScope s_is_int) := ⟨rfl, rfl, rfl, by decide +kernel, rfl, by decide +kernel, by decide +kernel⟩
abbrev s_is_variable : Stmt := topS 8
abbrev N_is_variable : List Str := ["thing"]
abbrev P_is_variable : List Str := ["thing"]
theorem sc_is_variable : FnScope N_is_variable P_is_variable (defScope s_is_variable) := ⟨rfl, rfl, rfl, by decide +kernel, rfl, by decide +kernel, by decide +kernel⟩
abbrev s_is_any_number : Stmt := topS 9
abbrev N_is_any_number : List Str := ["thing"]
abbrev P_is_any_number : List Str := ["thing"]
theorem sc_is_any_number : FnScope N_is_any_number P_is_any_number (defScope s_is_any_number) := ⟨rfl, rfl, rfl, by decide +kernel, rfl, by decide +kernel, by decide +kernel⟩
abbrev s_is_any_atom : Stmt := topS 10
abbrev N_is_any_atom : List Str := ["thing", "sign"]
abbrev P_is_any_atom : List Str := ["thing"]
theorem sc_is_any_atom : FnScope N_is_any_atom P_is_any_atom (defScope s_is_any_atom) := ⟨rfl, rfl, rfl, by decide +kernel, rfl, by decide +kernel, by decide +kernel⟩
abbrev s_is_compound : Stmt := topS 11
abbrev N_is_compound : List Str := ["term"]
abbrev P_is_compound : List Str := ["term"]
theorem sc_is_compound : FnScope N_is_compound P_is_compound (defScope s_is_compound) := ⟨rfl, rfl, rfl, by decide +kernel, rfl, by decide +kernel, by decide +kernel⟩
abbrev s_is_term : Stmt := topS 12
abbrev N_is_term : List Str := ["thing", "waiting", "part"]
abbrev P_is_term : List Str := ["thing"]
theorem sc_is_term : FnScope N_is_term P_is_term (defScope s_is_term) := ⟨rfl, rfl, rfl, by decide +kernel, rfl, by decide +kernel, by decide +kernel⟩
abbrev s_parts_of : Stmt := topS 13
abbrev N_parts_of : List Str := ["term", "found", "waiting", "part"]
abbrev P_parts_of : List Str := ["term"]
theorem sc_parts_of : FnScope N_parts_of P_parts_of (defScope s_parts_of) := ⟨rfl, rfl, rfl, by decide +kernel, rfl, by decide +kernel, by decide +kernel⟩
abbrev s_numbers_in : Stmt := topS 14
abbrev N_numbers_in : List Str := ["terms", "found", "term", "part"]
abbrev P_numbers_in : List Str := ["terms"]
theorem sc_numbers_in : FnScope N_numbers_in P_numbers_in (defScope s_numbers_in) := ⟨rfl, rfl, rfl, by decide +kernel, rfl, by decide +kernel, by decide +kernel⟩
abbrev s_replaced : Stmt := topS 15
abbrev N_replaced : List Str := ["term", "table", "done", "waiting", "part", "is_ready", "many", "made", "argument"]
abbrev P_replaced : List Str := ["term", "table"]
theorem sc_replaced : FnScope N_replaced P_replaced (defScope s_replaced) := ⟨rfl, rfl, rfl, by decide +kernel, rfl, by decide +kernel, by decide +kernel⟩
abbrev s_renumbering : Stmt := topS 16
abbrev N_renumbering : List Str := ["terms", "first", "table", "at", "number"]
abbrev P_renumbering : List Str := ["terms", "first"]
theorem sc_renumbering : FnScope N_renumbering P_renumbering (defScope s_renumbering) := ⟨rfl, rfl, rfl, by decide +kernel, rfl, by decide +kernel, by decide +kernel⟩
abbrev s_word_of : Stmt := topS 20
abbrev N_word_of : List Str := ["goal"]
abbrev P_word_of : List Str := ["goal"]
theorem sc_word_of : FnScope N_word_of P_word_of (defScope s_word_of) := ⟨rfl, rfl, rfl, by decide +kernel, rfl, by decide +kernel, by decide +kernel⟩
abbrev s_is_callable : Stmt := topS 21
abbrev N_is_callable : List Str := ["term"]
abbrev P_is_callable : List Str := ["term"]
theorem sc_is_callable : FnScope N_is_callable P_is_callable (defScope s_is_callable) := ⟨rfl, rfl, rfl, by decide +kernel, rfl, by decide +kernel, by decide +kernel⟩
abbrev s_has_good_leaves : Stmt := topS 22
abbrev N_has_good_leaves : List Str := ["term", "waiting", "goal"]
abbrev P_has_good_leaves : List Str := ["term"]
theorem sc_has_good_leaves : FnScope N_has_good_leaves P_has_good_leaves (defScope s_has_good_leaves) := ⟨rfl, rfl, rfl, by decide +kernel, rfl, by decide +kernel, by decide +kernel⟩
abbrev s_is_body : Stmt := topS 23
abbrev N_is_body : List Str := ["term"]
abbrev P_is_body : List Str := ["term"]
theorem sc_is_body : FnScope N_is_body P_is_body (defScope s_is_body) := ⟨rfl, rfl, rfl, by decide +kernel, rfl, by decide +kernel, by decide +kernel⟩
abbrev s_with_calls : Stmt := topS 24
abbrev N_with_calls : List Str := ["body", "done", "waiting", "goal", "is_ready", "many", "made", "part"]
abbrev P_with_calls : List Str := ["body"]
theorem sc_with_calls : FnScope N_with_calls P_with_calls (defScope s_with_calls) := ⟨rfl, rfl, rfl, by decide +kernel, rfl, by decide +kernel, by decide +kernel⟩
abbrev s_halves : Stmt := topS 25
abbrev N_halves : List Str := ["term"]
abbrev P_halves : List Str := ["term"]
theorem sc_halves : FnScope N_halves P_halves (defScope s_halves) := ⟨rfl, rfl, rfl, by decide +kernel, rfl, by decide +kernel, by decide +kernel⟩
abbrev s_fault_of : Stmt := topS 26
abbrev N_fault_of : List Str := ["term", "head", "body"]
abbrev P_fault_of : List Str := ["term"]
theorem sc_fault_of : FnScope N_fault_of P_fault_of (defScope s_fault_of) := ⟨rfl, rfl, rfl, by decide +kernel, rfl, by decide +kernel, by decide +kernel⟩
abbrev s_is_clause : Stmt := topS 27
abbrev N_is_clause : List Str := ["term"]
abbrev P_is_clause : List Str := ["term"]
theorem sc_is_clause : FnScope N_is_clause P_is_clause (defScope s_is_clause) := ⟨rfl, rfl, rfl, by decide +kernel, rfl, by decide +kernel, by decide +kernel⟩
abbrev s_kept_form : Stmt := topS 28
abbrev N_kept_form : List Str := ["term", "head", "body", "table"]
abbrev P_kept_form : List Str := ["term"]
theorem sc_kept_form : FnScope N_kept_form P_kept_form (defScope s_kept_form) := ⟨rfl, rfl, rfl, by decide +kernel, rfl, by decide +kernel, by decide +kernel⟩
abbrev s_stored : Stmt := topS 29
abbrev N_stored : List Str := ["clause", "why"]
abbrev P_stored : List Str := ["clause"]
theorem sc_stored : FnScope N_stored P_stored (defScope s_stored) := ⟨rfl, rfl, rfl, by decide +kernel, rfl, by decide +kernel, by decide +kernel⟩
abbrev s__law_cell_at : Stmt := topS 31
abbrev N__law_cell_at : List Str := ["script", "k"]
abbrev P__law_cell_at : List Str := ["script", "k"]
theorem sc__law_cell_at : FnScope N__law_cell_at P__law_cell_at (defScope s__law_cell_at) := ⟨rfl, rfl, rfl, by decide +kernel, rfl, by decide +kernel, by decide +kernel⟩
abbrev s__law_well : Stmt := topS 32
abbrev N__law_well : List Str := ["cell"]
abbrev P__law_well : List Str := ["cell"]
theorem sc__law_well : FnScope N__law_well P__law_well (defScope s__law_well) := ⟨rfl, rfl, rfl, by decide +kernel, rfl, by decide +kernel, by decide +kernel⟩
abbrev s__law_draw : Stmt := topS 33
abbrev N__law_draw : List Str := ["well", "many", "found", "salt", "base", "number"]
abbrev P__law_draw : List Str := ["well", "many"]
theorem sc__law_draw : FnScope N__law_draw P__law_draw (defScope s__law_draw) := ⟨rfl, rfl, rfl, by decide +kernel, rfl, by decide +kernel, by decide +kernel⟩
abbrev s__law_one : Stmt := topS 34
abbrev N__law_one : List Str := ["well", "some"]
abbrev P__law_one : List Str := ["well", "some"]
theorem sc__law_one : FnScope N__law_one P__law_one (defScope s__law_one) := ⟨rfl, rfl, rfl, by decide +kernel, rfl, by decide +kernel, by decide +kernel⟩
abbrev s__law_numbers : Stmt := topS 35
abbrev N__law_numbers : List Str := ["terms", "found", "term"]
abbrev P__law_numbers : List Str := ["terms", "found"]
theorem sc__law_numbers : FnScope N__law_numbers P__law_numbers (defScope s__law_numbers) := ⟨rfl, rfl, rfl, by decide +kernel, rfl, by decide +kernel, by decide +kernel⟩
abbrev s__law_put : Stmt := topS 36
abbrev N__law_put : List Str := ["term", "table", "one"]
abbrev P__law_put : List Str := ["term", "table"]
theorem sc__law_put : FnScope N__law_put P__law_put (defScope s__law_put) := ⟨rfl, rfl, rfl, by decide +kernel, rfl, by decide +kernel, by decide +kernel⟩
abbrev s__law_anew : Stmt := topS 37
abbrev N__law_anew : List Str := ["terms", "table", "at", "number", "term"]
abbrev P__law_anew : List Str := ["terms"]
theorem sc__law_anew : FnScope N__law_anew P__law_anew (defScope s__law_anew) := ⟨rfl, rfl, rfl, by decide +kernel, rfl, by decide +kernel, by decide +kernel⟩
abbrev s__law_is_construct : Stmt := topS 38
abbrev N__law_is_construct : List Str := ["term", "many"]
abbrev P__law_is_construct : List Str := ["term"]
theorem sc__law_is_construct : FnScope N__law_is_construct P__law_is_construct (defScope s__law_is_construct) := ⟨rfl, rfl, rfl, by decide +kernel, rfl, by decide +kernel, by decide +kernel⟩
abbrev s__law_is_body : Stmt := topS 39
abbrev N__law_is_body : List Str := ["term", "one"]
abbrev P__law_is_body : List Str := ["term"]
theorem sc__law_is_body : FnScope N__law_is_body P__law_is_body (defScope s__law_is_body) := ⟨rfl, rfl, rfl, by decide +kernel, rfl, by decide +kernel, by decide +kernel⟩
abbrev s__law_is_goal : Stmt := topS 40
abbrev N__law_is_goal : List Str := ["term"]
abbrev P__law_is_goal : List Str := ["term"]
theorem sc__law_is_goal : FnScope N__law_is_goal P__law_is_goal (defScope s__law_is_goal) := ⟨rfl, rfl, rfl, by decide +kernel, rfl, by decide +kernel, by decide +kernel⟩
abbrev s__law_with_calls : Stmt := topS 41
abbrev N__law_with_calls : List Str := ["term", "one"]
abbrev P__law_with_calls : List Str := ["term"]
theorem sc__law_with_calls : FnScope N__law_with_calls P__law_with_calls (defScope s__law_with_calls) := ⟨rfl, rfl, rfl, by decide +kernel, rfl, by decide +kernel, by decide +kernel⟩
abbrev s__law_atom : Stmt := topS 42
abbrev N__law_atom : List Str := ["well"]
abbrev P__law_atom : List Str := ["well"]
theorem sc__law_atom : FnScope N__law_atom P__law_atom (defScope s__law_atom) := ⟨rfl, rfl, rfl, by decide +kernel, rfl, by decide +kernel, by decide +kernel⟩
abbrev s__law_part : Stmt := topS 43
abbrev N__law_part : List Str := ["well", "deep", "way", "name", "many", "k"]
abbrev P__law_part : List Str := ["well", "deep"]
theorem sc__law_part : FnScope N__law_part P__law_part (defScope s__law_part) := ⟨rfl, rfl, rfl, by decide +kernel, rfl, by decide +kernel, by decide +kernel⟩
abbrev s__law_due : Stmt := topS 44
abbrev N__law_due : List Str := ["term", "head", "body"]
abbrev P__law_due : List Str := ["term"]
theorem sc__law_due : FnScope N__law_due P__law_due (defScope s__law_due) := ⟨rfl, rfl, rfl, by decide +kernel, rfl, by decide +kernel, by decide +kernel⟩
abbrev s__law_said : Stmt := topS 45
abbrev N__law_said : List Str := ["term", "found", "e"]
abbrev P__law_said : List Str := ["term"]
theorem sc__law_said : FnScope N__law_said P__law_said (defScope s__law_said) := ⟨rfl, rfl, rfl, by decide +kernel, rfl, by decide +kernel, by decide +kernel⟩
abbrev s__law_right : Stmt := topS 46
abbrev N__law_right : List Str := ["term", "due"]
abbrev P__law_right : List Str := ["term"]
theorem sc__law_right : FnScope N__law_right P__law_right (defScope s__law_right) := ⟨rfl, rfl, rfl, by decide +kernel, rfl, by decide +kernel, by decide +kernel⟩
abbrev s_law : Stmt := topS 47
abbrev N_law : List Str := ["script", "cell", "well", "turn", "one", "other", "term", "odd"]
abbrev P_law : List Str := ["script"]
theorem sc_law : FnScope N_law P_law (defScope s_law) := ⟨rfl, rfl, rfl, by decide +kernel, rfl, by decide +kernel, by decide +kernel⟩
/-! ### the mirrors -/
section
def m_is_int (NF RD : Nat) : GC := bodyM 1 (retM (andM (cbM isiD (consM (varM 0) (consM (cM (.ty "int")) nilM))) (notM (cbM isiD (consM (varM 0) (consM (cM (.ty "bool")) nilM))))))
def m_is_variable (NF RD : Nat) : GC := bodyM 1 (retM (andM (cbM isiD (consM (varM 0) (consM (cM (.ty "tuple")) nilM))) (andM (opM eqD (cbM lenD (consM (varM 0) nilM)) (cM (.int 1))) (andM (callM 1 (m_is_int NF RD) [] (consM (opM subsD (varM 0) (cM (.int 0))) nilM)) (opM geD (opM subsD (varM 0) (cM (.int 0))) (cM (.int 0)))))))
def m_is_any_number (NF RD : Nat) : GC := bodyM 1 (retM (andM (callM 1 (m_is_int NF RD) [] (consM (varM 0) nilM)) (opM ltD (cbM absD (consM (varM 0) nilM)) (cM k_TOO_GREAT))))
def E_is_any_atom_0 (NF RD : Nat) : ME := (andM (chainM leD leD (cM (.str " ")) (varM 1) (cM (.str "~"))) (opM neD (cbM ordD (consM (varM 1) nilM)) (cM (.int 37))))
def m_is_any_atom (NF RD : Nat) : GC := bodyM 2 (seqM (ifSM (torM (tnotM (truM (cbM isiD (consM (varM 0) (consM (cM (.ty "str")) nilM))))) (testM (opM gtD (cbM lenD (consM (varM 0) nilM)) (cM k_MOST_SIGNS)))) (retM (cM (.bl false))) passM) (retM (cbM allD (consM (lcM (seqI (varM 0)) (nameG 1) yesM (E_is_any_atom_0 NF RD) [1] NF) nilM))))
def m_is_compound (NF RD : Nat) : GC := bodyM 1 (retM (andM (cbM isiD (consM (varM 0) (consM (cM (.ty "tuple")) nilM))) (opM gtD (cbM lenD (consM (varM 0) nilM)) (cM (.int 1)))))
def C_is_term_0 (NF RD : Nat) : MT := (testM (opM neD (varM 1) (lstM nilM)))
def B_is_term_1 (NF RD : Nat) : MS := (seqM (asgM (bmM "list" popD (varM 1) nilM) (nameG 2)) (ifSM (truM (callM 1 (m_is_compound NF RD) [] (consM (varM 2) nilM))) (seqM (ifSM (torM (testM (opM gtD (cbM lenD (consM (varM 2) nilM)) (opM addD (cM k_MOST_ARGUMENTS) (cM (.int 1))))) (tnotM (truM (callM 1 (m_is_any_atom NF RD) [] (consM (opM subsD (varM 2) (cM (.int 0))) nilM))))) (retM (cM (.bl false))) passM) (exprM (bmM "list" extendD (varM 1) (consM (slM (varM 2) (partM (cM (.int 1))) noM) nilM)))) (ifSM (tandM (tnotM (truM (callM 1 (m_is_variable NF RD) [] (consM (varM 2) nilM)))) (tandM (tnotM (truM (callM 1 (m_is_any_number NF RD) [] (consM (varM 2) nilM)))) (tnotM (truM (callM 1 (m_is_any_atom NF RD) [] (consM (varM 2) nilM)))))) (retM (cM (.bl false))) passM)))
def m_is_term (NF RD : Nat) : GC := bodyM 3 (seqM (asgM (lstM (consM (varM 0) nilM)) (nameG 1)) (seqM (whileM (C_is_term_0 NF RD) (B_is_term_1 NF RD) NF) (retM (cM (.bl true)))))
def C_parts_of_0 (NF RD : Nat) : MT := (testM (opM neD (varM 2) (lstM nilM)))
def B_parts_of_1 (NF RD : Nat) : MS := (seqM (asgM (bmM "list" popD (varM 2) nilM) (nameG 3)) (seqM (exprM (bmM "list" appendD (varM 1) (consM (varM 3) nilM))) (ifSM (truM (callM 1 (m_is_compound NF RD) [] (consM (varM 3) nilM))) (exprM (bmM "list" extendD (varM 2) (consM (backM (varM 3) (partM (cM (.int 0))) (partM (negM (cM (.int 1))))) nilM))) passM)))
def m_parts_of (NF RD : Nat) : GC := bodyM 4 (seqM (parM 1 2 (consM (lstM nilM) (consM (lstM (consM (varM 0) nilM)) nilM))) (seqM (whileM (C_parts_of_0 NF RD) (B_parts_of_1 NF RD) NF) (retM (varM 1))))
def B_numbers_in_0 (NF RD : Nat) : MS := (ifSM (truM (callM 1 (m_is_variable NF RD) [] (consM (varM 3) nilM))) (setD (varM 1) (opM subsD (varM 3) (cM (.int 0))) (cM (.bl true))) passM)
def B_numbers_in_1 (NF RD : Nat) : MS := (forSM (seqI (callM 1 (m_parts_of NF RD) [] (consM (varM 2) nilM))) (nameG 3) (B_numbers_in_0 NF RD) NF)
def m_numbers_in (NF RD : Nat) : GC := bodyM 4 (seqM (asgM dnewM (nameG 1)) (seqM (forSM (seqI (varM 0)) (nameG 2) (B_numbers_in_1 NF RD) NF) (retM (cbM listD (consM (varM 1) nilM)))))
def E_replaced_0 (NF RD : Nat) : ME := (tupM (consM (varM 8) (consM (cM (.bl false)) nilM)))
def C_replaced_1 (NF RD : Nat) : MT := (testM (opM neD (varM 3) (lstM nilM)))
def B_replaced_2 (NF RD : Nat) : MS := (seqM (asgM (bmM "list" popD (varM 3) nilM) (tupG 2 (consG (nameG 4) (consG (nameG 5) nilG)))) (ifSM (truM (varM 5)) (seqM (asgM (opM subD (cbM lenD (consM (varM 4) nilM)) (cM (.int 1))) (nameG 6)) (seqM (asgM (opM addD (tupM (consM (opM subsD (varM 4) (cM (.int 0))) nilM)) (cbM tuplD (consM (slM (varM 2) (partM (negM (varM 6))) noM) nilM))) (nameG 7)) (seqM (asgM (slM (varM 2) noM (partM (negM (varM 6)))) (nameG 2)) (exprM (bmM "list" appendD (varM 2) (consM (varM 7) nilM)))))) (ifSM (truM (callM 1 (m_is_compound NF RD) [] (consM (varM 4) nilM))) (seqM (exprM (bmM "list" appendD (varM 3) (consM (tupM (consM (varM 4) (consM (cM (.bl true)) nilM))) nilM))) (exprM (bmM "list" extendD (varM 3) (consM (lcM (seqI (backM (varM 4) (partM (cM (.int 0))) (partM (negM (cM (.int 1)))))) (nameG 8) yesM (E_replaced_0 NF RD) [8] NF) nilM)))) (exprM (bmM "list" appendD (varM 2) (consM (ifM (truM (callM 1 (m_is_variable NF RD) [] (consM (varM 4) nilM))) (getD2 (varM 1) (opM subsD (varM 4) (cM (.int 0))) (varM 4)) (varM 4)) nilM))))))
def m_replaced (NF RD : Nat) : GC := bodyM 9 (seqM (parM 2 3 (consM (lstM nilM) (consM (lstM (consM (tupM (consM (varM 0) (consM (cM (.bl false)) nilM))) nilM)) nilM))) (seqM (whileM (C_replaced_1 NF RD) (B_replaced_2 NF RD) NF) (retM (opM subsD (varM 2) (cM (.int 0))))))
def B_renumbering_0 (NF RD : Nat) : MS := (setD (varM 2) (varM 4) (tupM (consM (opM addD (varM 1) (varM 3)) nilM)))
def m_renumbering (NF RD : Nat) : GC := bodyM 5 (seqM (asgM dnewM (nameG 2)) (seqM (forSM (enuI (consM (callM 1 (m_numbers_in NF RD) [] (consM (varM 0) nilM)) nilM)) (tupG 2 (consG (nameG 3) (consG (nameG 4) nilG))) (B_renumbering_0 NF RD) NF) (retM (varM 2))))
def m_word_of (NF RD : Nat) : GC := bodyM 1 (seqM (ifSM (tnotM (truM (callM 1 (m_is_compound NF RD) [] (consM (varM 0) nilM)))) (retM (cM .non)) passM) (seqM (ifSM (torM (tandM (testM (opM eqD (cbM lenD (consM (varM 0) nilM)) (cM (.int 3)))) (testM (opM (inD false) (opM subsD (varM 0) (cM (.int 0))) (cM k_TWO)))) (tandM (testM (opM eqD (cbM lenD (consM (varM 0) nilM)) (cM (.int 2)))) (testM (opM (inD false) (opM subsD (varM 0) (cM (.int 0))) (cM k_ONE))))) (retM (opM subsD (varM 0) (cM (.int 0)))) passM) (retM (cM .non))))
def m_is_callable (NF RD : Nat) : GC := bodyM 1 (retM (orM (cbM isiD (consM (varM 0) (consM (cM (.ty "str")) nilM))) (callM 1 (m_is_compound NF RD) [] (consM (varM 0) nilM))))
def C_has_good_leaves_0 (NF RD : Nat) : MT := (testM (opM neD (varM 1) (lstM nilM)))
def B_has_good_leaves_1 (NF RD : Nat) : MS := (seqM (asgM (bmM "list" popD (varM 1) nilM) (nameG 2)) (ifSM (testM (opM isntD (callM 1 (m_word_of NF RD) [] (consM (varM 2) nilM)) (cM .non))) (exprM (bmM "list" extendD (varM 1) (consM (slM (varM 2) (partM (cM (.int 1))) noM) nilM))) (ifSM (truM (callM 1 (m_is_int NF RD) [] (consM (varM 2) nilM))) (retM (cM (.bl false))) passM)))
def m_has_good_leaves (NF RD : Nat) : GC := bodyM 3 (seqM (asgM (lstM (consM (varM 0) nilM)) (nameG 1)) (seqM (whileM (C_has_good_leaves_0 NF RD) (B_has_good_leaves_1 NF RD) NF) (retM (cM (.bl true)))))
def m_is_body (NF RD : Nat) : GC := bodyM 1 (retM (andM (callM 1 (m_is_term NF RD) [] (consM (varM 0) nilM)) (callM 1 (m_has_good_leaves NF RD) [] (consM (varM 0) nilM))))
def E_with_calls_0 (NF RD : Nat) : ME := (tupM (consM (varM 7) (consM (cM (.bl false)) nilM)))
def C_with_calls_1 (NF RD : Nat) : MT := (testM (opM neD (varM 2) (lstM nilM)))
def B_with_calls_2 (NF RD : Nat) : MS := (seqM (asgM (bmM "list" popD (varM 2) nilM) (tupG 2 (consG (nameG 3) (consG (nameG 4) nilG)))) (ifSM (truM (varM 4)) (seqM (asgM (opM subD (cbM lenD (consM (varM 3) nilM)) (cM (.int 1))) (nameG 5)) (seqM (asgM (opM addD (tupM (consM (opM subsD (varM 3) (cM (.int 0))) nilM)) (cbM tuplD (consM (slM (varM 1) (partM (negM (varM 5))) noM) nilM))) (nameG 6)) (seqM (asgM (slM (varM 1) noM (partM (negM (varM 5)))) (nameG 1)) (exprM (bmM "list" appendD (varM 1) (consM (varM 6) nilM)))))) (ifSM (testM (opM isntD (callM 1 (m_word_of NF RD) [] (consM (varM 3) nilM)) (cM .non))) (seqM (exprM (bmM "list" appendD (varM 2) (consM (tupM (consM (varM 3) (consM (cM (.bl true)) nilM))) nilM))) (exprM (bmM "list" extendD (varM 2) (consM (lcM (revI (slM (varM 3) (partM (cM (.int 1))) noM)) (nameG 7) yesM (E_with_calls_0 NF RD) [7] NF) nilM)))) (exprM (bmM "list" appendD (varM 1) (consM (ifM (truM (callM 1 (m_is_variable NF RD) [] (consM (varM 3) nilM))) (tupM (consM (cM (.str "call")) (consM (varM 3) nilM))) (varM 3)) nilM))))))
def m_with_calls (NF RD : Nat) : GC := bodyM 8 (seqM (parM 1 2 (consM (lstM nilM) (consM (lstM (consM (tupM (consM (varM 0) (consM (cM (.bl false)) nilM))) nilM)) nilM))) (seqM (whileM (C_with_calls_1 NF RD) (B_with_calls_2 NF RD) NF) (retM (opM subsD (varM 1) (cM (.int 0))))))
def m_halves (NF RD : Nat) : GC := bodyM 1 (seqM (ifSM (tandM (truM (callM 1 (m_is_compound NF RD) [] (consM (varM 0) nilM))) (tandM (testM (opM eqD (opM subsD (varM 0) (cM (.int 0))) (cM (.str ":-")))) (testM (opM eqD (cbM lenD (consM (varM 0) nilM)) (cM (.int 3)))))) (retM (slM (varM 0) (partM (cM (.int 1))) noM)) passM) (retM (tupM (consM (varM 0) (consM (cM (.str "true")) nilM)))))
def m_fault_of (NF RD : Nat) : GC := bodyM 3 (seqM (ifSM (tnotM (truM (callM 1 (m_is_term NF RD) [] (consM (varM 0) nilM)))) (retM (cM (.str "head"))) passM) (seqM (asgM (callM 1 (m_halves NF RD) [] (consM (varM 0) nilM)) (uplG 2 (consG (nameG 1) (consG (nameG 2) nilG)))) (seqM (ifSM (tnotM (truM (callM 1 (m_is_callable NF RD) [] (consM (varM 1) nilM)))) (retM (cM (.str "head"))) passM) (retM (ifM (truM (callM 1 (m_has_good_leaves NF RD) [] (consM (varM 2) nilM))) (cM .non) (cM (.str "body")))))))
def m_is_clause (NF RD : Nat) : GC := bodyM 1 (retM (opM isD (callM 1 (m_fault_of NF RD) [] (consM (varM 0) nilM)) (cM .non)))
def m_kept_form (NF RD : Nat) : GC := bodyM 4 (seqM (asgM (callM 1 (m_halves NF RD) [] (consM (varM 0) nilM)) (uplG 2 (consG (nameG 1) (consG (nameG 2) nilG)))) (seqM (asgM (callM 1 (m_with_calls NF RD) [] (consM (varM 2) nilM)) (nameG 2)) (seqM (asgM (callM 2 (m_renumbering NF RD) [.int 0] (consM (lstM (consM (varM 1) (consM (varM 2) nilM))) nilM)) (nameG 3)) (retM (tupM (consM (cM (.str ":-")) (consM (callM 2 (m_replaced NF RD) [] (consM (varM 1) (consM (varM 3) nilM))) (consM (callM 2 (m_replaced NF RD) [] (consM (varM 2) (consM (varM 3) nilM))) nilM))))))))
def m_stored (NF RD : Nat) : GC := bodyM 2 (seqM (asgM (callM 1 (m_fault_of NF RD) [] (consM (varM 0) nilM)) (nameG 1)) (seqM (ifSM (testM (opM isntD (varM 1) (cM .non))) neverM passM) (retM (callM 1 (m_kept_form NF RD) [] (consM (varM 0) nilM)))))
def x_stored (NF RD : Nat) : GX := bodyX 2 (seqX noX (asgM (callM 1 (m_fault_of NF RD) [] (consM (varM 0) nilM)) (nameG 1)) (seqX (ifX (testM (opM isntD (varM 1) (cM .non))) (raiseX "NoClause" ["why"] (consM (varM 1) nilM)) noX) (ifSM (testM (opM isntD (varM 1) (cM .non))) neverM passM) noX))
def m__law_cell_at (NF RD : Nat) : GC := bodyM 2 (seqM (ifSM (testM (opM ltD (varM 1) (cbM lenD (consM (varM 0) nilM)))) (retM (opM subsD (varM 0) (varM 1))) passM) (retM (cM (.int 0))))
def m__law_well (NF RD : Nat) : GC := bodyM 1 (retM (lstM (consM (opM subsD (lstM (consM (cM (.int 0)) (consM (varM 0) nilM))) (cbM intD (consM (opM geD (varM 0) (opM powD (cM (.int 10)) (cM (.int 18)))) nilM))) (consM (varM 0) (consM (cM (.int 0)) nilM)))))
def m__law_draw (NF RD : Nat) : GC := bodyM 6 (seqM (ifSM (testM (opM gtD (opM subsD (varM 0) (cM (.int 0))) (cM (.int 0)))) (seqM (asgM (opM modZD (cbM intD (consM (opM subsD (varM 0) (cM (.int 0))) nilM)) (varM 1)) (nameG 2)) (seqM (setD (varM 0) (cM (.int 0)) (opM fdivZD (opM subsD (varM 0) (cM (.int 0))) (varM 1))) (retM (varM 2)))) passM) (seqM (setD (varM 0) (cM (.int 2)) (opM addD (opM subsD (varM 0) (cM (.int 2))) (cM (.int 1)))) (seqM (asgM (opM modD (cbM intD (consM (opM fdivD (opM subsD (varM 0) (cM (.int 1))) (cM (.int 2147483629))) nilM)) (cM (.int 65521))) (nameG 3)) (seqM (asgM (opM addD (opM addD (opM addD (opM modD (cbM intD (consM (opM subsD (varM 0) (cM (.int 1))) nilM)) (cM (.int 2147483629))) (opM mulD (cM (.int 7919)) (opM subsD (varM 0) (cM (.int 2))))) (varM 3)) (cM (.int 1))) (nameG 4)) (seqM (asgM (opM modD (cbM intD (consM (opM powD (varM 4) (cM (.int 5))) nilM)) (cM (.int 2147483647))) (nameG 5)) (seqM (asgM (opM modD (cbM intD (consM (opM mulD (varM 5) (opM addD (opM addD (opM fdivD (varM 5) (cM (.int 1009))) (cM (.int 69621))) (opM subsD (varM 0) (cM (.int 2))))) nilM)) (cM (.int 2147483629))) (nameG 5)) (retM (opM modZD (cbM intD (consM (opM modD (cbM intD (consM (opM mulD (varM 5) (opM addD (opM fdivD (varM 5) (cM (.int 2003))) (cM (.int 40692)))) nilM)) (cM (.int 2147483399))) nilM)) (varM 1)))))))))
def m__law_one (NF RD : Nat) : GC := bodyM 2 (retM (opM subsD (varM 1) (callM 2 (m__law_draw NF RD) [] (consM (varM 0) (consM (cbM lenD (consM (varM 1) nilM)) nilM)))))
def B__law_numbers_0 (NF RD : Nat) (rec : GC) : MS := (ifSM (tandM (truM (cbM isiD (consM (varM 2) (consM (cM (.ty "tuple")) nilM)))) (testM (opM eqD (cbM lenD (consM (varM 2) nilM)) (cM (.int 1))))) (ifSM (testM (opM (inD true) (opM subsD (varM 2) (cM (.int 0))) (varM 1))) (exprM (bmM "list" appendD (varM 1) (consM (opM subsD (varM 2) (cM (.int 0))) nilM))) passM) (ifSM (truM (cbM isiD (consM (varM 2) (consM (cM (.ty "tuple")) nilM)))) (exprM (callM 2 rec [] (consM (slM (varM 2) (partM (cM (.int 1))) noM) (consM (varM 1) nilM)))) passM))
def m__law_numbers (NF RD : Nat) : Nat → GC
  | 0 => fun _ _ => none
  | k + 1 => bodyM 3 (seqM (forSM (seqI (varM 0)) (nameG 2) (B__law_numbers_0 NF RD (m__law_numbers NF RD k)) NF) (retM (varM 1)))
def E__law_put_0 (NF RD : Nat) (rec : GC) : ME := (callM 2 rec [] (consM (varM 2) (consM (varM 1) nilM)))
def m__law_put (NF RD : Nat) : Nat → GC
  | 0 => fun _ _ => none
  | k + 1 => bodyM 3 (seqM (ifSM (tnotM (truM (cbM isiD (consM (varM 0) (consM (cM (.ty "tuple")) nilM))))) (retM (varM 0)) passM) (seqM (ifSM (testM (opM eqD (cbM lenD (consM (varM 0) nilM)) (cM (.int 1)))) (retM (getD2 (varM 1) (opM subsD (varM 0) (cM (.int 0))) (varM 0))) passM) (retM (opM addD (tupM (consM (opM subsD (varM 0) (cM (.int 0))) nilM)) (cbM tuplD (consM (lcM (seqI (slM (varM 0) (partM (cM (.int 1))) noM)) (nameG 2) yesM (E__law_put_0 NF RD (m__law_put NF RD k)) [2] NF) nilM))))))
def E__law_anew_0 (NF RD : Nat) : ME := (callM 2 (m__law_put NF RD RD) [] (consM (varM 4) (consM (varM 1) nilM)))
def B__law_anew_1 (NF RD : Nat) : MS := (setD (varM 1) (varM 3) (tupM (consM (varM 2) nilM)))
def m__law_anew (NF RD : Nat) : GC := bodyM 5 (seqM (asgM dnewM (nameG 1)) (seqM (forSM (enuI (consM (callM 2 (m__law_numbers NF RD RD) [] (consM (varM 0) (consM (lstM nilM) nilM))) nilM)) (tupG 2 (consG (nameG 2) (consG (nameG 3) nilG))) (B__law_anew_1 NF RD) NF) (retM (lcM (seqI (varM 0)) (nameG 4) yesM (E__law_anew_0 NF RD) [4] NF))))
def m__law_is_construct (NF RD : Nat) : GC := bodyM 2 (seqM (asgM (dispM (pconsM (cM (.str ",")) (cM (.int 3)) (pconsM (cM (.str ";")) (cM (.int 3)) (pconsM (cM (.str "->")) (cM (.int 3)) (pconsM (cM (.str "*->")) (cM (.int 3)) (pconsM (cM (.str "forall")) (cM (.int 3)) (pconsM (cM (.str "\\+")) (cM (.int 2)) (pconsM (cM (.str "once")) (cM (.int 2)) (pconsM (cM (.str "ignore")) (cM (.int 2)) pnilM))))))))) (nameG 1)) (retM (andM (cbM isiD (consM (varM 0) (consM (cM (.ty "tuple")) nilM))) (andM (opM gtD (cbM lenD (consM (varM 0) nilM)) (cM (.int 1))) (opM eqD (getD2 (varM 1) (opM subsD (varM 0) (cM (.int 0))) (cM (.int 0))) (cbM lenD (consM (varM 0) nilM)))))))
def E__law_is_body_0 (NF RD : Nat) (rec : GC) : ME := (callM 1 rec [] (consM (varM 1) nilM))
def m__law_is_body (NF RD : Nat) : Nat → GC
  | 0 => fun _ _ => none
  | k + 1 => bodyM 2 (seqM (ifSM (truM (callM 1 (m__law_is_construct NF RD) [] (consM (varM 0) nilM))) (retM (cbM allD (consM (lcM (seqI (slM (varM 0) (partM (cM (.int 1))) noM)) (nameG 1) yesM (E__law_is_body_0 NF RD (m__law_is_body NF RD k)) [1] NF) nilM))) passM) (retM (notM (cbM isiD (consM (varM 0) (consM (cM (.ty "int")) nilM))))))
def m__law_is_goal (NF RD : Nat) : GC := bodyM 1 (retM (orM (cbM isiD (consM (varM 0) (consM (cM (.ty "str")) nilM))) (andM (cbM isiD (consM (varM 0) (consM (cM (.ty "tuple")) nilM))) (opM gtD (cbM lenD (consM (varM 0) nilM)) (cM (.int 1))))))
def E__law_with_calls_0 (NF RD : Nat) (rec : GC) : ME := (callM 1 rec [] (consM (varM 1) nilM))
def m__law_with_calls (NF RD : Nat) : Nat → GC
  | 0 => fun _ _ => none
  | k + 1 => bodyM 2 (seqM (ifSM (truM (callM 1 (m__law_is_construct NF RD) [] (consM (varM 0) nilM))) (retM (opM addD (tupM (consM (opM subsD (varM 0) (cM (.int 0))) nilM)) (cbM tuplD (consM (lcM (seqI (slM (varM 0) (partM (cM (.int 1))) noM)) (nameG 1) yesM (E__law_with_calls_0 NF RD (m__law_with_calls NF RD k)) [1] NF) nilM)))) passM) (retM (ifM (tandM (truM (cbM isiD (consM (varM 0) (consM (cM (.ty "tuple")) nilM)))) (testM (opM eqD (cbM lenD (consM (varM 0) nilM)) (cM (.int 1))))) (tupM (consM (cM (.str "call")) (consM (varM 0) nilM))) (varM 0))))
def m__law_atom (NF RD : Nat) : GC := bodyM 1 (retM (callM 2 (m__law_one NF RD) [] (consM (varM 0) (consM (lstM (consM (cM (.str "a")) (consM (cM (.str "b")) (consM (cM (.str "[]")) (consM (cM (.str "")) (consM (cM (.str "foo bar")) (consM (cM (.str "!")) (consM (cM (.str "true")) (consM (cM (.str "fail")) (consM (cM (.str "p")) (consM (cM (.str ";")) nilM))))))))))) nilM))))
def E__law_part_0 (NF RD : Nat) (rec : GC) : ME := (callM 2 rec [] (consM (varM 0) (consM (opM subD (varM 1) (cM (.int 1))) nilM)))
def m__law_part (NF RD : Nat) : Nat → GC
  | 0 => fun _ _ => none
  | k + 1 => bodyM 6 (seqM (asgM (callM 2 (m__law_draw NF RD) [] (consM (varM 0) (consM (cM (.int 9)) nilM))) (nameG 2)) (seqM (ifSM (torM (testM (opM eqD (varM 1) (cM (.int 0)))) (testM (opM ltD (varM 2) (cM (.int 3))))) (retM (callM 2 (m__law_one NF RD) [] (consM (varM 0) (consM (lstM (consM (tupM (consM (callM 2 (m__law_draw NF RD) [] (consM (varM 0) (consM (cM (.int 5)) nilM))) nilM)) (consM (tupM (consM (callM 2 (m__law_draw NF RD) [] (consM (varM 0) (consM (cM (.int 5)) nilM))) nilM)) (consM (callM 1 (m__law_atom NF RD) [] (consM (varM 0) nilM)) (consM (callM 1 (m__law_atom NF RD) [] (consM (varM 0) nilM)) (consM (varM 2) nilM)))))) nilM)))) passM) (seqM (asgM (callM 2 (m__law_one NF RD) [] (consM (varM 0) (consM (lstM (consM (cM (.str ",")) (consM (cM (.str ",")) (consM (cM (.str ";")) (consM (cM (.str ";")) (consM (cM (.str "->")) (consM (cM (.str "*->")) (consM (cM (.str "\\+")) (consM (cM (.str "once")) (consM (cM (.str "ignore")) (consM (cM (.str "forall")) (consM (cM (.str "call")) (consM (cM (.str "f")) (consM (cM (.str ":-")) nilM)))))))))))))) nilM))) (nameG 3)) (seqM (asgM (getD2 (dispM (pconsM (cM (.str ",")) (cM (.int 2)) (pconsM (cM (.str ";")) (cM (.int 2)) (pconsM (cM (.str "->")) (cM (.int 2)) (pconsM (cM (.str "*->")) (cM (.int 2)) (pconsM (cM (.str "forall")) (cM (.int 2)) (pconsM (cM (.str ":-")) (cM (.int 2)) pnilM))))))) (varM 3) (cM (.int 1))) (nameG 4)) (seqM (ifSM (testM (opM eqD (callM 2 (m__law_draw NF RD) [] (consM (varM 0) (consM (cM (.int 8)) nilM))) (cM (.int 0)))) (asgM (opM addD (cM (.int 1)) (callM 2 (m__law_draw NF RD) [] (consM (varM 0) (consM (cM (.int 3)) nilM)))) (nameG 4)) passM) (retM (opM addD (tupM (consM (varM 3) nilM)) (cbM tuplD (consM (lcM (rngI (consM (varM 4) nilM)) (nameG 5) yesM (E__law_part_0 NF RD (m__law_part NF RD k)) [5] NF) nilM)))))))))
def m__law_due (NF RD : Nat) : GC := bodyM 3 (seqM (parM 1 2 (consM (varM 0) (consM (cM (.str "true")) nilM))) (seqM (ifSM (tandM (truM (cbM isiD (consM (varM 0) (consM (cM (.ty "tuple")) nilM)))) (tandM (testM (opM eqD (cbM lenD (consM (varM 0) nilM)) (cM (.int 3)))) (testM (opM eqD (opM subsD (varM 0) (cM (.int 0))) (cM (.str ":-")))))) (parM 1 2 (consM (opM subsD (varM 0) (cM (.int 1))) (consM (opM subsD (varM 0) (cM (.int 2))) nilM))) passM) (seqM (ifSM (tnotM (truM (callM 1 (m__law_is_goal NF RD) [] (consM (varM 1) nilM)))) (retM (cM (.str "head"))) passM) (seqM (ifSM (tnotM (truM (callM 1 (m__law_is_body NF RD RD) [] (consM (varM 2) nilM)))) (retM (cM (.str "body"))) passM) (seqM (asgM (callM 1 (m__law_anew NF RD) [] (consM (lstM (consM (varM 1) (consM (callM 1 (m__law_with_calls NF RD RD) [] (consM (varM 2) nilM)) nilM))) nilM)) (uplG 2 (consG (nameG 1) (consG (nameG 2) nilG)))) (retM (tupM (consM (cM (.str ":-")) (consM (varM 1) (consM (varM 2) nilM))))))))))
def m__law_said (NF RD : Nat) : GC := bodyM 3 (seqM (asgM (cM .non) (nameG 1)) (seqM (tryM subX LX [⟨"NoClause", some 2, some 1, fun xn => (fldX TX xn "why")⟩, ⟨"HornError", none, some 1, fun xn => (cM (.str "other"))⟩] (asgM (callM 1 (m_stored NF RD) [] (consM (varM 0) nilM)) (nameG 1)) (callX 1 (x_stored NF RD) [] (consM (varM 0) nilM))) (retM (varM 1))))
def m__law_right (NF RD : Nat) : GC := bodyM 2 (seqM (asgM (callM 1 (m__law_due NF RD) [] (consM (varM 0) nilM)) (nameG 1)) (seqM (ifSM (torM (testM (opM neD (cbM reprD (consM (callM 1 (m_is_body NF RD) [] (consM (varM 0) nilM)) nilM)) (cbM reprD (consM (callM 1 (m__law_is_body NF RD RD) [] (consM (varM 0) nilM)) nilM)))) (testM (opM neD (cbM reprD (consM (callM 1 (m_is_clause NF RD) [] (consM (varM 0) nilM)) nilM)) (cbM reprD (consM (cbM isiD (consM (varM 1) (consM (cM (.ty "tuple")) nilM))) nilM))))) (retM (cM (.bl false))) passM) (retM (opM eqD (cbM reprD (consM (callM 1 (m__law_said NF RD) [] (consM (varM 0) nilM)) nilM)) (cbM reprD (consM (varM 1) nilM))))))
def B_law_0 (NF RD : Nat) : MS := (ifSM (torM (testM (opM isntBD (callM 1 (m_is_body NF RD) [] (consM (varM 6) nilM)) (cM (.bl false)))) (torM (testM (opM isntBD (callM 1 (m_is_clause NF RD) [] (consM (varM 6) nilM)) (cM (.bl false)))) (testM (opM neD (callM 1 (m__law_said NF RD) [] (consM (varM 6) nilM)) (cM (.str "head")))))) (retM (cM (.bl false))) passM)
def B_law_1 (NF RD : Nat) : MS := (ifSM (tnotM (truM (callM 1 (m__law_right NF RD) [] (consM (varM 6) nilM)))) (retM (cM (.bl false))) passM)
def B_law_2 (NF RD : Nat) : MS := (seqM (parM 4 5 (consM (callM 2 (m__law_part NF RD RD) [] (consM (varM 2) (consM (cM (.int 2)) nilM))) (consM (callM 2 (m__law_part NF RD RD) [] (consM (varM 2) (consM (cM (.int 4)) nilM))) nilM))) (forSM (seqI (lstM (consM (varM 4) (consM (varM 5) (consM (tupM (consM (cM (.str ":-")) (consM (varM 4) (consM (varM 5) nilM)))) (consM (tupM (consM (cM (.str ":-")) (consM (tupM (consM (cM (.str "p")) (consM (varM 4) nilM))) (consM (varM 5) nilM)))) (consM (tupM (consM (cM (.str ":-")) (consM (varM 5) nilM))) nilM))))))) (nameG 6) (B_law_1 NF RD) NF))
def B_law_3 (NF RD : Nat) : MS := (seqM (asgM (callM 1 (m__law_well NF RD) [] (consM (varM 1) nilM)) (nameG 2)) (forSM (rngI (consM (cM (.int 12)) nilM)) (nameG 3) (B_law_2 NF RD) NF))
def m_law (NF RD : Nat) : GC := bodyM 8 (seqM (forSM (seqI (opM addD (lstM (consM (callM 2 (m__law_cell_at NF RD) [] (consM (varM 0) (consM (cM (.int 0)) nilM))) nilM)) (slM (varM 0) (partM (cM (.int 1))) (partM (cM (.int 4)))))) (nameG 1) (B_law_3 NF RD) NF) (seqM (asgM (lstM (consM (cM .non) (consM (cM (.bl true)) (consM (lstM nilM) (consM (tupM nilM) (consM (tupM (consM (cM (.str "f")) nilM)) (consM (tupM (consM (cM (.str "f")) (consM (cM .non) nilM))) (consM (tupM (consM (cM (.str "f")) (consM (cM (.bl true)) nilM))) (consM dnewM (consM (dispM (pconsM (cM (.str "a")) (cM (.int 1)) pnilM)) (consM (tupM (consM (cM (.str "f")) (consM (tupM (consM (cM (.str "x")) nilM)) nilM))) (consM (tupM (consM (negM (cM (.int 1))) nilM)) (consM (tupM (consM (cM (.bl true)) nilM)) (consM (opM mulD (cM (.str "a")) (cM (.int 41))) nilM)))))))))))))) (nameG 7)) (seqM (asgM (opM addD (varM 7) (lstM (consM (opM addD (tupM (consM (cM (.str "f")) nilM)) (opM mulD (tupM (consM (cM (.int 1)) nilM)) (cM (.int 9)))) (consM (tupM (consM (cM (.int 1)) (consM (cM (.int 2)) nilM))) (consM (tupM (consM (cM (.str "p")) (consM (cM (.str "\n")) nilM))) (consM (lstM (consM (cM (.str ":-")) (consM (cM (.str "a")) (consM (cM (.str "b")) nilM)))) (consM (tupM (consM (cM (.str ":-")) (consM (cM (.str "a")) (consM (cM .non) nilM)))) nilM))))))) (nameG 7)) (seqM (forSM (seqI (varM 7)) (nameG 6) (B_law_0 NF RD) NF) (retM (andM (callM 1 (m__law_right NF RD) [] (consM (cM (.str "a")) nilM)) (andM (callM 1 (m__law_right NF RD) [] (consM (cM (.int 5)) nilM)) (andM (callM 1 (m__law_right NF RD) [] (consM (tupM (consM (cM (.int 3)) nilM)) nilM)) (callM 1 (m__law_right NF RD) [] (consM (tupM (consM (cM (.str ":-")) (consM (cM (.str "a")) (consM (cM (.int 5)) nilM)))) nilM))))))))))
end
/-! ### each def keeps its mirror -/
section
variable {P : Program} {w : World} {K : PySem.W.Frag} {mg : Str → Option Value} {base : Heap} (NF RD : Nat)
theorem c_is_int {L : Nat} (g : Got K mg "is_int" s_is_int P_is_int) (z : Zs mg) (y : Ys K mg) (q : Qs K mg) : CalM P w K mg base (L + 1) "is_int" 1 (m_is_int NF RD) noGX [] := by
  have nd := sc_is_int.nd
  refine Got.cal (ps := P_is_int) (N := N_is_int) (ms := (retM (andM (cbM isiD (consM (varM 0) (consM (cM (.ty "int")) nilM))) (notM (cbM isiD (consM (varM 0) (consM (cM (.ty "bool")) nilM))))))) (xs := noX) g sc_is_int fun f cdv A outer s H E hr => ?_
  exact ⟨_, (dssx_one (DS.x (ds_ret (de_and (de_callB sc_isi call_isiU z.«isinstance» (da_cons (de_var 0) (da_cons (de_ty z.«int») da_nil))) (de_one (de_not (de_callB sc_isi call_isiU z.«isinstance» (da_cons (de_var 0) (da_cons (de_ty z.«bool») da_nil)))))))))⟩
theorem c_is_variable {L : Nat} (g : Got K mg "is_variable" s_is_variable P_is_variable) (z : Zs mg) (y : Ys K mg) (q : Qs K mg) (c_is_int : CalM P w K mg base L "is_int" 1 (m_is_int NF RD) noGX []) : CalM P w K mg base (L + 1) "is_variable" 1 (m_is_variable NF RD) noGX [] := by
  have nd := sc_is_variable.nd
  refine Got.cal (ps := P_is_variable) (N := N_is_variable) (ms := (retM (andM (cbM isiD (consM (varM 0) (consM (cM (.ty "tuple")) nilM))) (andM (opM eqD (cbM lenD (consM (varM 0) nilM)) (cM (.int 1))) (andM (callM 1 (m_is_int NF RD) [] (consM (opM subsD (varM 0) (cM (.int 0))) nilM)) (opM geD (opM subsD (varM 0) (cM (.int 0))) (cM (.int 0)))))))) (xs := noX) g sc_is_variable fun f cdv A outer s H E hr => ?_
  exact ⟨_, (dssx_one (DS.x (ds_ret (de_and (de_callB sc_isi call_isiU z.«isinstance» (da_cons (de_var 0) (da_cons (de_ty z.«tuple») da_nil))) (de_and (de_cmp so_eq (op_eqU (hu64 hr)) (de_callB sc_len call_lenU z.«len» (da_cons (de_var 0) da_nil)) de_int) (de_and (de_call c_is_int hr (da_cons (de_sub (de_var 0) de_int (hu1 hr)) da_nil) (by omega)) (de_one (de_cmp so_ge op_geU (de_sub (de_var 0) de_int (hu1 hr)) de_int))))))))⟩
theorem c_is_any_number {L : Nat} (g : Got K mg "is_any_number" s_is_any_number P_is_any_number) (z : Zs mg) (y : Ys K mg) (q : Qs K mg) (c_is_int : CalM P w K mg base L "is_int" 1 (m_is_int NF RD) noGX []) : CalM P w K mg base (L + 1) "is_any_number" 1 (m_is_any_number NF RD) noGX [] := by
  have nd := sc_is_any_number.nd
  refine Got.cal (ps := P_is_any_number) (N := N_is_any_number) (ms := (retM (andM (callM 1 (m_is_int NF RD) [] (consM (varM 0) nilM)) (opM ltD (cbM absD (consM (varM 0) nilM)) (cM k_TOO_GREAT))))) (xs := noX) g sc_is_any_number fun f cdv A outer s H E hr => ?_
  exact ⟨_, (dssx_one (DS.x (ds_ret (de_and (de_call c_is_int hr (da_cons (de_var 0) da_nil) (by omega)) (de_one (de_cmp so_lt op_ltU (de_callB sc_abs call_abs z.«abs» (da_cons (de_var 0) da_nil)) y.g_TOO_GREAT.de))))))⟩
theorem c_is_any_atom {L : Nat} (g : Got K mg "is_any_atom" s_is_any_atom P_is_any_atom) (z : Zs mg) (y : Ys K mg) (q : Qs K mg) : CalM P w K mg base (L + 1) "is_any_atom" 1 (m_is_any_atom NF RD) noGX [] := by
  have nd := sc_is_any_atom.nd
  refine Got.cal (ps := P_is_any_atom) (N := N_is_any_atom) (ms := (seqM (ifSM (torM (tnotM (truM (cbM isiD (consM (varM 0) (consM (cM (.ty "str")) nilM))))) (testM (opM gtD (cbM lenD (consM (varM 0) nilM)) (cM k_MOST_SIGNS)))) (retM (cM (.bl false))) passM) (retM (cbM allD (consM (lcM (seqI (varM 0)) (nameG 1) yesM (E_is_any_atom_0 NF RD) [1] NF) nilM))))) (xs := noX) g sc_is_any_atom fun f cdv A outer s H E hr => ?_
  exact ⟨_, (dssx_cons0 (dsx_if0 (dt_w (dw_or (dt_not (dt_tru (de_callB sc_isi call_isiU z.«isinstance» (da_cons (de_var 0) (da_cons (de_ty z.«str») da_nil))))) (dw_or1 (dt_cmp so_gt op_gtU (de_callB sc_len call_lenU z.«len» (da_cons (de_var 0) da_nil)) y.g_MOST_SIGNS.de)))) (dssx_one (DS.x (ds_ret de_bl))) dssx_nil) (dssx_one (DS.x (ds_ret (de_callB sc_all call_allU z.«all» (da_cons (de_lc (own := [("sign", 1)]) NF nd (di_seq (de_var 0)) (blkOk_by (N := N_is_any_atom) (sc := (defScope s_is_any_atom)) (by decide +kernel)) (only_name (by decide)) (fun _ _ _ _ _ => (dg_name 1 nd)) (fun _ _ _ _ _ => dts_nil) (fun _ _ _ _ _ => (de_and (de_chain so_le op_leU so_le op_leU de_str (de_var 1) de_str) (de_one (de_cmp so_ne (op_neU (hu64 hr)) (de_callB sc_ord call_ord z.«ord» (da_cons (de_var 1) da_nil)) de_int))))) da_nil))))))⟩
theorem c_is_compound {L : Nat} (g : Got K mg "is_compound" s_is_compound P_is_compound) (z : Zs mg) (y : Ys K mg) (q : Qs K mg) : CalM P w K mg base (L + 1) "is_compound" 1 (m_is_compound NF RD) noGX [] := by
  have nd := sc_is_compound.nd
  refine Got.cal (ps := P_is_compound) (N := N_is_compound) (ms := (retM (andM (cbM isiD (consM (varM 0) (consM (cM (.ty "tuple")) nilM))) (opM gtD (cbM lenD (consM (varM 0) nilM)) (cM (.int 1)))))) (xs := noX) g sc_is_compound fun f cdv A outer s H E hr => ?_
  exact ⟨_, (dssx_one (DS.x (ds_ret (de_and (de_callB sc_isi call_isiU z.«isinstance» (da_cons (de_var 0) (da_cons (de_ty z.«tuple») da_nil))) (de_one (de_cmp so_gt op_gtU (de_callB sc_len call_lenU z.«len» (da_cons (de_var 0) da_nil)) de_int))))))⟩
theorem c_is_term {L : Nat} (g : Got K mg "is_term" s_is_term P_is_term) (z : Zs mg) (y : Ys K mg) (q : Qs K mg) (c_is_compound : CalM P w K mg base L "is_compound" 1 (m_is_compound NF RD) noGX []) (c_is_any_atom : CalM P w K mg base L "is_any_atom" 1 (m_is_any_atom NF RD) noGX []) (c_is_variable : CalM P w K mg base L "is_variable" 1 (m_is_variable NF RD) noGX []) (c_is_any_number : CalM P w K mg base L "is_any_number" 1 (m_is_any_number NF RD) noGX []) : CalM P w K mg base (L + 1) "is_term" 1 (m_is_term NF RD) noGX [] := by
  have nd := sc_is_term.nd
  refine Got.cal (ps := P_is_term) (N := N_is_term) (ms := (seqM (asgM (lstM (consM (varM 0) nilM)) (nameG 1)) (seqM (whileM (C_is_term_0 NF RD) (B_is_term_1 NF RD) NF) (retM (cM (.bl true)))))) (xs := noX) g sc_is_term fun f cdv A outer s H E hr => ?_
  exact ⟨_, (dssx_cons0 (DS.x (ds_set 1 (de_lst (da_cons (de_var 0) da_nil)) nd)) (dssx_cons0 (dsx_while0 NF (dt_cmp so_ne (op_neU (hu64 hr)) (de_var 1) (de_lst da_nil)) (dssx_cons0 (DS.x (ds_set 2 (de_bm0 sm_pop PySem.F.plainAttrs_list PySem.F.slot_list_pop PySem.F.type_list_pop mt_pop (de_var 1)) nd)) (dssx_one (dsx_if0 (dt_tru (de_call c_is_compound hr (da_cons (de_var 2) da_nil) (by omega))) (dssx_cons0 (dsx_if0 (dt_w (dw_or (dt_cmp so_gt op_gtU (de_callB sc_len call_lenU z.«len» (da_cons (de_var 2) da_nil)) (de_op so_add op_addU y.g_MOST_ARGUMENTS.de de_int)) (dw_or1 (dt_not (dt_tru (de_call c_is_any_atom hr (da_cons (de_sub (de_var 2) de_int (hu1 hr)) da_nil) (by omega))))))) (dssx_one (DS.x (ds_ret de_bl))) dssx_nil) (dssx_one (DS.x (ds_expr (de_bm sm_extend PySem.F.plainAttrs_list PySem.F.slot_list_extend PySem.F.type_list_extend mt_extU (de_var 1) (da_cons (de_slice (de_var 2) (do_some de_int) do_none) da_nil)))))) (dssx_one (dsx_if0 (dt_w (dw_and (dt_not (dt_tru (de_call c_is_variable hr (da_cons (de_var 2) da_nil) (by omega)))) (dw_and (dt_not (dt_tru (de_call c_is_any_number hr (da_cons (de_var 2) da_nil) (by omega)))) (dw_and1 (dt_not (dt_tru (de_call c_is_any_atom hr (da_cons (de_var 2) da_nil) (by omega)))))))) (dssx_one (DS.x (ds_ret de_bl))) dssx_nil)))))) (dssx_one (DS.x (ds_ret de_bl)))))⟩
theorem c_parts_of {L : Nat} (g : Got K mg "parts_of" s_parts_of P_parts_of) (z : Zs mg) (y : Ys K mg) (q : Qs K mg) (c_is_compound : CalM P w K mg base L "is_compound" 1 (m_is_compound NF RD) noGX []) : CalM P w K mg base (L + 1) "parts_of" 1 (m_parts_of NF RD) noGX [] := by
  have nd := sc_parts_of.nd
  refine Got.cal (ps := P_parts_of) (N := N_parts_of) (ms := (seqM (parM 1 2 (consM (lstM nilM) (consM (lstM (consM (varM 0) nilM)) nilM))) (seqM (whileM (C_parts_of_0 NF RD) (B_parts_of_1 NF RD) NF) (retM (varM 1))))) (xs := noX) g sc_parts_of fun f cdv A outer s H E hr => ?_
  exact ⟨_, (dssx_cons0 (DS.x (ds_par 1 2 (da_cons (de_lst da_nil) (da_cons (de_lst (da_cons (de_var 0) da_nil)) da_nil)) nd)) (dssx_cons0 (dsx_while0 NF (dt_cmp so_ne (op_neU (hu64 hr)) (de_var 2) (de_lst da_nil)) (dssx_cons0 (DS.x (ds_set 3 (de_bm0 sm_pop PySem.F.plainAttrs_list PySem.F.slot_list_pop PySem.F.type_list_pop mt_pop (de_var 2)) nd)) (dssx_cons0 (DS.x (ds_expr (de_bm sm_append PySem.F.plainAttrs_list PySem.F.slot_list_append PySem.F.type_list_append mt_append (de_var 1) (da_cons (de_var 3) da_nil)))) (dssx_one (dsx_if0 (dt_tru (de_call c_is_compound hr (da_cons (de_var 3) da_nil) (by omega))) (dssx_one (DS.x (ds_expr (de_bm sm_extend PySem.F.plainAttrs_list PySem.F.slot_list_extend PySem.F.type_list_extend mt_extU (de_var 2) (da_cons (de_back (de_var 3) (do_some de_int) (do_some (de_neg de_int))) da_nil))))) dssx_nil))))) (dssx_one (DS.x (ds_ret (de_var 1))))))⟩
theorem c_numbers_in {L : Nat} (g : Got K mg "numbers_in" s_numbers_in P_numbers_in) (z : Zs mg) (y : Ys K mg) (q : Qs K mg) (c_parts_of : CalM P w K mg base L "parts_of" 1 (m_parts_of NF RD) noGX []) (c_is_variable : CalM P w K mg base L "is_variable" 1 (m_is_variable NF RD) noGX []) : CalM P w K mg base (L + 1) "numbers_in" 1 (m_numbers_in NF RD) noGX [] := by
  have nd := sc_numbers_in.nd
  refine Got.cal (ps := P_numbers_in) (N := N_numbers_in) (ms := (seqM (asgM dnewM (nameG 1)) (seqM (forSM (seqI (varM 0)) (nameG 2) (B_numbers_in_1 NF RD) NF) (retM (cbM listD (consM (varM 1) nilM)))))) (xs := noX) g sc_numbers_in fun f cdv A outer s H E hr => ?_
  exact ⟨_, (dssx_cons0 (DS.x (ds_set 1 de_dnew nd)) (dssx_cons0 (dsx_for0 NF (di_seq (de_var 0)) (dg_name 2 nd) (dssx_one (dsx_for0 NF (di_seq (de_call c_parts_of hr (da_cons (de_var 2) da_nil) (by omega))) (dg_name 3 nd) (dssx_one (dsx_if0 (dt_tru (de_call c_is_variable hr (da_cons (de_var 3) da_nil) (by omega))) (dssx_one (DS.x (ds_put (de_var 1) (de_sub (de_var 3) de_int (hu1 hr)) de_bl (hu1 hr)))) dssx_nil))))) (dssx_one (DS.x (ds_ret (de_callTy sc_list call_listU z.«list» (da_cons (de_var 1) da_nil)))))))⟩
theorem c_replaced {L : Nat} (g : Got K mg "replaced" s_replaced P_replaced) (z : Zs mg) (y : Ys K mg) (q : Qs K mg) (c_is_compound : CalM P w K mg base L "is_compound" 1 (m_is_compound NF RD) noGX []) (c_is_variable : CalM P w K mg base L "is_variable" 1 (m_is_variable NF RD) noGX []) : CalM P w K mg base (L + 1) "replaced" 2 (m_replaced NF RD) noGX [] := by
  have nd := sc_replaced.nd
  refine Got.cal (ps := P_replaced) (N := N_replaced) (ms := (seqM (parM 2 3 (consM (lstM nilM) (consM (lstM (consM (tupM (consM (varM 0) (consM (cM (.bl false)) nilM))) nilM)) nilM))) (seqM (whileM (C_replaced_1 NF RD) (B_replaced_2 NF RD) NF) (retM (opM subsD (varM 2) (cM (.int 0))))))) (xs := noX) g sc_replaced fun f cdv A outer s H E hr => ?_
  exact ⟨_, (dssx_cons0 (DS.x (ds_par 2 3 (da_cons (de_lst da_nil) (da_cons (de_lst (da_cons (de_tup (da_cons (de_var 0) (da_cons de_bl da_nil))) da_nil)) da_nil)) nd)) (dssx_cons0 (dsx_while0 NF (dt_cmp so_ne (op_neU (hu64 hr)) (de_var 3) (de_lst da_nil)) (dssx_cons0 (DS.x (ds_asg (de_bm0 sm_pop PySem.F.plainAttrs_list PySem.F.slot_list_pop PySem.F.type_list_pop mt_pop (de_var 3)) (dg_tup (n := 2) (dgs_cons (dg_name 4 nd) (dgs_cons (dg_name 5 nd) dgs_nil))))) (dssx_one (dsx_if0 (dt_tru (de_var 5)) (dssx_cons0 (DS.x (ds_set 6 (de_op so_sub op_sub (de_callB sc_len call_lenU z.«len» (da_cons (de_var 4) da_nil)) de_int) nd)) (dssx_cons0 (DS.x (ds_set 7 (de_op so_add op_addU (de_tup (da_cons (de_sub (de_var 4) de_int (hu1 hr)) da_nil)) (de_callTy sc_tupl call_tuplU z.«tuple» (da_cons (de_slice (de_var 2) (do_some (de_neg (de_var 6))) do_none) da_nil))) nd)) (dssx_cons0 (DS.x (ds_set 2 (de_slice (de_var 2) do_none (do_some (de_neg (de_var 6)))) nd)) (dssx_one (DS.x (ds_expr (de_bm sm_append PySem.F.plainAttrs_list PySem.F.slot_list_append PySem.F.type_list_append mt_append (de_var 2) (da_cons (de_var 7) da_nil)))))))) (dssx_one (dsx_if0 (dt_tru (de_call c_is_compound hr (da_cons (de_var 4) da_nil) (by omega))) (dssx_cons0 (DS.x (ds_expr (de_bm sm_append PySem.F.plainAttrs_list PySem.F.slot_list_append PySem.F.type_list_append mt_append (de_var 3) (da_cons (de_tup (da_cons (de_var 4) (da_cons de_bl da_nil))) da_nil)))) (dssx_one (DS.x (ds_expr (de_bm sm_extend PySem.F.plainAttrs_list PySem.F.slot_list_extend PySem.F.type_list_extend mt_extU (de_var 3) (da_cons (de_lc (own := [("argument", 8)]) NF nd (di_seq (de_back (de_var 4) (do_some de_int) (do_some (de_neg de_int)))) (blkOk_by (N := N_replaced) (sc := (defScope s_replaced)) (by decide +kernel)) (only_name (by decide)) (fun _ _ _ _ _ => (dg_name 8 nd)) (fun _ _ _ _ _ => dts_nil) (fun _ _ _ _ _ => (de_tup (da_cons (de_var 8) (da_cons de_bl da_nil))))) da_nil)))))) (dssx_one (DS.x (ds_expr (de_bm sm_append PySem.F.plainAttrs_list PySem.F.slot_list_append PySem.F.type_list_append mt_append (de_var 2) (da_cons (de_if (dt_tru (de_call c_is_variable hr (da_cons (de_var 4) da_nil) (by omega))) (de_get2 (hu1 hr) (de_var 1) (de_sub (de_var 4) de_int (hu1 hr)) (de_var 4)) (de_var 4)) da_nil))))))))))) (dssx_one (DS.x (ds_ret (de_sub (de_var 2) de_int (hu1 hr)))))))⟩
theorem c_renumbering {L : Nat} {dvs : List V} (g : GotD K mg "renumbering" s_renumbering P_renumbering dvs) (z : Zs mg) (y : Ys K mg) (q : Qs K mg) (c_numbers_in : CalM P w K mg base L "numbers_in" 1 (m_numbers_in NF RD) noGX []) : CalM P w K mg base (L + 1) "renumbering" 2 (m_renumbering NF RD) noGX [] := by
  have nd := sc_renumbering.nd
  refine GotD.cal (ps := P_renumbering) (N := N_renumbering) (ms := (seqM (asgM dnewM (nameG 2)) (seqM (forSM (enuI (consM (callM 1 (m_numbers_in NF RD) [] (consM (varM 0) nilM)) nilM)) (tupG 2 (consG (nameG 3) (consG (nameG 4) nilG))) (B_renumbering_0 NF RD) NF) (retM (varM 2))))) (xs := noX) g sc_renumbering fun f cdv A outer s H E hr => ?_
  exact ⟨_, (dssx_cons0 (DS.x (ds_set 2 de_dnew nd)) (dssx_cons0 (dsx_for0 NF (di_enum (da_cons (de_call c_numbers_in hr (da_cons (de_var 0) da_nil) (by omega)) da_nil) z.«enumerate») (dg_tup (n := 2) (dgs_cons (dg_name 3 nd) (dgs_cons (dg_name 4 nd) dgs_nil))) (dssx_one (DS.x (ds_put (de_var 2) (de_var 4) (de_tup (da_cons (de_op so_add op_addU (de_var 1) (de_var 3)) da_nil)) (hu1 hr))))) (dssx_one (DS.x (ds_ret (de_var 2))))))⟩
theorem cd_renumbering {L : Nat} {dvs : List V} (hd : ∀ H μ, Rps K H μ [.int 0] dvs) (g : GotD K mg "renumbering" s_renumbering P_renumbering dvs) (z : Zs mg) (y : Ys K mg) (q : Qs K mg) (c_numbers_in : CalM P w K mg base L "numbers_in" 1 (m_numbers_in NF RD) noGX []) : CalM P w K mg base (L + 1) "renumbering" 2 (m_renumbering NF RD) noGX [.int 0] := by
  have nd := sc_renumbering.nd
  refine GotD.cald (ps := P_renumbering) (N := N_renumbering) (ms := (seqM (asgM dnewM (nameG 2)) (seqM (forSM (enuI (consM (callM 1 (m_numbers_in NF RD) [] (consM (varM 0) nilM)) nilM)) (tupG 2 (consG (nameG 3) (consG (nameG 4) nilG))) (B_renumbering_0 NF RD) NF) (retM (varM 2))))) (xs := noX) g hd sc_renumbering fun f cdv A outer s H E hr => ?_
  exact ⟨_, (dssx_cons0 (DS.x (ds_set 2 de_dnew nd)) (dssx_cons0 (dsx_for0 NF (di_enum (da_cons (de_call c_numbers_in hr (da_cons (de_var 0) da_nil) (by omega)) da_nil) z.«enumerate») (dg_tup (n := 2) (dgs_cons (dg_name 3 nd) (dgs_cons (dg_name 4 nd) dgs_nil))) (dssx_one (DS.x (ds_put (de_var 2) (de_var 4) (de_tup (da_cons (de_op so_add op_addU (de_var 1) (de_var 3)) da_nil)) (hu1 hr))))) (dssx_one (DS.x (ds_ret (de_var 2))))))⟩
theorem c_word_of {L : Nat} (g : Got K mg "word_of" s_word_of P_word_of) (z : Zs mg) (y : Ys K mg) (q : Qs K mg) (c_is_compound : CalM P w K mg base L "is_compound" 1 (m_is_compound NF RD) noGX []) : CalM P w K mg base (L + 1) "word_of" 1 (m_word_of NF RD) noGX [] := by
  have nd := sc_word_of.nd
  refine Got.cal (ps := P_word_of) (N := N_word_of) (ms := (seqM (ifSM (tnotM (truM (callM 1 (m_is_compound NF RD) [] (consM (varM 0) nilM)))) (retM (cM .non)) passM) (seqM (ifSM (torM (tandM (testM (opM eqD (cbM lenD (consM (varM 0) nilM)) (cM (.int 3)))) (testM (opM (inD false) (opM subsD (varM 0) (cM (.int 0))) (cM k_TWO)))) (tandM (testM (opM eqD (cbM lenD (consM (varM 0) nilM)) (cM (.int 2)))) (testM (opM (inD false) (opM subsD (varM 0) (cM (.int 0))) (cM k_ONE))))) (retM (opM subsD (varM 0) (cM (.int 0)))) passM) (retM (cM .non))))) (xs := noX) g sc_word_of fun f cdv A outer s H E hr => ?_
  exact ⟨_, (dssx_cons0 (dsx_if0 (dt_not (dt_tru (de_call c_is_compound hr (da_cons (de_var 0) da_nil) (by omega)))) (dssx_one (DS.x (ds_ret de_non))) dssx_nil) (dssx_cons0 (dsx_if0 (dt_w (dw_or (dt_w (dw_and (dt_cmp so_eq (op_eqU (hu64 hr)) (de_callB sc_len call_lenU z.«len» (da_cons (de_var 0) da_nil)) de_int) (dw_and1 (dt_cmp (so_in false) op_inU (de_sub (de_var 0) de_int (hu1 hr)) y.g_TWO.de)))) (dw_or1 (dt_w (dw_and (dt_cmp so_eq (op_eqU (hu64 hr)) (de_callB sc_len call_lenU z.«len» (da_cons (de_var 0) da_nil)) de_int) (dw_and1 (dt_cmp (so_in false) op_inU (de_sub (de_var 0) de_int (hu1 hr)) y.g_ONE.de))))))) (dssx_one (DS.x (ds_ret (de_sub (de_var 0) de_int (hu1 hr))))) dssx_nil) (dssx_one (DS.x (ds_ret de_non)))))⟩
theorem c_is_callable {L : Nat} (g : Got K mg "is_callable" s_is_callable P_is_callable) (z : Zs mg) (y : Ys K mg) (q : Qs K mg) (c_is_compound : CalM P w K mg base L "is_compound" 1 (m_is_compound NF RD) noGX []) : CalM P w K mg base (L + 1) "is_callable" 1 (m_is_callable NF RD) noGX [] := by
  have nd := sc_is_callable.nd
  refine Got.cal (ps := P_is_callable) (N := N_is_callable) (ms := (retM (orM (cbM isiD (consM (varM 0) (consM (cM (.ty "str")) nilM))) (callM 1 (m_is_compound NF RD) [] (consM (varM 0) nilM))))) (xs := noX) g sc_is_callable fun f cdv A outer s H E hr => ?_
  exact ⟨_, (dssx_one (DS.x (ds_ret (de_or (de_callB sc_isi call_isiU z.«isinstance» (da_cons (de_var 0) (da_cons (de_ty z.«str») da_nil))) (de_one (de_call c_is_compound hr (da_cons (de_var 0) da_nil) (by omega)))))))⟩
theorem c_has_good_leaves {L : Nat} (g : Got K mg "has_good_leaves" s_has_good_leaves P_has_good_leaves) (z : Zs mg) (y : Ys K mg) (q : Qs K mg) (c_word_of : CalM P w K mg base L "word_of" 1 (m_word_of NF RD) noGX []) (c_is_int : CalM P w K mg base L "is_int" 1 (m_is_int NF RD) noGX []) : CalM P w K mg base (L + 1) "has_good_leaves" 1 (m_has_good_leaves NF RD) noGX [] := by
  have nd := sc_has_good_leaves.nd
  refine Got.cal (ps := P_has_good_leaves) (N := N_has_good_leaves) (ms := (seqM (asgM (lstM (consM (varM 0) nilM)) (nameG 1)) (seqM (whileM (C_has_good_leaves_0 NF RD) (B_has_good_leaves_1 NF RD) NF) (retM (cM (.bl true)))))) (xs := noX) g sc_has_good_leaves fun f cdv A outer s H E hr => ?_
  exact ⟨_, (dssx_cons0 (DS.x (ds_set 1 (de_lst (da_cons (de_var 0) da_nil)) nd)) (dssx_cons0 (dsx_while0 NF (dt_cmp so_ne (op_neU (hu64 hr)) (de_var 1) (de_lst da_nil)) (dssx_cons0 (DS.x (ds_set 2 (de_bm0 sm_pop PySem.F.plainAttrs_list PySem.F.slot_list_pop PySem.F.type_list_pop mt_pop (de_var 1)) nd)) (dssx_one (dsx_if0 (dt_cmp so_isnt op_isnt0 (de_call c_word_of hr (da_cons (de_var 2) da_nil) (by omega)) de_non) (dssx_one (DS.x (ds_expr (de_bm sm_extend PySem.F.plainAttrs_list PySem.F.slot_list_extend PySem.F.type_list_extend mt_extU (de_var 1) (da_cons (de_slice (de_var 2) (do_some de_int) do_none) da_nil))))) (dssx_one (dsx_if0 (dt_tru (de_call c_is_int hr (da_cons (de_var 2) da_nil) (by omega))) (dssx_one (DS.x (ds_ret de_bl))) dssx_nil)))))) (dssx_one (DS.x (ds_ret de_bl)))))⟩
theorem c_is_body {L : Nat} (g : Got K mg "is_body" s_is_body P_is_body) (z : Zs mg) (y : Ys K mg) (q : Qs K mg) (c_is_term : CalM P w K mg base L "is_term" 1 (m_is_term NF RD) noGX []) (c_has_good_leaves : CalM P w K mg base L "has_good_leaves" 1 (m_has_good_leaves NF RD) noGX []) : CalM P w K mg base (L + 1) "is_body" 1 (m_is_body NF RD) noGX [] := by
  have nd := sc_is_body.nd
  refine Got.cal (ps := P_is_body) (N := N_is_body) (ms := (retM (andM (callM 1 (m_is_term NF RD) [] (consM (varM 0) nilM)) (callM 1 (m_has_good_leaves NF RD) [] (consM (varM 0) nilM))))) (xs := noX) g sc_is_body fun f cdv A outer s H E hr => ?_
  exact ⟨_, (dssx_one (DS.x (ds_ret (de_and (de_call c_is_term hr (da_cons (de_var 0) da_nil) (by omega)) (de_one (de_call c_has_good_leaves hr (da_cons (de_var 0) da_nil) (by omega)))))))⟩
theorem c_with_calls {L : Nat} (g : Got K mg "with_calls" s_with_calls P_with_calls) (z : Zs mg) (y : Ys K mg) (q : Qs K mg) (c_word_of : CalM P w K mg base L "word_of" 1 (m_word_of NF RD) noGX []) (c_is_variable : CalM P w K mg base L "is_variable" 1 (m_is_variable NF RD) noGX []) : CalM P w K mg base (L + 1) "with_calls" 1 (m_with_calls NF RD) noGX [] := by
  have nd := sc_with_calls.nd
  refine Got.cal (ps := P_with_calls) (N := N_with_calls) (ms := (seqM (parM 1 2 (consM (lstM nilM) (consM (lstM (consM (tupM (consM (varM 0) (consM (cM (.bl false)) nilM))) nilM)) nilM))) (seqM (whileM (C_with_calls_1 NF RD) (B_with_calls_2 NF RD) NF) (retM (opM subsD (varM 1) (cM (.int 0))))))) (xs := noX) g sc_with_calls fun f cdv A outer s H E hr => ?_
  exact ⟨_, (dssx_cons0 (DS.x (ds_par 1 2 (da_cons (de_lst da_nil) (da_cons (de_lst (da_cons (de_tup (da_cons (de_var 0) (da_cons de_bl da_nil))) da_nil)) da_nil)) nd)) (dssx_cons0 (dsx_while0 NF (dt_cmp so_ne (op_neU (hu64 hr)) (de_var 2) (de_lst da_nil)) (dssx_cons0 (DS.x (ds_asg (de_bm0 sm_pop PySem.F.plainAttrs_list PySem.F.slot_list_pop PySem.F.type_list_pop mt_pop (de_var 2)) (dg_tup (n := 2) (dgs_cons (dg_name 3 nd) (dgs_cons (dg_name 4 nd) dgs_nil))))) (dssx_one (dsx_if0 (dt_tru (de_var 4)) (dssx_cons0 (DS.x (ds_set 5 (de_op so_sub op_sub (de_callB sc_len call_lenU z.«len» (da_cons (de_var 3) da_nil)) de_int) nd)) (dssx_cons0 (DS.x (ds_set 6 (de_op so_add op_addU (de_tup (da_cons (de_sub (de_var 3) de_int (hu1 hr)) da_nil)) (de_callTy sc_tupl call_tuplU z.«tuple» (da_cons (de_slice (de_var 1) (do_some (de_neg (de_var 5))) do_none) da_nil))) nd)) (dssx_cons0 (DS.x (ds_set 1 (de_slice (de_var 1) do_none (do_some (de_neg (de_var 5)))) nd)) (dssx_one (DS.x (ds_expr (de_bm sm_append PySem.F.plainAttrs_list PySem.F.slot_list_append PySem.F.type_list_append mt_append (de_var 1) (da_cons (de_var 6) da_nil)))))))) (dssx_one (dsx_if0 (dt_cmp so_isnt op_isnt0 (de_call c_word_of hr (da_cons (de_var 3) da_nil) (by omega)) de_non) (dssx_cons0 (DS.x (ds_expr (de_bm sm_append PySem.F.plainAttrs_list PySem.F.slot_list_append PySem.F.type_list_append mt_append (de_var 2) (da_cons (de_tup (da_cons (de_var 3) (da_cons de_bl da_nil))) da_nil)))) (dssx_one (DS.x (ds_expr (de_bm sm_extend PySem.F.plainAttrs_list PySem.F.slot_list_extend PySem.F.type_list_extend mt_extU (de_var 2) (da_cons (de_lc (own := [("part", 7)]) NF nd (di_rev (de_slice (de_var 3) (do_some de_int) do_none) z.«reversed») (blkOk_by (N := N_with_calls) (sc := (defScope s_with_calls)) (by decide +kernel)) (only_name (by decide)) (fun _ _ _ _ _ => (dg_name 7 nd)) (fun _ _ _ _ _ => dts_nil) (fun _ _ _ _ _ => (de_tup (da_cons (de_var 7) (da_cons de_bl da_nil))))) da_nil)))))) (dssx_one (DS.x (ds_expr (de_bm sm_append PySem.F.plainAttrs_list PySem.F.slot_list_append PySem.F.type_list_append mt_append (de_var 1) (da_cons (de_if (dt_tru (de_call c_is_variable hr (da_cons (de_var 3) da_nil) (by omega))) (de_tup (da_cons de_str (da_cons (de_var 3) da_nil))) (de_var 3)) da_nil))))))))))) (dssx_one (DS.x (ds_ret (de_sub (de_var 1) de_int (hu1 hr)))))))⟩
theorem c_halves {L : Nat} (g : Got K mg "halves" s_halves P_halves) (z : Zs mg) (y : Ys K mg) (q : Qs K mg) (c_is_compound : CalM P w K mg base L "is_compound" 1 (m_is_compound NF RD) noGX []) : CalM P w K mg base (L + 1) "halves" 1 (m_halves NF RD) noGX [] := by
  have nd := sc_halves.nd
  refine Got.cal (ps := P_halves) (N := N_halves) (ms := (seqM (ifSM (tandM (truM (callM 1 (m_is_compound NF RD) [] (consM (varM 0) nilM))) (tandM (testM (opM eqD (opM subsD (varM 0) (cM (.int 0))) (cM (.str ":-")))) (testM (opM eqD (cbM lenD (consM (varM 0) nilM)) (cM (.int 3)))))) (retM (slM (varM 0) (partM (cM (.int 1))) noM)) passM) (retM (tupM (consM (varM 0) (consM (cM (.str "true")) nilM)))))) (xs := noX) g sc_halves fun f cdv A outer s H E hr => ?_
  exact ⟨_, (dssx_cons0 (dsx_if0 (dt_w (dw_and (dt_tru (de_call c_is_compound hr (da_cons (de_var 0) da_nil) (by omega))) (dw_and (dt_cmp so_eq (op_eqU (hu64 hr)) (de_sub (de_var 0) de_int (hu1 hr)) de_str) (dw_and1 (dt_cmp so_eq (op_eqU (hu64 hr)) (de_callB sc_len call_lenU z.«len» (da_cons (de_var 0) da_nil)) de_int))))) (dssx_one (DS.x (ds_ret (de_slice (de_var 0) (do_some de_int) do_none)))) dssx_nil) (dssx_one (DS.x (ds_ret (de_tup (da_cons (de_var 0) (da_cons de_str da_nil)))))))⟩
theorem c_fault_of {L : Nat} (g : Got K mg "fault_of" s_fault_of P_fault_of) (z : Zs mg) (y : Ys K mg) (q : Qs K mg) (c_halves : CalM P w K mg base L "halves" 1 (m_halves NF RD) noGX []) (c_is_term : CalM P w K mg base L "is_term" 1 (m_is_term NF RD) noGX []) (c_is_callable : CalM P w K mg base L "is_callable" 1 (m_is_callable NF RD) noGX []) (c_has_good_leaves : CalM P w K mg base L "has_good_leaves" 1 (m_has_good_leaves NF RD) noGX []) : CalM P w K mg base (L + 1) "fault_of" 1 (m_fault_of NF RD) noGX [] := by
  have nd := sc_fault_of.nd
  refine Got.cal (ps := P_fault_of) (N := N_fault_of) (ms := (seqM (ifSM (tnotM (truM (callM 1 (m_is_term NF RD) [] (consM (varM 0) nilM)))) (retM (cM (.str "head"))) passM) (seqM (asgM (callM 1 (m_halves NF RD) [] (consM (varM 0) nilM)) (uplG 2 (consG (nameG 1) (consG (nameG 2) nilG)))) (seqM (ifSM (tnotM (truM (callM 1 (m_is_callable NF RD) [] (consM (varM 1) nilM)))) (retM (cM (.str "head"))) passM) (retM (ifM (truM (callM 1 (m_has_good_leaves NF RD) [] (consM (varM 2) nilM))) (cM .non) (cM (.str "body")))))))) (xs := noX) g sc_fault_of fun f cdv A outer s H E hr => ?_
  exact ⟨_, (dssx_cons0 (dsx_if0 (dt_not (dt_tru (de_call c_is_term hr (da_cons (de_var 0) da_nil) (by omega)))) (dssx_one (DS.x (ds_ret de_str))) dssx_nil) (dssx_cons0 (DS.x (ds_asg (de_call c_halves hr (da_cons (de_var 0) da_nil) (by omega)) (dg_upl (n := 2) (dgs_cons (dg_name 1 nd) (dgs_cons (dg_name 2 nd) dgs_nil))))) (dssx_cons0 (dsx_if0 (dt_not (dt_tru (de_call c_is_callable hr (da_cons (de_var 1) da_nil) (by omega)))) (dssx_one (DS.x (ds_ret de_str))) dssx_nil) (dssx_one (DS.x (ds_ret (de_if (dt_tru (de_call c_has_good_leaves hr (da_cons (de_var 2) da_nil) (by omega))) de_non de_str)))))))⟩
theorem c_is_clause {L : Nat} (g : Got K mg "is_clause" s_is_clause P_is_clause) (z : Zs mg) (y : Ys K mg) (q : Qs K mg) (c_fault_of : CalM P w K mg base L "fault_of" 1 (m_fault_of NF RD) noGX []) : CalM P w K mg base (L + 1) "is_clause" 1 (m_is_clause NF RD) noGX [] := by
  have nd := sc_is_clause.nd
  refine Got.cal (ps := P_is_clause) (N := N_is_clause) (ms := (retM (opM isD (callM 1 (m_fault_of NF RD) [] (consM (varM 0) nilM)) (cM .non)))) (xs := noX) g sc_is_clause fun f cdv A outer s H E hr => ?_
  exact ⟨_, (dssx_one (DS.x (ds_ret (de_cmp so_is op_is0 (de_call c_fault_of hr (da_cons (de_var 0) da_nil) (by omega)) de_non))))⟩
theorem c_kept_form {L : Nat} (g : Got K mg "kept_form" s_kept_form P_kept_form) (z : Zs mg) (y : Ys K mg) (q : Qs K mg) (c_halves : CalM P w K mg base L "halves" 1 (m_halves NF RD) noGX []) (c_with_calls : CalM P w K mg base L "with_calls" 1 (m_with_calls NF RD) noGX []) (cd_renumbering : CalM P w K mg base L "renumbering" 2 (m_renumbering NF RD) noGX [.int 0]) (c_replaced : CalM P w K mg base L "replaced" 2 (m_replaced NF RD) noGX []) : CalM P w K mg base (L + 1) "kept_form" 1 (m_kept_form NF RD) noGX [] := by
  have nd := sc_kept_form.nd
  refine Got.cal (ps := P_kept_form) (N := N_kept_form) (ms := (seqM (asgM (callM 1 (m_halves NF RD) [] (consM (varM 0) nilM)) (uplG 2 (consG (nameG 1) (consG (nameG 2) nilG)))) (seqM (asgM (callM 1 (m_with_calls NF RD) [] (consM (varM 2) nilM)) (nameG 2)) (seqM (asgM (callM 2 (m_renumbering NF RD) [.int 0] (consM (lstM (consM (varM 1) (consM (varM 2) nilM))) nilM)) (nameG 3)) (retM (tupM (consM (cM (.str ":-")) (consM (callM 2 (m_replaced NF RD) [] (consM (varM 1) (consM (varM 3) nilM))) (consM (callM 2 (m_replaced NF RD) [] (consM (varM 2) (consM (varM 3) nilM))) nilM))))))))) (xs := noX) g sc_kept_form fun f cdv A outer s H E hr => ?_
  exact ⟨_, (dssx_cons0 (DS.x (ds_asg (de_call c_halves hr (da_cons (de_var 0) da_nil) (by omega)) (dg_upl (n := 2) (dgs_cons (dg_name 1 nd) (dgs_cons (dg_name 2 nd) dgs_nil))))) (dssx_cons0 (DS.x (ds_set 2 (de_call c_with_calls hr (da_cons (de_var 2) da_nil) (by omega)) nd)) (dssx_cons0 (DS.x (ds_set 3 (de_call cd_renumbering hr (da_cons (de_lst (da_cons (de_var 1) (da_cons (de_var 2) da_nil))) da_nil) (by omega)) nd)) (dssx_one (DS.x (ds_ret (de_tup (da_cons de_str (da_cons (de_call c_replaced hr (da_cons (de_var 1) (da_cons (de_var 3) da_nil)) (by omega)) (da_cons (de_call c_replaced hr (da_cons (de_var 2) (da_cons (de_var 3) da_nil)) (by omega)) da_nil))))))))))⟩
theorem c_stored {L : Nat} (g : Got K mg "stored" s_stored P_stored) (z : Zs mg) (y : Ys K mg) (q : Qs K mg) (c_fault_of : CalM P w K mg base (L + 2) "fault_of" 1 (m_fault_of NF RD) noGX []) (c_kept_form : CalM P w K mg base (L + 2) "kept_form" 1 (m_kept_form NF RD) noGX []) : CalM P w K mg base ((L + 2) + 1) "stored" 1 (m_stored NF RD) (x_stored NF RD) [] := by
  have nd := sc_stored.nd
  refine Got.cal (ps := P_stored) (N := N_stored) (ms := (seqM (asgM (callM 1 (m_fault_of NF RD) [] (consM (varM 0) nilM)) (nameG 1)) (seqM (ifSM (testM (opM isntD (varM 1) (cM .non))) neverM passM) (retM (callM 1 (m_kept_form NF RD) [] (consM (varM 0) nilM)))))) (xs := (seqX noX (asgM (callM 1 (m_fault_of NF RD) [] (consM (varM 0) nilM)) (nameG 1)) (seqX (ifX (testM (opM isntD (varM 1) (cM .non))) (raiseX "NoClause" ["why"] (consM (varM 1) nilM)) noX) (ifSM (testM (opM isntD (varM 1) (cM .non))) neverM passM) noX))) g sc_stored fun f cdv A outer s H E hr => ?_
  exact ⟨_, (dssx_cons (DS.x (ds_set 1 (de_call c_fault_of hr (da_cons (de_var 0) da_nil) (by omega)) nd)) (dssx_cons (dsx_if (dt_cmp so_isnt op_isnt0 (de_var 1) de_non) (dssx_one (dsx_raise q.t_NoClause hr (da_cons (de_var 1) da_nil))) dssx_nil) (dssx_one (DS.x (ds_ret (de_call c_kept_form hr (da_cons (de_var 0) da_nil) (by omega)))))))⟩
theorem c__law_cell_at {L : Nat} (g : Got K mg "_law_cell_at" s__law_cell_at P__law_cell_at) (z : Zs mg) (y : Ys K mg) (q : Qs K mg) : CalM P w K mg base (L + 1) "_law_cell_at" 2 (m__law_cell_at NF RD) noGX [] := by
  have nd := sc__law_cell_at.nd
  refine Got.cal (ps := P__law_cell_at) (N := N__law_cell_at) (ms := (seqM (ifSM (testM (opM ltD (varM 1) (cbM lenD (consM (varM 0) nilM)))) (retM (opM subsD (varM 0) (varM 1))) passM) (retM (cM (.int 0))))) (xs := noX) g sc__law_cell_at fun f cdv A outer s H E hr => ?_
  exact ⟨_, (dssx_cons0 (dsx_if0 (dt_cmp so_lt op_ltU (de_var 1) (de_callB sc_len call_lenU z.«len» (da_cons (de_var 0) da_nil))) (dssx_one (DS.x (ds_ret (de_sub (de_var 0) (de_var 1) (hu1 hr))))) dssx_nil) (dssx_one (DS.x (ds_ret de_int))))⟩
theorem c__law_well {L : Nat} (g : Got K mg "_law_well" s__law_well P__law_well) (z : Zs mg) (y : Ys K mg) (q : Qs K mg) : CalM P w K mg base (L + 1) "_law_well" 1 (m__law_well NF RD) noGX [] := by
  have nd := sc__law_well.nd
  refine Got.cal (ps := P__law_well) (N := N__law_well) (ms := (retM (lstM (consM (opM subsD (lstM (consM (cM (.int 0)) (consM (varM 0) nilM))) (cbM intD (consM (opM geD (varM 0) (opM powD (cM (.int 10)) (cM (.int 18)))) nilM))) (consM (varM 0) (consM (cM (.int 0)) nilM)))))) (xs := noX) g sc__law_well fun f cdv A outer s H E hr => ?_
  exact ⟨_, (dssx_one (DS.x (ds_ret (de_lst (da_cons (de_sub (de_lst (da_cons de_int (da_cons (de_var 0) da_nil))) (de_callTy sc_int call_int1 z.«int» (da_cons (de_cmp so_ge op_geU (de_var 0) (de_op so_pow op_powW de_int de_int)) da_nil)) (hu1 hr)) (da_cons (de_var 0) (da_cons de_int da_nil)))))))⟩
theorem c__law_draw {L : Nat} (g : Got K mg "_law_draw" s__law_draw P__law_draw) (z : Zs mg) (y : Ys K mg) (q : Qs K mg) : CalM P w K mg base (L + 1) "_law_draw" 2 (m__law_draw NF RD) noGX [] := by
  have nd := sc__law_draw.nd
  refine Got.cal (ps := P__law_draw) (N := N__law_draw) (ms := (seqM (ifSM (testM (opM gtD (opM subsD (varM 0) (cM (.int 0))) (cM (.int 0)))) (seqM (asgM (opM modZD (cbM intD (consM (opM subsD (varM 0) (cM (.int 0))) nilM)) (varM 1)) (nameG 2)) (seqM (setD (varM 0) (cM (.int 0)) (opM fdivZD (opM subsD (varM 0) (cM (.int 0))) (varM 1))) (retM (varM 2)))) passM) (seqM (setD (varM 0) (cM (.int 2)) (opM addD (opM subsD (varM 0) (cM (.int 2))) (cM (.int 1)))) (seqM (asgM (opM modD (cbM intD (consM (opM fdivD (opM subsD (varM 0) (cM (.int 1))) (cM (.int 2147483629))) nilM)) (cM (.int 65521))) (nameG 3)) (seqM (asgM (opM addD (opM addD (opM addD (opM modD (cbM intD (consM (opM subsD (varM 0) (cM (.int 1))) nilM)) (cM (.int 2147483629))) (opM mulD (cM (.int 7919)) (opM subsD (varM 0) (cM (.int 2))))) (varM 3)) (cM (.int 1))) (nameG 4)) (seqM (asgM (opM modD (cbM intD (consM (opM powD (varM 4) (cM (.int 5))) nilM)) (cM (.int 2147483647))) (nameG 5)) (seqM (asgM (opM modD (cbM intD (consM (opM mulD (varM 5) (opM addD (opM addD (opM fdivD (varM 5) (cM (.int 1009))) (cM (.int 69621))) (opM subsD (varM 0) (cM (.int 2))))) nilM)) (cM (.int 2147483629))) (nameG 5)) (retM (opM modZD (cbM intD (consM (opM modD (cbM intD (consM (opM mulD (varM 5) (opM addD (opM fdivD (varM 5) (cM (.int 2003))) (cM (.int 40692)))) nilM)) (cM (.int 2147483399))) nilM)) (varM 1)))))))))) (xs := noX) g sc__law_draw fun f cdv A outer s H E hr => ?_
  exact ⟨_, (dssx_cons0 (dsx_if0 (dt_cmp so_gt op_gtU (de_sub (de_var 0) de_int (hu1 hr)) de_int) (dssx_cons0 (DS.x (ds_set 2 (de_op so_modZ op_modN (de_callTy sc_int call_int1 z.«int» (da_cons (de_sub (de_var 0) de_int (hu1 hr)) da_nil)) (de_var 1)) nd)) (dssx_cons0 (DS.x (ds_put (de_var 0) de_int (de_op so_fdivZ op_fdivZ (de_sub (de_var 0) de_int (hu1 hr)) (de_var 1)) (hu1 hr))) (dssx_one (DS.x (ds_ret (de_var 2)))))) dssx_nil) (dssx_cons0 (DS.x (ds_put (de_var 0) de_int (de_op so_add op_addU (de_sub (de_var 0) de_int (hu1 hr)) de_int) (hu1 hr))) (dssx_cons0 (DS.x (ds_set 3 (de_op so_mod op_mod (de_callTy sc_int call_int1 z.«int» (da_cons (de_op so_fdiv op_fdivW (de_sub (de_var 0) de_int (hu1 hr)) de_int) da_nil)) de_int) nd)) (dssx_cons0 (DS.x (ds_set 4 (de_op so_add op_addU (de_op so_add op_addU (de_op so_add op_addU (de_op so_mod op_mod (de_callTy sc_int call_int1 z.«int» (da_cons (de_sub (de_var 0) de_int (hu1 hr)) da_nil)) de_int) (de_op so_mul op_mulU de_int (de_sub (de_var 0) de_int (hu1 hr)))) (de_var 3)) de_int) nd)) (dssx_cons0 (DS.x (ds_set 5 (de_op so_mod op_mod (de_callTy sc_int call_int1 z.«int» (da_cons (de_op so_pow op_powW (de_var 4) de_int) da_nil)) de_int) nd)) (dssx_cons0 (DS.x (ds_set 5 (de_op so_mod op_mod (de_callTy sc_int call_int1 z.«int» (da_cons (de_op so_mul op_mulU (de_var 5) (de_op so_add op_addU (de_op so_add op_addU (de_op so_fdiv op_fdivW (de_var 5) de_int) de_int) (de_sub (de_var 0) de_int (hu1 hr)))) da_nil)) de_int) nd)) (dssx_one (DS.x (ds_ret (de_op so_modZ op_modN (de_callTy sc_int call_int1 z.«int» (da_cons (de_op so_mod op_mod (de_callTy sc_int call_int1 z.«int» (da_cons (de_op so_mul op_mulU (de_var 5) (de_op so_add op_addU (de_op so_fdiv op_fdivW (de_var 5) de_int) de_int)) da_nil)) de_int) da_nil)) (de_var 1)))))))))))⟩
theorem c__law_one {L : Nat} (g : Got K mg "_law_one" s__law_one P__law_one) (z : Zs mg) (y : Ys K mg) (q : Qs K mg) (c__law_draw : CalM P w K mg base L "_law_draw" 2 (m__law_draw NF RD) noGX []) : CalM P w K mg base (L + 1) "_law_one" 2 (m__law_one NF RD) noGX [] := by
  have nd := sc__law_one.nd
  refine Got.cal (ps := P__law_one) (N := N__law_one) (ms := (retM (opM subsD (varM 1) (callM 2 (m__law_draw NF RD) [] (consM (varM 0) (consM (cbM lenD (consM (varM 1) nilM)) nilM)))))) (xs := noX) g sc__law_one fun f cdv A outer s H E hr => ?_
  exact ⟨_, (dssx_one (DS.x (ds_ret (de_sub (de_var 1) (de_call c__law_draw hr (da_cons (de_var 0) (da_cons (de_callB sc_len call_lenU z.«len» (da_cons (de_var 1) da_nil)) da_nil)) (by omega)) (hu1 hr)))))⟩
theorem c__law_numbers {L : Nat} (g : Got K mg "_law_numbers" s__law_numbers P__law_numbers) (z : Zs mg) (y : Ys K mg) (q : Qs K mg) : ∀ k : Nat, CalM P w K mg base (L + k) "_law_numbers" 2 (m__law_numbers NF RD k) noGX []
  | 0 => g.none
  | k + 1 => by
    have ih := c__law_numbers (L := L) g z y q k
    have nd := sc__law_numbers.nd
    refine Got.cal (k := L + k) (ps := P__law_numbers) (N := N__law_numbers) (ms := (seqM (forSM (seqI (varM 0)) (nameG 2) (B__law_numbers_0 NF RD (m__law_numbers NF RD k)) NF) (retM (varM 1)))) (xs := noX) g sc__law_numbers fun f cdv A outer s H E hr => ?_
    exact ⟨_, (dssx_cons0 (dsx_for0 NF (di_seq (de_var 0)) (dg_name 2 nd) (dssx_one (dsx_if0 (dt_w (dw_and (dt_tru (de_callB sc_isi call_isiU z.«isinstance» (da_cons (de_var 2) (da_cons (de_ty z.«tuple») da_nil)))) (dw_and1 (dt_cmp so_eq (op_eqU (hu64 hr)) (de_callB sc_len call_lenU z.«len» (da_cons (de_var 2) da_nil)) de_int)))) (dssx_one (dsx_if0 (dt_cmp (so_in true) op_niU (de_sub (de_var 2) de_int (hu1 hr)) (de_var 1)) (dssx_one (DS.x (ds_expr (de_bm sm_append PySem.F.plainAttrs_list PySem.F.slot_list_append PySem.F.type_list_append mt_append (de_var 1) (da_cons (de_sub (de_var 2) de_int (hu1 hr)) da_nil))))) dssx_nil)) (dssx_one (dsx_if0 (dt_tru (de_callB sc_isi call_isiU z.«isinstance» (da_cons (de_var 2) (da_cons (de_ty z.«tuple») da_nil)))) (dssx_one (DS.x (ds_expr (de_call ih hr (da_cons (de_slice (de_var 2) (do_some de_int) do_none) (da_cons (de_var 1) da_nil)) (Nat.le_refl _))))) dssx_nil))))) (dssx_one (DS.x (ds_ret (de_var 1)))))⟩
theorem c__law_put {L : Nat} (g : Got K mg "_law_put" s__law_put P__law_put) (z : Zs mg) (y : Ys K mg) (q : Qs K mg) : ∀ k : Nat, CalM P w K mg base (L + k) "_law_put" 2 (m__law_put NF RD k) noGX []
  | 0 => g.none
  | k + 1 => by
    have ih := c__law_put (L := L) g z y q k
    have nd := sc__law_put.nd
    refine Got.cal (k := L + k) (ps := P__law_put) (N := N__law_put) (ms := (seqM (ifSM (tnotM (truM (cbM isiD (consM (varM 0) (consM (cM (.ty "tuple")) nilM))))) (retM (varM 0)) passM) (seqM (ifSM (testM (opM eqD (cbM lenD (consM (varM 0) nilM)) (cM (.int 1)))) (retM (getD2 (varM 1) (opM subsD (varM 0) (cM (.int 0))) (varM 0))) passM) (retM (opM addD (tupM (consM (opM subsD (varM 0) (cM (.int 0))) nilM)) (cbM tuplD (consM (lcM (seqI (slM (varM 0) (partM (cM (.int 1))) noM)) (nameG 2) yesM (E__law_put_0 NF RD (m__law_put NF RD k)) [2] NF) nilM))))))) (xs := noX) g sc__law_put fun f cdv A outer s H E hr => ?_
    exact ⟨_, (dssx_cons0 (dsx_if0 (dt_not (dt_tru (de_callB sc_isi call_isiU z.«isinstance» (da_cons (de_var 0) (da_cons (de_ty z.«tuple») da_nil))))) (dssx_one (DS.x (ds_ret (de_var 0)))) dssx_nil) (dssx_cons0 (dsx_if0 (dt_cmp so_eq (op_eqU (hu64 hr)) (de_callB sc_len call_lenU z.«len» (da_cons (de_var 0) da_nil)) de_int) (dssx_one (DS.x (ds_ret (de_get2 (hu1 hr) (de_var 1) (de_sub (de_var 0) de_int (hu1 hr)) (de_var 0))))) dssx_nil) (dssx_one (DS.x (ds_ret (de_op so_add op_addU (de_tup (da_cons (de_sub (de_var 0) de_int (hu1 hr)) da_nil)) (de_callTy sc_tupl call_tuplU z.«tuple» (da_cons (de_lc (own := [("one", 2)]) NF nd (di_seq (de_slice (de_var 0) (do_some de_int) do_none)) (blkOk_by (N := N__law_put) (sc := (defScope s__law_put)) (by decide +kernel)) (only_name (by decide)) (fun _ _ _ _ _ => (dg_name 2 nd)) (fun _ _ _ _ _ => dts_nil) (fun _ _ _ _ _ => (de_call ih hr (da_cons (de_var 2) (da_cons (de_var 1) da_nil)) (Nat.le_refl _)))) da_nil))))))))⟩
theorem c__law_anew {L : Nat} (g : Got K mg "_law_anew" s__law_anew P__law_anew) (z : Zs mg) (y : Ys K mg) (q : Qs K mg) (c__law_numbers : CalM P w K mg base L "_law_numbers" 2 (m__law_numbers NF RD RD) noGX []) (c__law_put : CalM P w K mg base L "_law_put" 2 (m__law_put NF RD RD) noGX []) : CalM P w K mg base (L + 1) "_law_anew" 1 (m__law_anew NF RD) noGX [] := by
  have nd := sc__law_anew.nd
  refine Got.cal (ps := P__law_anew) (N := N__law_anew) (ms := (seqM (asgM dnewM (nameG 1)) (seqM (forSM (enuI (consM (callM 2 (m__law_numbers NF RD RD) [] (consM (varM 0) (consM (lstM nilM) nilM))) nilM)) (tupG 2 (consG (nameG 2) (consG (nameG 3) nilG))) (B__law_anew_1 NF RD) NF) (retM (lcM (seqI (varM 0)) (nameG 4) yesM (E__law_anew_0 NF RD) [4] NF))))) (xs := noX) g sc__law_anew fun f cdv A outer s H E hr => ?_
  exact ⟨_, (dssx_cons0 (DS.x (ds_set 1 de_dnew nd)) (dssx_cons0 (dsx_for0 NF (di_enum (da_cons (de_call c__law_numbers hr (da_cons (de_var 0) (da_cons (de_lst da_nil) da_nil)) (by omega)) da_nil) z.«enumerate») (dg_tup (n := 2) (dgs_cons (dg_name 2 nd) (dgs_cons (dg_name 3 nd) dgs_nil))) (dssx_one (DS.x (ds_put (de_var 1) (de_var 3) (de_tup (da_cons (de_var 2) da_nil)) (hu1 hr))))) (dssx_one (DS.x (ds_ret (de_lc (own := [("term", 4)]) NF nd (di_seq (de_var 0)) (blkOk_by (N := N__law_anew) (sc := (defScope s__law_anew)) (by decide +kernel)) (only_name (by decide)) (fun _ _ _ _ _ => (dg_name 4 nd)) (fun _ _ _ _ _ => dts_nil) (fun _ _ _ _ _ => (de_call c__law_put hr (da_cons (de_var 4) (da_cons (de_var 1) da_nil)) (by omega)))))))))⟩
theorem c__law_is_construct {L : Nat} (g : Got K mg "_law_is_construct" s__law_is_construct P__law_is_construct) (z : Zs mg) (y : Ys K mg) (q : Qs K mg) : CalM P w K mg base (L + 1) "_law_is_construct" 1 (m__law_is_construct NF RD) noGX [] := by
  have nd := sc__law_is_construct.nd
  refine Got.cal (ps := P__law_is_construct) (N := N__law_is_construct) (ms := (seqM (asgM (dispM (pconsM (cM (.str ",")) (cM (.int 3)) (pconsM (cM (.str ";")) (cM (.int 3)) (pconsM (cM (.str "->")) (cM (.int 3)) (pconsM (cM (.str "*->")) (cM (.int 3)) (pconsM (cM (.str "forall")) (cM (.int 3)) (pconsM (cM (.str "\\+")) (cM (.int 2)) (pconsM (cM (.str "once")) (cM (.int 2)) (pconsM (cM (.str "ignore")) (cM (.int 2)) pnilM))))))))) (nameG 1)) (retM (andM (cbM isiD (consM (varM 0) (consM (cM (.ty "tuple")) nilM))) (andM (opM gtD (cbM lenD (consM (varM 0) nilM)) (cM (.int 1))) (opM eqD (getD2 (varM 1) (opM subsD (varM 0) (cM (.int 0))) (cM (.int 0))) (cbM lenD (consM (varM 0) nilM)))))))) (xs := noX) g sc__law_is_construct fun f cdv A outer s H E hr => ?_
  exact ⟨_, (dssx_cons0 (DS.x (ds_set 1 (de_disp (dp_cons de_str de_int (dp_cons de_str de_int (dp_cons de_str de_int (dp_cons de_str de_int (dp_cons de_str de_int (dp_cons de_str de_int (dp_cons de_str de_int (dp_cons de_str de_int dp_nil))))))))) nd)) (dssx_one (DS.x (ds_ret (de_and (de_callB sc_isi call_isiU z.«isinstance» (da_cons (de_var 0) (da_cons (de_ty z.«tuple») da_nil))) (de_and (de_cmp so_gt op_gtU (de_callB sc_len call_lenU z.«len» (da_cons (de_var 0) da_nil)) de_int) (de_one (de_cmp so_eq (op_eqU (hu64 hr)) (de_get2 (hu1 hr) (de_var 1) (de_sub (de_var 0) de_int (hu1 hr)) de_int) (de_callB sc_len call_lenU z.«len» (da_cons (de_var 0) da_nil))))))))))⟩
theorem c__law_is_body {L : Nat} (g : Got K mg "_law_is_body" s__law_is_body P__law_is_body) (z : Zs mg) (y : Ys K mg) (q : Qs K mg) (c__law_is_construct : CalM P w K mg base L "_law_is_construct" 1 (m__law_is_construct NF RD) noGX []) : ∀ k : Nat, CalM P w K mg base (L + k) "_law_is_body" 1 (m__law_is_body NF RD k) noGX []
  | 0 => g.none
  | k + 1 => by
    have ih := c__law_is_body (L := L) g z y q c__law_is_construct k
    have nd := sc__law_is_body.nd
    refine Got.cal (k := L + k) (ps := P__law_is_body) (N := N__law_is_body) (ms := (seqM (ifSM (truM (callM 1 (m__law_is_construct NF RD) [] (consM (varM 0) nilM))) (retM (cbM allD (consM (lcM (seqI (slM (varM 0) (partM (cM (.int 1))) noM)) (nameG 1) yesM (E__law_is_body_0 NF RD (m__law_is_body NF RD k)) [1] NF) nilM))) passM) (retM (notM (cbM isiD (consM (varM 0) (consM (cM (.ty "int")) nilM))))))) (xs := noX) g sc__law_is_body fun f cdv A outer s H E hr => ?_
    exact ⟨_, (dssx_cons0 (dsx_if0 (dt_tru (de_call c__law_is_construct hr (da_cons (de_var 0) da_nil) (by omega))) (dssx_one (DS.x (ds_ret (de_callB sc_all call_allU z.«all» (da_cons (de_lc (own := [("one", 1)]) NF nd (di_seq (de_slice (de_var 0) (do_some de_int) do_none)) (blkOk_by (N := N__law_is_body) (sc := (defScope s__law_is_body)) (by decide +kernel)) (only_name (by decide)) (fun _ _ _ _ _ => (dg_name 1 nd)) (fun _ _ _ _ _ => dts_nil) (fun _ _ _ _ _ => (de_call ih hr (da_cons (de_var 1) da_nil) (Nat.le_refl _)))) da_nil))))) dssx_nil) (dssx_one (DS.x (ds_ret (de_not (de_callB sc_isi call_isiU z.«isinstance» (da_cons (de_var 0) (da_cons (de_ty z.«int») da_nil))))))))⟩
theorem c__law_is_goal {L : Nat} (g : Got K mg "_law_is_goal" s__law_is_goal P__law_is_goal) (z : Zs mg) (y : Ys K mg) (q : Qs K mg) : CalM P w K mg base (L + 1) "_law_is_goal" 1 (m__law_is_goal NF RD) noGX [] := by
  have nd := sc__law_is_goal.nd
  refine Got.cal (ps := P__law_is_goal) (N := N__law_is_goal) (ms := (retM (orM (cbM isiD (consM (varM 0) (consM (cM (.ty "str")) nilM))) (andM (cbM isiD (consM (varM 0) (consM (cM (.ty "tuple")) nilM))) (opM gtD (cbM lenD (consM (varM 0) nilM)) (cM (.int 1))))))) (xs := noX) g sc__law_is_goal fun f cdv A outer s H E hr => ?_
  exact ⟨_, (dssx_one (DS.x (ds_ret (de_or (de_callB sc_isi call_isiU z.«isinstance» (da_cons (de_var 0) (da_cons (de_ty z.«str») da_nil))) (de_one (de_and (de_callB sc_isi call_isiU z.«isinstance» (da_cons (de_var 0) (da_cons (de_ty z.«tuple») da_nil))) (de_one (de_cmp so_gt op_gtU (de_callB sc_len call_lenU z.«len» (da_cons (de_var 0) da_nil)) de_int))))))))⟩
theorem c__law_with_calls {L : Nat} (g : Got K mg "_law_with_calls" s__law_with_calls P__law_with_calls) (z : Zs mg) (y : Ys K mg) (q : Qs K mg) (c__law_is_construct : CalM P w K mg base L "_law_is_construct" 1 (m__law_is_construct NF RD) noGX []) : ∀ k : Nat, CalM P w K mg base (L + k) "_law_with_calls" 1 (m__law_with_calls NF RD k) noGX []
  | 0 => g.none
  | k + 1 => by
    have ih := c__law_with_calls (L := L) g z y q c__law_is_construct k
    have nd := sc__law_with_calls.nd
    refine Got.cal (k := L + k) (ps := P__law_with_calls) (N := N__law_with_calls) (ms := (seqM (ifSM (truM (callM 1 (m__law_is_construct NF RD) [] (consM (varM 0) nilM))) (retM (opM addD (tupM (consM (opM subsD (varM 0) (cM (.int 0))) nilM)) (cbM tuplD (consM (lcM (seqI (slM (varM 0) (partM (cM (.int 1))) noM)) (nameG 1) yesM (E__law_with_calls_0 NF RD (m__law_with_calls NF RD k)) [1] NF) nilM)))) passM) (retM (ifM (tandM (truM (cbM isiD (consM (varM 0) (consM (cM (.ty "tuple")) nilM)))) (testM (opM eqD (cbM lenD (consM (varM 0) nilM)) (cM (.int 1))))) (tupM (consM (cM (.str "call")) (consM (varM 0) nilM))) (varM 0))))) (xs := noX) g sc__law_with_calls fun f cdv A outer s H E hr => ?_
    exact ⟨_, (dssx_cons0 (dsx_if0 (dt_tru (de_call c__law_is_construct hr (da_cons (de_var 0) da_nil) (by omega))) (dssx_one (DS.x (ds_ret (de_op so_add op_addU (de_tup (da_cons (de_sub (de_var 0) de_int (hu1 hr)) da_nil)) (de_callTy sc_tupl call_tuplU z.«tuple» (da_cons (de_lc (own := [("one", 1)]) NF nd (di_seq (de_slice (de_var 0) (do_some de_int) do_none)) (blkOk_by (N := N__law_with_calls) (sc := (defScope s__law_with_calls)) (by decide +kernel)) (only_name (by decide)) (fun _ _ _ _ _ => (dg_name 1 nd)) (fun _ _ _ _ _ => dts_nil) (fun _ _ _ _ _ => (de_call ih hr (da_cons (de_var 1) da_nil) (Nat.le_refl _)))) da_nil)))))) dssx_nil) (dssx_one (DS.x (ds_ret (de_if (dt_w (dw_and (dt_tru (de_callB sc_isi call_isiU z.«isinstance» (da_cons (de_var 0) (da_cons (de_ty z.«tuple») da_nil)))) (dw_and1 (dt_cmp so_eq (op_eqU (hu64 hr)) (de_callB sc_len call_lenU z.«len» (da_cons (de_var 0) da_nil)) de_int)))) (de_tup (da_cons de_str (da_cons (de_var 0) da_nil))) (de_var 0))))))⟩
theorem c__law_atom {L : Nat} (g : Got K mg "_law_atom" s__law_atom P__law_atom) (z : Zs mg) (y : Ys K mg) (q : Qs K mg) (c__law_one : CalM P w K mg base L "_law_one" 2 (m__law_one NF RD) noGX []) : CalM P w K mg base (L + 1) "_law_atom" 1 (m__law_atom NF RD) noGX [] := by
  have nd := sc__law_atom.nd
  refine Got.cal (ps := P__law_atom) (N := N__law_atom) (ms := (retM (callM 2 (m__law_one NF RD) [] (consM (varM 0) (consM (lstM (consM (cM (.str "a")) (consM (cM (.str "b")) (consM (cM (.str "[]")) (consM (cM (.str "")) (consM (cM (.str "foo bar")) (consM (cM (.str "!")) (consM (cM (.str "true")) (consM (cM (.str "fail")) (consM (cM (.str "p")) (consM (cM (.str ";")) nilM))))))))))) nilM))))) (xs := noX) g sc__law_atom fun f cdv A outer s H E hr => ?_
  exact ⟨_, (dssx_one (DS.x (ds_ret (de_call c__law_one hr (da_cons (de_var 0) (da_cons (de_lst (da_cons de_str (da_cons de_str (da_cons de_str (da_cons de_str (da_cons de_str (da_cons de_str (da_cons de_str (da_cons de_str (da_cons de_str (da_cons de_str da_nil))))))))))) da_nil)) (by omega)))))⟩
theorem c__law_part {L : Nat} (g : Got K mg "_law_part" s__law_part P__law_part) (z : Zs mg) (y : Ys K mg) (q : Qs K mg) (c__law_draw : CalM P w K mg base L "_law_draw" 2 (m__law_draw NF RD) noGX []) (c__law_one : CalM P w K mg base L "_law_one" 2 (m__law_one NF RD) noGX []) (c__law_atom : CalM P w K mg base L "_law_atom" 1 (m__law_atom NF RD) noGX []) : ∀ k : Nat, CalM P w K mg base (L + k) "_law_part" 2 (m__law_part NF RD k) noGX []
  | 0 => g.none
  | k + 1 => by
    have ih := c__law_part (L := L) g z y q c__law_draw c__law_one c__law_atom k
    have nd := sc__law_part.nd
    refine Got.cal (k := L + k) (ps := P__law_part) (N := N__law_part) (ms := (seqM (asgM (callM 2 (m__law_draw NF RD) [] (consM (varM 0) (consM (cM (.int 9)) nilM))) (nameG 2)) (seqM (ifSM (torM (testM (opM eqD (varM 1) (cM (.int 0)))) (testM (opM ltD (varM 2) (cM (.int 3))))) (retM (callM 2 (m__law_one NF RD) [] (consM (varM 0) (consM (lstM (consM (tupM (consM (callM 2 (m__law_draw NF RD) [] (consM (varM 0) (consM (cM (.int 5)) nilM))) nilM)) (consM (tupM (consM (callM 2 (m__law_draw NF RD) [] (consM (varM 0) (consM (cM (.int 5)) nilM))) nilM)) (consM (callM 1 (m__law_atom NF RD) [] (consM (varM 0) nilM)) (consM (callM 1 (m__law_atom NF RD) [] (consM (varM 0) nilM)) (consM (varM 2) nilM)))))) nilM)))) passM) (seqM (asgM (callM 2 (m__law_one NF RD) [] (consM (varM 0) (consM (lstM (consM (cM (.str ",")) (consM (cM (.str ",")) (consM (cM (.str ";")) (consM (cM (.str ";")) (consM (cM (.str "->")) (consM (cM (.str "*->")) (consM (cM (.str "\\+")) (consM (cM (.str "once")) (consM (cM (.str "ignore")) (consM (cM (.str "forall")) (consM (cM (.str "call")) (consM (cM (.str "f")) (consM (cM (.str ":-")) nilM)))))))))))))) nilM))) (nameG 3)) (seqM (asgM (getD2 (dispM (pconsM (cM (.str ",")) (cM (.int 2)) (pconsM (cM (.str ";")) (cM (.int 2)) (pconsM (cM (.str "->")) (cM (.int 2)) (pconsM (cM (.str "*->")) (cM (.int 2)) (pconsM (cM (.str "forall")) (cM (.int 2)) (pconsM (cM (.str ":-")) (cM (.int 2)) pnilM))))))) (varM 3) (cM (.int 1))) (nameG 4)) (seqM (ifSM (testM (opM eqD (callM 2 (m__law_draw NF RD) [] (consM (varM 0) (consM (cM (.int 8)) nilM))) (cM (.int 0)))) (asgM (opM addD (cM (.int 1)) (callM 2 (m__law_draw NF RD) [] (consM (varM 0) (consM (cM (.int 3)) nilM)))) (nameG 4)) passM) (retM (opM addD (tupM (consM (varM 3) nilM)) (cbM tuplD (consM (lcM (rngI (consM (varM 4) nilM)) (nameG 5) yesM (E__law_part_0 NF RD (m__law_part NF RD k)) [5] NF) nilM)))))))))) (xs := noX) g sc__law_part fun f cdv A outer s H E hr => ?_
    exact ⟨_, (dssx_cons0 (DS.x (ds_set 2 (de_call c__law_draw hr (da_cons (de_var 0) (da_cons de_int da_nil)) (by omega)) nd)) (dssx_cons0 (dsx_if0 (dt_w (dw_or (dt_cmp so_eq (op_eqU (hu64 hr)) (de_var 1) de_int) (dw_or1 (dt_cmp so_lt op_ltU (de_var 2) de_int)))) (dssx_one (DS.x (ds_ret (de_call c__law_one hr (da_cons (de_var 0) (da_cons (de_lst (da_cons (de_tup (da_cons (de_call c__law_draw hr (da_cons (de_var 0) (da_cons de_int da_nil)) (by omega)) da_nil)) (da_cons (de_tup (da_cons (de_call c__law_draw hr (da_cons (de_var 0) (da_cons de_int da_nil)) (by omega)) da_nil)) (da_cons (de_call c__law_atom hr (da_cons (de_var 0) da_nil) (by omega)) (da_cons (de_call c__law_atom hr (da_cons (de_var 0) da_nil) (by omega)) (da_cons (de_var 2) da_nil)))))) da_nil)) (by omega))))) dssx_nil) (dssx_cons0 (DS.x (ds_set 3 (de_call c__law_one hr (da_cons (de_var 0) (da_cons (de_lst (da_cons de_str (da_cons de_str (da_cons de_str (da_cons de_str (da_cons de_str (da_cons de_str (da_cons de_str (da_cons de_str (da_cons de_str (da_cons de_str (da_cons de_str (da_cons de_str (da_cons de_str da_nil)))))))))))))) da_nil)) (by omega)) nd)) (dssx_cons0 (DS.x (ds_set 4 (de_get2 (hu1 hr) (de_disp (dp_cons de_str de_int (dp_cons de_str de_int (dp_cons de_str de_int (dp_cons de_str de_int (dp_cons de_str de_int (dp_cons de_str de_int dp_nil))))))) (de_var 3) de_int) nd)) (dssx_cons0 (dsx_if0 (dt_cmp so_eq (op_eqU (hu64 hr)) (de_call c__law_draw hr (da_cons (de_var 0) (da_cons de_int da_nil)) (by omega)) de_int) (dssx_one (DS.x (ds_set 4 (de_op so_add op_addU de_int (de_call c__law_draw hr (da_cons (de_var 0) (da_cons de_int da_nil)) (by omega))) nd))) dssx_nil) (dssx_one (DS.x (ds_ret (de_op so_add op_addU (de_tup (da_cons (de_var 3) da_nil)) (de_callTy sc_tupl call_tuplU z.«tuple» (da_cons (de_lc (own := [("k", 5)]) NF nd (di_range1 (da_cons (de_var 4) da_nil) z.«range») (blkOk_by (N := N__law_part) (sc := (defScope s__law_part)) (by decide +kernel)) (only_name (by decide)) (fun _ _ _ _ _ => (dg_name 5 nd)) (fun _ _ _ _ _ => dts_nil) (fun _ _ _ _ _ => (de_call ih hr (da_cons (de_var 0) (da_cons (de_op so_sub op_sub (de_var 1) de_int) da_nil)) (Nat.le_refl _)))) da_nil)))))))))))⟩
theorem c__law_due {L : Nat} (g : Got K mg "_law_due" s__law_due P__law_due) (z : Zs mg) (y : Ys K mg) (q : Qs K mg) (c__law_anew : CalM P w K mg base L "_law_anew" 1 (m__law_anew NF RD) noGX []) (c__law_is_goal : CalM P w K mg base L "_law_is_goal" 1 (m__law_is_goal NF RD) noGX []) (c__law_is_body : CalM P w K mg base L "_law_is_body" 1 (m__law_is_body NF RD RD) noGX []) (c__law_with_calls : CalM P w K mg base L "_law_with_calls" 1 (m__law_with_calls NF RD RD) noGX []) : CalM P w K mg base (L + 1) "_law_due" 1 (m__law_due NF RD) noGX [] := by
  have nd := sc__law_due.nd
  refine Got.cal (ps := P__law_due) (N := N__law_due) (ms := (seqM (parM 1 2 (consM (varM 0) (consM (cM (.str "true")) nilM))) (seqM (ifSM (tandM (truM (cbM isiD (consM (varM 0) (consM (cM (.ty "tuple")) nilM)))) (tandM (testM (opM eqD (cbM lenD (consM (varM 0) nilM)) (cM (.int 3)))) (testM (opM eqD (opM subsD (varM 0) (cM (.int 0))) (cM (.str ":-")))))) (parM 1 2 (consM (opM subsD (varM 0) (cM (.int 1))) (consM (opM subsD (varM 0) (cM (.int 2))) nilM))) passM) (seqM (ifSM (tnotM (truM (callM 1 (m__law_is_goal NF RD) [] (consM (varM 1) nilM)))) (retM (cM (.str "head"))) passM) (seqM (ifSM (tnotM (truM (callM 1 (m__law_is_body NF RD RD) [] (consM (varM 2) nilM)))) (retM (cM (.str "body"))) passM) (seqM (asgM (callM 1 (m__law_anew NF RD) [] (consM (lstM (consM (varM 1) (consM (callM 1 (m__law_with_calls NF RD RD) [] (consM (varM 2) nilM)) nilM))) nilM)) (uplG 2 (consG (nameG 1) (consG (nameG 2) nilG)))) (retM (tupM (consM (cM (.str ":-")) (consM (varM 1) (consM (varM 2) nilM))))))))))) (xs := noX) g sc__law_due fun f cdv A outer s H E hr => ?_
  exact ⟨_, (dssx_cons0 (DS.x (ds_par 1 2 (da_cons (de_var 0) (da_cons de_str da_nil)) nd)) (dssx_cons0 (dsx_if0 (dt_w (dw_and (dt_tru (de_callB sc_isi call_isiU z.«isinstance» (da_cons (de_var 0) (da_cons (de_ty z.«tuple») da_nil)))) (dw_and (dt_cmp so_eq (op_eqU (hu64 hr)) (de_callB sc_len call_lenU z.«len» (da_cons (de_var 0) da_nil)) de_int) (dw_and1 (dt_cmp so_eq (op_eqU (hu64 hr)) (de_sub (de_var 0) de_int (hu1 hr)) de_str))))) (dssx_one (DS.x (ds_par 1 2 (da_cons (de_sub (de_var 0) de_int (hu1 hr)) (da_cons (de_sub (de_var 0) de_int (hu1 hr)) da_nil)) nd))) dssx_nil) (dssx_cons0 (dsx_if0 (dt_not (dt_tru (de_call c__law_is_goal hr (da_cons (de_var 1) da_nil) (by omega)))) (dssx_one (DS.x (ds_ret de_str))) dssx_nil) (dssx_cons0 (dsx_if0 (dt_not (dt_tru (de_call c__law_is_body hr (da_cons (de_var 2) da_nil) (by omega)))) (dssx_one (DS.x (ds_ret de_str))) dssx_nil) (dssx_cons0 (DS.x (ds_asg (de_call c__law_anew hr (da_cons (de_lst (da_cons (de_var 1) (da_cons (de_call c__law_with_calls hr (da_cons (de_var 2) da_nil) (by omega)) da_nil))) da_nil) (by omega)) (dg_upl (n := 2) (dgs_cons (dg_name 1 nd) (dgs_cons (dg_name 2 nd) dgs_nil))))) (dssx_one (DS.x (ds_ret (de_tup (da_cons de_str (da_cons (de_var 1) (da_cons (de_var 2) da_nil))))))))))))⟩
theorem c__law_said {L : Nat} (g : Got K mg "_law_said" s__law_said P__law_said) (z : Zs mg) (y : Ys K mg) (q : Qs K mg) (c_stored : CalM P w K mg base L "stored" 1 (m_stored NF RD) (x_stored NF RD) []) : CalM P w K mg base (L + 1) "_law_said" 1 (m__law_said NF RD) noGX [] := by
  have nd := sc__law_said.nd
  refine Got.cal (ps := P__law_said) (N := N__law_said) (ms := (seqM (asgM (cM .non) (nameG 1)) (seqM (tryM subX LX [⟨"NoClause", some 2, some 1, fun xn => (fldX TX xn "why")⟩, ⟨"HornError", none, some 1, fun xn => (cM (.str "other"))⟩] (asgM (callM 1 (m_stored NF RD) [] (consM (varM 0) nilM)) (nameG 1)) (callX 1 (x_stored NF RD) [] (consM (varM 0) nilM))) (retM (varM 1))))) (xs := noX) g sc__law_said fun f cdv A outer s H E hr => ?_
  exact ⟨_, (DSsX.no (dssx_cons (DS.x (ds_set 1 de_non nd)) (dssx_cons (dsx_try nd (fun W pn xe => (dssx_one (dsx_set 1 (dx_call c_stored hr (da_cons (de_var 0) da_nil) (by omega)) nd))) (.setA q.m_NoClause rfl (by decide) q.e_NoClause rfl rfl (fun a pn t pe => ps_set (i := 1) nd rfl (Or.inl rfl) pe) (fun a oe cls d pn xn hz hf => (deh_fld 2 q.tab hz hf)) (.set q.m_HornError rfl (by decide) q.e_HornError (fun a pn t pe => ps_set (i := 1) nd rfl (Or.inl rfl) pe) (fun a oe cls d pn xn hz hf => (deh_of de_str)) .nil))) (dssx_one (DS.x (ds_ret (de_var 1)))))))⟩
theorem c__law_right {L : Nat} (g : Got K mg "_law_right" s__law_right P__law_right) (z : Zs mg) (y : Ys K mg) (q : Qs K mg) (c__law_due : CalM P w K mg base L "_law_due" 1 (m__law_due NF RD) noGX []) (c__law_said : CalM P w K mg base L "_law_said" 1 (m__law_said NF RD) noGX []) (c_is_body : CalM P w K mg base L "is_body" 1 (m_is_body NF RD) noGX []) (c__law_is_body : CalM P w K mg base L "_law_is_body" 1 (m__law_is_body NF RD RD) noGX []) (c_is_clause : CalM P w K mg base L "is_clause" 1 (m_is_clause NF RD) noGX []) : CalM P w K mg base (L + 1) "_law_right" 1 (m__law_right NF RD) noGX [] := by
  have nd := sc__law_right.nd
  refine Got.cal (ps := P__law_right) (N := N__law_right) (ms := (seqM (asgM (callM 1 (m__law_due NF RD) [] (consM (varM 0) nilM)) (nameG 1)) (seqM (ifSM (torM (testM (opM neD (cbM reprD (consM (callM 1 (m_is_body NF RD) [] (consM (varM 0) nilM)) nilM)) (cbM reprD (consM (callM 1 (m__law_is_body NF RD RD) [] (consM (varM 0) nilM)) nilM)))) (testM (opM neD (cbM reprD (consM (callM 1 (m_is_clause NF RD) [] (consM (varM 0) nilM)) nilM)) (cbM reprD (consM (cbM isiD (consM (varM 1) (consM (cM (.ty "tuple")) nilM))) nilM))))) (retM (cM (.bl false))) passM) (retM (opM eqD (cbM reprD (consM (callM 1 (m__law_said NF RD) [] (consM (varM 0) nilM)) nilM)) (cbM reprD (consM (varM 1) nilM))))))) (xs := noX) g sc__law_right fun f cdv A outer s H E hr => ?_
  exact ⟨_, (dssx_cons0 (DS.x (ds_set 1 (de_call c__law_due hr (da_cons (de_var 0) da_nil) (by omega)) nd)) (dssx_cons0 (dsx_if0 (dt_w (dw_or (dt_cmp so_ne (op_neU (hu64 hr)) (de_callB sc_repr (call_reprU hr.g (hu100 hr)) z.«repr» (da_cons (de_call c_is_body hr (da_cons (de_var 0) da_nil) (by omega)) da_nil)) (de_callB sc_repr (call_reprU hr.g (hu100 hr)) z.«repr» (da_cons (de_call c__law_is_body hr (da_cons (de_var 0) da_nil) (by omega)) da_nil))) (dw_or1 (dt_cmp so_ne (op_neU (hu64 hr)) (de_callB sc_repr (call_reprU hr.g (hu100 hr)) z.«repr» (da_cons (de_call c_is_clause hr (da_cons (de_var 0) da_nil) (by omega)) da_nil)) (de_callB sc_repr (call_reprU hr.g (hu100 hr)) z.«repr» (da_cons (de_callB sc_isi call_isiU z.«isinstance» (da_cons (de_var 1) (da_cons (de_ty z.«tuple») da_nil))) da_nil)))))) (dssx_one (DS.x (ds_ret de_bl))) dssx_nil) (dssx_one (DS.x (ds_ret (de_cmp so_eq (op_eqU (hu64 hr)) (de_callB sc_repr (call_reprU hr.g (hu100 hr)) z.«repr» (da_cons (de_call c__law_said hr (da_cons (de_var 0) da_nil) (by omega)) da_nil)) (de_callB sc_repr (call_reprU hr.g (hu100 hr)) z.«repr» (da_cons (de_var 1) da_nil))))))))⟩
theorem ok_law {L : Nat} {f : Addr} {fd : FuncData} (F : Fun K "law" "law" s_law f fd) (z : Zs mg) (y : Ys K mg) (q : Qs K mg) (c__law_well : CalM P w K mg base L "_law_well" 1 (m__law_well NF RD) noGX []) (c__law_right : CalM P w K mg base L "_law_right" 1 (m__law_right NF RD) noGX []) (c__law_cell_at : CalM P w K mg base L "_law_cell_at" 2 (m__law_cell_at NF RD) noGX []) (c__law_part : CalM P w K mg base L "_law_part" 2 (m__law_part NF RD RD) noGX []) (c_is_body : CalM P w K mg base L "is_body" 1 (m_is_body NF RD) noGX []) (c_is_clause : CalM P w K mg base L "is_clause" 1 (m_is_clause NF RD) noGX []) (c__law_said : CalM P w K mg base L "_law_said" 1 (m__law_said NF RD) noGX []) : FnG P w K mg base (L2.CX P w) (L + 1) f fd ["script"] (spX K mg 1 (m_law NF RD) noGX) := by
  have nd := sc_law.nd
  refine fn_M (ps := P_law) (N := N_law) (ms := (seqM (forSM (seqI (opM addD (lstM (consM (callM 2 (m__law_cell_at NF RD) [] (consM (varM 0) (consM (cM (.int 0)) nilM))) nilM)) (slM (varM 0) (partM (cM (.int 1))) (partM (cM (.int 4)))))) (nameG 1) (B_law_3 NF RD) NF) (seqM (asgM (lstM (consM (cM .non) (consM (cM (.bl true)) (consM (lstM nilM) (consM (tupM nilM) (consM (tupM (consM (cM (.str "f")) nilM)) (consM (tupM (consM (cM (.str "f")) (consM (cM .non) nilM))) (consM (tupM (consM (cM (.str "f")) (consM (cM (.bl true)) nilM))) (consM dnewM (consM (dispM (pconsM (cM (.str "a")) (cM (.int 1)) pnilM)) (consM (tupM (consM (cM (.str "f")) (consM (tupM (consM (cM (.str "x")) nilM)) nilM))) (consM (tupM (consM (negM (cM (.int 1))) nilM)) (consM (tupM (consM (cM (.bl true)) nilM)) (consM (opM mulD (cM (.str "a")) (cM (.int 41))) nilM)))))))))))))) (nameG 7)) (seqM (asgM (opM addD (varM 7) (lstM (consM (opM addD (tupM (consM (cM (.str "f")) nilM)) (opM mulD (tupM (consM (cM (.int 1)) nilM)) (cM (.int 9)))) (consM (tupM (consM (cM (.int 1)) (consM (cM (.int 2)) nilM))) (consM (tupM (consM (cM (.str "p")) (consM (cM (.str "\n")) nilM))) (consM (lstM (consM (cM (.str ":-")) (consM (cM (.str "a")) (consM (cM (.str "b")) nilM)))) (consM (tupM (consM (cM (.str ":-")) (consM (cM (.str "a")) (consM (cM .non) nilM)))) nilM))))))) (nameG 7)) (seqM (forSM (seqI (varM 7)) (nameG 6) (B_law_0 NF RD) NF) (retM (andM (callM 1 (m__law_right NF RD) [] (consM (cM (.str "a")) nilM)) (andM (callM 1 (m__law_right NF RD) [] (consM (cM (.int 5)) nilM)) (andM (callM 1 (m__law_right NF RD) [] (consM (tupM (consM (cM (.int 3)) nilM)) nilM)) (callM 1 (m__law_right NF RD) [] (consM (tupM (consM (cM (.str ":-")) (consM (cM (.str "a")) (consM (cM (.int 5)) nilM)))) nilM))))))))))) (xs := noX) F sc_law fun cdv A outer s H E hr => ?_
  exact ⟨_, (dssx_cons0 (dsx_for0 NF (di_seq (de_op so_add op_addU (de_lst (da_cons (de_call c__law_cell_at hr (da_cons (de_var 0) (da_cons de_int da_nil)) (by omega)) da_nil)) (de_slice (de_var 0) (do_some de_int) (do_some de_int)))) (dg_name 1 nd) (dssx_cons0 (DS.x (ds_set 2 (de_call c__law_well hr (da_cons (de_var 1) da_nil) (by omega)) nd)) (dssx_one (dsx_for0 NF (di_range1 (da_cons de_int da_nil) z.«range») (dg_name 3 nd) (dssx_cons0 (DS.x (ds_par 4 5 (da_cons (de_call c__law_part hr (da_cons (de_var 2) (da_cons de_int da_nil)) (by omega)) (da_cons (de_call c__law_part hr (da_cons (de_var 2) (da_cons de_int da_nil)) (by omega)) da_nil)) nd)) (dssx_one (dsx_for0 NF (di_seq (de_lst (da_cons (de_var 4) (da_cons (de_var 5) (da_cons (de_tup (da_cons de_str (da_cons (de_var 4) (da_cons (de_var 5) da_nil)))) (da_cons (de_tup (da_cons de_str (da_cons (de_tup (da_cons de_str (da_cons (de_var 4) da_nil))) (da_cons (de_var 5) da_nil)))) (da_cons (de_tup (da_cons de_str (da_cons (de_var 5) da_nil))) da_nil))))))) (dg_name 6 nd) (dssx_one (dsx_if0 (dt_not (dt_tru (de_call c__law_right hr (da_cons (de_var 6) da_nil) (by omega)))) (dssx_one (DS.x (ds_ret de_bl))) dssx_nil))))))))) (dssx_cons0 (DS.x (ds_set 7 (de_lst (da_cons de_non (da_cons de_bl (da_cons (de_lst da_nil) (da_cons (de_tup da_nil) (da_cons (de_tup (da_cons de_str da_nil)) (da_cons (de_tup (da_cons de_str (da_cons de_non da_nil))) (da_cons (de_tup (da_cons de_str (da_cons de_bl da_nil))) (da_cons de_dnew (da_cons (de_disp (dp_cons de_str de_int dp_nil)) (da_cons (de_tup (da_cons de_str (da_cons (de_tup (da_cons de_str da_nil)) da_nil))) (da_cons (de_tup (da_cons (de_neg de_int) da_nil)) (da_cons (de_tup (da_cons de_bl da_nil)) (da_cons (de_op so_mul op_mulU de_str de_int) da_nil)))))))))))))) nd)) (dssx_cons0 (DS.x (ds_set 7 (de_op so_add op_addU (de_var 7) (de_lst (da_cons (de_op so_add op_addU (de_tup (da_cons de_str da_nil)) (de_op so_mul op_mulU (de_tup (da_cons de_int da_nil)) de_int)) (da_cons (de_tup (da_cons de_int (da_cons de_int da_nil))) (da_cons (de_tup (da_cons de_str (da_cons de_str da_nil))) (da_cons (de_lst (da_cons de_str (da_cons de_str (da_cons de_str da_nil)))) (da_cons (de_tup (da_cons de_str (da_cons de_str (da_cons de_non da_nil)))) da_nil))))))) nd)) (dssx_cons0 (dsx_for0 NF (di_seq (de_var 7)) (dg_name 6 nd) (dssx_one (dsx_if0 (dt_w (dw_or (dt_cmp so_isntB op_isntB (de_call c_is_body hr (da_cons (de_var 6) da_nil) (by omega)) de_bl) (dw_or (dt_cmp so_isntB op_isntB (de_call c_is_clause hr (da_cons (de_var 6) da_nil) (by omega)) de_bl) (dw_or1 (dt_cmp so_ne (op_neU (hu64 hr)) (de_call c__law_said hr (da_cons (de_var 6) da_nil) (by omega)) de_str))))) (dssx_one (DS.x (ds_ret de_bl))) dssx_nil))) (dssx_one (DS.x (ds_ret (de_and (de_call c__law_right hr (da_cons de_str da_nil) (by omega)) (de_and (de_call c__law_right hr (da_cons de_int da_nil) (by omega)) (de_and (de_call c__law_right hr (da_cons (de_tup (da_cons de_int da_nil)) da_nil) (by omega)) (de_one (de_call c__law_right hr (da_cons (de_tup (da_cons de_str (da_cons de_str (da_cons de_int da_nil)))) da_nil) (by omega)))))))))))))⟩
end



/-! ### objects: what a call leaves -/
/-- all stays as it was, new objects may stand behind -/
def Pre (h h' : Hd) : Prop := ∃ g, h' = h ++ g
theorem Pre.refl (h : Hd) : Pre h h := ⟨[], by simp⟩
theorem Pre.trans {a b c : Hd} (x : Pre a b) (y : Pre b c) : Pre a c := by
  obtain ⟨g, rfl⟩ := x
  obtain ⟨g', rfl⟩ := y
  exact ⟨g ++ g', by simp⟩
theorem Pre.app (h g : Hd) : Pre h (h ++ g) := ⟨g, rfl⟩
theorem Pre.app' {h h' : Hd} (x : Pre h h') (g : Hd) : Pre h (h' ++ g) := x.trans (Pre.app _ _)
theorem Pre.set {h h' : Hd} (x : Pre h h') {i : Nat} (hi : h.length ≤ i) (o : O) : Pre h (h'.set i o) := by
  obtain ⟨g, rfl⟩ := x
  exact ⟨g.set (i - h.length) o, by rw [List.set_append_right _ _ hi]⟩
theorem Pre.get {h h' : Hd} (x : Pre h h') {i : Nat} {o : O} (e : h[i]? = some o) : h'[i]? = some o := by
  obtain ⟨g, rfl⟩ := x
  rw [List.getElem?_append_left (List.getElem?_eq_some_iff.mp e).1]
  exact e
theorem Pre.len {h h' : Hd} (x : Pre h h') : h.length ≤ h'.length := by
  obtain ⟨g, rfl⟩ := x
  simp
theorem get_new (h : Hd) (o : O) : (h ++ [o])[h.length]? = some o := by simp
theorem get_set {h : Hd} {i : Nat} {o p : O} (e : h[i]? = some o) : (h.set i p)[i]? = some p := by
  rw [List.getElem?_set_self (List.getElem?_eq_some_iff.mp e).1]
theorem get_ne {h : Hd} {i j : Nat} {p : O} (e : i ≠ j) : (h.set i p)[j]? = h[j]? := List.getElem?_set_ne e
theorem lt_of {h : Hd} {i : Nat} {o : O} (e : h[i]? = some o) : i < h.length := (List.getElem?_eq_some_iff.mp e).1
/-- all but the object w stays as it was -/
structure Fw (w : Nat) (h h' : Hd) : Prop where
  len : h.length ≤ h'.length
  at' : ∀ i, i < h.length → i ≠ w → h'[i]? = h[i]?
theorem Fw.refl (w : Nat) (h : Hd) : Fw w h h := ⟨Nat.le_refl _, fun _ _ _ => rfl⟩
theorem Fw.trans {w : Nat} {a b c : Hd} (x : Fw w a b) (y : Fw w b c) : Fw w a c := ⟨Nat.le_trans x.len y.len, fun i hi hn => (y.at' i (Nat.lt_of_lt_of_le hi x.len) hn).trans (x.at' i hi hn)⟩
theorem Fw.pre {w : Nat} {h h' : Hd} (x : Pre h h') : Fw w h h' := by
  obtain ⟨g, rfl⟩ := x
  exact ⟨by simp, fun i hi _ => List.getElem?_append_left hi⟩
theorem Fw.set {w : Nat} {h : Hd} (o : O) : Fw w h (h.set w o) := ⟨by simp, fun i _ hn => List.getElem?_set_ne (fun z => hn z.symm)⟩
theorem Fw.get {w : Nat} {h h' : Hd} (x : Fw w h h') {i : Nat} {o : O} (e : h[i]? = some o) (hn : i ≠ w) : h'[i]? = some o := (x.at' i (lt_of e) hn).trans e

/-! ### terms -/
def BIG : Int := 1000000000000000000000000000000000000000000000000000000000000000000000000000000000000000000000000000000000000000000000000000000000000000000000000000000000000000000000000000000000000000000000000000000000000000000000000000000000000000000000000000000000000000000000000000000000000000000000000000000000000
def signOk (c : Nat) : Bool := decide (32 ≤ c) && decide (c ≤ 126) && decide (c ≠ 37)
def atomOk (s : Str) : Bool := decide (s.length ≤ 40) && s.cps.toList.all signOk
inductive T : D → Prop where
  | var (n : Int) : 0 ≤ n → T (.tup [.int n])
  | int (i : Int) : (if i < 0 then -i else i) < BIG → T (.int i)
  | str (s : Str) : atomOk s = true → T (.str s)
  | cmp (f : Str) (a : D) (as : List D) : atomOk f = true → as.length < 8 → (∀ x ∈ a :: as, T x) → T (.tup (.str f :: a :: as))
mutual
/-- the parts, from the left, each ahead of its arguments -/
def parts : D → List D
  | .tup xs => .tup xs :: partsT xs
  | .int i => [.int i]
  | .str s => [.str s]
  | .bl b => [.bl b]
  | .non => [.non]
  | .ty s => [.ty s]
  | .rol xs => [.rol xs]
  | .at n => [.at n]
  | .ad n => [.ad n]
def partsT : List D → List D
  | [] => []
  | _ :: ds => partss ds
def partss : List D → List D
  | [] => []
  | d :: ds => parts d ++ partss ds
end
theorem partss_app : ∀ as bs : List D, partss (as ++ bs) = partss as ++ partss bs
  | [], bs => by simp [partss]
  | a :: as, bs => by simp [partss, partss_app as bs]
theorem parts_pos (d : D) : 1 ≤ (parts d).length := by cases d <;> simp [parts]
theorem len_partss : ∀ ds : List D, ds.length ≤ (partss ds).length
  | [] => by simp [partss]
  | d :: ds => by
    have h1 := parts_pos d
    have h2 := len_partss ds
    simp only [partss, List.length_append, List.length_cons]
    omega
def flat : D → Bool
  | .int _ => true
  | .str _ => true
  | .tup _ => true
  | .bl _ => true
  | _ => false
theorem T.flat {d : D} (t : T d) : flat d = true := by cases t <;> rfl
def isInt : D → Bool
  | .int _ => true
  | _ => false
def isCmp : D → Bool
  | .tup xs => decide (1 < (xs.length : Int))
  | _ => false
def isVar : D → Bool
  | .tup [.int n] => decide (0 ≤ n)
  | _ => false
/-! the data of a term -/
mutual
def pd : D → PyData
  | .tup xs => .tuple (pds xs)
  | .int i => .int i
  | .str s => .str s
  | .bl b => .bool b
  | .non => .none
  | .ty s => .none
  | .rol xs => .list (pds xs)
  | .at n => .none
  | .ad n => .none
def pds : List D → List PyData
  | [] => []
  | d :: ds => pd d :: pds ds
end
theorem atom_strOk {s : Str} (h : atomOk s = true) : PyData.strOk s = true := by
  unfold atomOk at h
  unfold PyData.strOk
  have h2 := (Bool.and_eq_true_iff.mp h).2
  rw [Array.all_eq_true_iff_forall_mem]
  intro c hc
  have := List.all_eq_true.mp h2 c (by simpa using hc)
  unfold signOk at this
  simp only [Bool.and_eq_true, decide_eq_true_eq] at this
  exact decide_eq_true (by omega)
theorem toPs_of {r : Nat → Option PyData} : ∀ {ds : List D}, (∀ d ∈ ds, toP r d = some (pd d) ∧ (pd d).canLay0 = true) → toPs r ds = some (pds ds) ∧ PyData.canLayAll0 (pds ds) = true
  | [], _ => ⟨by simp [toPs, pds], by simp [pds, PyData.canLayAll0]⟩
  | d :: ds, h => by
    obtain ⟨h1, h2⟩ := h d List.mem_cons_self
    obtain ⟨h3, h4⟩ := toPs_of (r := r) (ds := ds) fun x hx => h x (List.mem_cons_of_mem _ hx)
    refine ⟨?_, ?_⟩
    · simp only [toPs, h1, h3, pds]
    · simp only [pds, PyData.canLayAll0, h2, h4, Bool.and_self]
theorem T.dat {r : Nat → Option PyData} {d : D} (t : T d) : toP r d = some (pd d) ∧ (pd d).canLay0 = true := by
  induction t with
  | var n h => simp [toP, toPs, pd, pds, PyData.canLay0, PyData.canLayAll0]
  | int i h => simp [toP, pd, PyData.canLay0]
  | str s h => simp [toP, pd, PyData.canLay0, atom_strOk h]
  | cmp f a as hf hl _ ih =>
    obtain ⟨h1, h2⟩ := toPs_of (r := r) ih
    constructor
    · rw [toP, toPs]
      simp only [toP, h1, pd, pds]
    · rw [pd, pds, PyData.canLay0, PyData.canLayAll0]
      simp only [pd, PyData.canLay0, atom_strOk hf, h2, Bool.and_self]
/-- waiting != [] -/
theorem ne_nil {h : Hd} {n m : Nat} {ws : List D} (e : h[n]? = some (.lst ws)) (e2 : h[m]? = some (.lst [])) (ht : ∀ d ∈ ws, toP (rP 2 h) d = some (pd d) ∧ (pd d).canLay0 = true) : neD (.at n) (.at m) h = some (.bl (!ws.isEmpty), h) := by
  obtain ⟨h1, h2⟩ := toPs_of ht
  unfold neD datD
  have a1 : toP (rP 3 h) (.at n) = some (.list (pds ws)) := by
    rw [toP, rP, e]
    simp only [h1]
  have a2 : toP (rP 3 h) (.at m) = some (.list []) := by
    rw [toP, rP, e2]
    simp only [toPs]
  rw [a1, a2]
  simp only
  rw [if_pos ⟨by rw [PyData.canLay0]; exact h2, by simp [PyData.canLay0, PyData.canLayAll0], by
    have : (PyData.list []).depth = 1 := by simp [PyData.depth, PyData.depthAll]
    rw [this]
    omega⟩]
  cases ws with
  | nil => simp [pds, PyData.eqv, PyData.eqvAll]
  | cons d ds => simp [pds, PyData.eqv, PyData.eqvAll]
theorem T.datL {h : Hd} {ws : List D} (ht : ∀ d ∈ ws, T d) : ∀ d ∈ ws, toP (rP 2 h) d = some (pd d) ∧ (pd d).canLay0 = true := fun d hd => (ht d hd).dat

local macro_rules | `(tactic| walk_at "ev") => `(tactic| simp only [bodyM, startD, varM, cM, opM, testM, chainM, nilM, consM, tupM, lstM, DL.andM, DL.orM, DL.notM, truM, tandM, torM, tnotM, ifM, negM,
  addD, subD, mulD, fdivD, modD, powD, ltD, leD, gtD, geD, subsD, seqD, keyD, noM, partM, sliceD, slM, cbM, lenD, absD, intD, isiD, kdD, kb1, kb2, kb3, kb4, kb5, kb6, kb7, kb8, kb9, kb10, kb11, kb12, kb13, kb14, kb15, kb16, eq_ii, ne_ii,
  bmM, isDct, dnewM, nameG, nilG, consG, tupG, passM, brkM, cntM, exprM, retM, asgM, seqM, ifSM, neverM, augM, addID, parM, par3M, callM, truD, k_MOST_ARGUMENTS, k_MOST_SIGNS, k_TOO_GREAT, seqI, backM, backD, tuplD,
  List.map_cons, List.map_nil, List.length_cons, List.length_nil, List.cons_append, List.nil_append, List.append_nil, List.getElem?_cons_zero, List.getElem?_cons_succ, List.getElem?_nil, List.replicate, List.set_cons_zero, List.set_cons_succ,
  if_true, if_false, ↓reduceIte, Bool.false_eq_true, Bool.not_true, Bool.not_false, decide_true, decide_false, Nat.reduceSub, Nat.reduceAdd, Nat.reduceLeDiff, Nat.reduceEqDiff, Int.reduceLT, Int.reduceLE, Nat.zero_le, String.reduceBEq, beq_self_eq_true])
section
variable (NF RD : Nat)
theorem r_is_int (d : D) (h : Hd) (hd : flat d = true) : m_is_int NF RD [d] h = some (.bl (isInt d), h) := by
  unfold m_is_int
  cases d <;> first | (cases hd; done) | (walk_at "ev"; rfl)
theorem r_is_compound (d : D) (h : Hd) (hd : flat d = true) : m_is_compound NF RD [d] h = some (.bl (isCmp d), h) := by
  unfold m_is_compound
  cases d <;> first | (cases hd; done) | (walk_at "ev"; rfl)
theorem r_is_variable {d : D} (h : Hd) (t : T d) : m_is_variable NF RD [d] h = some (.bl (isVar d), h) := by
  unfold m_is_variable
  cases t with
  | var n hn =>
    have hi := r_is_int NF RD (.int n) h rfl
    walk_at "ev"
    simp only [at0, hi, isInt, Int.cast_ofNat_Int, decide_true, isVar, Nat.zero_add]
    rfl
  | int i _ => walk_at "ev"; rfl
  | str s _ => walk_at "ev"; rfl
  | cmp f a as _ _ _ =>
    walk_at "ev"
    have : ¬ (((as.length + 1 + 1 : Nat) : Int) = 1) := by omega
    simp only [this, decide_false]
    rfl
theorem r_is_any_number (d : D) (h : Hd) (hd : flat d = true) : m_is_any_number NF RD [d] h = some (.bl (match d with | .int i => decide ((if i < 0 then -i else i) < BIG) | _ => false), h) := by
  have hi := r_is_int NF RD d h hd
  unfold m_is_any_number
  cases d with
  | int i => walk_at "ev"; simp only [hi, isInt]; rfl
  | str s => walk_at "ev"; simp only [hi, isInt]
  | tup s => walk_at "ev"; simp only [hi, isInt]
  | bl s => walk_at "ev"; simp only [hi, isInt]
  | _ => cases hd
/-- a comprehension over items that are known, whose element changes nothing -/
theorem lc_pure {xs : List D} {i : Nat} {a : ME} {D0 : Nat} {sg0 : Sg} {f : D → D} (ha : ∀ x ∈ xs, ∀ h, a (sg0.set i (some x)) h = some (f x, h)) : ∀ (N k : Nat) (acc : List D) (h : Hd), xs.length - k + 1 ≤ N → acc.length + (xs.length - k) ≤ LN → h[D0]? = some (.lst acc) →
    lcM' (.fix xs) (nameG i) yesM a D0 sg0 N k h = some (h.set D0 (.lst (acc ++ (xs.drop k).map f)))
  | 0, k, acc, h, h1, _, _ => by omega
  | N + 1, k, acc, h, h1, h2, h3 => by
    unfold lcM'
    simp only [Src.nxt]
    cases q : xs[k]? with
    | none =>
      have hk := List.getElem?_eq_none_iff.mp q
      simp only [List.drop_eq_nil_of_le hk, List.map_nil, List.append_nil]
      congr 1
      exact (List.set_getElem_self' h3).symm
    | some x =>
      have hk := (List.getElem?_eq_some_iff.mp q).1
      have hx : x ∈ xs := List.mem_of_getElem? q
      simp only [nameG, yesM, ha x hx, h3]
      rw [if_pos (by omega)]
      rw [lc_pure ha N (k + 1) (acc ++ [f x]) _ (by omega) (by simp; omega) (get_set h3)]
      rw [List.set_set]
      have : xs.drop k = x :: xs.drop (k + 1) := by
        rw [List.drop_eq_getElem_cons hk]
        congr 1
        exact (List.getElem?_eq_some_iff.mp q).2
      rw [this, List.map_cons, List.append_assoc]
      rfl
where
  List.set_getElem_self' {h : Hd} {i : Nat} {o : O} (e : h[i]? = some o) : h.set i o = h := by
    obtain ⟨hi, e⟩ := List.getElem?_eq_some_iff.mp e
    rw [← e]
    exact List.set_getElem_self hi
end
section
variable (NF RD : Nat)
/-! ### atoms -/
def sgD (c : Nat) : D := .str ⟨⟨[c]⟩⟩
theorem ord_sg (c : Nat) (h : Hd) : ordD [sgD c] h = some (.int c, h) := rfl
theorem lt_sg (a c : Nat) : ltS ⟨⟨[a]⟩⟩ ⟨⟨[c]⟩⟩ = decide (a < c) := by
  unfold ltS
  simp only [List.cons_lt_cons_iff, List.not_lt_nil, and_false, or_false]
theorem s_blank : (PySem.Str.ofString " ") = ⟨⟨[32]⟩⟩ := by decide +kernel
theorem s_tilde : (PySem.Str.ofString "~") = ⟨⟨[126]⟩⟩ := by decide +kernel
theorem el_atom (c : Nat) (x : Option D) (h : Hd) : E_is_any_atom_0 NF RD [x, some (sgD c)] h = some (.bl (signOk c), h) := by
  unfold E_is_any_atom_0 sgD
  walk_at "ev"
  rw [s_blank, s_tilde, lt_sg, lt_sg]
  by_cases q : c < 32
  · have q' : ¬ (32 ≤ c) := by omega
    simp [truD, signOk, q, q']
  · have q' : 32 ≤ c := by omega
    by_cases q2 : 126 < c
    · have q2' : ¬ (c ≤ 126) := by omega
      simp [truD, signOk, q, q', q2, q2']
    · have q2' : c ≤ 126 := by omega
      by_cases q3 : c = 37
      · subst q3
        simp [truD, signOk, ordD, ne_ii]
        try rfl
      · have q3' : ¬ ((c : Int) = 37) := by omega
        simp [truD, signOk, q, q', q2, q2', q3, ordD, ne_ii, q3']
theorem bls_all : ∀ l : List Nat, blsD (l.map fun c => D.bl (signOk c)) = some (l.map signOk)
  | [] => rfl
  | c :: l => by
    rw [List.map_cons, blsD, bls_all l]
    rfl
theorem r_is_any_atom (s : Str) (h : Hd) (hN : 50 ≤ NF) (hz : s.length ≤ LN) : ∃ h', m_is_any_atom NF RD [.str s] h = some (.bl (atomOk s), h') ∧ Pre h h' := by
  unfold m_is_any_atom
  · walk_at "ev"
    rw [if_pos hz]
    simp only [Int.ofNat_eq_natCast]
    by_cases hl : s.length ≤ 40
    · have h40 : decide ((40 : Int) < (s.length : Int)) = false := decide_eq_false (by omega)
      simp only [h40]
      unfold lcM
      walk_at "ev"
      have ha : ∀ x ∈ (s.cps.toList.map sgD), ∀ h, E_is_any_atom_0 NF RD ((wipeD [some (D.str s), none] [1]).set 1 (some x)) h = some ((match x with | .str ⟨⟨[c]⟩⟩ => .bl (signOk c) | _ => .non), h) := by
        intro x hx h
        obtain ⟨c, _, rfl⟩ := List.mem_map.mp hx
        exact el_atom NF RD c _ h
      have hlen : s.cps.toList.length = s.length := by simp [Str.length]
      have key := lc_pure ha NF 0 [] (h ++ [O.lst []]) (D0 := h.length) (by rw [List.length_map, hlen]; omega) (by rw [List.length_map, hlen]; simp; omega) (get_new _ _)
      have e0 : (s.cps.toList.map fun c => D.str ⟨⟨[c]⟩⟩) = s.cps.toList.map sgD := rfl
      rw [e0, key]
      simp only [allD, List.drop_zero, List.nil_append, List.map_map]
      rw [get_set (get_new _ _)]
      have e1 : (s.cps.toList.map ((fun x => match x with | .str ⟨⟨[c]⟩⟩ => D.bl (signOk c) | _ => .non) ∘ sgD)) = s.cps.toList.map fun c => D.bl (signOk c) := rfl
      simp only [e1, bls_all]
      refine ⟨_, congrArg some (Prod.ext (congrArg D.bl ?_) rfl), (Pre.app h [.lst []]).set (Nat.le_refl _) _⟩
      unfold atomOk
      rw [decide_eq_true hl, Bool.true_and, List.all_map]
      rfl
    · have h40 : decide ((40 : Int) < (s.length : Int)) = true := decide_eq_true (by omega)
      simp only [h40]
      refine ⟨h, ?_, Pre.refl h⟩
      unfold atomOk
      rw [decide_eq_false hl]
      rfl
end

local macro_rules | `(tactic| walk_at "ev") => `(tactic| simp only [bodyM, startD, varM, cM, opM, testM, chainM, nilM, consM, tupM, lstM, DL.andM, DL.orM, DL.notM, truM, tandM, torM, tnotM, ifM, negM,
  addD, subD, mulD, fdivD, modD, powD, ltD, leD, gtD, geD, subsD, seqD, keyD, noM, partM, sliceD, slM, cbM, lenD, absD, intD, isiD, kdD, kb1, kb2, kb3, kb4, kb5, kb6, kb7, kb8, kb9, kb10, kb11, kb12, kb13, kb14, kb15, kb16, eq_ii, ne_ii,
  bmM, isDct, dnewM, nameG, nilG, consG, tupG, passM, brkM, cntM, exprM, retM, asgM, seqM, ifSM, neverM, augM, addID, parM, par3M, callM, truD, k_MOST_ARGUMENTS, k_MOST_SIGNS, k_TOO_GREAT, seqI, backM, backD, tuplD,
  List.map_cons, List.map_nil, List.length_cons, List.length_nil, List.cons_append, List.nil_append, List.append_nil, List.getElem?_cons_zero, List.getElem?_cons_succ, List.getElem?_nil, List.replicate, List.set_cons_zero, List.set_cons_succ,
  if_true, if_false, ↓reduceIte, Bool.false_eq_true, Bool.not_true, Bool.not_false, decide_true, decide_false, Nat.reduceSub, Nat.reduceAdd, Nat.reduceLeDiff, Nat.reduceEqDiff, Int.reduceLT, Int.reduceLE, Nat.zero_le, String.reduceBEq, beq_self_eq_true])
local macro_rules | `(tactic| walk_at "hp") => `(tactic| first | assumption | exact get_set (by assumption) | exact get_new _ _ | exact (Pre.app _ _).get (by assumption) | exact (Pre.app _ _).get (get_new _ _) | exact get_set (get_new _ _))
local macro_rules | `(tactic| walk_at "wp") => `(tactic| repeat' (first
  | with_reducible refine ev_seq ?_ | with_reducible refine ev_ret ?_ | with_reducible refine ev_asg ?_ | with_reducible refine ev_expr ?_ | with_reducible refine ev_ifS ?_ | with_reducible refine ev_pass ?_ | with_reducible refine ev_cnt ?_ | with_reducible refine ev_brk ?_
  | ((with_reducible apply ev_var); · exact rfl) | with_reducible refine ev_c ?_ | with_reducible refine ev_op ?_ | with_reducible refine ev_chain ?_ | with_reducible refine ev_neg ?_ | with_reducible refine ev_and ?_ | with_reducible refine ev_or ?_ | with_reducible refine ev_not ?_ | with_reducible refine ev_ifE ?_
  | with_reducible refine ev_test ?_ | with_reducible refine ev_tru ?_ | with_reducible refine ev_tand ?_ | with_reducible refine ev_tor ?_ | with_reducible refine ev_tnot ?_ | with_reducible refine ev_yes ?_ | with_reducible refine ev_nil ?_ | with_reducible refine ev_cons ?_
  | with_reducible refine ev_tup ?_ | with_reducible refine ev_lst ?_ | with_reducible refine ev_dnew ?_ | with_reducible refine ev_cb ?_ | with_reducible refine ev_bm ?_ | with_reducible refine ev_no ?_ | with_reducible refine ev_part ?_ | with_reducible refine ev_sl ?_ | with_reducible refine ev_back ?_ | with_reducible refine ev_call ?_
  | with_reducible refine ev_par ?_ | with_reducible refine ev_par3 ?_ | with_reducible refine ev_name ?_ | with_reducible refine ev_nilG ?_ | with_reducible refine ev_consG ?_ | ((with_reducible refine ev_tupG ?_ ?_); · exact rfl) | with_reducible refine ev_body ?_ | with_reducible refine ev_seqI ?_ | with_reducible refine ev_rngI ?_ | with_reducible refine ev_enuI ?_ | with_reducible refine ev_forS ?_
  | with_reducible refine sq_nx ?_ | with_reducible refine sq_rt ?_ | with_reducible refine sq_bk ?_ | with_reducible refine sq_ct ?_ | with_reducible refine bd_nx ?_ | with_reducible refine bd_rt ?_ | with_reducible refine lp_nx ?_ | with_reducible refine lp_ct ?_ | with_reducible refine lp_bk ?_ | with_reducible refine lp_rt ?_
  | with_reducible refine tr_bl ?_ | with_reducible refine tr_int ?_ | with_reducible refine tr_tup ?_ | with_reducible refine tr_non ?_ | with_reducible refine blk ?_ | with_reducible refine itk ?_ | with_reducible refine p2k ?_ | with_reducible refine p3k ?_ | refine m1k ?_
  | ((with_reducible apply kd_lst); · walk_at "hp") | ((with_reducible refine ln_k ?_ ?_); · first | assumption | exact Nat.le_of_ble_eq_true rfl) | ((with_reducible refine cl_k ?_ ?_); · exact rfl)
  | with_reducible refine br_tt ?_ | with_reducible refine br_ff ?_ | ((with_reducible refine br_t ?_ ?_); · assumption) | ((with_reducible refine br_f ?_ ?_); · assumption) | (refine br_tt ?_) | (refine br_ff ?_)
  | ((with_reducible apply lf_isi); (· exact rfl); · first | exact kb1 | exact kb2 | exact kb3 | exact kb4 | exact kb5 | exact kb6 | exact kb7 | exact kb8 | exact kb9 | exact kb10 | exact kb11 | exact kb12 | exact kb13 | exact kb14 | exact kb15 | exact kb16)
  | ((with_reducible apply ev_aug); · exact rfl) | with_reducible refine lf_addIDI ?_ | with_reducible refine lf_addI ?_ | with_reducible refine lf_subI ?_ | with_reducible refine lf_lt ?_ | with_reducible refine lf_le ?_ | with_reducible refine lf_gt ?_ | with_reducible refine lf_ge ?_ | with_reducible refine lf_eqI ?_ | with_reducible refine lf_neI ?_ | with_reducible refine lf_lenT ?_ | with_reducible refine lf_lenR ?_
  | ((with_reducible apply lf_lenL); · walk_at "hp") | ((with_reducible refine lf_lenS ?_ ?_); · assumption) | with_reducible refine lf_abs ?_ | with_reducible refine lf_intI ?_ | with_reducible refine lf_intB ?_ | with_reducible refine lf_max ?_ | with_reducible refine lf_min ?_ | with_reducible refine lf_tuplT ?_ | ((with_reducible apply lf_tuplL); · walk_at "hp")
  | ((with_reducible refine lf_mod ?_ ?_); · first | assumption | decide) | ((with_reducible refine lf_fdiv ?_ ?_); · first | assumption | decide +kernel) | ((with_reducible refine lf_pow ?_ ?_); · first | assumption | decide +kernel) | ((with_reducible refine lf_mulI ?_ ?_); · first | assumption | exact .inr (.inl ⟨by decide, by decide⟩) | exact .inl ⟨by decide, by decide⟩)
  | ((with_reducible apply lf_ix); · exact at0 _ _) | with_reducible refine lf_slT ?_ | with_reducible refine lf_backT0 ?_ | ((with_reducible apply lf_listL); · walk_at "hp") | with_reducible refine sq_fix ?_ | with_reducible refine sq_rol ?_ | ((with_reducible apply sq_obj); · walk_at "hp") | with_reducible refine sq_str ?_))
/-! ### lists that grow and shrink -/
theorem c_wait {i : Nat} {sg : Sg} {h : Hd} {w : Nat} {ws : List D} (e : sg[i]? = some (some (.at w))) (eh : h[w]? = some (.lst ws)) (ht : ∀ d ∈ ws, toP (rP 2 (h ++ [.lst []])) d = some (pd d) ∧ (pd d).canLay0 = true) :
    testM (opM neD (varM i) (lstM nilM)) sg h = some (!ws.isEmpty, h ++ [.lst []]) := by
  have h1 := ne_nil ((Pre.app h [.lst []]).get eh) (get_new h (.lst [])) ht
  unfold testM opM varM lstM nilM
  simp only [e, List.length_nil, Nat.zero_le, if_true, h1]
theorem while_nx {c : MT} {b : MS} {sg sg2 : Sg} {h h1 h2 : Hd} {k : Nat} (hc : c sg h = some (true, h1)) (hb : b sg h1 = some (.nx sg2, h2)) : whileM c b (k + 1) sg h = whileM c b k sg2 h2 := by
  rw [whileM]
  simp only [hc, hb]
theorem while_end {c : MT} {b : MS} {sg : Sg} {h h1 : Hd} {k : Nat} (hc : c sg h = some (false, h1)) : whileM c b (k + 1) sg h = some (.nx sg, h1) := by
  rw [whileM]
  simp only [hc]
theorem snoc_of {α : Type} {ws : List α} (h : ws ≠ []) : ∃ i d, ws = i ++ [d] := ⟨ws.dropLast, ws.getLast h, (List.dropLast_concat_getLast h).symm⟩
/-! ### arguments -/
def args : D → List D
  | .tup (_ :: as) => as
  | _ => []
theorem parts_args {d : D} (t : T d) : parts d = d :: partss (args d) := by
  cases t <;> simp [parts, partsT, args, partss]
theorem T.args {d : D} (t : T d) : ∀ a ∈ args d, T a := by
  cases t with
  | var n h => intro a ha; cases ha
  | int i h => intro a ha; cases ha
  | str s h => intro a ha; cases ha
  | cmp f a as hf hl ht => exact ht
theorem args_few {d : D} (t : T d) : (args d).length ≤ 8 := by
  cases t with
  | var n h => simp [K21.args]
  | int i h => simp [K21.args]
  | str s h => simp [K21.args]
  | cmp f a as hf hl ht => simp [K21.args]; omega
theorem atom_len {s : Str} (h : atomOk s = true) : s.length ≤ 40 := by
  unfold atomOk at h
  simpa using (Bool.and_eq_true_iff.mp h).1
theorem isCmp_cmp (f a : D) (as : List D) : isCmp (.tup (f :: a :: as)) = true := by
  simp only [isCmp, List.length_cons, decide_eq_true_eq]
  omega
theorem cut1 (f : D) (as : List D) : cutD (f :: as) (some 1) none = as := by
  have h1 : HT.sIx (f :: as).length 0 (some 1) = 1 := by
    unfold HT.sIx
    simp
  have h2 : HT.sIx (f :: as).length (f :: as).length none = as.length + 1 := by
    unfold HT.sIx
    simp
  unfold cutD
  rw [h1, h2]
  simp
section
variable (NF RD : Nat)
theorem b_is_term {x : D} {w : Nat} {p : Option D} {h : Hd} {ws : List D} {d : D} (hN : 50 ≤ NF) (e : h[w]? = some (.lst (ws ++ [d]))) (t : T d) (hl : ws.length + 8 ≤ LN) :
    Rt (B_is_term_1 NF RD [some x, some (.at w), p] h) (.nx [some x, some (.at w), some d]) (Pre (h.set w (.lst (ws ++ args d)))) := by
  refine rt_of ?_
  have e2 := get_set (p := .lst ws) e
  unfold B_is_term_1
  walk_at "wp"
  refine lf_pop e ?_
  walk_at "wp"
  refine ev_eq (r_is_compound NF RD d _ t.flat) ?_
  cases t with
  | var n hn =>
    walk_at "wp"
    refine ev_eq (r_is_variable NF RD _ (T.var n hn)) ?_
    walk_at "wp"
    refine br_f (by simp [isVar, hn]) ?_
    walk_at "wp"
    exact ⟨rfl, by simp [args]; exact Pre.refl _⟩
  | int i hi =>
    walk_at "wp"
    refine ev_eq (r_is_variable NF RD _ (T.int i hi)) ?_
    walk_at "wp"
    refine ev_eq (r_is_any_number NF RD _ _ rfl) ?_
    walk_at "wp"
    refine br_f (by simp [hi]) ?_
    walk_at "wp"
    exact ⟨rfl, by simp [args]; exact Pre.refl _⟩
  | str s hs =>
    walk_at "wp"
    refine ev_eq (r_is_variable NF RD _ (T.str s hs)) ?_
    walk_at "wp"
    refine ev_eq (r_is_any_number NF RD _ _ rfl) ?_
    walk_at "wp"
    refine ev_of (r_is_any_atom NF RD s _ hN (Nat.le_trans (atom_len hs) (by decide))) fun h' p => ?_
    walk_at "wp"
    refine br_f (by simp [hs]) ?_
    walk_at "wp"
    exact ⟨rfl, by simp [args]; exact p⟩
  | cmp f a as hf hn ht =>
    refine tr_bl (br_t (isCmp_cmp _ _ _) ?_)
    walk_at "wp"
    refine br_f (by simp only [List.length_cons, decide_eq_false_iff_not]; omega) ?_
    walk_at "wp"
    refine ev_of (r_is_any_atom NF RD f _ hN (Nat.le_trans (atom_len hf) (by decide))) fun h' p => ?_
    walk_at "wp"
    refine br_f (by simp [hf]) ?_
    have e3 := p.get e2
    walk_at "wp"
    refine lf_extendT e3 ?_ ?_
    · rw [cut1]; simp only [List.length_cons]; omega
    rw [cut1]
    refine ⟨rfl, ?_⟩
    obtain ⟨g, rfl⟩ := p
    rw [List.set_append_left _ _ (by simpa using lt_of e), List.set_set]
    exact Pre.app _ _
theorem r_is_term {d : D} {h : Hd} (t : T d) (hN : 50 ≤ NF) (hl : (parts d).length < NF) (hl2 : (parts d).length + 16 ≤ LN) : Rt (m_is_term NF RD [d] h) (.bl true) (Pre h) := by
  refine rt_of ?_
  unfold m_is_term
  walk_at "wp"
  refine ev_while (fun n sg h1 => ∃ ws p, sg = [some d, some (.at h.length), p] ∧ n = (partss ws).length ∧ (∀ x ∈ ws, T x) ∧ h1[h.length]? = some (.lst ws) ∧ Pre h h1 ∧ n ≤ (parts d).length) ?_ NF (parts d).length _ _ ⟨[d], none, rfl, by simp [partss], by simpa using t, get_new _ _, Pre.app _ _, Nat.le_refl _⟩ hl
  rintro n sg h1 ⟨ws, p, rfl, rfl, ht, e, hp, hn⟩
  unfold C_is_term_0
  refine ev_eq (c_wait rfl e (T.datL ht)) ?_
  cases hw : ws.isEmpty with
  | true =>
    walk_at "wp"
    exact ⟨rfl, hp.app' _⟩
  | false =>
    obtain ⟨i, y, rfl⟩ := snoc_of (ws := ws) (by rintro rfl; cases hw)
    have e2 := (Pre.app h1 [.lst []]).get e
    have hl3 := len_partss (i ++ [y])
    have ty := ht y (by simp)
    refine br_tt ?_
    refine ev_of (b_is_term NF RD hN e2 ty (by simp at hl3; omega)) fun h' p' => ?_
    refine lp_nx ⟨_, ?_, i ++ args y, _, rfl, rfl, ?_, p'.get (get_set e2), ((hp.app' _).set (Nat.le_refl _) _).trans p', ?_⟩
    · rw [partss_app, partss_app]
      simp only [partss, parts_args ty, List.length_append, List.length_cons, List.append_nil]
      omega
    · intro z hz
      rcases List.mem_append.mp hz with q | q
      · exact ht z (by simp [q])
      · exact ty.args z q
    · rw [partss_app] at hn ⊢
      simp only [partss, parts_args ty, List.length_append, List.length_cons, List.append_nil] at hn
      simp only [List.length_append]
      omega
end

theorem LN_eq : LN = 16777216 := rfl
/-! ### texts -/
section
variable {h : Hd} {Q : D → Hd → Prop} {a b : Str} {x : D} {xs : List D} {neg : Bool}
theorem eq_ss (ha : PyData.strOk a = true) (hb : PyData.strOk b = true) : eqD (.str a) (.str b) h = some (.bl (decide (a = b)), h) := by
  unfold eqD datD
  simp only [toP, PyData.canLay0, ha, hb, PyData.depth, PyData.eqv, true_and, Nat.min_self, Nat.zero_le, if_true]
  rw [Bool.beq_eq_decide_eq]
theorem lf_eqT (e : (PyData.strOk a && PyData.strOk b && decide (a = b)) = true) (q : Q (.bl true) h) : Ev (eqD (.str a) (.str b) h) Q := by
  simp only [Bool.and_eq_true] at e
  exact ⟨_, _, eq_ss e.1.1 e.1.2, by rw [e.2]; exact q⟩
theorem lf_eqF (e : (PyData.strOk a && PyData.strOk b && !decide (a = b)) = true) (q : Q (.bl false) h) : Ev (eqD (.str a) (.str b) h) Q := by
  simp only [Bool.and_eq_true, Bool.not_eq_true'] at e
  exact ⟨_, _, eq_ss e.1.1 e.1.2, by rw [e.2]; exact q⟩
def inC (neg : Bool) (x : D) (xs : List D) : Option Bool := match flD x, flDs xs with
  | some v, some vs => some (neg ^^ inV v vs)
  | _, _ => none
theorem lf_inC {b : Bool} (e : inC neg x xs = some b) (q : Q (.bl b) h) : Ev (inD neg x (.tup xs) h) Q := by
  unfold inC at e
  refine ⟨_, _, ?_, q⟩
  unfold inD
  try simp only [seqD]
  split at e
  · rename_i v vs e1 e2
    try simp only [e1, e2]
    cases e
    rfl
  · cases e
theorem lf_inT (e : inC neg x xs = some true) (q : Q (.bl true) h) : Ev (inD neg x (.tup xs) h) Q := lf_inC e q
theorem lf_inF (e : inC neg x xs = some false) (q : Q (.bl false) h) : Ev (inD neg x (.tup xs) h) Q := lf_inC e q
theorem lf_isT (e : isNonD x = true) (q : Q (.bl true) h) : Ev (isD x .non h) Q := ⟨_, _, by simp only [isD, e], q⟩
theorem lf_isF (e : isNonD x = false) (q : Q (.bl false) h) : Ev (isD x .non h) Q := ⟨_, _, by simp only [isD, e], q⟩
theorem lf_isntT (e : isNonD x = false) (q : Q (.bl true) h) : Ev (isntD x .non h) Q := ⟨_, _, by simp only [isntD, e]; rfl, q⟩
theorem lf_isntF (e : isNonD x = true) (q : Q (.bl false) h) : Ev (isntD x .non h) Q := ⟨_, _, by simp only [isntD, e]; rfl, q⟩
theorem at1 {α : Type} (x y : α) (xs : List α) : L2.atI (x :: y :: xs) 1 = some y := by
  unfold L2.atI L2.ixN
  have : (1 : Int) < ((x :: y :: xs).length : Int) := by simp only [List.length_cons]; omega
  rw [if_pos (by decide), if_pos this]
  rfl
theorem at2 {α : Type} (x y z : α) (xs : List α) : L2.atI (x :: y :: z :: xs) 2 = some z := by
  unfold L2.atI L2.ixN
  have : (2 : Int) < ((x :: y :: z :: xs).length : Int) := by simp only [List.length_cons]; omega
  rw [if_pos (by decide), if_pos this]
  rfl
end

local macro_rules | `(tactic| walk_at "hp") => `(tactic| first | assumption | exact get_set (by assumption) | exact get_new _ _ | exact (Pre.app _ _).get (by assumption) | exact (Pre.app _ _).get (get_new _ _) | exact get_set (get_new _ _))
local macro_rules | `(tactic| walk_at "w1") => `(tactic| (with_reducible refine sq_str ?_))
local macro_rules | `(tactic| walk_at "w1") => `(tactic| (((with_reducible apply sq_obj); · walk_at "hp")))
local macro_rules | `(tactic| walk_at "w1") => `(tactic| (with_reducible refine sq_rol ?_))
local macro_rules | `(tactic| walk_at "w1") => `(tactic| (with_reducible refine sq_fix ?_))
local macro_rules | `(tactic| walk_at "w1") => `(tactic| (((with_reducible apply lf_listL); · walk_at "hp")))
local macro_rules | `(tactic| walk_at "w1") => `(tactic| (with_reducible refine lf_backT0 ?_))
local macro_rules | `(tactic| walk_at "w1") => `(tactic| (with_reducible refine lf_slT ?_))
local macro_rules | `(tactic| walk_at "w1") => `(tactic| (((with_reducible apply lf_ix); · exact at2 _ _ _ _)))
local macro_rules | `(tactic| walk_at "w1") => `(tactic| (((with_reducible apply lf_ix); · exact at1 _ _ _)))
local macro_rules | `(tactic| walk_at "w1") => `(tactic| (((with_reducible apply lf_ix); · exact at0 _ _)))
local macro_rules | `(tactic| walk_at "w1") => `(tactic| (((with_reducible refine lf_isntF ?_ ?_); · exact rfl)))
local macro_rules | `(tactic| walk_at "w1") => `(tactic| (((with_reducible refine lf_isntT ?_ ?_); · exact rfl)))
local macro_rules | `(tactic| walk_at "w1") => `(tactic| (((with_reducible refine lf_isF ?_ ?_); · exact rfl)))
local macro_rules | `(tactic| walk_at "w1") => `(tactic| (((with_reducible refine lf_isT ?_ ?_); · exact rfl)))
local macro_rules | `(tactic| walk_at "w1") => `(tactic| (with_reducible refine ky_str ?_))
local macro_rules | `(tactic| walk_at "w1") => `(tactic| (with_reducible refine ky_int ?_))
local macro_rules | `(tactic| walk_at "w1") => `(tactic| (with_reducible refine ev_pnil ?_))
local macro_rules | `(tactic| walk_at "w1") => `(tactic| (with_reducible refine ev_pcons ?_))
local macro_rules | `(tactic| walk_at "w1") => `(tactic| (with_reducible refine ev_disp ?_))
local macro_rules | `(tactic| walk_at "w1") => `(tactic| (with_reducible refine rv_tup ?_))
local macro_rules | `(tactic| walk_at "w1") => `(tactic| (with_reducible refine ev_revI ?_))
local macro_rules | `(tactic| walk_at "w1") => `(tactic| (with_reducible refine ev_bits ?_))
local macro_rules | `(tactic| walk_at "w1") => `(tactic| (((with_reducible refine lf_fdivZp ?_ ?_); · assumption)))
local macro_rules | `(tactic| walk_at "w1") => `(tactic| (((with_reducible refine lf_modZp ?_ ?_); · assumption)))
local macro_rules | `(tactic| walk_at "w1") => `(tactic| (with_reducible refine lf_bit ?_))
local macro_rules | `(tactic| walk_at "w1") => `(tactic| (((with_reducible refine lf_inF ?_ ?_); · decide +kernel)))
local macro_rules | `(tactic| walk_at "w1") => `(tactic| (((with_reducible refine lf_inT ?_ ?_); · decide +kernel)))
local macro_rules | `(tactic| walk_at "w1") => `(tactic| (((with_reducible refine lf_eqF ?_ ?_); · decide +kernel)))
local macro_rules | `(tactic| walk_at "w1") => `(tactic| (((with_reducible refine lf_eqT ?_ ?_); · decide +kernel)))
local macro_rules | `(tactic| walk_at "w1") => `(tactic| (((with_reducible refine lf_mulI ?_ ?_); · first | assumption | exact .inr (.inl ⟨by decide, by decide⟩) | exact .inl ⟨by decide, by decide⟩)))
local macro_rules | `(tactic| walk_at "w1") => `(tactic| (((with_reducible refine lf_pow ?_ ?_); · first | assumption | decide +kernel)))
local macro_rules | `(tactic| walk_at "w1") => `(tactic| (((with_reducible refine lf_fdiv ?_ ?_); · first | assumption | decide +kernel)))
local macro_rules | `(tactic| walk_at "w1") => `(tactic| (((with_reducible refine lf_mod ?_ ?_); · first | assumption | decide)))
local macro_rules | `(tactic| walk_at "w1") => `(tactic| (((with_reducible apply lf_tuplL); · walk_at "hp")))
local macro_rules | `(tactic| walk_at "w1") => `(tactic| (with_reducible refine lf_tuplT ?_))
local macro_rules | `(tactic| walk_at "w1") => `(tactic| (with_reducible refine lf_min ?_))
local macro_rules | `(tactic| walk_at "w1") => `(tactic| (with_reducible refine lf_max ?_))
local macro_rules | `(tactic| walk_at "w1") => `(tactic| (with_reducible refine lf_intB ?_))
local macro_rules | `(tactic| walk_at "w1") => `(tactic| (with_reducible refine lf_intI ?_))
local macro_rules | `(tactic| walk_at "w1") => `(tactic| (with_reducible refine lf_abs ?_))
local macro_rules | `(tactic| walk_at "w1") => `(tactic| (((with_reducible refine lf_lenS ?_ ?_); · assumption)))
local macro_rules | `(tactic| walk_at "w1") => `(tactic| (((with_reducible apply lf_lenL); · walk_at "hp")))
local macro_rules | `(tactic| walk_at "w1") => `(tactic| (with_reducible refine lf_lenR ?_))
local macro_rules | `(tactic| walk_at "w1") => `(tactic| (with_reducible refine lf_lenT ?_))
local macro_rules | `(tactic| walk_at "w1") => `(tactic| (with_reducible refine lf_neI ?_))
local macro_rules | `(tactic| walk_at "w1") => `(tactic| (with_reducible refine lf_eqI ?_))
local macro_rules | `(tactic| walk_at "w1") => `(tactic| (with_reducible refine lf_ge ?_))
local macro_rules | `(tactic| walk_at "w1") => `(tactic| (with_reducible refine lf_gt ?_))
local macro_rules | `(tactic| walk_at "w1") => `(tactic| (with_reducible refine lf_le ?_))
local macro_rules | `(tactic| walk_at "w1") => `(tactic| (with_reducible refine lf_lt ?_))
local macro_rules | `(tactic| walk_at "w1") => `(tactic| (with_reducible refine lf_subI ?_))
local macro_rules | `(tactic| walk_at "w1") => `(tactic| (with_reducible refine lf_addI ?_))
local macro_rules | `(tactic| walk_at "w1") => `(tactic| (with_reducible refine lf_addIDI ?_))
local macro_rules | `(tactic| walk_at "w1") => `(tactic| (((with_reducible apply ev_aug); · exact rfl)))
local macro_rules | `(tactic| walk_at "w1") => `(tactic| (((with_reducible apply lf_isi); (· exact rfl); · first | exact kb1 | exact kb2 | exact kb3 | exact kb4 | exact kb5 | exact kb6 | exact kb7 | exact kb8 | exact kb9 | exact kb10 | exact kb11 | exact kb12 | exact kb13 | exact kb14 | exact kb15 | exact kb16)))
local macro_rules | `(tactic| walk_at "w1") => `(tactic| (refine br_ff ?_))
local macro_rules | `(tactic| walk_at "w1") => `(tactic| (refine br_tt ?_))
local macro_rules | `(tactic| walk_at "w1") => `(tactic| (((with_reducible refine br_f ?_ ?_); · assumption)))
local macro_rules | `(tactic| walk_at "w1") => `(tactic| (((with_reducible refine br_t ?_ ?_); · assumption)))
local macro_rules | `(tactic| walk_at "w1") => `(tactic| (with_reducible refine br_ff ?_))
local macro_rules | `(tactic| walk_at "w1") => `(tactic| (with_reducible refine br_tt ?_))
local macro_rules | `(tactic| walk_at "w1") => `(tactic| (((with_reducible refine cl_k ?_ ?_); · exact rfl)))
local macro_rules | `(tactic| walk_at "w1") => `(tactic| (((with_reducible refine ln_k ?_ ?_); · first | assumption | exact Nat.le_of_ble_eq_true rfl)))
local macro_rules | `(tactic| walk_at "w1") => `(tactic| (((with_reducible apply kd_lst); · walk_at "hp")))
local macro_rules | `(tactic| walk_at "w1") => `(tactic| (refine m1k ?_))
local macro_rules | `(tactic| walk_at "w1") => `(tactic| (with_reducible refine p3k ?_))
local macro_rules | `(tactic| walk_at "w1") => `(tactic| (with_reducible refine p2k ?_))
local macro_rules | `(tactic| walk_at "w1") => `(tactic| (with_reducible refine itk ?_))
local macro_rules | `(tactic| walk_at "w1") => `(tactic| (with_reducible refine blk ?_))
local macro_rules | `(tactic| walk_at "w1") => `(tactic| (with_reducible refine tr_non ?_))
local macro_rules | `(tactic| walk_at "w1") => `(tactic| (with_reducible refine tr_tup ?_))
local macro_rules | `(tactic| walk_at "w1") => `(tactic| (with_reducible refine tr_int ?_))
local macro_rules | `(tactic| walk_at "w1") => `(tactic| (with_reducible refine tr_bl ?_))
local macro_rules | `(tactic| walk_at "w1") => `(tactic| (with_reducible refine lp_rt ?_))
local macro_rules | `(tactic| walk_at "w1") => `(tactic| (with_reducible refine lp_bk ?_))
local macro_rules | `(tactic| walk_at "w1") => `(tactic| (with_reducible refine lp_ct ?_))
local macro_rules | `(tactic| walk_at "w1") => `(tactic| (with_reducible refine lp_nx ?_))
local macro_rules | `(tactic| walk_at "w1") => `(tactic| (with_reducible refine bd_rt ?_))
local macro_rules | `(tactic| walk_at "w1") => `(tactic| (with_reducible refine bd_nx ?_))
local macro_rules | `(tactic| walk_at "w1") => `(tactic| (with_reducible refine sq_ct ?_))
local macro_rules | `(tactic| walk_at "w1") => `(tactic| (with_reducible refine sq_bk ?_))
local macro_rules | `(tactic| walk_at "w1") => `(tactic| (with_reducible refine sq_rt ?_))
local macro_rules | `(tactic| walk_at "w1") => `(tactic| (with_reducible refine ev_forS ?_))
local macro_rules | `(tactic| walk_at "w1") => `(tactic| (with_reducible refine ev_enuI ?_))
local macro_rules | `(tactic| walk_at "w1") => `(tactic| (with_reducible refine ev_rngI ?_))
local macro_rules | `(tactic| walk_at "w1") => `(tactic| (with_reducible refine ev_seqI ?_))
local macro_rules | `(tactic| walk_at "w1") => `(tactic| (with_reducible refine ev_body ?_))
local macro_rules | `(tactic| walk_at "w1") => `(tactic| (((with_reducible refine ev_uplT ?_ ?_); · exact rfl)))
local macro_rules | `(tactic| walk_at "w1") => `(tactic| (((with_reducible refine ev_tupG ?_ ?_); · exact rfl)))
local macro_rules | `(tactic| walk_at "w1") => `(tactic| (with_reducible refine ev_consG ?_))
local macro_rules | `(tactic| walk_at "w1") => `(tactic| (with_reducible refine ev_nilG ?_))
local macro_rules | `(tactic| walk_at "w1") => `(tactic| (with_reducible refine ev_name ?_))
local macro_rules | `(tactic| walk_at "w1") => `(tactic| (with_reducible refine ev_par3 ?_))
local macro_rules | `(tactic| walk_at "w1") => `(tactic| (with_reducible refine ev_par ?_))
local macro_rules | `(tactic| walk_at "w1") => `(tactic| (with_reducible refine ev_call ?_))
local macro_rules | `(tactic| walk_at "w1") => `(tactic| (with_reducible refine ev_back ?_))
local macro_rules | `(tactic| walk_at "w1") => `(tactic| (with_reducible refine ev_sl ?_))
local macro_rules | `(tactic| walk_at "w1") => `(tactic| (with_reducible refine ev_part ?_))
local macro_rules | `(tactic| walk_at "w1") => `(tactic| (with_reducible refine ev_no ?_))
local macro_rules | `(tactic| walk_at "w1") => `(tactic| (with_reducible refine ev_bm ?_))
local macro_rules | `(tactic| walk_at "w1") => `(tactic| (with_reducible refine ev_cb ?_))
local macro_rules | `(tactic| walk_at "w1") => `(tactic| (with_reducible refine ev_dnew ?_))
local macro_rules | `(tactic| walk_at "w1") => `(tactic| (with_reducible refine ev_lst ?_))
local macro_rules | `(tactic| walk_at "w1") => `(tactic| (with_reducible refine ev_tup ?_))
local macro_rules | `(tactic| walk_at "w1") => `(tactic| (with_reducible refine ev_cons ?_))
local macro_rules | `(tactic| walk_at "w1") => `(tactic| (with_reducible refine ev_nil ?_))
local macro_rules | `(tactic| walk_at "w1") => `(tactic| (with_reducible refine ev_yes ?_))
local macro_rules | `(tactic| walk_at "w1") => `(tactic| (with_reducible refine ev_tnot ?_))
local macro_rules | `(tactic| walk_at "w1") => `(tactic| (with_reducible refine ev_tor ?_))
local macro_rules | `(tactic| walk_at "w1") => `(tactic| (with_reducible refine ev_tand ?_))
local macro_rules | `(tactic| walk_at "w1") => `(tactic| (with_reducible refine ev_tru ?_))
local macro_rules | `(tactic| walk_at "w1") => `(tactic| (with_reducible refine ev_test ?_))
local macro_rules | `(tactic| walk_at "w1") => `(tactic| (with_reducible refine ev_ifE ?_))
local macro_rules | `(tactic| walk_at "w1") => `(tactic| (with_reducible refine ev_not ?_))
local macro_rules | `(tactic| walk_at "w1") => `(tactic| (with_reducible refine ev_or ?_))
local macro_rules | `(tactic| walk_at "w1") => `(tactic| (with_reducible refine ev_and ?_))
local macro_rules | `(tactic| walk_at "w1") => `(tactic| (with_reducible refine ev_neg ?_))
local macro_rules | `(tactic| walk_at "w1") => `(tactic| (with_reducible refine ev_chain ?_))
local macro_rules | `(tactic| walk_at "w1") => `(tactic| (with_reducible refine ev_op ?_))
local macro_rules | `(tactic| walk_at "w1") => `(tactic| (with_reducible refine ev_c ?_))
local macro_rules | `(tactic| walk_at "w1") => `(tactic| (((with_reducible apply ev_var); · exact rfl)))
local macro_rules | `(tactic| walk_at "w1") => `(tactic| (with_reducible refine ev_brk ?_))
local macro_rules | `(tactic| walk_at "w1") => `(tactic| (with_reducible refine ev_cnt ?_))
local macro_rules | `(tactic| walk_at "w1") => `(tactic| (with_reducible refine ev_pass ?_))
local macro_rules | `(tactic| walk_at "w1") => `(tactic| (with_reducible refine ev_ifS ?_))
local macro_rules | `(tactic| walk_at "w1") => `(tactic| (with_reducible refine ev_expr ?_))
local macro_rules | `(tactic| walk_at "w1") => `(tactic| (with_reducible refine ev_asg ?_))
local macro_rules | `(tactic| walk_at "w1") => `(tactic| (with_reducible refine ev_ret ?_))
local macro_rules | `(tactic| walk_at "w1") => `(tactic| (with_reducible refine ev_seq ?_))
local macro_rules | `(tactic| walk_at "wq") => `(tactic| repeat' (first | walk_at "w1" | fail))
local macro_rules | `(tactic| walk_at "wp") => `(tactic| repeat' (first | walk_at "w1" | with_reducible refine sq_nx ?_ | fail))

theorem Rt.ev {α : Type} {r : Option (α × Hd)} {d : α} {P : Hd → Prop} (a : Rt r d P) : Ev r fun d' h' => d' = d ∧ P h' := by
  obtain ⟨h', e, p⟩ := a
  exact ⟨d, h', e, rfl, p⟩
/-- what a term must be for the loops to end -/
structure Sz (NF : Nat) (d : D) : Prop where
  t : T d
  f : (parts d).length < NF
  l : (parts d).length + 16 ≤ LN
section
variable {NF RD : Nat}
theorem backs1 (f : D) (as : List D) : backs (f :: as) (some 0) = as.reverse := rfl
theorem isCmp_args {d : D} (t : T d) (e : isCmp d = true) : ∃ f a as, d = .tup (.str f :: a :: as) := by
  cases t with
  | var n hn => simp [isCmp] at e
  | int i hi => simp [isCmp] at e
  | str s hs => simp [isCmp] at e
  | cmp f a as _ _ _ => exact ⟨f, a, as, rfl⟩
theorem noCmp_args {d : D} (t : T d) (e : isCmp d = false) : args d = [] := by
  cases t with
  | var n hn => rfl
  | int i hi => rfl
  | str s hs => rfl
  | cmp f a as _ _ _ => rw [isCmp_cmp] at e; cases e
theorem r_parts {d : D} {h : Hd} (z : Sz NF d) : Rt (m_parts_of NF RD [d] h) (.at h.length) (fun h' => Pre h h' ∧ h'[h.length]? = some (.lst (parts d))) := by
  refine rt_of ?_
  unfold m_parts_of
  walk_at "wp"
  have hl1 : (h ++ [O.lst []]).length = h.length + 1 := by simp
  rw [hl1]
  refine ev_while (fun n sg h1 => ∃ fs ws p, sg = [some d, some (.at h.length), some (.at (h.length + 1)), p] ∧ n = (partss ws).length ∧ (∀ x ∈ ws, T x) ∧ h1[h.length]? = some (.lst fs) ∧ h1[h.length + 1]? = some (.lst ws) ∧ Pre h h1 ∧ fs ++ partss ws.reverse = parts d) ?_ NF (parts d).length _ _ ⟨[], [d], none, rfl, by simp [partss], by simpa using z.t, by simp, by simp, by simp [Pre], by simp [partss]⟩ z.f
  rintro n sg h1 ⟨fs, ws, p, rfl, rfl, ht, e1, e2, hp, hn⟩
  unfold C_parts_of_0
  refine ev_eq (c_wait rfl e2 (T.datL ht)) ?_
  cases hw : ws.isEmpty with
  | true =>
    have : ws = [] := by simpa using hw
    subst this
    simp only [List.reverse_nil, partss, List.append_nil] at hn
    subst hn
    walk_at "wp"
    exact ⟨rfl, hp.app' _, (Pre.app _ _).get e1⟩
  | false =>
    obtain ⟨i, y, rfl⟩ := snoc_of (ws := ws) (by rintro rfl; cases hw)
    have a1 := (Pre.app h1 [.lst []]).get e1
    have a2 := (Pre.app h1 [.lst []]).get e2
    have hp1 := hp.app' [.lst []]
    have ty := ht y (by simp)
    have hlen : fs.length + (1 + (partss (args y)).length + (partss i.reverse).length) = (parts d).length := by
      rw [← hn]
      simp only [List.reverse_append, List.reverse_cons, List.reverse_nil, List.nil_append, List.cons_append, List.length_append, partss, parts_args ty, List.length_cons]
      omega
    have hz := z.l
    have hai := len_partss i.reverse
    have hay := len_partss (args y)
    rw [List.length_reverse] at hai
    generalize hg : h1 ++ [O.lst []] = g at a1 a2 hp1
    have hne : h.length ≠ h.length + 1 := by omega
    have b1 : (g.set (h.length + 1) (.lst i))[h.length]? = some (.lst fs) := by rw [get_ne (by omega)]; exact a1
    have b2 := get_set (p := .lst i) a2
    have c1 := get_set (p := .lst (fs ++ [y])) b1
    have c2 : ((g.set (h.length + 1) (.lst i)).set h.length (.lst (fs ++ [y])))[h.length + 1]? = some (.lst i) := by rw [get_ne (by omega)]; exact b2
    have pc : Pre h ((g.set (h.length + 1) (.lst i)).set h.length (.lst (fs ++ [y]))) := (hp1.set (by omega) _).set (by omega) _
    unfold B_parts_of_1
    walk_at "wp"
    refine lf_pop a2 ?_
    walk_at "wp"
    refine lf_append b1 (by omega) ?_
    walk_at "wp"
    refine ev_eq (r_is_compound NF RD y _ ty.flat) ?_
    have hm : (partss (i ++ (args y).reverse)).length < (partss (i ++ [y])).length := by
      have h1 : (partss (args y).reverse).length = (partss (args y)).length := len_rev _
      simp only [partss_app, partss, parts_args ty, List.length_append, List.length_cons, List.append_nil, h1]
      omega
    have hf : (fs ++ [y]) ++ partss (i ++ (args y).reverse).reverse = parts d := by
      rw [← hn]
      simp only [List.reverse_append, List.reverse_reverse, partss_app, List.reverse_cons, List.reverse_nil, List.nil_append, List.cons_append, partss, parts_args ty, List.append_assoc]
    have htt : ∀ x ∈ i ++ (args y).reverse, T x := by
      intro x hx
      rcases List.mem_append.mp hx with q | q
      · exact ht x (by simp [q])
      · exact ty.args x (by simpa using q)
    refine tr_bl (br (fun c => ?_) fun c => ?_)
    · obtain ⟨f, a, as, rfl⟩ := isCmp_args ty c
      walk_at "wp"
      refine lf_extendT c2 ?_ ?_
      · rw [backs1, List.length_reverse]
        simp only [args] at hay hlen
        omega
      rw [backs1]
      exact ⟨_, hm, _, _, _, rfl, rfl, htt, by rw [get_ne (by omega)]; exact c1, get_set c2, pc.set (by omega) _, hf⟩
    · walk_at "wp"
      have hna := noCmp_args ty c
      rw [hna] at hm hf htt
      simp only [List.reverse_nil, List.append_nil] at hm hf htt
      exact ⟨_, hm, _, _, _, rfl, rfl, htt, c1, c2, pc, hf⟩
where
  len_rev : ∀ l : List D, (partss l.reverse).length = (partss l).length
    | [] => rfl
    | a :: l => by
      rw [List.reverse_cons, partss_app]
      simp only [partss, List.length_append, len_rev l, List.append_nil]
      omega
end


mutual
def dep : D → Nat
  | .tup xs => 1 + depT xs
  | _ => 1
def depT : List D → Nat
  | [] => 0
  | _ :: ds => deps ds
def deps : List D → Nat
  | [] => 0
  | d :: ds => max (dep d) (deps ds)
end
theorem dep_args (d : D) : dep d = 1 + deps (args d) := by
  unfold dep
  cases d with
  | tup xs => cases xs <;> simp [args, depT, deps]
  | _ => simp [args, deps]
theorem deps_app : ∀ as bs : List D, deps (as ++ bs) = max (deps as) (deps bs)
  | [], bs => by simp [deps]
  | a :: as, bs => by
    rw [List.cons_append, deps, deps, deps_app as bs]
    omega
theorem deps_flat : ∀ ws : List D, deps ws = (if ws = [] then 0 else 1) + deps (ws.flatMap args)
  | [] => by simp [deps]
  | w :: ws => by
    have ih := deps_flat ws
    rw [List.flatMap_cons, deps_app, deps, dep_args, if_neg (by simp)]
    cases ws with
    | nil => simp [deps]; 
    | cons v vs =>
      rw [if_neg (by simp)] at ih
      omega
theorem partss_flat : ∀ {ws : List D}, (∀ x ∈ ws, T x) → (partss ws).length = ws.length + (partss (ws.flatMap args)).length
  | [], _ => by simp [partss]
  | w :: ws, ht => by
    have ih := partss_flat (ws := ws) fun x hx => ht x (List.mem_cons_of_mem _ hx)
    rw [List.flatMap_cons, partss_app]
    simp only [partss, parts_args (ht w List.mem_cons_self), List.length_append, List.length_cons]
    omega
theorem partss_mem {x : D} : ∀ {ds : List D}, x ∈ partss ds → ∃ d ∈ ds, x ∈ parts d
  | [], h => by simp [partss] at h
  | d :: ds, h => by
    rw [partss, List.mem_append] at h
    rcases h with h | h
    · exact ⟨d, by simp, h⟩
    · obtain ⟨d', hd, hx⟩ := partss_mem h
      exact ⟨d', by simp [hd], hx⟩
/-! ### the numbers of the variables -/
def addN (ns : List Int) (n : Int) : List Int := if n ∈ ns then ns else ns ++ [n]
def stepN (ns : List Int) : D → List Int
  | .tup [.int n] => addN ns n
  | _ => ns
def nums (ds : List D) : List Int := ds.foldl stepN []
def kvT (ns : List Int) : List (Key × D) := ns.map fun n => (.inl n, .bl true)
theorem kvT_put (ns : List Int) (n : Int) : putD (kvT ns) (.inl n) (.bl true) = kvT (addN ns n) := by
  unfold putD addN kvT
  by_cases hm : n ∈ ns
  · rw [if_pos (by rw [List.any_eq_true]; exact ⟨(.inl n, .bl true), List.mem_map.mpr ⟨n, hm, rfl⟩, by simp⟩), if_pos hm, List.map_map]
    apply List.map_congr_left
    intro a _
    simp only [Function.comp_apply]
    split
    · rename_i e
      cases e
      rfl
    · rfl
  · rw [if_neg ?_, if_neg hm, List.map_append]
    · rfl
    · rw [List.any_eq_true]
      rintro ⟨x, hx, e⟩
      obtain ⟨m, hm2, rfl⟩ := List.mem_map.mp hx
      have : m = n := by simpa using e
      exact hm (this ▸ hm2)
theorem addN_len (ns : List Int) (n : Int) : (addN ns n).length ≤ ns.length + 1 := by
  unfold addN
  split <;> simp
theorem T.step {d : D} (t : T d) (ns : List Int) : (isVar d = true ∧ ∃ n, d = .tup [.int n] ∧ stepN ns d = addN ns n) ∨ (isVar d = false ∧ stepN ns d = ns) := by
  cases t with
  | var n hn => exact .inl ⟨by simp [isVar, hn], n, rfl, rfl⟩
  | int i hi => exact .inr ⟨rfl, rfl⟩
  | str s hs => exact .inr ⟨rfl, rfl⟩
  | cmp f a as _ _ _ => exact .inr ⟨rfl, rfl⟩
theorem foldN_len : ∀ (ds : List D) (ns : List Int), (∀ d ∈ ds, T d) → (ds.foldl stepN ns).length ≤ ns.length + ds.length
  | [], ns, _ => by simp
  | d :: ds, ns, ht => by
    have ih := foldN_len ds (stepN ns d) fun x hx => ht x (List.mem_cons_of_mem _ hx)
    rw [List.foldl_cons]
    rcases (ht d List.mem_cons_self).step ns with ⟨_, n, _, e⟩ | ⟨_, e⟩
    · rw [e] at ih ⊢
      have := addN_len ns n
      simp only [List.length_cons]
      omega
    · rw [e] at ih ⊢
      simp only [List.length_cons]
      omega
theorem parts_T {d : D} (t : T d) : ∀ x ∈ parts d, T x := by
  induction t with
  | var n h => intro x hx; simp [parts, partsT, partss] at hx; subst hx; exact .var n h
  | int i h => intro x hx; simp [parts] at hx; subst hx; exact .int i h
  | str s h => intro x hx; simp [parts] at hx; subst hx; exact .str s h
  | cmp f a as hf hl ht ih =>
    intro x hx
    rw [parts_args (.cmp f a as hf hl ht)] at hx
    rcases List.mem_cons.mp hx with rfl | hx
    · exact .cmp f a as hf hl ht
    · exact go _ ih x hx
where
  go : ∀ ds : List D, (∀ y ∈ ds, ∀ x ∈ parts y, T x) → ∀ x ∈ partss ds, T x
    | [], _, x, hx => by simp [partss] at hx
    | d :: ds, h, x, hx => by
      rw [partss] at hx
      rcases List.mem_append.mp hx with q | q
      · exact h d List.mem_cons_self x q
      · exact go ds (fun y hy => h y (List.mem_cons_of_mem _ hy)) x q
section
variable {NF RD : Nat}
theorem r_numbers {ts : List D} {h : Hd} {n : Nat} (z : ∀ d ∈ ts, Sz NF d) (hl : (partss ts).length + 16 ≤ LN) (hts : ts.length < NF) (e : h[n]? = some (.lst ts)) : Ev (m_numbers_in NF RD [.at n] h) fun r h' => ∃ m, r = .at m ∧ h.length ≤ m ∧ Pre h h' ∧ h'[m]? = some (.lst ((nums (partss ts)).map .int)) := by
  unfold m_numbers_in
  walk_at "wp"
  have e1 := (Pre.app h [O.dct []]).get e
  walk_at "wp"
  refine ev_for (xs := ts) (fun as sg h1 => Pre h h1 ∧ h1[h.length]? = some (.dct (kvT (nums (partss as)))) ∧ ∃ p q, sg = [some (.at n), some (.at h.length), p, q]) ⟨Pre.app _ _, by simp [partss, nums, kvT], none, none, rfl⟩ hts (fun as sg h1 i => yl_obj (i.1.get e)) ?_ ?_
  · rintro as x bs sg h1 e2 ⟨hp, e3, p, q, rfl⟩
    have hx : x ∈ ts := by rw [e2]; simp
    have zx := z x hx
    have hta : ∀ a ∈ partss as, T a := by
      intro a ha
      obtain ⟨d, hd, had⟩ := partss_mem ha
      exact parts_T (z d (by rw [e2]; simp [hd])).t a had
    have hle : (partss as).length + (parts x).length ≤ (partss ts).length := by
      rw [e2, partss_app]
      simp only [partss, List.length_append]
      omega
    unfold B_numbers_in_1
    walk_at "wp"
    refine ev_of (r_parts zx) fun h2 p2 => ?_
    have e4 := p2.2
    have e5 := p2.1.get e3
    walk_at "wp"
    refine ev_for (xs := parts x) (fun cs sg h3 => ∃ q, sg = [some (.at n), some (.at h.length), some x, q] ∧ Pre h h3 ∧ h3[h.length]? = some (.dct (kvT (nums (partss as ++ cs)))) ∧ h3[h1.length]? = some (.lst (parts x))) ⟨_, rfl, hp.trans p2.1, by rw [List.append_nil]; exact e5, e4⟩ zx.f (fun as sg h1 i => by obtain ⟨q, _, _, _, e⟩ := i; exact yl_obj e) ?_ ?_
    · rintro cs y ds sg h3 ey ⟨q, rfl, hp3, e6, e7⟩
      have ty := parts_T zx.t y (by rw [ey]; simp)
      have hlen : h.length ≠ h1.length := by have := lt_of e3; omega
      unfold B_numbers_in_0
      walk_at "wp"
      refine ev_eq (r_is_variable NF RD _ ty) ?_
      have hnl : (nums (partss as ++ cs)).length ≤ (partss as ++ cs).length := by
        have := foldN_len (partss as ++ cs) [] fun a ha => (List.mem_append.mp ha).elim (hta a) fun hc => parts_T zx.t a (by rw [ey]; simp [hc])
        simpa [nums] using this
      have hal : cs.length < (parts x).length := by rw [ey]; simp
      rw [List.length_append] at hnl
      have hns : nums (partss as ++ (cs ++ [y])) = stepN (nums (partss as ++ cs)) y := by simp [nums]
      rcases ty.step (nums (partss as ++ cs)) with ⟨c, i, rfl, es⟩ | ⟨c, es⟩
      · refine tr_bl (br_t c ?_)
        refine ev_setK ?_
        walk_at "wp"
        refine ⟨_, _, _, rfl, e6, rfl, ?_, ?_⟩
        · simp only [kvT, List.length_map]; omega
        rw [kvT_put, ← es, ← hns]
        exact ⟨_, rfl, hp3.set (Nat.le_refl _) _, get_set e6, by rw [get_ne hlen]; exact e7⟩
      · refine tr_bl (br_f c ?_)
        walk_at "wp"
        rw [← es, ← hns] at e6
        exact ⟨_, rfl, hp3, e6, e7⟩
    · rintro sg h3 ⟨q, rfl, hp3, e6, e7⟩
      walk_at "wp"
      exact ⟨hp3, by rw [partss_app]; simpa [partss] using e6, _, _, rfl⟩
  · rintro sg h1 ⟨hp, e3, p, q, rfl⟩
    walk_at "wp"
    refine lf_listD e3 ?_
    refine ⟨_, rfl, hp.len, hp.app' _, ?_⟩
    rw [get_new]
    simp [kvT, kD]
end


/-! ### putting things for variables -/
mutual
def put (kvs : List (Key × D)) : D → D
  | .tup xs => putT kvs xs
  | .int i => .int i
  | .str s => .str s
  | .bl b => .bl b
  | .non => .non
  | .ty s => .ty s
  | .rol xs => .rol xs
  | .at n => .at n
  | .ad n => .ad n
def putT (kvs : List (Key × D)) : List D → D
  | [] => .tup []
  | [.int n] => (valD kvs (.inl n)).getD (.tup [.int n])
  | f :: ds => .tup (f :: puts kvs ds)
def puts (kvs : List (Key × D)) : List D → List D
  | [] => []
  | d :: ds => put kvs d :: puts kvs ds
end
theorem puts_map (kvs : List (Key × D)) : ∀ ds : List D, puts kvs ds = ds.map (put kvs)
  | [] => by simp [puts]
  | d :: ds => by simp [puts, puts_map kvs ds]
theorem put_var (kvs : List (Key × D)) (n : Int) : put kvs (.tup [.int n]) = (valD kvs (.inl n)).getD (.tup [.int n]) := by
  rw [put, putT]
theorem put_cmp (kvs : List (Key × D)) (f : Str) (a : D) (as : List D) : put kvs (.tup (.str f :: a :: as)) = .tup (.str f :: (a :: as).map (put kvs)) := by
  rw [put, putT, puts_map]
  intro n h
  cases h
def hd1 : D → D
  | .tup (f :: _) => f
  | d => d
def enc (x : D × Bool) : D := .tup [x.1, .bl x.2]
def run (kvs : List (Key × D)) : List D → List (D × Bool) → List D
  | done, [] => done
  | done, (d, false) :: r => run kvs (done ++ [put kvs d]) r
  | done, (d, true) :: r => run kvs (done.take (done.length - (args d).length) ++ [.tup (hd1 d :: done.drop (done.length - (args d).length))]) r
theorem run_args (kvs : List (Key × D)) : ∀ (as done : List D) (r : List (D × Bool)), run kvs done (as.map (fun d => (d, false)) ++ r) = run kvs (done ++ as.map (put kvs)) r
  | [], done, r => by simp
  | a :: as, done, r => by
    rw [List.map_cons, List.cons_append, run, run_args kvs as]
    simp
theorem run_cmp (kvs : List (Key × D)) {done : List D} {r : List (D × Bool)} (f : Str) (a : D) (as : List D) :
    run kvs done ((a :: as).map (fun d => (d, false)) ++ (.tup (.str f :: a :: as), true) :: r) = run kvs done ((.tup (.str f :: a :: as), false) :: r) := by
  rw [run_args, run, run, put_cmp]
  simp only [K21.args, hd1, List.length_append, List.length_map, Nat.add_sub_cancel, List.take_left, List.drop_left]
def wt : D × Bool → Nat
  | (d, false) => 2 * (parts d).length
  | (_, true) => 1
def wts : List (D × Bool) → Nat
  | [] => 0
  | x :: xs => wt x + wts xs
theorem wts_app : ∀ as bs : List (D × Bool), wts (as ++ bs) = wts as + wts bs
  | [], bs => by simp [wts]
  | a :: as, bs => by simp [wts, wts_app as bs]; omega
theorem wts_false : ∀ as : List D, wts (as.map fun d => (d, false)) = 2 * (partss as).length
  | [] => by simp [wts, partss]
  | a :: as => by simp [wts, partss, wts_false as, wt]; omega
theorem len_wts : ∀ as : List (D × Bool), as.length ≤ wts as
  | [] => by simp [wts]
  | (a, b) :: as => by
    have := len_wts as
    have := parts_pos a
    cases b <;> simp [wts, wt] <;> omega
theorem wts_rev : ∀ as : List (D × Bool), wts as.reverse = wts as
  | [] => rfl
  | a :: as => by
    rw [List.reverse_cons, wts_app, wts_rev as]
    simp [wts]
    omega
theorem enc_dat {r : Nat → Option PyData} {x : D × Bool} (t : T x.1) : toP r (enc x) = some (pd (enc x)) ∧ (pd (enc x)).canLay0 = true := by
  have := t.dat (r := r)
  unfold enc
  constructor
  · simp [toP, toPs, pd, pds, this.1]
  · simp [pd, pds, PyData.canLay0, PyData.canLayAll0, this.2]
theorem cut_last {xs : List D} {m : Nat} (hm : 0 < m) : cutD xs (some (-(m : Int))) none = xs.drop (xs.length - m) := by
  have h1 : HT.sIx xs.length 0 (some (-(m : Int))) = xs.length - m := by
    show (if -(m : Int) < 0 then (-(m : Int) + (xs.length : Int)).toNat else _) = _
    rw [if_pos (by omega)]
    omega
  unfold cutD
  rw [h1, HT.sIx_none]
  rw [List.take_of_length_le (by simp)]
theorem cut_rest {xs : List D} {m : Nat} (hm : 0 < m) : cutD xs none (some (-(m : Int))) = xs.take (xs.length - m) := by
  have h1 : HT.sIx xs.length xs.length (some (-(m : Int))) = xs.length - m := by
    show (if -(m : Int) < 0 then (-(m : Int) + (xs.length : Int)).toNat else _) = _
    rw [if_pos (by omega)]
    omega
  unfold cutD
  rw [h1, HT.sIx_none]
  simp
section
variable {NF RD : Nat}
theorem r_replaced {d : D} {h : Hd} {tb : Nat} {kvs : List (Key × D)} (t : T d) (hf : 2 * (parts d).length < NF) (hl : 2 * (parts d).length + 32 ≤ LN) (et : h[tb]? = some (.dct kvs)) : Rt (m_replaced NF RD [d, .at tb] h) (put kvs d) (Pre h) := by
  refine rt_of ?_
  unfold m_replaced
  walk_at "wp"
  have hl1 : (h ++ [O.lst []]).length = h.length + 1 := by simp
  rw [hl1]
  refine ev_while (fun n sg h1 => ∃ dn ds ws p q u v x, sg = [some d, some (.at tb), some (.at dn), some (.at (h.length + 1)), p, q, u, v, x] ∧ n = wts ws ∧ n + ds.length ≤ 2 * (parts d).length ∧ (∀ y ∈ ws, T y.1 ∧ (y.2 = true → isCmp y.1 = true)) ∧ dn ≠ h.length + 1 ∧ h.length ≤ dn ∧ h1[dn]? = some (.lst ds) ∧ h1[h.length + 1]? = some (.lst (ws.map enc)) ∧ Pre h h1 ∧ run kvs ds ws.reverse = [put kvs d]) ?_ NF (2 * (parts d).length) _ _
    ⟨h.length, [], [(d, false)], none, none, none, none, none, rfl, by simp [wts, wt], by simp, by simpa using t, by omega, Nat.le_refl _, by simp, by simp [enc], by simp [Pre], by simp [run]⟩ hf
  rintro n sg h1 ⟨dn, ds, ws, p, q, u, v, x, rfl, rfl, hn, ht, hdn, hld, e1, e2, hp, hr⟩
  unfold C_replaced_1
  refine ev_eq (c_wait rfl e2 fun y hy => ?_) ?_
  · obtain ⟨z, hz, rfl⟩ := List.mem_map.mp hy
    exact enc_dat (ht z hz).1
  cases hw : (ws.map enc).isEmpty with
  | true =>
    have : ws = [] := by simpa using hw
    subst this
    simp only [List.reverse_nil, run] at hr
    subst hr
    have e3 := (Pre.app h1 [O.lst []]).get e1
    walk_at "wp"
    refine lf_ixL e3 (at0 _ _) ?_
    exact ⟨rfl, hp.app' _⟩
  | false =>
    obtain ⟨i, ⟨y, b⟩, rfl⟩ := snoc_of (ws := ws) (by rintro rfl; simp at hw)
    have a1 := (Pre.app h1 [O.lst []]).get e1
    have a2 := (Pre.app h1 [O.lst []]).get e2
    have hp1 := hp.app' [O.lst []]
    have ty := (ht (y, b) (by simp)).1
    have yb := (ht (y, b) (by simp)).2
    generalize hg : h1 ++ [O.lst []] = g at a1 a2 hp1
    rw [List.map_append] at a2
    replace a2 : g[h.length + 1]? = some (.lst (i.map enc ++ [.tup [y, .bl b]])) := a2
    have b1 : (g.set (h.length + 1) (.lst (i.map enc)))[dn]? = some (.lst ds) := by rw [get_ne (by omega)]; exact a1
    have b2 := get_set (p := .lst (i.map enc)) a2
    have pb := hp1.set (i := h.length + 1) (by omega) (.lst (i.map enc))
    have hlen := len_wts i
    rw [wts_app] at hn
    have hti : ∀ z ∈ i, T z.1 ∧ (z.2 = true → isCmp z.1 = true) := fun z hz => ht z (by simp [hz])
    unfold B_replaced_2
    refine br_tt ?_
    walk_at "wp"
    refine lf_pop a2 ?_
    walk_at "wp"
    cases b with
    | true =>
      obtain ⟨f, a, as, rfl⟩ := isCmp_args ty (yb rfl)
      simp only [wts, wt] at hn
      walk_at "wp"
      have em : ((D.str f :: a :: as).length : Int) - 1 = ((as.length + 1 : Nat) : Int) := by simp
      rw [em]
      walk_at "wp"
      refine lf_slL b1 ?_
      rw [cut_last (by omega)]
      generalize hg2 : g.set (h.length + 1) (.lst (i.map enc)) = g2 at b1 b2 pb
      walk_at "wp"
      refine lf_addT ?_ ?_
      · simp; omega
      walk_at "wp"
      have b3 := (Pre.app g2 [O.lst (List.drop (ds.length - (as.length + 1)) ds)]).get b1
      refine lf_slL b3 ?_
      rw [cut_rest (by omega)]
      walk_at "wp"
      refine lf_append (get_new _ _) ?_ ?_
      · simp; omega
      generalize hg3 : g2 ++ [O.lst (List.drop (ds.length - (as.length + 1)) ds)] = g3 at b3
      have p3 : Pre g2 g3 := by rw [← hg3]; exact Pre.app _ _
      have b4 := p3.get b2
      have l3 := lt_of b4
      refine ⟨wts i, ?_, g3.length, _, i, _, _, _, _, _, rfl, rfl, ?_, hti, by omega, by omega, get_set (get_new _ _), ?_, ((pb.trans p3).app' _).set (by omega) _, ?_⟩
      · rw [wts_app]; simp [wts, wt]
      · simp; omega
      · rw [get_ne (by omega)]; exact (Pre.app _ _).get b4
      · rw [← hr]
        simp only [List.reverse_append, List.reverse_cons, List.reverse_nil, List.nil_append, List.cons_append, run, K21.args, hd1, List.length_cons]
    | false =>
      walk_at "wp"
      refine ev_eq (r_is_compound NF RD y _ ty.flat) ?_
      have hpy : (parts y).length = 1 + (partss (args y)).length := by rw [parts_args ty]; simp; omega
      have hla := len_partss (args y)
      simp only [wts, wt] at hn
      refine tr_bl (br (fun c => ?_) fun c => ?_)
      · obtain ⟨f, a, as, rfl⟩ := isCmp_args ty c
        simp only [args] at hpy hla
        walk_at "wp"
        refine lf_append b2 ?_ ?_
        · simp; omega
        have b3 := get_set (p := .lst (i.map enc ++ [.tup [.tup (.str f :: a :: as), .bl true]])) b2
        have b4 : ((g.set (h.length + 1) (.lst (i.map enc))).set (h.length + 1) (.lst (i.map enc ++ [.tup [.tup (.str f :: a :: as), .bl true]])))[dn]? = some (.lst ds) := by rw [get_ne (by omega)]; exact b1
        have pc := pb.set (i := h.length + 1) (by omega) (.lst (i.map enc ++ [.tup [.tup (.str f :: a :: as), .bl true]]))
        generalize hg2 : (g.set (h.length + 1) (.lst (i.map enc))).set (h.length + 1) (.lst (i.map enc ++ [.tup [.tup (.str f :: a :: as), .bl true]])) = g2 at b3 b4 pc
        walk_at "wp"
        refine ev_lc ?_
        walk_at "wp"
        rw [backs1]
        refine ⟨(a :: as).reverse, fun cs ys h3 => Pre g2 h3 ∧ ys = cs.map fun d => .tup [d, .bl false], ?_, ?_, ⟨Pre.app _ _, rfl⟩, fun _ _ _ _ _ => yl_fix, ?_, ?_⟩
        · simp only [List.length_reverse]; omega
        · simp only [List.length_reverse]; omega
        · rintro cs z bs ys h3 _ ⟨hp3, rfl⟩ e3
          unfold E_replaced_0
          walk_at "wp"
          exact ⟨e3, hp3.set (Nat.le_refl _) _, by simp⟩
        · rintro zs h3 e3 ⟨hp3, rfl⟩
          walk_at "wp"
          refine lf_extendL (hp3.get b3) e3 ?_ ?_
          · simp at hla hpy ⊢; omega
          have l3 := lt_of b3
          refine ⟨2 * (partss (a :: as)).length + 1 + wts i, ?_, dn, ds, i ++ [(.tup (.str f :: a :: as), true)] ++ (a :: as).reverse.map (fun d => (d, false)), _, _, _, _, _, rfl, ?_, ?_, ?_, hdn, hld, ?_, ?_, (pc.trans hp3).set (by omega) _, ?_⟩
          · rw [wts_app]; simp only [wts, wt]; omega
          · rw [wts_app, wts_app, wts_false, r_parts.len_rev]; simp only [wts, wt]; omega
          · omega
          · intro z hz
            rcases List.mem_append.mp hz with q | q
            · rcases List.mem_append.mp q with q | q
              · exact hti z q
              · have : z = (.tup (.str f :: a :: as), true) := by simpa using q
                subst this
                exact ⟨ty, fun _ => isCmp_cmp _ _ _⟩
            · obtain ⟨z', hz', rfl⟩ := List.mem_map.mp q
              exact ⟨ty.args z' (by simpa [K21.args, or_comm] using hz'), fun q => by cases q⟩
          · rw [get_ne (by omega)]; exact hp3.get b4
          · rw [get_set (hp3.get b3)]
            simp [enc]
          · rw [← hr]
            simp only [List.reverse_append, List.reverse_cons, List.reverse_nil, List.nil_append, List.cons_append, ← List.map_reverse, List.reverse_reverse, List.append_assoc]
            rw [← run_cmp]
      · walk_at "wp"
        refine ev_eq (r_is_variable NF RD _ ty) ?_
        have fin : ∀ z, z = put kvs y → ∃ m < wts (i ++ [(y, false)]), ∃ dn' ds' ws' p' q' u' v' x', ([some d, some (D.at tb), some (D.at dn), some (D.at (h.length + 1)), some y, some (D.bl false), u, v, x] : Sg) = [some d, some (.at tb), some (.at dn'), some (.at (h.length + 1)), p', q', u', v', x'] ∧ m = wts ws' ∧ m + ds'.length ≤ 2 * (parts d).length ∧ (∀ y ∈ ws', T y.1 ∧ (y.2 = true → isCmp y.1 = true)) ∧ dn' ≠ h.length + 1 ∧ h.length ≤ dn' ∧
            ((g.set (h.length + 1) (.lst (i.map enc))).set dn (.lst (ds ++ [z])))[dn']? = some (.lst ds') ∧ ((g.set (h.length + 1) (.lst (i.map enc))).set dn (.lst (ds ++ [z])))[h.length + 1]? = some (.lst (ws'.map enc)) ∧ Pre h ((g.set (h.length + 1) (.lst (i.map enc))).set dn (.lst (ds ++ [z]))) ∧ run kvs ds' ws'.reverse = [put kvs d] := by
          rintro z rfl
          refine ⟨wts i, ?_, dn, _, i, _, _, _, _, _, rfl, rfl, ?_, hti, hdn, hld, get_set b1, ?_, pb.set (by omega) _, ?_⟩
          · rw [wts_app]; simp only [wts, wt]; omega
          · simp; omega
          · rw [get_ne (by omega)]; exact b2
          · rw [← hr]
            simp only [List.reverse_append, List.reverse_cons, List.reverse_nil, List.nil_append, List.cons_append, run]
        have hds : ds.length < LN := by omega
        cases t : isVar y with
        | true =>
          obtain ⟨n, rfl⟩ : ∃ n, y = .tup [.int n] := by
            cases ty with
            | var n hn => exact ⟨n, rfl⟩
            | int i hi => cases t
            | str s hs => cases t
            | cmp f a as _ _ _ => cases t
          walk_at "wp"
          refine ev_get2 ?_
          have et2 := pb.get et
          walk_at "wp"
          refine ⟨tb, rfl, ?_, ?_⟩
          · unfold isDct; simp [et2]
          walk_at "wp"
          refine ⟨kvs, .inl n, et2, rfl, ?_⟩
          walk_at "wp"
          refine lf_append b1 hds ?_
          exact fin _ (put_var _ _).symm
        | false =>
          walk_at "wp"
          refine lf_append b1 hds ?_
          refine fin _ ?_
          cases ty with
          | var n hn => simp only [isVar, decide_eq_false_iff_not] at t; omega
          | int i hi => simp [put]
          | str s hs => simp [put]
          | cmp f a as _ _ _ => rw [isCmp_cmp] at c; cases c
end


/-! ### new numbers -/
theorem putD_new {kvs : List (Key × D)} {k : Key} {d : D} (h : ∀ kv ∈ kvs, kv.1 ≠ k) : putD kvs k d = kvs ++ [(k, d)] := by
  unfold putD
  rw [if_neg]
  rw [List.any_eq_true]
  rintro ⟨kv, hm, e⟩
  exact h kv hm (by simpa using e)
theorem merge_new : ∀ (ps acc : List (Key × D)), ((acc ++ ps).map (·.1)).Nodup → mergeD acc ps = acc ++ ps
  | [], acc, _ => by simp [mergeD]
  | p :: ps, acc, hn => by
    have h1 : putD acc p.1 p.2 = acc ++ [p] := putD_new fun kv hm e => by
      rw [List.map_append, List.nodup_append] at hn
      exact hn.2.2 kv.1 (List.mem_map.mpr ⟨kv, hm, rfl⟩) p.1 (by simp) e
    have ih := merge_new ps (acc ++ [p]) (by rw [List.append_assoc]; exact hn)
    unfold mergeD at ih ⊢
    rw [List.foldl_cons, h1, ih]
    simp
/-- the pair of a place and a number -/
def kvE : D → Key × D
  | .tup [.int i, .int n] => (.inl n, .tup [.int (0 + i)])
  | _ => (.inl 0, .non)
def tab (ns : List Int) : List (Key × D) := (enuL (ns.map .int)).map kvE
theorem enu_mem {ns : List Int} {x : D} {i : Nat} (h : (enuL (ns.map .int))[i]? = some x) : ∃ n, ns[i]? = some n ∧ x = .tup [.int (i : Nat), .int n] := by
  unfold enuL at h
  rw [List.getElem?_mapIdx, List.getElem?_map] at h
  cases q : ns[i]? with
  | none => rw [q] at h; cases h
  | some n =>
    rw [q] at h
    simp only [Option.map_some, Option.some.injEq] at h
    exact ⟨n, rfl, h.symm⟩
theorem tab_keys (ns : List Int) : (tab ns).map (·.1) = ns.map .inl := by
  apply List.ext_getElem?
  intro i
  unfold tab
  rw [List.getElem?_map, List.getElem?_map, List.getElem?_map]
  cases q : (enuL (ns.map .int))[i]? with
  | none =>
    have : ns[i]? = none := by
      rw [List.getElem?_eq_none_iff] at q ⊢
      unfold enuL at q
      simpa using q
    rw [this]
    rfl
  | some x =>
    obtain ⟨n, e, rfl⟩ := enu_mem q
    rw [e]
    rfl
theorem addN_nodup {ns : List Int} (n : Int) (h : ns.Nodup) : (addN ns n).Nodup := by
  unfold addN
  split
  · exact h
  · rename_i hn
    rw [List.nodup_append]
    exact ⟨h, by simp, fun a ha b hb => by
      have : b = n := by simpa using hb
      subst this
      exact fun e => hn (e ▸ ha)⟩
theorem stepN_nodup {ns : List Int} (d : D) (h : ns.Nodup) : (stepN ns d).Nodup := by
  unfold stepN
  split
  · exact addN_nodup _ h
  · exact h
theorem fold_nodup : ∀ (ds : List D) (ns : List Int), ns.Nodup → (ds.foldl stepN ns).Nodup
  | [], ns, h => h
  | d :: ds, ns, h => fold_nodup ds _ (stepN_nodup d h)
theorem nums_nodup (ds : List D) : (nums ds).Nodup := fold_nodup ds [] List.nodup_nil
theorem tab_nodup {ns : List Int} (h : ns.Nodup) : ((tab ns).map (·.1)).Nodup := by
  rw [tab_keys]
  exact List.Pairwise.map _ (fun a b hab e => hab (by cases e; rfl)) h
section
variable {NF RD : Nat}
theorem nums_len {d : D} (t : T d) : (nums (parts d)).length ≤ (parts d).length := by
  have := foldN_len (parts d) [] (parts_T t)
  simpa [nums] using this
theorem r_renumbering {ts : List D} {h : Hd} {n : Nat} (z : ∀ d ∈ ts, Sz NF d) (hz : (partss ts).length < NF) (hz2 : (partss ts).length + 16 ≤ LN) (hts : ts.length < NF) (e : h[n]? = some (.lst ts)) : Ev (m_renumbering NF RD [.at n, .int 0] h) fun r h' => ∃ m, r = .at m ∧ h.length ≤ m ∧ Pre h h' ∧ h'[m]? = some (.dct (tab (nums (partss ts)))) := by
  have hnl : (nums (partss ts)).length ≤ (partss ts).length := by
    have := foldN_len (partss ts) [] fun a ha => by
      obtain ⟨d, hd, had⟩ := partss_mem ha
      exact parts_T (z d hd).t a had
    simpa [nums] using this
  have hnd := tab_nodup (nums_nodup (partss ts))
  unfold m_renumbering
  walk_at "wp"
  refine (r_numbers z hz2 hts ((Pre.app h [O.dct []]).get e)).mono ?_
  rintro r h1 ⟨m, rfl, hm, hp, e1⟩
  have e0 := hp.get (get_new h (O.dct []))
  walk_at "wp"
  refine ⟨m, _, rfl, e1, ?_⟩
  have hp1 := (Pre.app h [O.dct []]).trans hp
  have hel : (enuL ((nums (partss ts)).map .int)).length = (nums (partss ts)).length := by unfold enuL; simp
  have hmm : m ≠ h.length := by simp at hm; omega
  refine ev_for (xs := enuL ((nums (partss ts)).map .int)) (fun as sg h2 => (∃ p q, sg = [some (.at n), some (.int 0), some (.at h.length), p, q]) ∧ Pre h h2 ∧ h2[h.length]? = some (.dct (as.map kvE)) ∧ h2[m]? = some (.lst ((nums (partss ts)).map .int))) ⟨⟨_, _, rfl⟩, hp1, e0, e1⟩ (by omega) (fun as sg h2 i => yl_enu i.2.2.2) ?_ ?_
  · rintro as x bs sg h2 ex ⟨⟨p, q, rfl⟩, hp2, e2, e3⟩
    have hx : (enuL ((nums (partss ts)).map .int))[as.length]? = some x := by rw [ex]; simp
    obtain ⟨k, hk, rfl⟩ := enu_mem hx
    unfold B_renumbering_0
    walk_at "wp"
    refine ev_setK ?_
    walk_at "wp"
    refine ⟨_, _, _, rfl, e2, rfl, ?_, ?_⟩
    · rw [List.length_map]
      have := congrArg List.length ex
      rw [hel] at this
      simp at this
      omega
    rw [putD_new]
    · refine ⟨⟨_, _, rfl⟩, hp2.set (Nat.le_refl _) _, ?_, by rw [get_ne (by omega)]; exact e3⟩
      rw [get_set e2, List.map_append]
      rfl
    · intro kv hkv e4
      unfold tab at hnd
      rw [ex, List.map_append, List.map_append, List.nodup_append] at hnd
      exact hnd.2.2 kv.1 (List.mem_map.mpr ⟨kv, hkv, rfl⟩) (.inl k) (by simp [kvE]) e4
  · rintro sg h2 ⟨⟨p, q, rfl⟩, hp2, e2, e3⟩
    walk_at "wp"
    exact ⟨_, rfl, Nat.le_refl _, hp2, e2⟩
end
/-! ### new numbers are put once -/
theorem val_mem {kvs : List (Key × D)} {k : Key} {v : D} (hn : (kvs.map (·.1)).Nodup) (h : (k, v) ∈ kvs) : valD kvs k = some v := by
  unfold valD
  induction kvs with
  | nil => cases h
  | cons kv kvs ih =>
    rw [List.find?_cons]
    rw [List.map_cons, List.nodup_cons] at hn
    rcases List.mem_cons.mp h with rfl | h
    · simp
    · have hne : kv.1 ≠ k := fun e => hn.1 (e ▸ List.mem_map.mpr ⟨(k, v), h, rfl⟩)
      simp only [hne, decide_false]
      exact ih hn.2 h
theorem tab_val {ns : List Int} (hn : ns.Nodup) {i : Nat} {n : Int} (h : ns[i]? = some n) : valD (tab ns) (.inl n) = some (.tup [.int (i : Nat)]) := by
  refine val_mem (tab_nodup hn) ?_
  unfold tab
  refine List.mem_map.mpr ⟨.tup [.int (i : Nat), .int n], ?_, by simp [kvE]⟩
  unfold enuL
  rw [List.mem_mapIdx]
  obtain ⟨hi, e⟩ := List.getElem?_eq_some_iff.mp h
  exact ⟨i, by simpa using hi, by simp [e]⟩
/-- the new number of an old one -/
def ren (ns : List Int) (n : Int) : Int := ((ns.idxOf n : Nat) : Int)
theorem put_ren {ns : List Int} (hn : ns.Nodup) {n : Int} (h : n ∈ ns) : put (tab ns) (.tup [.int n]) = .tup [.int (ren ns n)] := by
  rw [put_var]
  have : ns[ns.idxOf n]? = some n := by
    have := List.idxOf_lt_length_of_mem h
    rw [List.getElem?_eq_getElem this]
    simp
  rw [tab_val hn this]
  rfl


theorem fl_strs : ∀ ss : List Str, flDs (ss.map .str) = some (ss.map V.str)
  | [] => rfl
  | s :: ss => by simp [flDs, flD, fl_strs ss]
theorem inV_strs (s : Str) (ss : List Str) : inV (.str s) (ss.map V.str) = decide (s ∈ ss) := by
  unfold inV
  rw [List.any_map]
  induction ss with
  | nil => simp
  | cons m ss ih =>
    rw [List.any_cons, ih]
    simp only [Function.comp_apply, eqV, List.mem_cons]
    by_cases q : m = s
    · subst q; simp
    · have q' : ¬ s = m := fun e => q e.symm
      simp [q, q']
theorem lf_inSS {s : Str} {ss : List Str} {h : Hd} {Q : D → Hd → Prop} (q : Q (.bl (decide (s ∈ ss))) h) : Ev (inD false (.str s) (.tup (ss.map .str)) h) Q := by
  refine lf_inC (b := decide (s ∈ ss)) ?_ q
  unfold inC
  rw [fl_strs]
  simp only [flD, inV_strs, Bool.false_xor]
/-! ### constructs -/
def TWO : List Str := [",", ";", "->", "*->", "forall"]
def ONE : List Str := ["\\+", "once", "ignore"]
/-- the name of a construct, or None -/
def wrd : D → D
  | .tup [.str f, _] => if f ∈ ONE then .str f else .non
  | .tup [.str f, _, _] => if f ∈ TWO then .str f else .non
  | _ => .non
def isCon (d : D) : Bool := !isNonD (wrd d)
section
variable {NF RD : Nat}
theorem r_word {d : D} {h : Hd} (t : T d) : m_word_of NF RD [d] h = some (wrd d, h) := by
  have : Ev (m_word_of NF RD [d] h) fun r h' => r = wrd d ∧ h' = h := by
    unfold m_word_of
    walk_at "wq"
    refine ev_eq (r_is_compound NF RD d _ t.flat) ?_
    refine tr_bl (br (fun c => ?_) fun c => ?_)
    · walk_at "wq"
      refine ⟨?_, rfl⟩
      cases t with
      | var n hn => rfl
      | int i hi => rfl
      | str s hs => rfl
      | cmp f a as _ _ _ => rw [isCmp_cmp] at c; cases c
    · obtain ⟨f, a, as, rfl⟩ := isCmp_args t (by simpa using c)
      walk_at "wq"
      refine sq_nx ?_
      walk_at "wq"
      match as, t with
      | [], t =>
        refine br_f rfl ?_
        walk_at "wq"
        refine lf_inSS (ss := ONE) ?_
        walk_at "wq"
        simp only [wrd]
        refine br (fun c => ?_) fun c => ?_
        · rw [if_pos (by simpa using c)]
          walk_at "wq"
          exact ⟨rfl, rfl⟩
        · rw [if_neg (by simpa using c)]
          walk_at "wq"
          refine sq_nx ?_
          walk_at "wq"
          exact ⟨rfl, rfl⟩
      | [b], t =>
        refine br_t rfl ?_
        walk_at "wq"
        refine lf_inSS (ss := TWO) ?_
        walk_at "wq"
        simp only [wrd]
        refine br (fun c => ?_) fun c => ?_
        · rw [if_pos (by simpa using c)]
          walk_at "wq"
          exact ⟨rfl, rfl⟩
        · rw [if_neg (by simpa using c)]
          walk_at "wq"
          refine sq_nx ?_
          walk_at "wq"
          exact ⟨rfl, rfl⟩
      | b :: b' :: as, t =>
        refine br_f (decide_eq_false (by simp only [List.length_cons]; omega)) ?_
        walk_at "wq"
        refine sq_nx ?_
        walk_at "wq"
        exact ⟨rfl, rfl⟩
  obtain ⟨r, h', e, rfl, rfl⟩ := this
  exact e
end


mutual
/-- no integer is a leaf -/
def gl : D → Bool
  | .tup xs => glT xs
  | .int _ => false
  | .str _ => true
  | .bl _ => true
  | .non => true
  | .ty _ => true
  | .rol _ => true
  | .at _ => true
  | .ad _ => true
def glT : List D → Bool
  | [] => true
  | f :: ds => if isCon (.tup (f :: ds)) = true then gls ds else true
def gls : List D → Bool
  | [] => true
  | d :: ds => gl d && gls ds
end
theorem gls_app : ∀ as bs : List D, gls (as ++ bs) = (gls as && gls bs)
  | [], bs => by simp [gls]
  | a :: as, bs => by simp [gls, gls_app as bs, Bool.and_assoc]
theorem isCon_cmp {d : D} (t : T d) (c : isCon d = true) : isCmp d = true := by
  cases t with
  | var n hn => cases c
  | int i hi => cases c
  | str s hs => cases c
  | cmp f a as _ _ _ => exact isCmp_cmp _ _ _
theorem gl_con {d : D} (t : T d) (c : isCon d = true) : gl d = gls (args d) := by
  obtain ⟨f, a, as, rfl⟩ := isCmp_args t (isCon_cmp t c)
  simp only [gl, glT, c, if_true, K21.args]
theorem gl_leaf {d : D} (t : T d) (c : isCon d = false) : gl d = !isInt d := by
  cases t with
  | var n hn => rfl
  | int i hi => rfl
  | str s hs => rfl
  | cmp f a as _ _ _ => simp [gl, glT, c, isInt]
theorem wrd_con {d : D} {f : D} {b : Bool} (c : isCon d = b) : isNonD (wrd d) = !b := by
  unfold isCon at c
  rw [← c]
  simp
section
variable {NF RD : Nat}
theorem r_good {d : D} {h : Hd} (z : Sz NF d) : Rt (m_has_good_leaves NF RD [d] h) (.bl (gl d)) (Pre h) := by
  have hLN := LN_eq
  refine rt_of ?_
  unfold m_has_good_leaves
  walk_at "wp"
  refine ev_while (fun n sg h1 => ∃ ws p, sg = [some d, some (.at h.length), p] ∧ n = (partss ws).length ∧ (∀ x ∈ ws, T x) ∧ h1[h.length]? = some (.lst ws) ∧ Pre h h1 ∧ n ≤ (parts d).length ∧ gls ws = gl d) ?_ NF (parts d).length _ _ ⟨[d], none, rfl, by simp [partss], by simpa using z.t, get_new _ _, Pre.app _ _, Nat.le_refl _, by simp [gls]⟩ z.f
  rintro n sg h1 ⟨ws, p, rfl, rfl, ht, e, hp, hn, hg⟩
  unfold C_has_good_leaves_0
  refine ev_eq (c_wait rfl e (T.datL ht)) ?_
  have hzl := z.l
  cases hw : ws.isEmpty with
  | true =>
    have : ws = [] := by simpa using hw
    subst this
    walk_at "wp"
    exact ⟨congrArg D.bl hg, hp.app' _⟩
  | false =>
    obtain ⟨i, y, rfl⟩ := snoc_of (ws := ws) (by rintro rfl; cases hw)
    have e2 := (Pre.app h1 [.lst []]).get e
    have ty := ht y (by simp)
    have e3 := get_set (p := .lst i) e2
    have hp2 := (hp.app' [.lst []]).set (Nat.le_refl _) (.lst i)
    have hl3 := len_partss (i ++ [y])
    have hla := len_partss (args y)
    rw [partss_app] at hn
    have hpa := parts_args ty
    simp only [partss, List.append_nil, List.length_append] at hn
    rw [gls_app] at hg
    simp only [gls, Bool.and_true] at hg
    refine br_tt ?_
    unfold B_has_good_leaves_1
    walk_at "wp"
    refine lf_pop e2 ?_
    walk_at "wp"
    refine ev_eq (r_word ty) ?_
    cases c : isCon y with
    | true =>
      obtain ⟨f, a, as, rfl⟩ := isCmp_args ty (isCon_cmp ty c)
      refine ev_c (lf_isntT (wrd_con (f := .non) c) ?_)
      rw [gl_con ty c] at hg
      rw [hpa] at hn
      simp only [K21.args] at hg hn hla
      walk_at "wp"
      refine lf_extendT e3 ?_ ?_
      · rw [cut1]
        have := len_partss i
        simp at hn hla ⊢
        omega
      rw [cut1]
      walk_at "wp"
      refine ⟨_, ?_, i ++ (a :: as), _, rfl, rfl, ?_, get_set e3, hp2.set (Nat.le_refl _) _, ?_, ?_⟩
      · rw [partss_app, partss_app]
        simp only [partss, hpa, K21.args, List.length_append, List.length_cons, List.append_nil]
        omega
      · intro x hx
        rcases List.mem_append.mp hx with q | q
        · exact ht x (by simp [q])
        · exact ty.args x q
      · rw [partss_app]
        simp only [List.length_append, List.length_cons] at hn ⊢
        omega
      · rw [gls_app]; exact hg
    | false =>
      refine ev_c (lf_isntF (wrd_con (f := .non) c) ?_)
      rw [gl_leaf ty c] at hg
      walk_at "wp"
      refine ev_eq (r_is_int NF RD _ _ ty.flat) ?_
      walk_at "wp"
      refine br (fun c2 => ?_) fun c2 => ?_
      · walk_at "wp"
        refine ⟨?_, hp2⟩
        rw [← hg, c2]
        simp
      · walk_at "wp"
        refine ⟨_, ?_, i, _, rfl, rfl, fun x hx => ht x (by simp [hx]), e3, hp2, by omega, ?_⟩
        · rw [partss_app]
          have := parts_pos y
          simp only [partss, List.length_append, List.append_nil]
          omega
        · rw [← hg, c2]
          simp
end
/-! ### leaves that are called -/
mutual
def wc : D → D
  | .tup xs => wcT xs
  | .int i => .int i
  | .str s => .str s
  | .bl b => .bl b
  | .non => .non
  | .ty s => .ty s
  | .rol xs => .rol xs
  | .at n => .at n
  | .ad n => .ad n
def wcT : List D → D
  | [] => .tup []
  | f :: ds => if isCon (.tup (f :: ds)) = true then .tup (f :: wcs ds) else if isVar (.tup (f :: ds)) = true then .tup [.str "call", .tup (f :: ds)] else .tup (f :: ds)
def wcs : List D → List D
  | [] => []
  | d :: ds => wc d :: wcs ds
end
theorem wcs_map : ∀ ds : List D, wcs ds = ds.map wc
  | [] => by simp [wcs]
  | d :: ds => by simp [wcs, wcs_map ds]
theorem wc_con {f : Str} {a : D} {as : List D} (c : isCon (.tup (.str f :: a :: as)) = true) : wc (.tup (.str f :: a :: as)) = .tup (.str f :: (a :: as).map wc) := by
  rw [wc, wcT, if_pos c, wcs_map]
theorem wc_leaf {d : D} (t : T d) (c : isCon d = false) : wc d = if isVar d = true then .tup [.str "call", d] else d := by
  cases t with
  | var n hn => rw [wc, wcT, if_neg (by rw [c]; decide)]
  | int i hi => rfl
  | str s hs => rfl
  | cmp f a as _ _ _ => rw [wc, wcT, if_neg (by rw [c]; decide)]
def runW : List D → List (D × Bool) → List D
  | done, [] => done
  | done, (d, false) :: r => runW (done ++ [wc d]) r
  | done, (d, true) :: r => runW (done.take (done.length - (args d).length) ++ [.tup (hd1 d :: done.drop (done.length - (args d).length))]) r
theorem runW_args : ∀ (as done : List D) (r : List (D × Bool)), runW done (as.map (fun d => (d, false)) ++ r) = runW (done ++ as.map wc) r
  | [], done, r => by simp
  | a :: as, done, r => by
    rw [List.map_cons, List.cons_append, runW, runW_args as]
    simp
theorem runW_cmp {done : List D} {r : List (D × Bool)} {f : Str} {a : D} {as : List D} (c : isCon (.tup (.str f :: a :: as)) = true) :
    runW done ((a :: as).map (fun d => (d, false)) ++ (.tup (.str f :: a :: as), true) :: r) = runW done ((.tup (.str f :: a :: as), false) :: r) := by
  rw [runW_args, runW, runW, wc_con c]
  simp only [K21.args, hd1, List.length_append, List.length_map, Nat.add_sub_cancel, List.take_left, List.drop_left]
section
variable {NF RD : Nat}
theorem r_with_calls {d : D} {h : Hd} (t : T d) (hf : 2 * (parts d).length < NF) (hl : 2 * (parts d).length + 32 ≤ LN) : Rt (m_with_calls NF RD [d] h) (wc d) (Pre h) := by
  refine rt_of ?_
  unfold m_with_calls
  walk_at "wp"
  have hl1 : (h ++ [O.lst []]).length = h.length + 1 := by simp
  rw [hl1]
  refine ev_while (fun n sg h1 => ∃ dn ds ws p q u v x, sg = [some d, some (.at dn), some (.at (h.length + 1)), p, q, u, v, x] ∧ n = wts ws ∧ n + ds.length ≤ 2 * (parts d).length ∧ (∀ y ∈ ws, T y.1 ∧ (y.2 = true → isCon y.1 = true)) ∧ dn ≠ h.length + 1 ∧ h.length ≤ dn ∧ h1[dn]? = some (.lst ds) ∧ h1[h.length + 1]? = some (.lst (ws.map enc)) ∧ Pre h h1 ∧ runW ds ws.reverse = [wc d]) ?_ NF (2 * (parts d).length) _ _
    ⟨h.length, [], [(d, false)], none, none, none, none, none, rfl, by simp [wts, wt], by simp, by simpa using t, by omega, Nat.le_refl _, by simp, by simp [enc], by simp [Pre], by simp [runW]⟩ hf
  rintro n sg h1 ⟨dn, ds, ws, p, q, u, v, x, rfl, rfl, hn, ht, hdn, hld, e1, e2, hp, hr⟩
  unfold C_with_calls_1
  refine ev_eq (c_wait rfl e2 fun y hy => ?_) ?_
  · obtain ⟨z, hz, rfl⟩ := List.mem_map.mp hy
    exact enc_dat (ht z hz).1
  cases hw : (ws.map enc).isEmpty with
  | true =>
    have : ws = [] := by simpa using hw
    subst this
    simp only [List.reverse_nil, runW] at hr
    subst hr
    have e3 := (Pre.app h1 [O.lst []]).get e1
    walk_at "wp"
    refine lf_ixL e3 (at0 _ _) ?_
    exact ⟨rfl, hp.app' _⟩
  | false =>
    obtain ⟨i, ⟨y, b⟩, rfl⟩ := snoc_of (ws := ws) (by rintro rfl; simp at hw)
    have a1 := (Pre.app h1 [O.lst []]).get e1
    have a2 := (Pre.app h1 [O.lst []]).get e2
    have hp1 := hp.app' [O.lst []]
    have ty := (ht (y, b) (by simp)).1
    have yb := (ht (y, b) (by simp)).2
    generalize hg : h1 ++ [O.lst []] = g at a1 a2 hp1
    rw [List.map_append] at a2
    replace a2 : g[h.length + 1]? = some (.lst (i.map enc ++ [.tup [y, .bl b]])) := a2
    have b1 : (g.set (h.length + 1) (.lst (i.map enc)))[dn]? = some (.lst ds) := by rw [get_ne (by omega)]; exact a1
    have b2 := get_set (p := .lst (i.map enc)) a2
    have pb := hp1.set (i := h.length + 1) (by omega) (.lst (i.map enc))
    have hlen := len_wts i
    rw [wts_app] at hn
    have hti : ∀ z ∈ i, T z.1 ∧ (z.2 = true → isCon z.1 = true) := fun z hz => ht z (by simp [hz])
    unfold B_with_calls_2
    refine br_tt ?_
    walk_at "wp"
    refine lf_pop a2 ?_
    walk_at "wp"
    cases b with
    | true =>
      obtain ⟨f, a, as, rfl⟩ := isCmp_args ty (isCon_cmp ty (yb rfl))
      simp only [wts, wt] at hn
      walk_at "wp"
      have em : ((D.str f :: a :: as).length : Int) - 1 = ((as.length + 1 : Nat) : Int) := by simp
      rw [em]
      walk_at "wp"
      refine lf_slL b1 ?_
      rw [cut_last (by omega)]
      generalize hg2 : g.set (h.length + 1) (.lst (i.map enc)) = g2 at b1 b2 pb
      walk_at "wp"
      refine lf_addT ?_ ?_
      · simp; omega
      walk_at "wp"
      have b3 := (Pre.app g2 [O.lst (List.drop (ds.length - (as.length + 1)) ds)]).get b1
      refine lf_slL b3 ?_
      rw [cut_rest (by omega)]
      walk_at "wp"
      refine lf_append (get_new _ _) ?_ ?_
      · simp; omega
      generalize hg3 : g2 ++ [O.lst (List.drop (ds.length - (as.length + 1)) ds)] = g3 at b3
      have p3 : Pre g2 g3 := by rw [← hg3]; exact Pre.app _ _
      have b4 := p3.get b2
      have l3 := lt_of b4
      refine ⟨wts i, ?_, g3.length, _, i, _, _, _, _, _, rfl, rfl, ?_, hti, by omega, by omega, get_set (get_new _ _), ?_, ((pb.trans p3).app' _).set (by omega) _, ?_⟩
      · rw [wts_app]; simp [wts, wt]
      · simp; omega
      · rw [get_ne (by omega)]; exact (Pre.app _ _).get b4
      · rw [← hr]
        simp only [List.reverse_append, List.reverse_cons, List.reverse_nil, List.nil_append, List.cons_append, runW, K21.args, hd1, List.length_cons]
    | false =>
      walk_at "wp"
      refine ev_eq (r_word ty) ?_
      have hpy : (parts y).length = 1 + (partss (args y)).length := by rw [parts_args ty]; simp; omega
      have hla := len_partss (args y)
      simp only [wts, wt] at hn
      cases c : isCon y with
      | true =>
        obtain ⟨f, a, as, rfl⟩ := isCmp_args ty (isCon_cmp ty c)
        refine ev_c (lf_isntT (wrd_con (f := .non) c) ?_)
        simp only [args] at hpy hla
        walk_at "wp"
        refine lf_append b2 ?_ ?_
        · simp; omega
        have b3 := get_set (p := .lst (i.map enc ++ [.tup [.tup (.str f :: a :: as), .bl true]])) b2
        have b4 : ((g.set (h.length + 1) (.lst (i.map enc))).set (h.length + 1) (.lst (i.map enc ++ [.tup [.tup (.str f :: a :: as), .bl true]])))[dn]? = some (.lst ds) := by rw [get_ne (by omega)]; exact b1
        have pc := pb.set (i := h.length + 1) (by omega) (.lst (i.map enc ++ [.tup [.tup (.str f :: a :: as), .bl true]]))
        generalize hg2 : (g.set (h.length + 1) (.lst (i.map enc))).set (h.length + 1) (.lst (i.map enc ++ [.tup [.tup (.str f :: a :: as), .bl true]])) = g2 at b3 b4 pc
        walk_at "wp"
        refine ev_lc ?_
        walk_at "wp"
        rw [cut1]
        walk_at "wp"
        refine ⟨(a :: as).reverse, fun cs ys h3 => Pre g2 h3 ∧ ys = cs.map fun d => .tup [d, .bl false], ?_, ?_, ⟨Pre.app _ _, rfl⟩, fun _ _ _ _ _ => yl_fix, ?_, ?_⟩
        · simp only [List.length_reverse]; omega
        · simp only [List.length_reverse]; omega
        · rintro cs z bs ys h3 _ ⟨hp3, rfl⟩ e3
          unfold E_with_calls_0
          walk_at "wp"
          exact ⟨e3, hp3.set (Nat.le_refl _) _, by simp⟩
        · rintro zs h3 e3 ⟨hp3, rfl⟩
          walk_at "wp"
          refine lf_extendL (hp3.get b3) e3 ?_ ?_
          · simp at hla hpy ⊢; omega
          have l3 := lt_of b3
          refine ⟨2 * (partss (a :: as)).length + 1 + wts i, ?_, dn, ds, i ++ [(.tup (.str f :: a :: as), true)] ++ (a :: as).reverse.map (fun d => (d, false)), _, _, _, _, _, rfl, ?_, ?_, ?_, hdn, hld, ?_, ?_, (pc.trans hp3).set (by omega) _, ?_⟩
          · rw [wts_app]; simp only [wts, wt]; omega
          · rw [wts_app, wts_app, wts_false, r_parts.len_rev]; simp only [wts, wt]; omega
          · omega
          · intro z hz
            rcases List.mem_append.mp hz with q | q
            · rcases List.mem_append.mp q with q | q
              · exact hti z q
              · have : z = (.tup (.str f :: a :: as), true) := by simpa using q
                subst this
                exact ⟨ty, fun _ => c⟩
            · obtain ⟨z', hz', rfl⟩ := List.mem_map.mp q
              exact ⟨ty.args z' (by simpa [K21.args, or_comm] using hz'), fun q => by cases q⟩
          · rw [get_ne (by omega)]; exact hp3.get b4
          · rw [get_set (hp3.get b3)]
            simp [enc]
          · rw [← hr]
            simp only [List.reverse_append, List.reverse_cons, List.reverse_nil, List.nil_append, List.cons_append, ← List.map_reverse, List.reverse_reverse, List.append_assoc]
            rw [← runW_cmp c]
      | false =>
        refine ev_c (lf_isntF (wrd_con (f := .non) c) ?_)
        walk_at "wp"
        refine ev_eq (r_is_variable NF RD _ ty) ?_
        have fin : ∀ z, z = wc y → ∃ m < wts (i ++ [(y, false)]), ∃ dn' ds' ws' p' q' u' v' x', ([some d, some (D.at dn), some (D.at (h.length + 1)), some y, some (D.bl false), u, v, x] : Sg) = [some d, some (.at dn'), some (.at (h.length + 1)), p', q', u', v', x'] ∧ m = wts ws' ∧ m + ds'.length ≤ 2 * (parts d).length ∧ (∀ y ∈ ws', T y.1 ∧ (y.2 = true → isCon y.1 = true)) ∧ dn' ≠ h.length + 1 ∧ h.length ≤ dn' ∧
            ((g.set (h.length + 1) (.lst (i.map enc))).set dn (.lst (ds ++ [z])))[dn']? = some (.lst ds') ∧ ((g.set (h.length + 1) (.lst (i.map enc))).set dn (.lst (ds ++ [z])))[h.length + 1]? = some (.lst (ws'.map enc)) ∧ Pre h ((g.set (h.length + 1) (.lst (i.map enc))).set dn (.lst (ds ++ [z]))) ∧ runW ds' ws'.reverse = [wc d] := by
          rintro z rfl
          refine ⟨wts i, ?_, dn, _, i, _, _, _, _, _, rfl, rfl, ?_, hti, hdn, hld, get_set b1, ?_, pb.set (by omega) _, ?_⟩
          · rw [wts_app]; simp only [wts, wt]; omega
          · simp; omega
          · rw [get_ne (by omega)]; exact b2
          · rw [← hr]
            simp only [List.reverse_append, List.reverse_cons, List.reverse_nil, List.nil_append, List.cons_append, runW]
        have hds : ds.length < LN := by omega
        cases t : isVar y with
        | true =>
          obtain ⟨n, rfl⟩ : ∃ n, y = .tup [.int n] := by
            cases ty with
            | var n hn => exact ⟨n, rfl⟩
            | int i hi => cases t
            | str s hs => cases t
            | cmp f a as _ _ _ => cases t
          walk_at "wp"
          refine lf_append b1 hds ?_
          exact fin _ (by rw [wc_leaf ty c]; exact (if_pos t).symm)
        | false =>
          walk_at "wp"
          refine lf_append b1 hds ?_
          refine fin _ ?_
          rw [wc_leaf ty c, t]
          rfl
end


/-! ### clauses -/
def isCal (d : D) : Bool := (match d with
  | .str _ => true
  | _ => false) || isCmp d
def hv : D → D × D
  | .tup [.str f, a, b] => if f = ":-" then (a, b) else (.tup [.str f, a, b], .str "true")
  | d => (d, .str "true")
def flt (d : D) : D := if isCal (hv d).1 = true then (if gl (hv d).2 = true then .non else .str "body") else .str "head"
def ktb (d : D) : List (Key × D) := tab (nums (partss [(hv d).1, wc (hv d).2]))
def kept (d : D) : D := .tup [.str ":-", put (ktb d) (hv d).1, put (ktb d) (wc (hv d).2)]
theorem T_true : T (.str "true") := .str _ (by decide +kernel)
theorem hv_T {d : D} (t : T d) : T (hv d).1 ∧ T (hv d).2 ∧ (parts (hv d).1).length ≤ (parts d).length ∧ (parts (hv d).2).length ≤ (parts d).length := by
  have hp := parts_pos d
  have base : T d ∧ T (.str "true") ∧ (parts d).length ≤ (parts d).length ∧ (parts (.str "true")).length ≤ (parts d).length := ⟨t, T_true, Nat.le_refl _, by simpa [parts] using hp⟩
  unfold hv
  split
  · split
    · have a1 := t.args
      rename_i f a b _
      refine ⟨a1 a (by simp [K21.args]), a1 b (by simp [K21.args]), ?_, ?_⟩ <;> · simp only [parts, partsT, partss, List.length_cons, List.length_append]; omega
    · exact base
  · exact base
section
variable {NF RD : Nat}
theorem r_callable {d : D} {h : Hd} (t : T d) : m_is_callable NF RD [d] h = some (.bl (isCal d), h) := by
  have : Ev (m_is_callable NF RD [d] h) fun r h' => r = .bl (isCal d) ∧ h' = h := by
    unfold m_is_callable
    cases t with
    | var n hn =>
      walk_at "wq"
      refine ev_eq (r_is_compound NF RD _ _ rfl) ?_
      exact ⟨rfl, rfl⟩
    | int i hi =>
      walk_at "wq"
      refine ev_eq (r_is_compound NF RD _ _ rfl) ?_
      exact ⟨rfl, rfl⟩
    | str s hs =>
      walk_at "wq"
      exact ⟨rfl, rfl⟩
    | cmp f a as _ _ _ =>
      walk_at "wq"
      refine ev_eq (r_is_compound NF RD _ _ rfl) ?_
      exact ⟨rfl, rfl⟩
  obtain ⟨r, h', e, rfl, rfl⟩ := this
  exact e
theorem r_halves {d : D} {h : Hd} (t : T d) : m_halves NF RD [d] h = some (.tup [(hv d).1, (hv d).2], h) := by
  have : Ev (m_halves NF RD [d] h) fun r h' => r = .tup [(hv d).1, (hv d).2] ∧ h' = h := by
    unfold m_halves
    walk_at "wq"
    refine ev_eq (r_is_compound NF RD _ _ t.flat) ?_
    cases t with
    | var n hn => walk_at "wq"; refine sq_nx ?_; walk_at "wq"; exact ⟨rfl, rfl⟩
    | int i hi => walk_at "wq"; refine sq_nx ?_; walk_at "wq"; exact ⟨rfl, rfl⟩
    | str s hs => walk_at "wq"; refine sq_nx ?_; walk_at "wq"; exact ⟨rfl, rfl⟩
    | cmp f a as hf _ _ =>
      refine tr_bl (br_t (isCmp_cmp _ _ _) ?_)
      walk_at "wq"
      refine ⟨_, _, eq_ss (atom_strOk hf) (by decide +kernel), ?_⟩
      walk_at "wq"
      match as with
      | [] =>
        refine br (fun c => ?_) fun c => ?_
        · walk_at "wq"
          refine sq_nx ?_
          walk_at "wq"
          exact ⟨rfl, rfl⟩
        · walk_at "wq"
          refine sq_nx ?_
          walk_at "wq"
          exact ⟨rfl, rfl⟩
      | [b] =>
        simp only [hv]
        refine br (fun c => ?_) fun c => ?_
        · rw [if_pos (by simpa using c)]
          walk_at "wq"
          rw [cut1]
          exact ⟨rfl, rfl⟩
        · rw [if_neg (by simpa using c)]
          walk_at "wq"
          refine sq_nx ?_
          walk_at "wq"
          exact ⟨rfl, rfl⟩
      | b :: b' :: as =>
        refine br (fun c => ?_) fun c => ?_
        · walk_at "wq"
          refine sq_nx ?_
          walk_at "wq"
          exact ⟨rfl, rfl⟩
        · walk_at "wq"
          refine sq_nx ?_
          walk_at "wq"
          exact ⟨rfl, rfl⟩
  obtain ⟨r, h', e, rfl, rfl⟩ := this
  exact e
theorem r_fault {d : D} {h : Hd} (z : Sz NF d) (hN : 50 ≤ NF) : Rt (m_fault_of NF RD [d] h) (flt d) (Pre h) := by
  obtain ⟨t1, t2, l1, l2⟩ := hv_T z.t
  have zf := z.f
  have zl := z.l
  refine rt_of ?_
  unfold m_fault_of
  walk_at "wq"
  refine ev_of (r_is_term NF RD z.t hN z.f z.l) fun h1 p1 => ?_
  walk_at "wq"
  refine sq_nx ?_
  walk_at "wq"
  refine ev_eq (r_halves z.t) ?_
  walk_at "wq"
  refine sq_nx ?_
  walk_at "wq"
  refine ev_eq (r_callable t1) ?_
  walk_at "wq"
  unfold flt
  refine br (fun c => ?_) fun c => ?_
  · rw [if_neg (by simpa using c)]
    walk_at "wq"
    exact ⟨rfl, p1⟩
  · rw [if_pos (by simpa using c)]
    walk_at "wq"
    refine sq_nx ?_
    walk_at "wq"
    refine ev_of (r_good ⟨t2, by omega, by omega⟩) fun h2 p2 => ?_
    walk_at "wq"
    refine br (fun c => ?_) fun c => ?_
    · rw [if_pos c]
      walk_at "wq"
      exact ⟨rfl, p1.trans p2⟩
    · rw [if_neg (by simp [c])]
      walk_at "wq"
      exact ⟨rfl, p1.trans p2⟩
theorem r_is_body {d : D} {h : Hd} (z : Sz NF d) (hN : 50 ≤ NF) : Rt (m_is_body NF RD [d] h) (.bl (gl d)) (Pre h) := by
  refine rt_of ?_
  unfold m_is_body
  walk_at "wq"
  refine ev_of (r_is_term NF RD z.t hN z.f z.l) fun h1 p1 => ?_
  walk_at "wq"
  refine ev_of (r_good z) fun h2 p2 => ?_
  exact ⟨rfl, p1.trans p2⟩
theorem r_is_clause {d : D} {h : Hd} (z : Sz NF d) (hN : 50 ≤ NF) : Rt (m_is_clause NF RD [d] h) (.bl (isNonD (flt d))) (Pre h) := by
  refine rt_of ?_
  unfold m_is_clause
  walk_at "wq"
  refine ev_of (r_fault z hN) fun h1 p1 => ?_
  walk_at "wq"
  refine ⟨_, _, rfl, rfl, p1⟩
/-- what a term with calls has of parts -/
theorem wc_T {d : D} : ∀ n, (parts d).length ≤ n → T d → T (wc d) ∧ (parts (wc d)).length ≤ 2 * (parts d).length
  | 0, hn, _ => by have := parts_pos d; omega
  | n + 1, hn, t => by
    cases c : isCon d with
    | true =>
      obtain ⟨f, a, as, rfl⟩ := isCmp_args t (isCon_cmp t c)
      rw [wc_con c]
      have hpa := parts_args t
      simp only [K21.args] at hpa
      rw [hpa, List.length_cons] at hn
      have key : ∀ ds : List D, (∀ x ∈ ds, T x) → (partss ds).length ≤ n → (∀ x ∈ ds.map wc, T x) ∧ (partss (ds.map wc)).length ≤ 2 * (partss ds).length := by
        intro ds
        induction ds with
        | nil => intro _ _; exact ⟨by simp, by simp [partss]⟩
        | cons x ds ih =>
          intro hx hl
          simp only [partss, List.length_append] at hl
          obtain ⟨a1, a2⟩ := wc_T (d := x) n (by omega) (hx x (by simp))
          obtain ⟨b1, b2⟩ := ih (fun y hy => hx y (by simp [hy])) (by omega)
          refine ⟨?_, ?_⟩
          · intro y hy
            rcases List.mem_cons.mp hy with rfl | hy
            · exact a1
            · exact b1 y hy
          · simp only [List.map_cons, partss, List.length_append]
            omega
      obtain ⟨k1, k2⟩ := key (a :: as) t.args (by omega)
      cases t with
      | cmp _ _ _ hf hl ht =>
        refine ⟨.cmp f (wc a) (as.map wc) hf (by simpa using hl) (by simpa using k1), ?_⟩
        rw [hpa]
        simp only [parts, partsT, List.length_cons, List.map_cons] at k2 ⊢
        omega
    | false =>
      rw [wc_leaf t c]
      split
      · refine ⟨.cmp "call" d [] (by decide +kernel) (by decide) (by simpa using t), ?_⟩
        have := parts_pos d
        simp only [parts, partsT, partss, List.length_cons, List.length_append, List.length_nil]
        omega
      · exact ⟨t, by omega⟩
theorem r_kept {d : D} {h : Hd} (t : T d) (hf : 6 * (parts d).length + 50 < NF) (hl : 6 * (parts d).length + 100 ≤ LN) : Rt (m_kept_form NF RD [d] h) (kept d) (Pre h) := by
  obtain ⟨t1, t2, l1, l2⟩ := hv_T t
  obtain ⟨t3, l3⟩ := wc_T _ (Nat.le_refl _) t2
  have hp := parts_pos d
  refine rt_of ?_
  unfold m_kept_form
  walk_at "wq"
  refine ev_eq (r_halves t) ?_
  walk_at "wq"
  refine sq_nx ?_
  walk_at "wq"
  refine ev_of (r_with_calls t2 (by omega) (by omega)) fun h1 p1 => ?_
  walk_at "wq"
  refine sq_nx ?_
  walk_at "wq"
  have hpl : (partss [(hv d).1, wc (hv d).2]).length = (parts (hv d).1).length + (parts (wc (hv d).2)).length := by simp [partss]
  refine (r_renumbering (ts := [(hv d).1, wc (hv d).2]) ?_ (by omega) (by omega) (by simp; omega) (get_new _ _)).mono ?_
  · intro x hx
    simp only [List.mem_cons, List.not_mem_nil, or_false] at hx
    rcases hx with rfl | rfl
    · exact ⟨t1, by omega, by omega⟩
    · exact ⟨t3, by omega, by omega⟩
  rintro r h2 ⟨m, rfl, hm, hp2, e⟩
  walk_at "wq"
  refine sq_nx ?_
  walk_at "wq"
  refine ev_of (r_replaced t1 (by omega) (by omega) e) fun h3 p3 => ?_
  walk_at "wq"
  refine ev_of (r_replaced t3 (by omega) (by omega) (p3.get e)) fun h4 p4 => ?_
  walk_at "wq"
  exact ⟨rfl, ((((p1.app' _).trans hp2).trans p3).trans p4)⟩
end


section
variable {NF RD : Nat}
theorem said_x {d w : D} {h h1 : Hd} (e : m_fault_of NF RD [d] h = some (w, h1)) (hw : isNonD w = false) : m__law_said NF RD [d] h = some (w, h1) := by
  have x : x_stored NF RD [d] h = some (⟨"NoClause", [("why", w)]⟩, h1) := by
    simp [x_stored, bodyX, seqX, noX, asgM, callM, consM, nilM, varM, startD, e, nameG, ifX, testM, opM, isntD, cM, hw, raiseX]
  have hsub : subX "NoClause" "NoClause" = true := by decide +kernel
  have hL : LX.contains "NoClause" = true := by decide +kernel
  have hT : (TX.any fun p => decide (p.1 = "NoClause") && p.2.contains "why") = true := by decide +kernel
  simp [m__law_said, bodyM, seqM, asgM, cM, nameG, startD, tryM, callX, consM, nilM, varM, x, hL, handsM, hsub, handM, okI, setI, fldX, hT, retM]
theorem said_k {d w k : D} {h h1 h2 : Hd} (e : m_fault_of NF RD [d] h = some (w, h1)) (hw : isNonD w = true) (e2 : m_kept_form NF RD [d] h1 = some (k, h2)) : m__law_said NF RD [d] h = some (k, h2) := by
  have x : x_stored NF RD [d] h = none := by
    simp [x_stored, bodyX, seqX, noX, asgM, callM, consM, nilM, varM, startD, e, nameG, ifX, testM, opM, isntD, cM, hw, ifSM, passM]
  have m : m_stored NF RD [d] h = some (k, h2) := by
    simp [m_stored, bodyM, seqM, asgM, callM, consM, nilM, varM, startD, e, nameG, ifSM, testM, opM, isntD, cM, hw, passM, retM, e2]
  simp [m__law_said, bodyM, seqM, asgM, cM, nameG, startD, tryM, callX, callM, consM, nilM, varM, x, m, retM]
def said (d : D) : D := if isNonD (flt d) = true then kept d else flt d
theorem r_said {d : D} {h : Hd} (z : Sz NF d) (hN : 50 ≤ NF) (hf : 6 * (parts d).length + 50 < NF) (hl : 6 * (parts d).length + 100 ≤ LN) : Rt (m__law_said NF RD [d] h) (said d) (Pre h) := by
  obtain ⟨h1, e, p1⟩ := r_fault (RD := RD) (h := h) z hN
  unfold said
  split
  · rename_i c
    obtain ⟨h2, e2, p2⟩ := r_kept (RD := RD) (h := h1) z.t hf hl
    exact ⟨h2, said_k e c e2, p1.trans p2⟩
  · rename_i c
    exact ⟨h1, said_x e (by simpa using c), p1⟩
end


theorem inV_ints (n : Int) (ns : List Int) : inV (.int n) (ns.map V.int) = decide (n ∈ ns) := by
  unfold inV
  rw [List.any_map]
  induction ns with
  | nil => simp
  | cons m ns ih =>
    rw [List.any_cons, ih]
    simp only [Function.comp_apply, eqV, List.mem_cons]
    by_cases q : m = n
    · subst q; simp
    · have q' : ¬ n = m := fun e => q e.symm
      simp [q, q']
theorem fl_ints : ∀ ns : List Int, flDs (ns.map .int) = some (ns.map V.int)
  | [] => rfl
  | n :: ns => by simp [flDs, flD, fl_ints ns]
theorem lf_notin {n : Int} {m : Nat} {ns : List Int} {h : Hd} {Q : D → Hd → Prop} (e : h[m]? = some (.lst (ns.map .int))) (q : Q (.bl (!decide (n ∈ ns))) h) : Ev (inD true (.int n) (.at m) h) Q := ⟨_, _, by simp only [inD, seqD, e, flD, fl_ints, inV_ints, Bool.true_xor], q⟩
theorem dep_pos (d : D) : 1 ≤ dep d := by rw [dep_args]; omega
theorem dep_mem {ds : List D} {x : D} (h : x ∈ ds) : dep x ≤ deps ds := by
  induction ds with
  | nil => cases h
  | cons d ds ih =>
    rw [deps]
    rcases List.mem_cons.mp h with rfl | h
    · omega
    · have := ih h
      omega

section
variable {NF RD : Nat}
theorem foldN_len' (ts : List D) (ns : List Int) (ht : ∀ t ∈ ts, T t) : ((partss ts).foldl stepN ns).length ≤ ns.length + (partss ts).length := foldN_len _ _ fun a ha => by
  obtain ⟨d, hd, had⟩ := partss_mem ha
  exact parts_T (ht d hd) a had
theorem b_lnums {rec : GC} {t : D} {l : Nat} {x p : Option D} {h : Hd} {ns : List Int} (ht : T t) (e : h[l]? = some (.lst (ns.map .int))) (hl : ns.length + 1 ≤ LN)
    (hr : ∀ h, h[l]? = some (.lst (ns.map .int)) → isCmp t = true → Ev (rec [.tup (args t), .at l] h) fun r h' => Fw l h h' ∧ h'[l]? = some (.lst (((partss (args t)).foldl stepN ns).map .int))) :
    Ev (B__law_numbers_0 NF RD rec [x, some (.at l), some t] h) fun f h' => f = .nx [x, some (.at l), some t] ∧ Fw l h h' ∧ h'[l]? = some (.lst (((parts t).foldl stepN ns).map .int)) := by
  have hpa := parts_args ht
  have hsub : (parts t).foldl stepN ns = (partss (args t)).foldl stepN (stepN ns t) := by rw [hpa]; rfl
  unfold B__law_numbers_0
  walk_at "wq"
  cases ht with
  | var n hn =>
    walk_at "wq"
    refine lf_notin e ?_
    refine blk (br (fun c2 => ?_) fun c2 => ?_)
    · walk_at "wq"
      refine lf_append e (by rw [List.length_map]; omega) ?_
      refine ⟨rfl, Fw.set _, ?_⟩
      rw [get_set e]
      have : ¬ n ∈ ns := by simpa using c2
      have h2 : (parts (.tup [.int n])).foldl stepN ns = addN ns n := rfl
      rw [h2]
      unfold addN
      rw [if_neg this]
      simp
    · walk_at "wq"
      refine ⟨rfl, Fw.refl _ _, ?_⟩
      rw [e]
      have : n ∈ ns := by simpa using c2
      have h2 : (parts (.tup [.int n])).foldl stepN ns = addN ns n := rfl
      rw [h2]
      unfold addN
      rw [if_pos this]
  | int i hi => walk_at "wq"; exact ⟨rfl, Fw.refl _ _, by rw [e]; rfl⟩
  | str s hs => walk_at "wq"; exact ⟨rfl, Fw.refl _ _, by rw [e]; rfl⟩
  | cmp f a as hf hla hta =>
    walk_at "wq"
    rw [cut1]
    refine (hr h e (isCmp_cmp _ _ _)).mono ?_
    rintro r h' ⟨hf', e'⟩
    refine ⟨rfl, hf', ?_⟩
    rw [e', hsub]
    rfl
theorem r_lnums : ∀ (k : Nat) (ts : List D) (l : Nat) (ns : List Int) (x : D) (h : Hd), (∀ t ∈ ts, T t) → deps ts < k → ts.length < NF → 20 ≤ NF → ns.length + (partss ts).length + 16 ≤ LN → (x = .tup ts ∨ ∃ n, x = .at n ∧ n ≠ l ∧ h[n]? = some (.lst ts)) → h[l]? = some (.lst (ns.map .int)) →
    Ev (m__law_numbers NF RD k [x, .at l] h) fun r h' => r = .at l ∧ Fw l h h' ∧ h'[l]? = some (.lst (((partss ts).foldl stepN ns).map .int))
  | 0, ts, l, ns, x, h, ht, hd, hn, hN, hl, hx, e => by omega
  | k + 1, ts, l, ns, x, h, ht, hd, hn, hN, hl, hx, e => by
    unfold m__law_numbers
    walk_at "wq"
    have key : ∀ s, (∀ h', Fw l h h' → Yields s ts h') → Ev (DL.forM s (nameG 2) (B__law_numbers_0 NF RD (m__law_numbers NF RD k)) NF 0 (startD 3 [x, .at l]) h) fun f h1 => SqK (retM (varM 1)) (BdK fun r h' => r = .at l ∧ Fw l h h' ∧ h'[l]? = some (.lst (((partss ts).foldl stepN ns).map .int))) f h1 := by
      intro s hs
      refine ev_for (xs := ts) (fun as sg h1 => Fw l h h1 ∧ h1[l]? = some (.lst (((partss as).foldl stepN ns).map .int)) ∧ ∃ p, sg = [some x, some (.at l), p]) ⟨Fw.refl _ _, by simpa [partss] using e, none, rfl⟩ hn (fun as sg h1 i => hs _ i.1) ?_ ?_
      · rintro as t bs sg h1 ex ⟨hf, e1, p, rfl⟩
        have tt := ht t (by rw [ex]; simp)
        have hta : ∀ a ∈ as, T a := fun a ha => ht a (by rw [ex]; simp [ha])
        have hlen := foldN_len' as ns hta
        have hpl : (partss ts).length = (partss as).length + (parts t).length + (partss bs).length := by rw [ex, partss_app]; simp [partss]; omega
        have hpp := parts_pos t
        have hdt : dep t ≤ deps ts := dep_mem (by rw [ex]; simp)
        have hda := dep_args t
        walk_at "wq"
        refine (b_lnums (x := some x) (p := p) tt e1 (by omega) ?_).mono ?_
        · intro h2 e2 hc
          have hpa := parts_args tt
          have hpa' := congrArg List.length hpa
          rw [List.length_cons] at hpa'
          have h8 := args_few tt
          exact (r_lnums k (args t) l _ (.tup (args t)) h2 tt.args (by omega) (by omega) hN (by omega) (.inl rfl) e2).mono fun r h' z => z.2
        · rintro _ h2 ⟨rfl, hf2, e2⟩
          refine lp_nx ⟨hf.trans hf2, ?_, _, rfl⟩
          rw [e2, partss_app, List.foldl_append]
          simp [partss]
      · rintro sg h1 ⟨hf, e1, p, rfl⟩
        refine sq_nx ?_
        walk_at "wq"
        exact ⟨rfl, hf, e1⟩
    rcases hx with rfl | ⟨n, rfl, hnl, en⟩
    · walk_at "wq"
      exact key _ fun _ _ => yl_fix
    · walk_at "wq"
      exact key _ fun h' hf => yl_obj (hf.get en hnl)
theorem r_lput {tb : Nat} {kvs : List (Key × D)} : ∀ (k : Nat) (d : D) (h : Hd), T d → dep d ≤ k → 50 ≤ NF → h[tb]? = some (.dct kvs) → Rt (m__law_put NF RD k [d, .at tb] h) (put kvs d) (Pre h)
  | 0, d, h, t, hd, hN, e => by have := dep_pos d; omega
  | k + 1, d, h, t, hd, hN, e => by
    have hda := dep_args d
    refine rt_of ?_
    unfold m__law_put
    walk_at "wq"
    cases t with
    | var n hn =>
      walk_at "wq"
      refine sq_nx ?_
      walk_at "wq"
      refine ev_get2 ?_
      walk_at "wq"
      refine ⟨tb, rfl, ?_, ?_⟩
      · unfold isDct; simp [e]
      walk_at "wq"
      refine ⟨kvs, .inl n, e, rfl, ?_⟩
      walk_at "wq"
      exact ⟨(put_var _ _).symm, Pre.refl _⟩
    | int i hi =>
      walk_at "wq"
      exact ⟨by simp [put], Pre.refl _⟩
    | str s hs =>
      walk_at "wq"
      exact ⟨by simp [put], Pre.refl _⟩
    | cmp f a as hf hl ht =>
      walk_at "wq"
      refine sq_nx ?_
      walk_at "wq"
      refine sq_nx ?_
      walk_at "wq"
      refine ev_lc ?_
      walk_at "wq"
      rw [cut1]
      have hLN := LN_eq
      walk_at "wq"
      refine ⟨a :: as, fun cs ys h3 => Pre h h3 ∧ ys = cs.map (put kvs), ?_, ?_, ⟨Pre.app _ _, rfl⟩, fun _ _ _ _ _ => yl_fix, ?_, ?_⟩
      · simp only [List.length_cons]; omega
      · simp only [List.length_cons]; omega
      · rintro cs z bs ys h3 ez ⟨hp3, rfl⟩ e3
        unfold E__law_put_0
        have hz : z ∈ a :: as := by rw [ez]; simp
        have hdz := dep_mem hz
        simp only [args] at hda
        walk_at "wp"
        refine ev_of (r_lput k z h3 (ht z hz) (by omega) hN (hp3.get e)) fun h4 p4 => ?_
        exact ⟨p4.get e3, (hp3.trans p4).set (Nat.le_refl _) _, by simp⟩
      · rintro zs h3 e3 ⟨hp3, rfl⟩
        walk_at "wp"
        refine lf_addT ?_ ?_
        · simp only [List.length_cons, List.length_nil, List.length_map]; omega
        walk_at "wp"
        exact ⟨(put_cmp _ _ _ _).symm, hp3⟩
end


section
variable {NF RD : Nat}
theorem r_lanew {a b : D} {l : Nat} {h : Hd} (ta : T a) (tb : T b) (hd : deps [a, b] < RD) (hN : 50 ≤ NF) (hl : (partss [a, b]).length + 20 ≤ LN) (hf : (partss [a, b]).length < NF) (e : h[l]? = some (.lst [a, b])) :
    Ev (m__law_anew NF RD [.at l] h) fun r h' => ∃ m, r = .at m ∧ Pre h h' ∧ h'[m]? = some (.lst [put (tab (nums (partss [a, b]))) a, put (tab (nums (partss [a, b]))) b]) := by
  have htT : ∀ t ∈ [a, b], T t := by
    intro t ht
    simp only [List.mem_cons, List.not_mem_nil, or_false] at ht
    rcases ht with rfl | rfl <;> assumption
  have hnl : (nums (partss [a, b])).length ≤ (partss [a, b]).length := by
    have := foldN_len' [a, b] [] htT
    simpa [nums] using this
  have hnd := tab_nodup (nums_nodup (partss [a, b]))
  unfold m__law_anew
  walk_at "wq"
  refine sq_nx ?_
  walk_at "wq"
  have hll := lt_of e
  refine (r_lnums RD [a, b] (h ++ [O.dct []]).length [] (.at l) _ htT hd (by simp; omega) (by omega) (by simp; omega) (.inr ⟨l, rfl, by simp; omega, (Pre.app _ _).get ((Pre.app _ _).get e)⟩) (get_new _ _)).mono ?_
  rintro r h1 ⟨rfl, hf1, e1⟩
  have hp01 : ∀ {i : Nat} {o : O}, (h ++ [O.dct []] ++ [O.lst []])[i]? = some o → i ≠ (h ++ [O.dct []]).length → h1[i]? = some o := fun q hn => hf1.get q hn
  have e0 : h1[h.length]? = some (.dct []) := hp01 ((Pre.app _ _).get (get_new h _)) (by simp)
  have hpre : Pre h h1 := by
    refine ⟨h1.drop h.length, ?_⟩
    apply List.ext_getElem?
    intro i
    by_cases hi : i < h.length
    · rw [List.getElem?_append_left hi]
      obtain ⟨o, ho⟩ : ∃ o, h[i]? = some o := ⟨h[i], List.getElem?_eq_getElem hi⟩
      rw [ho]
      exact hp01 ((Pre.app _ _).get ((Pre.app _ _).get ho)) (by simp; omega)
    · have := hf1.len
      simp at this
      rw [List.getElem?_append_right (by omega), List.getElem?_drop]
      congr 1
      omega
  generalize hm : (h ++ [O.dct []]).length = m at *
  have hmm : m ≠ h.length := by rw [← hm]; simp
  have hel : (enuL ((nums (partss [a, b])).map .int)).length = (nums (partss [a, b])).length := by unfold enuL; simp
  replace e1 : h1[m]? = some (.lst ((nums (partss [a, b])).map .int)) := e1
  walk_at "wq"
  refine ⟨m, _, rfl, e1, ?_⟩
  refine ev_for (xs := enuL ((nums (partss [a, b])).map .int)) (fun as sg h2 => (∃ p q s, sg = [some (.at l), some (.at h.length), p, q, s]) ∧ Pre h h2 ∧ h2[h.length]? = some (.dct (as.map kvE)) ∧ h2[m]? = some (.lst ((nums (partss [a, b])).map .int))) ⟨⟨_, _, _, rfl⟩, hpre, e0, e1⟩ (by omega) (fun as sg h2 i => yl_enu i.2.2.2) ?_ ?_
  · rintro as x bs sg h2 ex ⟨⟨p, q, s, rfl⟩, hp2, e2, e3⟩
    have hx : (enuL ((nums (partss [a, b])).map .int))[as.length]? = some x := by rw [ex]; simp
    obtain ⟨k, hk, rfl⟩ := enu_mem hx
    walk_at "wq"
    unfold B__law_anew_1
    refine ev_setK ?_
    walk_at "wq"
    refine ⟨_, _, _, rfl, e2, rfl, ?_, ?_⟩
    · rw [List.length_map]
      have := congrArg List.length ex
      rw [hel] at this
      simp at this
      omega
    rw [putD_new]
    · refine ⟨⟨_, _, _, rfl⟩, hp2.set (Nat.le_refl _) _, ?_, by rw [get_ne (by omega)]; exact e3⟩
      rw [get_set e2, List.map_append]
      simp [kvE]
    · intro kv hkv e4
      unfold tab at hnd
      rw [ex, List.map_append, List.map_append, List.nodup_append] at hnd
      exact hnd.2.2 kv.1 (List.mem_map.mpr ⟨kv, hkv, rfl⟩) (.inl k) (by simp [kvE]) e4
  · rintro sg h2 ⟨⟨p, q, s, rfl⟩, hp2, e2, e3⟩
    refine sq_nx ?_
    walk_at "wq"
    have el2 := hp2.get e
    have hLN := LN_eq
    refine ev_lc ?_
    walk_at "wq"
    refine ⟨[a, b], fun cs ys h3 => Pre h2 h3 ∧ ys = cs.map (put (tab (nums (partss [a, b])))), by simp; omega, by simp; omega, ⟨Pre.app _ _, rfl⟩, fun _ _ _ i _ => yl_obj (i.1.get el2), ?_, ?_⟩
    · rintro cs z bs ys h3 ez ⟨hp3, rfl⟩ e4
      have hz : z ∈ [a, b] := by rw [ez]; simp
      walk_at "wq"
      unfold E__law_anew_0
      walk_at "wq"
      refine ev_of (r_lput RD z h3 (htT z hz) (by have := dep_mem hz; omega) hN (hp3.get e2)) fun h4 p4 => ?_
      exact ⟨p4.get e4, (hp3.trans p4).set (Nat.le_refl _) _, by simp [tab]⟩
    · rintro zs h3 e4 ⟨hp3, rfl⟩
      exact ⟨_, rfl, hp2.trans hp3, e4⟩
/-! ### constructs, once more -/
def KV : List (Key × D) := [(.inr ",", .int 3), (.inr ";", .int 3), (.inr "->", .int 3), (.inr "*->", .int 3), (.inr "forall", .int 3), (.inr "\\+", .int 2), (.inr "once", .int 2), (.inr "ignore", .int 2)]
theorem kv_val (f : Str) : (valD KV (.inr f)).getD (.int 0) = .int (if f ∈ TWO then 3 else if f ∈ ONE then 2 else 0) := by
  unfold valD KV
  simp only [List.find?_cons, List.find?_nil, TWO, ONE, List.mem_cons, List.not_mem_nil, or_false]
  by_cases h1 : f = ","
  · subst h1; rfl
  by_cases h2 : f = ";"
  · subst h2; rfl
  by_cases h3 : f = "->"
  · subst h3; rfl
  by_cases h4 : f = "*->"
  · subst h4; rfl
  by_cases h5 : f = "forall"
  · subst h5; rfl
  by_cases h6 : f = "\\+"
  · subst h6; rfl
  by_cases h7 : f = "once"
  · subst h7; rfl
  by_cases h8 : f = "ignore"
  · subst h8; rfl
  have e : ∀ g : Str, ¬ f = g → decide (g = f) = false := fun g hg => decide_eq_false fun z => hg z.symm
  simp [h1, h2, h3, h4, h5, h6, h7, h8, e _ h1, e _ h2, e _ h3, e _ h4, e _ h5, e _ h6, e _ h7, e _ h8]
theorem r_lcon {d : D} {h : Hd} (t : T d) : Rt (m__law_is_construct NF RD [d] h) (.bl (isCon d)) (Pre h) := by
  refine rt_of ?_
  unfold m__law_is_construct
  walk_at "wq"
  refine ⟨get_new _ _, by decide, ?_⟩
  walk_at "wq"
  refine sq_nx ?_
  have ek : ((h ++ [O.dct []]).set h.length (O.dct KV))[h.length]? = some (.dct KV) := get_set (get_new _ _)
  have hp : Pre h ((h ++ [O.dct []]).set h.length (O.dct KV)) := (Pre.app _ _).set (Nat.le_refl _) _
  change Ev (retM _ _ ((h ++ [O.dct []]).set h.length (O.dct KV))) _
  generalize (h ++ [O.dct []]).set h.length (O.dct KV) = g at ek hp
  cases t with
  | var n hn => walk_at "wq"; exact ⟨rfl, hp⟩
  | int i hi => walk_at "wq"; exact ⟨rfl, hp⟩
  | str s hs => walk_at "wq"; exact ⟨rfl, hp⟩
  | cmp f a as hf hl ht =>
    walk_at "wq"
    refine br_t (by simp; omega) ?_
    walk_at "wq"
    refine ev_get2 ?_
    walk_at "wq"
    refine ⟨h.length, rfl, ?_, ?_⟩
    · unfold isDct; simp [ek]
    walk_at "wq"
    refine ⟨KV, .inr f, ek, rfl, ?_⟩
    walk_at "wq"
    rw [kv_val]
    walk_at "wq"
    refine ⟨?_, hp⟩
    have hdis : f ∈ TWO → ¬ f ∈ ONE := by
      intro h1
      simp only [TWO, List.mem_cons, List.not_mem_nil, or_false] at h1
      rcases h1 with rfl | rfl | rfl | rfl | rfl <;> decide +kernel
    match as with
    | [] =>
      simp only [isCon, wrd]
      by_cases c1 : f ∈ TWO
      · rw [if_pos c1, if_neg (hdis c1)]; rfl
      · rw [if_neg c1]
        by_cases c2 : f ∈ ONE
        · rw [if_pos c2, if_pos c2]; rfl
        · rw [if_neg c2, if_neg c2]; rfl
    | [b] =>
      simp only [isCon, wrd]
      by_cases c1 : f ∈ TWO
      · rw [if_pos c1, if_pos c1]; rfl
      · rw [if_neg c1, if_neg c1]
        by_cases c2 : f ∈ ONE
        · rw [if_pos c2]; rfl
        · rw [if_neg c2]; rfl
    | b :: b' :: as =>
      have : isCon (.tup (.str f :: a :: b :: b' :: as)) = false := rfl
      rw [this]
      refine congrArg D.bl (decide_eq_false ?_)
      have : (4 : Int) ≤ ((D.str f :: a :: b :: b' :: as).length : Int) := by simp only [List.length_cons]; omega
      split
      · omega
      · split <;> omega
theorem blsD_map : ∀ bs : List Bool, blsD (bs.map D.bl) = some bs
  | [] => rfl
  | b :: bs => by simp [blsD, blsD_map bs]
theorem lf_allL {n : Nat} {bs : List Bool} {h : Hd} {Q : D → Hd → Prop} (e : h[n]? = some (.lst (bs.map D.bl))) (q : Q (.bl (bs.all id)) h) : Ev (allD [.at n] h) Q := ⟨_, _, by simp only [allD, e, blsD_map], q⟩
theorem r_lbody : ∀ (k : Nat) (d : D) (h : Hd), T d → dep d ≤ k → 50 ≤ NF → Rt (m__law_is_body NF RD k [d] h) (.bl (gl d)) (Pre h)
  | 0, d, h, t, hd, hN => by have := dep_pos d; omega
  | k + 1, d, h, t, hd, hN => by
    have hda := dep_args d
    have hLN := LN_eq
    refine rt_of ?_
    unfold m__law_is_body
    walk_at "wq"
    refine ev_of (r_lcon t) fun h1 p1 => ?_
    cases c : isCon d with
    | true =>
      obtain ⟨f, a, as, rfl⟩ := isCmp_args t (isCon_cmp t c)
      have h8 := args_few t
      rw [gl_con t c]
      simp only [K21.args] at hda h8 ⊢
      walk_at "wq"
      refine ev_lc ?_
      walk_at "wq"
      rw [cut1]
      walk_at "wq"
      refine ⟨a :: as, fun cs ys h3 => Pre h1 h3 ∧ ys = cs.map fun x => .bl (gl x), by omega, by omega, ⟨Pre.app _ _, rfl⟩, fun _ _ _ _ _ => yl_fix, ?_, ?_⟩
      · rintro cs z bs ys h3 ez ⟨hp3, rfl⟩ e3
        have hz : z ∈ a :: as := by rw [ez]; simp
        have hdz := dep_mem hz
        walk_at "wq"
        unfold E__law_is_body_0
        walk_at "wq"
        refine ev_of (r_lbody k z h3 (t.args z hz) (by omega) hN) fun h4 p4 => ?_
        exact ⟨p4.get e3, (hp3.trans p4).set (Nat.le_refl _) _, by simp⟩
      · rintro zs h3 e3 ⟨hp3, rfl⟩
        walk_at "wq"
        refine lf_allL (bs := (a :: as).map gl) (by rw [List.map_map]; exact e3) ?_
        walk_at "wq"
        refine ⟨?_, p1.trans hp3⟩
        have : ∀ ds : List D, (ds.map gl).all id = gls ds := by
          intro ds
          induction ds with
          | nil => rfl
          | cons x ds ih => simp [gls, ih] at ih ⊢
        rw [this]
    | false =>
      rw [gl_leaf t c]
      walk_at "wq"
      refine sq_nx ?_
      walk_at "wq"
      cases t with
      | var n hn => walk_at "wq"; exact ⟨rfl, p1⟩
      | int i hi => walk_at "wq"; exact ⟨rfl, p1⟩
      | str s hs => walk_at "wq"; exact ⟨rfl, p1⟩
      | cmp f a as hf hl ht => walk_at "wq"; exact ⟨rfl, p1⟩
theorem r_lcalls : ∀ (k : Nat) (d : D) (h : Hd), T d → dep d ≤ k → 50 ≤ NF → Rt (m__law_with_calls NF RD k [d] h) (wc d) (Pre h)
  | 0, d, h, t, hd, hN => by have := dep_pos d; omega
  | k + 1, d, h, t, hd, hN => by
    have hda := dep_args d
    have hLN := LN_eq
    refine rt_of ?_
    unfold m__law_with_calls
    walk_at "wq"
    refine ev_of (r_lcon t) fun h1 p1 => ?_
    cases c : isCon d with
    | true =>
      obtain ⟨f, a, as, rfl⟩ := isCmp_args t (isCon_cmp t c)
      have h8 := args_few t
      rw [wc_con c]
      simp only [K21.args] at hda h8
      walk_at "wq"
      refine ev_lc ?_
      walk_at "wq"
      rw [cut1]
      walk_at "wq"
      refine ⟨a :: as, fun cs ys h3 => Pre h1 h3 ∧ ys = cs.map wc, by omega, by omega, ⟨Pre.app _ _, rfl⟩, fun _ _ _ _ _ => yl_fix, ?_, ?_⟩
      · rintro cs z bs ys h3 ez ⟨hp3, rfl⟩ e3
        have hz : z ∈ a :: as := by rw [ez]; simp
        have hdz := dep_mem hz
        walk_at "wq"
        unfold E__law_with_calls_0
        walk_at "wq"
        refine ev_of (r_lcalls k z h3 (t.args z hz) (by omega) hN) fun h4 p4 => ?_
        exact ⟨p4.get e3, (hp3.trans p4).set (Nat.le_refl _) _, by simp⟩
      · rintro zs h3 e3 ⟨hp3, rfl⟩
        walk_at "wq"
        refine lf_addT ?_ ?_
        · simp only [List.length_cons, List.length_nil, List.length_map] at h8 ⊢; omega
        walk_at "wq"
        exact ⟨rfl, p1.trans hp3⟩
    | false =>
      rw [wc_leaf t c]
      walk_at "wq"
      refine sq_nx ?_
      walk_at "wq"
      cases t with
      | var n hn => walk_at "wq"; exact ⟨by rw [if_pos (by simp [isVar, hn])], p1⟩
      | int i hi => walk_at "wq"; exact ⟨rfl, p1⟩
      | str s hs => walk_at "wq"; exact ⟨rfl, p1⟩
      | cmp f a as hf hl ht => walk_at "wq"; exact ⟨rfl, p1⟩
theorem r_lgoal {d : D} {h : Hd} (t : T d) : m__law_is_goal NF RD [d] h = some (.bl (isCal d), h) := by
  have : Ev (m__law_is_goal NF RD [d] h) fun r h' => r = .bl (isCal d) ∧ h' = h := by
    unfold m__law_is_goal
    cases t with
    | var n hn => walk_at "wq"; exact ⟨rfl, rfl⟩
    | int i hi => walk_at "wq"; exact ⟨rfl, rfl⟩
    | str s hs => walk_at "wq"; exact ⟨rfl, rfl⟩
    | cmp f a as hf hl ht => walk_at "wq"; exact ⟨rfl, rfl⟩
  obtain ⟨r, h', e, rfl, rfl⟩ := this
  exact e
end


theorem wc_dep : ∀ (n : Nat) {d : D}, (parts d).length ≤ n → T d → dep (wc d) ≤ dep d + 1
  | 0, d, hn, _ => by have := parts_pos d; omega
  | n + 1, d, hn, t => by
    cases c : isCon d with
    | true =>
      obtain ⟨f, a, as, rfl⟩ := isCmp_args t (isCon_cmp t c)
      rw [wc_con c, dep_args, dep_args]
      have hpa := parts_args t
      simp only [K21.args] at hpa ⊢
      rw [hpa, List.length_cons] at hn
      have key : ∀ ds : List D, (∀ x ∈ ds, T x) → (partss ds).length ≤ n → deps (ds.map wc) ≤ deps ds + 1 := by
        intro ds
        induction ds with
        | nil => intro _ _; simp [deps]
        | cons x ds ih =>
          intro hx hl
          simp only [partss, List.length_append] at hl
          have a1 := wc_dep n (d := x) (by omega) (hx x (by simp))
          have b1 := ih (fun y hy => hx y (by simp [hy])) (by omega)
          simp only [List.map_cons, deps]
          omega
      have := key (a :: as) t.args (by omega)
      omega
    | false =>
      rw [wc_leaf t c]
      split
      · rw [dep_args]; simp [K21.args, deps]; omega
      · omega
theorem hv_dep {d : D} (t : T d) : dep (hv d).1 ≤ dep d ∧ dep (hv d).2 ≤ dep d := by
  have hp := dep_pos d
  have base : dep d ≤ dep d ∧ dep (.str "true") ≤ dep d := ⟨Nat.le_refl _, hp⟩
  unfold hv
  split
  · split
    · rename_i f a b _
      rw [dep_args (.tup [.str f, a, b])]
      simp only [K21.args, deps]
      omega
    · exact base
  · exact base
section
variable {NF RD : Nat}
theorem r_due {d : D} {h : Hd} (t : T d) (hd : dep d + 1 < RD) (hf : 6 * (parts d).length + 50 < NF) (hl : 6 * (parts d).length + 100 ≤ LN) : Rt (m__law_due NF RD [d] h) (said d) (Pre h) := by
  obtain ⟨t1, t2, l1, l2⟩ := hv_T t
  obtain ⟨d1, d2⟩ := hv_dep t
  obtain ⟨t3, l3⟩ := wc_T _ (Nat.le_refl _) t2
  have d3 := wc_dep _ (Nat.le_refl _) t2
  have hp := parts_pos d
  have tail : ∀ a b, hv d = (a, b) → Ev ((seqM (ifSM (tnotM (truM (callM 1 (m__law_is_goal NF RD) [] (consM (varM 1) nilM)))) (retM (cM (.str "head"))) passM) (seqM (ifSM (tnotM (truM (callM 1 (m__law_is_body NF RD RD) [] (consM (varM 2) nilM)))) (retM (cM (.str "body"))) passM) (seqM (asgM (callM 1 (m__law_anew NF RD) [] (consM (lstM (consM (varM 1) (consM (callM 1 (m__law_with_calls NF RD RD) [] (consM (varM 2) nilM)) nilM))) nilM)) (uplG 2 (consG (nameG 1) (consG (nameG 2) nilG)))) (retM (tupM (consM (cM (.str ":-")) (consM (varM 1) (consM (varM 2) nilM)))))))) [some d, some a, some b] h) (BdK fun r h' => r = said d ∧ Pre h h') := by
    intro a b e
    obtain ⟨e1, e2⟩ : (hv d).1 = a ∧ (hv d).2 = b := by rw [e]; exact ⟨rfl, rfl⟩
    rw [e1] at t1 d1 l1
    rw [e2] at t2 t3 d2 d3 l2 l3
    have es : said d = if isCal a = true then (if gl b = true then kept d else .str "body") else .str "head" := by
      unfold said flt
      rw [e1, e2]
      by_cases c1 : isCal a = true
      · by_cases c2 : gl b = true
        · simp [c1, c2, isNonD]
        · simp [c1, c2, isNonD]
      · simp [c1, isNonD]
    rw [es]
    walk_at "wq"
    refine ev_eq (r_lgoal t1) ?_
    walk_at "wq"
    refine br (fun c => ?_) fun c => ?_
    · rw [if_neg (by simpa using c)]
      walk_at "wq"
      exact ⟨rfl, Pre.refl _⟩
    rw [if_pos (by simpa using c)]
    walk_at "wq"
    refine sq_nx ?_
    walk_at "wq"
    refine ev_of (r_lbody RD b _ t2 (by omega) (by omega)) fun h1 p1 => ?_
    walk_at "wq"
    refine br (fun c => ?_) fun c => ?_
    · rw [if_neg (by simpa using c)]
      walk_at "wq"
      exact ⟨rfl, p1⟩
    rw [if_pos (by simpa using c)]
    walk_at "wq"
    refine sq_nx ?_
    walk_at "wq"
    refine ev_of (r_lcalls RD b _ t2 (by omega) (by omega)) fun h2 p2 => ?_
    walk_at "wq"
    have hpl : (partss [a, wc b]).length = (parts a).length + (parts (wc b)).length := by simp [partss]
    refine (r_lanew t1 t3 (by simp only [deps]; omega) (by omega) (by omega) (by omega) (get_new _ _)).mono ?_
    rintro r h3 ⟨m, rfl, p3, e3⟩
    walk_at "wq"
    refine ev_uplL e3 rfl ?_
    walk_at "wq"
    refine sq_nx ?_
    walk_at "wq"
    refine ⟨?_, ((p1.trans p2).app' _).trans p3⟩
    unfold kept ktb
    rw [e1, e2]
  refine rt_of ?_
  unfold m__law_due
  walk_at "wq"
  refine sq_nx ?_
  cases t with
  | var n hn =>
    walk_at "wq"
    refine sq_nx ?_
    exact tail _ _ rfl
  | int i hi =>
    walk_at "wq"
    refine sq_nx ?_
    exact tail _ _ rfl
  | str s hs =>
    walk_at "wq"
    refine sq_nx ?_
    exact tail _ _ rfl
  | cmp f a as hf0 _ _ =>
    match as with
    | [] =>
      walk_at "wq"
      refine sq_nx ?_
      exact tail _ _ rfl
    | [b] =>
      walk_at "wq"
      refine ⟨_, _, eq_ss (atom_strOk hf0) (by decide +kernel), ?_⟩
      walk_at "wq"
      refine br (fun c => ?_) fun c => ?_
      · walk_at "wq"
        refine sq_nx ?_
        exact tail _ _ (by simp only [hv]; rw [if_pos (by simpa using c)])
      · walk_at "wq"
        refine sq_nx ?_
        exact tail _ _ (by simp only [hv]; rw [if_neg (by simpa using c)])
    | b :: b' :: as =>
      walk_at "wq"
      refine sq_nx ?_
      exact tail _ _ rfl
end


mutual
def depD : D → Nat
  | .tup xs => depDs xs + 1
  | .rol xs => depDs xs + 1
  | .int _ => 0
  | .str _ => 0
  | .bl _ => 0
  | .non => 0
  | .ty _ => 0
  | .at _ => 0
  | .ad _ => 0
def depDs : List D → Nat
  | [] => 0
  | d :: ds => max (depD d) (depDs ds)
end
mutual
theorem pd_depth : ∀ d : D, (pd d).depth ≤ depD d
  | .tup xs => by
    have := pds_depth xs
    simp only [pd, PyData.depth, depD]
    omega
  | .rol xs => by
    have := pds_depth xs
    simp only [pd, PyData.depth, depD]
    omega
  | .int i => by simp [pd, PyData.depth]
  | .str i => by simp [pd, PyData.depth]
  | .bl i => by simp [pd, PyData.depth]
  | .non => by simp [pd, PyData.depth]
  | .ty i => by simp [pd, PyData.depth]
  | .at i => by simp [pd, PyData.depth]
  | .ad i => by simp [pd, PyData.depth]
theorem pds_depth : ∀ ds : List D, PyData.depthAll (pds ds) ≤ depDs ds
  | [] => by simp [pds, PyData.depthAll]
  | d :: ds => by
    have h1 := pd_depth d
    have h2 := pds_depth ds
    simp only [pds, PyData.depthAll, depDs]
    omega
end
theorem T.depD {d : D} (t : T d) : depD d ≤ dep d := by
  induction t with
  | var n h => simp [K21.depD, depDs, dep, depT, deps]
  | int i h => simp [K21.depD]
  | str s h => simp [K21.depD]
  | cmp f a as hf hl ht ih =>
    have go : ∀ ds : List D, (∀ x ∈ ds, K21.depD x ≤ dep x) → depDs ds ≤ deps ds := by
      intro ds
      induction ds with
      | nil => intro _; simp [depDs]
      | cons d ds ih2 =>
        intro h
        have h1 := h d List.mem_cons_self
        have h2 := ih2 fun x hx => h x (List.mem_cons_of_mem _ hx)
        rw [depDs, deps]
        omega
    have := go _ ih
    rw [dep_args]
    simp only [K21.depD, K21.args]
    rw [depDs, show K21.depD (.str f) = 0 by simp [K21.depD]]
    omega

/-! ### small things, and their texts -/
def AT : List Str := ["a", "b", "[]", "", "foo bar", "!", "true", "fail", "p", ";", ",", "->", "*->", "\\+", "once", "ignore", "forall", "call", "f", ":-", "head", "body"]
inductive Ss : D → Prop
  | str (s : Str) : s ∈ AT → Ss (.str s)
  | int (i : Int) : -1000000 ≤ i → i ≤ 1000000 → Ss (.int i)
  | tup (xs : List D) : (∀ x ∈ xs, Ss x) → Ss (.tup xs)
mutual
def cn : D → Nat
  | .tup xs => 1 + cns xs
  | .int _ => 1
  | .str _ => 1
  | .bl _ => 1
  | .non => 1
  | .ty _ => 1
  | .rol _ => 1
  | .at _ => 1
  | .ad _ => 1
def cns : List D → Nat
  | [] => 0
  | d :: ds => cn d + cns ds
end
def okS (s : Str) : Prop := PyData.strOk s = true
theorem okS_app {a b : Str} (ha : okS a) (hb : okS b) : okS (a ++ b) := by
  unfold okS PyData.strOk at *
  show (a.cps ++ b.cps).all _ = true
  rw [Array.all_append, ha, hb]
  rfl
theorem okS_of (s : String) : okS (Str.ofString s) := by
  unfold okS PyData.strOk
  rw [Str.ofString_eq_toList]
  simp only [List.all_toArray, List.all_eq_true, List.mem_map]
  rintro x ⟨c, _, rfl⟩
  have := c.valid
  simp only [decide_eq_true_eq]
  rcases this with h | ⟨_, h⟩
  · have : c.toNat < 0xd800 := h
    omega
  · exact h
structure Tx (s : Str) (n : Nat) : Prop where
  ok : okS s
  ln : s.length + 2 ≤ n
theorem tx_at : ∀ s ∈ AT, PyData.strOk (PyData.str s).shown = true ∧ (PyData.str s).shown.length ≤ 18 := by decide +kernel
theorem tx_int {i : Int} (h1 : -1000000 ≤ i) (h2 : i ≤ 1000000) : Tx (PyData.int i).shown 20 := by
  have e : (PyData.int i).shown = Str.ofString (toString i) := by unfold PyData.shown; rfl
  rw [e]
  refine ⟨okS_of _, ?_⟩
  rw [PySem.ofString_length]
  have := PySem.int_text_length_le10 (a := i) (k := 7) (by decide) (by omega)
  omega
theorem join_tx : ∀ (ss : List Str) (n : Nat), (∀ s ∈ ss, okS s) → (ss.map fun s => s.length + 2).sum ≤ n → okS (Str.join ", " ss) ∧ (Str.join ", " ss).length ≤ n
  | [], n, _, _ => ⟨by unfold okS; decide +kernel, by show (0 : Nat) ≤ n; omega⟩
  | [x], n, h, l => ⟨h x (by simp), by simp at l; show x.length ≤ n; omega⟩
  | x :: y :: r, n, h, l => by
    obtain ⟨a, b⟩ := join_tx (y :: r) (n - (x.length + 2)) (fun s hs => h s (by simp [hs])) (by simp at l ⊢; omega)
    refine ⟨okS_app (okS_app (h x (by simp)) (okS_of _)) a, ?_⟩
    show (x ++ ", " ++ Str.join ", " (y :: r)).length ≤ n
    rw [strLen_append, strLen_append]
    have e2 : ((", " : String) : Str).length = 2 := rfl
    simp at l
    omega
theorem shownAll_map : ∀ ps : List PyData, PyData.shownAll ps = ps.map PyData.shown
  | [] => by unfold PyData.shownAll; rfl
  | p :: ps => by unfold PyData.shownAll; rw [shownAll_map ps]; rfl
theorem pds_map : ∀ ds : List D, pds ds = ds.map pd
  | [] => by unfold pds; rfl
  | d :: ds => by unfold pds; rw [pds_map ds]; rfl
theorem Ss.tx {d : D} (s : Ss d) : Tx (pd d).shown (20 * cn d) := by
  induction s with
  | str s h =>
    obtain ⟨a, b⟩ := tx_at s h
    exact ⟨a, by show (PyData.str s).shown.length + 2 ≤ 20; omega⟩
  | int i h1 h2 => exact tx_int h1 h2
  | tup xs _ ih =>
    have key : ∀ ys : List D, (∀ y ∈ ys, Tx (pd y).shown (20 * cn y)) → (((ys.map pd).map PyData.shown).map fun s => s.length + 2).sum ≤ 20 * cns ys := by
      intro ys
      induction ys with
      | nil => intro _; simp [cns]
      | cons y ys ihy =>
        intro hy
        have a := (hy y (by simp)).ln
        have b := ihy fun z hz => hy z (by simp [hz])
        simp only [List.map_cons, List.sum_cons, cns] at b ⊢
        omega
    have e : (pd (.tup xs)).shown = tupleText ((xs.map pd).map PyData.shown) := by
      have : pd (.tup xs) = .tuple (pds xs) := by unfold pd; rfl
      rw [this]
      show PyData.shown (.tuple (pds xs)) = _
      unfold PyData.shown
      rw [shownAll_map, pds_map]
    obtain ⟨a, b⟩ := join_tx ((xs.map pd).map PyData.shown) (20 * cns xs) (by
      intro s hs
      obtain ⟨p, hp, rfl⟩ := List.mem_map.mp hs
      obtain ⟨x, hx, rfl⟩ := List.mem_map.mp hp
      exact (ih x hx).ok) (key xs ih)
    rw [e]
    unfold tupleText
    have ec : cn (.tup xs) = 1 + cns xs := by unfold cn; rfl
    refine ⟨okS_app (okS_app (okS_of _) a) (by split <;> exact okS_of _), ?_⟩
    rw [strLen_append, strLen_append]
    have e1 : (("(" : String) : Str).length = 1 := rfl
    have e2 : ((if (((xs.map pd).map PyData.shown).length == 1) = true then ",)" else ")" : String) : Str).length ≤ 2 := by split <;> decide +kernel
    omega
theorem Ss.show {d : D} (s : Ss d) : (pd d).showable = true ∧ (pd d).hasDict = false := by
  induction s with
  | str s h => exact ⟨rfl, rfl⟩
  | int i h1 h2 =>
    refine ⟨?_, rfl⟩
    show PyData.showable (.int i) = true
    unfold PyData.showable
    have : i.natAbs.log2 < 1920 := by
      have h := Nat.log2_le_self i.natAbs
      have : i.natAbs < 2 ^ 1000 := Nat.lt_of_le_of_lt (show i.natAbs ≤ 1000000 by omega) (by decide +kernel)
      by_cases h0 : i.natAbs = 0
      · rw [h0]; decide
      · have := (Nat.log2_lt h0).mpr this
        omega
    exact decide_eq_true this
  | tup xs _ ih =>
    have e : pd (.tup xs) = .tuple (pds xs) := by unfold pd; rfl
    rw [e, pds_map]
    unfold PyData.showable PyData.hasDict
    have key : ∀ ys : List D, (∀ y ∈ ys, (pd y).showable = true ∧ (pd y).hasDict = false) → PyData.showableAll (ys.map pd) = true ∧ PyData.hasDictAll (ys.map pd) = false := by
      intro ys
      induction ys with
      | nil => intro _; exact ⟨by simp [PyData.showableAll], by simp [PyData.hasDictAll]⟩
      | cons y ys ihy =>
        intro hy
        obtain ⟨a, b⟩ := hy y (by simp)
        obtain ⟨c, d⟩ := ihy fun z hz => hy z (by simp [hz])
        exact ⟨by simp [PyData.showableAll, a, c], by simp [PyData.hasDictAll, b, d]⟩
    exact key xs ih
theorem T.repr {d : D} (t : T d) (s : Ss d) (hd : dep d ≤ 60) (hc : 20 * cn d ≤ 1000000) (h : Hd) : reprD [d] h = some (.str (pd d).shown, h) := by
  have hLN := LN_eq
  have e : datD h d = some (pd d) := t.dat.1
  have h1 := s.tx.ln
  have h2 := pd_depth d
  have h3 := t.depD
  unfold reprD
  simp only [e]
  rw [if_pos ⟨s.show.1, s.show.2, by omega, by omega⟩]


/-- what a term becomes with other numbers -/
theorem T.put {d : D} {kvs : List (Key × D)} (t : T d) (hv : ∀ n, 0 ≤ n → .tup [.int n] ∈ parts d → T (put kvs (.tup [.int n]))) : T (put kvs d) := by
  induction t with
  | var n h => exact hv n h (by simp [parts])
  | int i h => simpa [K21.put] using T.int i h
  | str s h => simpa [K21.put] using T.str s h
  | cmp f a as hf hl ht ih =>
    rw [put_cmp, List.map_cons]
    refine .cmp f _ _ hf (by simpa using hl) ?_
    rw [← List.map_cons]
    intro x hx
    obtain ⟨y, hy, rfl⟩ := List.mem_map.mp hx
    refine ih y hy fun n hn hm => hv n hn ?_
    rw [parts_args (.cmp f a as hf hl ht)]
    exact List.mem_cons_of_mem _ (mem_partss hy hm)
where
  mem_partss {y x : D} : ∀ {ds : List D}, y ∈ ds → x ∈ parts y → x ∈ partss ds
    | d :: ds, hy, hx => by
      rw [partss]
      rcases List.mem_cons.mp hy with rfl | hy
      · exact List.mem_append_left _ hx
      · exact List.mem_append_right _ (mem_partss hy hx)
theorem parts_put {d : D} {kvs : List (Key × D)} (t : T d) (hv : ∀ n, 0 ≤ n → .tup [.int n] ∈ parts d → ∃ m, put kvs (.tup [.int n]) = .tup [.int m]) : parts (put kvs d) = (parts d).map (put kvs) := by
  induction t with
  | var n h =>
    obtain ⟨m, e⟩ := hv n h (by simp [parts])
    simp [parts, partsT, partss, e]
  | int i h => simp [parts, put]
  | str s h => simp [parts, put]
  | cmp f a as hf hl ht ih =>
    have hT : T (.tup (.str f :: a :: as)) := .cmp f a as hf hl ht
    rw [parts_args hT, List.map_cons, put_cmp]
    rw [parts, partsT]
    congr 1
    refine go ih fun n hn hm => hv n hn ?_
    rw [parts_args hT]
    exact List.mem_cons_of_mem _ hm
where
  go : ∀ {ds : List D}, (∀ x ∈ ds, (∀ n, 0 ≤ n → .tup [.int n] ∈ parts x → ∃ m, K21.put kvs (.tup [.int n]) = .tup [.int m]) → parts (K21.put kvs x) = (parts x).map (K21.put kvs)) → (∀ n, 0 ≤ n → .tup [.int n] ∈ partss ds → ∃ m, K21.put kvs (.tup [.int n]) = .tup [.int m]) → partss (ds.map (K21.put kvs)) = (partss ds).map (K21.put kvs)
    | [], _, _ => by simp [partss]
    | x :: ds, h, hv => by
      rw [List.map_cons, partss, partss, List.map_append, h x List.mem_cons_self fun n hn hm => hv n hn (by rw [partss]; exact List.mem_append_left _ hm), go (fun y hy => h y (List.mem_cons_of_mem _ hy)) fun n hn hm => hv n hn (by rw [partss]; exact List.mem_append_right _ hm)]
theorem dep_put {d : D} {kvs : List (Key × D)} (t : T d) (hv : ∀ n, ∃ m, put kvs (.tup [.int n]) = .tup [.int m]) : dep (put kvs d) = dep d := by
  induction t with
  | var n h =>
    obtain ⟨m, e⟩ := hv n
    rw [e]
    simp [dep, depT, deps]
  | int i h => simp [put]
  | str s h => simp [put]
  | cmp f a as hf hl ht ih =>
    rw [put_cmp, dep_args, dep_args]
    simp only [args, List.map_cons]
    rw [← List.map_cons]
    congr 1
    have go : ∀ ds : List D, (∀ x ∈ ds, dep (put kvs x) = dep x) → deps (ds.map (put kvs)) = deps ds := by
      intro ds
      induction ds with
      | nil => intro _; rfl
      | cons d ds ih2 =>
        intro h
        rw [List.map_cons, deps, deps, h d List.mem_cons_self, ih2 fun x hx => h x (List.mem_cons_of_mem _ hx)]
    exact go _ ih
theorem tab_put (ns : List Int) (n : Int) : ∃ m : Int, put (tab ns) (.tup [.int n]) = .tup [.int m] ∧ (m = n ∨ 0 ≤ m ∧ m < ns.length) := by
  rw [put_var]
  cases e : valD (tab ns) (.inl n) with
  | none => exact ⟨n, rfl, .inl rfl⟩
  | some v =>
    unfold valD at e
    obtain ⟨kv, hk, rfl⟩ := Option.map_eq_some_iff.mp e
    have hm := List.mem_of_find?_eq_some hk
    unfold tab at hm
    obtain ⟨x, hx, rfl⟩ := List.mem_map.mp hm
    obtain ⟨i, hi⟩ := List.mem_iff_getElem?.mp hx
    obtain ⟨k, hk', rfl⟩ := enu_mem hi
    have hl := (List.getElem?_eq_some_iff.mp hk').1
    exact ⟨0 + (i : Nat), rfl, .inr ⟨by omega, by omega⟩⟩
theorem Ss.args {xs : List D} (s : Ss (.tup xs)) : ∀ x ∈ xs, Ss x := by
  cases s with
  | tup _ h => exact h
theorem Ss.put {d : D} {ns : List Int} (t : T d) (s : Ss d) (hn : ns.length ≤ 100000) : Ss (put (tab ns) d) := by
  induction t with
  | var n h =>
    obtain ⟨m, e, hm⟩ := tab_put ns n
    rw [e]
    have hs := s.args (.int n) (by simp)
    cases hs with
    | int _ h1 h2 => exact .tup _ (by simpa using Ss.int m (by omega) (by omega))
  | int i h => simpa [K21.put] using s
  | str z h => simpa [K21.put] using s
  | cmp f a as hf hl ht ih =>
    rw [put_cmp]
    refine .tup _ ?_
    intro x hx
    rcases List.mem_cons.mp hx with rfl | hx
    · exact s.args _ (by simp)
    · obtain ⟨y, hy, rfl⟩ := List.mem_map.mp hx
      exact ih y hy (s.args y (by simp at hy ⊢; exact .inr hy))
theorem Ss.wc : ∀ (n : Nat) {d : D}, (parts d).length ≤ n → T d → Ss d → Ss (wc d)
  | 0, d, hn, _, _ => by have := parts_pos d; omega
  | n + 1, d, hn, t, s => by
    cases c : isCon d with
    | true =>
      obtain ⟨f, a, as, rfl⟩ := isCmp_args t (isCon_cmp t c)
      rw [wc_con c]
      have hpa := parts_args t
      simp only [K21.args] at hpa
      rw [hpa, List.length_cons] at hn
      refine .tup _ ?_
      intro x hx
      rcases List.mem_cons.mp hx with rfl | hx
      · exact s.args _ (by simp)
      · obtain ⟨y, hy, rfl⟩ := List.mem_map.mp hx
        have hle : (parts y).length ≤ (partss (a :: as)).length := len_mem hy
        exact Ss.wc n (by omega) (t.args y hy) (s.args y (List.mem_cons_of_mem _ hy))
    | false =>
      rw [wc_leaf t c]
      split
      · exact .tup _ (by
          intro x hx
          simp only [List.mem_cons, List.not_mem_nil, or_false] at hx
          rcases hx with rfl | rfl
          · exact .str _ (by decide +kernel)
          · exact s)
      · exact s
where
  len_mem {y : D} : ∀ {ds : List D}, y ∈ ds → (parts y).length ≤ (partss ds).length
    | d :: ds, hy => by
      rw [partss, List.length_append]
      rcases List.mem_cons.mp hy with rfl | hy
      · omega
      · have := len_mem hy
        omega
theorem cn_parts {d : D} (t : T d) : cn d ≤ 3 * (parts d).length := by
  induction t with
  | var n h => simp [cn, cns, parts, partsT, partss]
  | int i h => simp [cn, parts]
  | str s h => simp [cn, parts]
  | cmp f a as hf hl ht ih =>
    have key : ∀ ds : List D, (∀ x ∈ ds, cn x ≤ 3 * (parts x).length) → cns ds ≤ 3 * (partss ds).length := by
      intro ds
      induction ds with
      | nil => intro _; simp [cns]
      | cons x ds ihd =>
        intro hx
        have a := hx x (by simp)
        have b := ihd fun y hy => hx y (by simp [hy])
        simp only [cns, partss, List.length_append]
        omega
    have := key (a :: as) ih
    simp only [cn, cns, parts, partsT, List.length_cons] at this ⊢
    omega
theorem hv_Ss {d : D} (s : Ss d) : Ss (hv d).1 ∧ Ss (hv d).2 := by
  have base : Ss d ∧ Ss (.str "true") := ⟨s, .str _ (by decide +kernel)⟩
  unfold hv
  split
  · split
    · exact ⟨s.args _ (by simp), s.args _ (by simp)⟩
    · exact base
  · exact base
/-- what is stored can be told -/
theorem kept_repr {d : D} (t : T d) (s : Ss d) (hd : dep d ≤ 20) (hl : (parts d).length ≤ 2000) (h : Hd) : reprD [kept d] h = some (.str (pd (kept d)).shown, h) ∧ PyData.strOk (pd (kept d)).shown = true := by
  obtain ⟨t1, t2, l1, l2⟩ := hv_T t
  obtain ⟨s1, s2⟩ := hv_Ss s
  obtain ⟨d1, d2⟩ := hv_dep t
  obtain ⟨t3, l3⟩ := wc_T _ (Nat.le_refl _) t2
  have d3 := wc_dep _ (Nat.le_refl _) t2
  have s3 := Ss.wc _ (Nat.le_refl _) t2 s2
  have htT : ∀ x ∈ [(hv d).1, wc (hv d).2], T x := by
    intro x hx
    simp only [List.mem_cons, List.not_mem_nil, or_false] at hx
    rcases hx with rfl | rfl <;> assumption
  have hpl : (partss [(hv d).1, wc (hv d).2]).length = (parts (hv d).1).length + (parts (wc (hv d).2)).length := by simp [partss]
  have hnl : (nums (partss [(hv d).1, wc (hv d).2])).length ≤ 100000 := by
    have := foldN_len' [(hv d).1, wc (hv d).2] [] htT
    simp [nums] at this ⊢
    omega
  have hm : ∀ n, ∃ m, put (ktb d) (.tup [.int n]) = .tup [.int m] := fun n => by
    obtain ⟨m, e, _⟩ := tab_put (nums (partss [(hv d).1, wc (hv d).2])) n
    exact ⟨m, e⟩
  have hvT : ∀ n, 0 ≤ n → T (put (ktb d) (.tup [.int n])) := fun n hn => by
    obtain ⟨m, e, q⟩ := tab_put (nums (partss [(hv d).1, wc (hv d).2])) n
    have e' : put (ktb d) (.tup [.int n]) = .tup [.int m] := e
    rw [e']
    exact .var m (by omega)
  have T1 : T (put (ktb d) (hv d).1) := t1.put fun n hn _ => hvT n hn
  have T2 : T (put (ktb d) (wc (hv d).2)) := t3.put fun n hn _ => hvT n hn
  have P1 := parts_put (kvs := ktb d) t1 fun n _ _ => hm n
  have P2 := parts_put (kvs := ktb d) t3 fun n _ _ => hm n
  have D1 := dep_put (kvs := ktb d) t1 hm
  have D2 := dep_put (kvs := ktb d) t3 hm
  have S1 : Ss (put (ktb d) (hv d).1) := s1.put t1 hnl
  have S2 : Ss (put (ktb d) (wc (hv d).2)) := s3.put t3 hnl
  have Tk : T (kept d) := .cmp ":-" _ [_] (by decide +kernel) (by simp) (by
    intro x hx
    simp only [List.mem_cons, List.not_mem_nil, or_false] at hx
    rcases hx with rfl | rfl <;> assumption)
  have Sk : Ss (kept d) := .tup _ (by
    intro x hx
    simp only [List.mem_cons, List.not_mem_nil, or_false] at hx
    rcases hx with rfl | rfl | rfl
    · exact .str _ (by decide +kernel)
    · exact S1
    · exact S2)
  have hc := cn_parts Tk
  have hpk : (parts (kept d)).length = 1 + (parts (hv d).1).length + (parts (wc (hv d).2)).length := by
    unfold kept
    simp only [parts, partsT, partss, List.length_cons, List.length_append, P1, P2, List.length_map, List.length_nil]
    omega
  have hdk : dep (kept d) ≤ 60 := by
    rw [dep_args]
    show 1 + deps [put (ktb d) (hv d).1, put (ktb d) (wc (hv d).2)] ≤ 60
    simp only [deps, D1, D2]
    omega
  exact ⟨Tk.repr Sk hdk (by omega) h, Sk.tx.ok⟩


theorem Fw.set' {w : Nat} {h h' : Hd} (x : Fw w h h') {i : Nat} (hi : h.length ≤ i) (o : O) : Fw w h (h'.set i o) := ⟨by simpa using x.len, fun j hj hn => by rw [get_ne (by omega)]; exact x.at' j hj hn⟩
theorem Fw.app {w : Nat} {h h' : Hd} (x : Fw w h h') (g : Hd) : Fw w h (h' ++ g) := x.trans (Fw.pre (Pre.app _ _))
/-- the well; k draws may still be made -/
def Wl (k : Nat) (w : Nat) (h : Hd) : Prop := ∃ a b c : Int, h[w]? = some (.lst [.int a, .int b, .int c]) ∧ 0 ≤ c ∧ c + (k : Int) ≤ 1000000
theorem Wl.pre {k w : Nat} {h h' : Hd} (x : Wl k w h) (p : Pre h h') : Wl k w h' := by
  obtain ⟨a, b, c, e, q⟩ := x
  exact ⟨a, b, c, p.get e, q⟩
theorem Wl.le {k j w : Nat} {h : Hd} (x : Wl k w h) (hj : j ≤ k) : Wl j w h := by
  obtain ⟨a, b, c, e, q1, q2⟩ := x
  exact ⟨a, b, c, e, q1, by omega⟩
theorem Wl.lt {k w : Nat} {h : Hd} (x : Wl k w h) : w < h.length := by
  obtain ⟨a, b, c, e, _⟩ := x
  exact lt_of e
theorem Wl.ne {k w i : Nat} {h : Hd} (x : Wl k w h) (hi : i ≠ w) (o : O) : Wl k w (h.set i o) := by
  obtain ⟨a, b, c, e, q⟩ := x
  exact ⟨a, b, c, by rw [get_ne hi]; exact e, q⟩
theorem at_nat {α : Type} {xs : List α} {i : Int} (h0 : 0 ≤ i) (h1 : i < xs.length) : ∃ x ∈ xs, atI xs i = some x := by
  have hl : i.toNat < xs.length := by omega
  refine ⟨xs[i.toNat], List.getElem_mem hl, ?_⟩
  unfold atI ixN
  rw [if_pos h0, if_pos h1]
  simp [hl]
section
variable {NF RD : Nat}
theorem r_draw {k w : Nat} {many : Int} {h : Hd} (hw : Wl (k + 1) w h) (hm : 0 < many) (hm2 : many.natAbs.log2 < 9000) : Ev (m__law_draw NF RD [.at w, .int many] h) fun r h' => ∃ i, r = .int i ∧ 0 ≤ i ∧ i < many ∧ Fw w h h' ∧ Wl k w h' := by
  obtain ⟨a, b, c, e, c0, ck⟩ := hw
  have hmm : 0 < many ∧ many.natAbs.log2 < 9000 := ⟨hm, hm2⟩
  unfold m__law_draw
  walk_at "wp"
  refine lf_ixL e rfl ?_
  walk_at "wp"
  refine br (fun c1 => ?_) fun c1 => ?_
  · walk_at "wp"
    refine lf_ixL e rfl ?_
    walk_at "wp"
    refine ev_setL ?_
    walk_at "wp"
    refine lf_ixL e rfl ?_
    walk_at "wp"
    refine ⟨w, _, 0, 0, rfl, e, rfl, rfl, ?_⟩
    walk_at "wp"
    exact ⟨_, rfl, Int.emod_nonneg _ (by omega), Int.emod_lt_of_pos _ hm, Fw.set _, _, _, _, get_set e, c0, by omega⟩
  · walk_at "wp"
    refine ev_setL ?_
    walk_at "wp"
    refine lf_ixL e rfl ?_
    walk_at "wp"
    refine ⟨w, _, 2, 2, rfl, e, rfl, rfl, ?_⟩
    have e2 := get_set (p := .lst ([D.int a, D.int b, D.int c].set 2 (D.int (c + 1)))) e
    walk_at "wp"
    refine lf_ixL e2 rfl ?_
    walk_at "wp"
    refine lf_ixL e2 rfl ?_
    walk_at "wp"
    refine lf_ixL e2 rfl ?_
    walk_at "wp"
    have hs := Int.emod_nonneg (b / 2147483629) (show (65521 : Int) ≠ 0 by decide)
    have hs' := Int.emod_lt_of_pos (b / 2147483629) (show (0 : Int) < 65521 by decide)
    have hb := Int.emod_nonneg b (show (2147483629 : Int) ≠ 0 by decide)
    have hb' := Int.emod_lt_of_pos b (show (0 : Int) < 2147483629 by decide)
    refine lf_pow ⟨by decide, ?_⟩ ?_
    · have hx : (b % 2147483629 + 7919 * (c + 1) + b / 2147483629 % 65521 + 1).natAbs < 2 ^ 40 := by omega
      have := PySem.intBits_le_iff.mpr hx
      omega
    walk_at "wp"
    refine lf_ixL e2 rfl ?_
    walk_at "wp"
    generalize hx : (b % 2147483629 + 7919 * (c + 1) + b / 2147483629 % 65521 + 1) ^ Int.toNat 5 % 2147483647 = x
    have hx0 : 0 ≤ x ∧ x < 2147483647 := by rw [← hx]; exact ⟨Int.emod_nonneg _ (by decide), Int.emod_lt_of_pos _ (by decide)⟩
    refine lf_mulI (.inl ⟨by omega, by omega⟩) ?_
    walk_at "wp"
    generalize hy : x * (x / 1009 + 69621 + (c + 1)) % 2147483629 = y
    have hy0 : 0 ≤ y ∧ y < 2147483629 := by rw [← hy]; exact ⟨Int.emod_nonneg _ (by decide), Int.emod_lt_of_pos _ (by decide)⟩
    refine lf_mulI (.inl ⟨by omega, by omega⟩) ?_
    walk_at "wp"
    exact ⟨_, rfl, Int.emod_nonneg _ (by omega), Int.emod_lt_of_pos _ hm, Fw.set _, _, _, _, e2, by omega, by omega⟩
theorem r_one {k w l : Nat} {xs : List D} {h : Hd} (hw : Wl (k + 1) w h) (e : h[l]? = some (.lst xs)) (hn : l ≠ w) (hx : 0 < xs.length) (hx2 : xs.length < 1000) : Ev (m__law_one NF RD [.at w, .at l] h) fun r h' => r ∈ xs ∧ Fw w h h' ∧ Wl k w h' := by
  unfold m__law_one
  walk_at "wp"
  refine (r_draw hw (by omega) ?_).mono ?_
  · have := Nat.log2_le_self (xs.length : Int).natAbs
    omega
  rintro r h' ⟨i, rfl, h0, h1, hf, hw'⟩
  obtain ⟨x, hx, ex⟩ := at_nat h0 h1
  refine lf_ixL (hf.get e hn) ex ?_
  walk_at "wp"
  exact ⟨hx, hf, hw'⟩
end


def Dr : Nat → Nat
  | 0 => 6
  | n + 1 => 6 + 3 * Dr n
def bnd3 : Nat → Nat
  | 0 => 1
  | n + 1 => 1 + 3 * bnd3 n
theorem Dr_ge (n : Nat) : 6 ≤ Dr n := by cases n <;> simp [Dr]
theorem bnd3_ge (n : Nat) : 1 ≤ bnd3 n := by cases n <;> simp [bnd3]
def KW : List (Key × D) := [(.inr ",", .int 2), (.inr ";", .int 2), (.inr "->", .int 2), (.inr "*->", .int 2), (.inr "forall", .int 2), (.inr ":-", .int 2)]
theorem kw_val : ∀ f : Str, ∃ i : Int, (valD KW (.inr f)).getD (.int 1) = .int i ∧ 1 ≤ i ∧ i ≤ 3 := by
  intro f
  cases e : valD KW (.inr f) with
  | none => exact ⟨1, rfl, by decide, by decide⟩
  | some v =>
    unfold valD at e
    obtain ⟨kv, hk, rfl⟩ := Option.map_eq_some_iff.mp e
    have hm := List.mem_of_find?_eq_some hk
    simp only [KW, List.mem_cons, List.not_mem_nil, or_false] at hm
    rcases hm with rfl | rfl | rfl | rfl | rfl | rfl <;> exact ⟨2, rfl, by decide, by decide⟩
theorem at_atom : ∀ s ∈ AT, atomOk s = true := by decide +kernel
section
variable {NF RD : Nat}
theorem r_atom {k w : Nat} {h : Hd} (hw : Wl (k + 1) w h) : Ev (m__law_atom NF RD [.at w] h) fun r h' => (∃ s ∈ AT, r = .str s) ∧ Fw w h h' ∧ Wl k w h' := by
  unfold m__law_atom
  walk_at "wp"
  have hn : h.length ≠ w := by have := hw.lt; omega
  refine (r_one (hw.pre (Pre.app _ _)) (get_new _ _) hn (by simp) (by simp)).mono ?_
  rintro r h' ⟨hr, hf, hw'⟩
  refine ⟨?_, (Fw.pre (Pre.app _ _)).trans hf, hw'⟩
  simp only [List.mem_cons, List.not_mem_nil, or_false] at hr
  rcases hr with rfl | rfl | rfl | rfl | rfl | rfl | rfl | rfl | rfl | rfl <;> exact ⟨_, by decide +kernel, rfl⟩
theorem r_part (hN : 50 ≤ NF) : ∀ (n k K w : Nat) (h : Hd), n < k → n ≤ 6 → Wl (Dr n + K) w h → Ev (m__law_part NF RD k [.at w, .int n] h) fun r h' => T r ∧ Ss r ∧ (parts r).length ≤ bnd3 n ∧ dep r ≤ n + 1 ∧ Fw w h h' ∧ Wl K w h'
  | n, 0, K, w, h, hk, hn6, hw => by omega
  | n, k + 1, K, w, h, hk, hn6, hw => by
    have hD := Dr_ge n
    unfold m__law_part
    walk_at "wq"
    refine (r_draw (k := Dr n + K - 1) (by rw [show Dr n + K - 1 + 1 = Dr n + K by omega]; exact hw) (by decide) (by decide)).mono ?_
    rintro r h1 ⟨way, rfl, w0, w1, hf1, hw1⟩
    walk_at "wq"
    refine sq_nx ?_
    walk_at "wq"
    have leaf : Ev ((retM (callM 2 (m__law_one NF RD) [] (consM (varM 0) (consM (lstM (consM (tupM (consM (callM 2 (m__law_draw NF RD) [] (consM (varM 0) (consM (cM (.int 5)) nilM))) nilM)) (consM (tupM (consM (callM 2 (m__law_draw NF RD) [] (consM (varM 0) (consM (cM (.int 5)) nilM))) nilM)) (consM (callM 1 (m__law_atom NF RD) [] (consM (varM 0) nilM)) (consM (callM 1 (m__law_atom NF RD) [] (consM (varM 0) nilM)) (consM (varM 2) nilM)))))) nilM)))) [some (.at w), some (.int n), some (.int way), none, none, none] h1)
        fun f h' => ∃ r, f = .rt r ∧ T r ∧ Ss r ∧ (parts r).length ≤ bnd3 n ∧ dep r ≤ n + 1 ∧ Fw w h h' ∧ Wl K w h' := by
      walk_at "wq"
      refine (r_draw (k := Dr n + K - 2) (hw1.le (by omega)) (by decide) (by decide)).mono ?_
      rintro r h2 ⟨v1, rfl, v10, v11, hf2, hw2⟩
      walk_at "wq"
      refine (r_draw (k := Dr n + K - 3) (hw2.le (by omega)) (by decide) (by decide)).mono ?_
      rintro r h3 ⟨v2, rfl, v20, v21, hf3, hw3⟩
      walk_at "wq"
      refine (r_atom (k := Dr n + K - 4) (hw3.le (by omega))).mono ?_
      rintro r h4 ⟨⟨s1, hs1, rfl⟩, hf4, hw4⟩
      walk_at "wq"
      refine (r_atom (k := Dr n + K - 5) (hw4.le (by omega))).mono ?_
      rintro r h5 ⟨⟨s2, hs2, rfl⟩, hf5, hw5⟩
      walk_at "wq"
      have hn5 : h5.length ≠ w := by have := hw5.lt; omega
      refine (r_one (k := K) ((hw5.le (by omega)).pre (Pre.app _ _)) (get_new _ _) hn5 (by simp) (by simp)).mono ?_
      rintro r h6 ⟨hr, hf6, hw6⟩
      have hb := bnd3_ge n
      have hff := ((((hf1.trans hf2).trans hf3).trans hf4).trans hf5).trans ((Fw.pre (Pre.app _ _)).trans hf6)
      have big : (1000 : Int) < BIG := by decide +kernel
      refine ⟨r, rfl, ?_⟩
      simp only [List.mem_cons, List.not_mem_nil, or_false] at hr
      rcases hr with rfl | rfl | rfl | rfl | rfl
      · exact ⟨.var _ v10, .tup _ (by simpa using Ss.int v1 (by omega) (by omega)), by simpa [parts, partsT, partss] using hb, by simp [dep, depT, deps], hff, hw6⟩
      · exact ⟨.var _ v20, .tup _ (by simpa using Ss.int v2 (by omega) (by omega)), by simpa [parts, partsT, partss] using hb, by simp [dep, depT, deps], hff, hw6⟩
      · exact ⟨.str _ (at_atom _ hs1), .str _ hs1, by simpa [parts] using hb, by simp [dep], hff, hw6⟩
      · exact ⟨.str _ (at_atom _ hs2), .str _ hs2, by simpa [parts] using hb, by simp [dep], hff, hw6⟩
      · exact ⟨.int _ (by split <;> omega), .int _ (by omega) (by omega), by simpa [parts] using hb, by simp [dep], hff, hw6⟩
    by_cases c0 : n = 0
    · subst c0
      refine br_t (decide_eq_true (by omega)) ?_
      refine br_tt ?_
      refine leaf.mono ?_
      rintro f h' ⟨r, rfl, q⟩
      exact q
    refine br_f (decide_eq_false (by omega)) ?_
    walk_at "wq"
    refine br (fun c1 => ?_) fun c1 => ?_
    · refine leaf.mono ?_
      rintro f h' ⟨r, rfl, q⟩
      exact q
    walk_at "wq"
    refine sq_nx ?_
    walk_at "wq"
    obtain ⟨m, rfl⟩ : ∃ m, n = m + 1 := ⟨n - 1, by omega⟩
    have hn1 : h1.length ≠ w := by have := hw1.lt; omega
    simp only [Dr] at hw1 hD
    refine (r_one (k := 3 * Dr m + K + 4) ((hw1.le (by omega)).pre (Pre.app _ _)) (get_new _ _) hn1 (by simp) (by simp)).mono ?_
    rintro r h2 ⟨hr, hf2, hw2⟩
    obtain ⟨f, hf, rfl⟩ : ∃ f ∈ AT, r = .str f := by
      simp only [List.mem_cons, List.not_mem_nil, or_false] at hr
      rcases hr with rfl | rfl | rfl | rfl | rfl | rfl | rfl | rfl | rfl | rfl | rfl | rfl | rfl <;> exact ⟨_, by decide +kernel, rfl⟩
    clear hr
    walk_at "wq"
    refine sq_nx ?_
    walk_at "wq"
    refine ev_get2 ?_
    walk_at "wq"
    refine ⟨get_new _ _, by decide, ?_⟩
    walk_at "wq"
    have ek : ((h2 ++ [O.dct []]).set h2.length (O.dct KW))[h2.length]? = some (.dct KW) := get_set (get_new _ _)
    have hp : Pre h2 ((h2 ++ [O.dct []]).set h2.length (O.dct KW)) := (Pre.app _ _).set (Nat.le_refl _) _
    refine ⟨h2.length, rfl, ?_, ?_⟩
    · unfold isDct; simp
    change Ev (varM 3 _ ((h2 ++ [O.dct []]).set h2.length (O.dct KW))) _
    generalize (h2 ++ [O.dct []]).set h2.length (O.dct KW) = g at ek hp
    walk_at "wq"
    refine ⟨KW, .inr f, ek, rfl, ?_⟩
    walk_at "wq"
    obtain ⟨many, em, hm1, hm3⟩ := kw_val f
    rw [em]
    walk_at "wq"
    refine sq_nx ?_
    walk_at "wq"
    refine (r_draw (k := 3 * Dr m + K + 3) (hw2.pre hp) (by decide) (by decide)).mono ?_
    rintro r h3 ⟨i8, rfl, i80, i81, hf3, hw3⟩
    walk_at "wq"
    have fin : ∀ (mm : Int) (h4 : Hd), 1 ≤ mm → mm ≤ 3 → Fw w h h4 → Wl (3 * Dr m + K) w h4 → Ev ((retM (opM addD (tupM (consM (varM 3) nilM)) (cbM tuplD (consM (lcM (rngI (consM (varM 4) nilM)) (nameG 5) yesM (E__law_part_0 NF RD (m__law_part NF RD k)) [5] NF) nilM)))) [some (.at w), some (.int ((m + 1 : Nat) : Int)), some (.int way), some (.str f), some (.int mm), none] h4)
        fun f h' => ∃ r, f = .rt r ∧ T r ∧ Ss r ∧ (parts r).length ≤ bnd3 (m + 1) ∧ dep r ≤ m + 1 + 1 ∧ Fw w h h' ∧ Wl K w h' := by
      intro mm h4 hm1 hm3 hf4 hw4
      walk_at "wq"
      refine ev_lc ?_
      walk_at "wq"
      obtain ⟨j, rfl⟩ : ∃ j : Nat, mm = j := ⟨mm.toNat, by omega⟩
      have hLN := LN_eq
      have hwl := hw4.lt
      have hlen4 := hf4.len
      refine ⟨_, rfl, ⟨by omega, by omega⟩, (List.range j).map fun i => D.int (0 + (i : Nat)), fun as ys h' => Fw w h h' ∧ Wl (3 * Dr m + K - Dr m * as.length) w h' ∧ ys.length = as.length ∧ ∀ y ∈ ys, T y ∧ Ss y ∧ (parts y).length ≤ bnd3 m ∧ dep y ≤ m + 1, by simp; omega, by simp; omega, ⟨hf4.app _, by simpa using hw4.pre (Pre.app _ _), rfl, by simp⟩, fun _ _ _ _ _ => yl_fix, ?_, ?_⟩
      · rintro as x bs ys h5 ex ⟨hf5, hw5, hl5, hy5⟩ e5
        have hja : as.length < j := by
          have := congrArg List.length ex
          simp at this
          omega
        have hmul : Dr m * as.length + Dr m ≤ 3 * Dr m := by
          have : Dr m * (as.length + 1) ≤ Dr m * 3 := Nat.mul_le_mul_left _ (by omega)
          rw [Nat.mul_add, Nat.mul_one] at this
          omega
        walk_at "wq"
        unfold E__law_part_0
        walk_at "wq"
        rw [show ((m + 1 : Nat) : Int) - 1 = (m : Nat) by omega]
        refine (r_part hN m k (3 * Dr m + K - Dr m * as.length - Dr m) w h5 (by omega) (by omega) (by rw [show Dr m + (3 * Dr m + K - Dr m * as.length - Dr m) = 3 * Dr m + K - Dr m * as.length by omega]; exact hw5)).mono ?_
        rintro r h6 ⟨q1, q2, q3, q4, hf6, hw6⟩
        refine ⟨hf6.get e5 (by omega), (hf5.trans hf6).set' (by omega) _, ?_, by simp [hl5], ?_⟩
        · refine Wl.ne (hw6.le ?_) (by omega) _
          rw [List.length_append, List.length_singleton, Nat.mul_add, Nat.mul_one]
          omega
        · intro y hy
          rcases List.mem_append.mp hy with q | q
          · exact hy5 y q
          · obtain rfl : y = r := by simpa using q
            exact ⟨q1, q2, q3, q4⟩
      · rintro ys h5 e5 ⟨hf5, hw5, hl5, hy5⟩
        have hlj : ys.length = j := by simpa using hl5
        walk_at "wq"
        refine lf_addT (by simp; omega) ?_
        obtain ⟨y0, yr, rfl⟩ : ∃ y0 yr, ys = y0 :: yr := by
          cases ys with
          | nil => simp at hlj; omega
          | cons y0 yr => exact ⟨y0, yr, rfl⟩
        have hsum : ∀ zs : List D, (∀ z ∈ zs, (parts z).length ≤ bnd3 m) → (partss zs).length ≤ zs.length * bnd3 m := by
          intro zs
          induction zs with
          | nil => intro _; simp [partss]
          | cons z zs ih =>
            intro hz
            have a := hz z (by simp)
            have b := ih fun y hy => hz y (by simp [hy])
            rw [partss, List.length_append, List.length_cons, Nat.add_mul, Nat.one_mul]
            omega
        have hdep : ∀ zs : List D, (∀ z ∈ zs, dep z ≤ m + 1) → deps zs ≤ m + 1 := by
          intro zs
          induction zs with
          | nil => intro _; simp [deps]
          | cons z zs ih =>
            intro hz
            have a := hz z (by simp)
            have b := ih fun y hy => hz y (by simp [hy])
            rw [deps]
            omega
        have s1 := hsum (y0 :: yr) fun z hz => (hy5 z hz).2.2.1
        have s2 := hdep (y0 :: yr) fun z hz => (hy5 z hz).2.2.2
        have hj3 : (y0 :: yr).length * bnd3 m ≤ 3 * bnd3 m := Nat.mul_le_mul_right _ (by omega)
        refine ⟨_, rfl, .cmp f y0 yr (at_atom _ hf) (by simp at hlj; omega) fun z hz => (hy5 z hz).1, .tup _ ?_, ?_, ?_, hf5, hw5.le ?_⟩
        · intro z hz
          rcases List.mem_cons.mp hz with rfl | hz
          · exact .str _ hf
          · exact (hy5 z hz).2.1
        · show (parts (.tup (.str f :: y0 :: yr))).length ≤ 1 + 3 * bnd3 m
          simp only [parts, partsT, List.length_cons]
          omega
        · rw [dep_args]
          show 1 + deps (y0 :: yr) ≤ _
          omega
        · have : Dr m * ((List.range j).map fun i => D.int (0 + (i : Nat))).length ≤ Dr m * 3 := Nat.mul_le_mul_left _ (by simp; omega)
          omega
    have hff := (hf1.trans ((Fw.pre (Pre.app _ _)).trans hf2)).trans ((Fw.pre hp).trans hf3)
    refine br (fun c8 => ?_) fun c8 => ?_
    · walk_at "wq"
      refine (r_draw (k := 3 * Dr m + K) (hw3.le (by omega)) (by decide) (by decide)).mono ?_
      rintro r h4 ⟨i3, rfl, i30, i31, hf4, hw4⟩
      walk_at "wq"
      refine sq_nx ?_
      refine (fin (1 + i3) h4 (by omega) (by omega) (hff.trans hf4) hw4).mono ?_
      rintro f h' ⟨r, rfl, q⟩
      exact q
    · walk_at "wq"
      refine sq_nx ?_
      refine (fin many h3 hm1 hm3 hff (hw3.le (by omega))).mono ?_
      rintro f h' ⟨r, rfl, q⟩
      exact q
end


section
variable {NF RD : Nat}
theorem repr_bl (b : Bool) (h : Hd) : reprD [.bl b] h = some (.str (PyData.bool b).shown, h) := by
  have hLN := LN_eq
  have e : datD h (.bl b) = some (.bool b) := rfl
  unfold reprD
  simp only [e]
  rw [if_pos]
  cases b
  · exact ⟨rfl, rfl, by decide, by have : (PyData.bool false).shown.length ≤ 10 := by decide +kernel
                                   omega⟩
  · exact ⟨rfl, rfl, by decide, by have : (PyData.bool true).shown.length ≤ 10 := by decide +kernel
                                   omega⟩
theorem ok_bl : ∀ b : Bool, PyData.strOk (PyData.bool b).shown = true := by decide +kernel
theorem ne_ss {a : Str} {h : Hd} (ha : PyData.strOk a = true) : neD (.str a) (.str a) h = some (.bl false, h) := by
  unfold neD datD
  simp only [toP, PyData.canLay0, ha, PyData.depth, PyData.eqv, true_and, Nat.min_self, Nat.zero_le, if_true]
  simp
theorem eq_s1 {a : Str} {h : Hd} (ha : PyData.strOk a = true) : eqD (.str a) (.str a) h = some (.bl true, h) := by
  rw [eq_ss ha ha]
  simp
/-- a term for the law -/
structure Lt (d : D) : Prop where
  t : T d
  s : Ss d
  p : (parts d).length ≤ 400
  d : dep d ≤ 8
theorem said_repr {d : D} (l : Lt d) (h : Hd) : ∃ s, reprD [said d] h = some (.str s, h) ∧ PyData.strOk s = true := by
  unfold said
  split
  · obtain ⟨a, b⟩ := kept_repr l.t l.s (by have := l.d; omega) (by have := l.p; omega) h
    exact ⟨_, a, b⟩
  · rename_i c
    have : flt d = .str "body" ∨ flt d = .str "head" := by
      unfold flt at c ⊢
      split
      · split
        · rename_i c1 c2
          rw [if_pos c1, if_pos c2] at c
          exact absurd rfl c
        · exact .inl rfl
      · exact .inr rfl
    have sT : ∀ s ∈ ["body", "head"], T (.str (Str.ofString s)) := by
      intro s hs
      simp only [List.mem_cons, List.not_mem_nil, or_false] at hs
      rcases hs with rfl | rfl <;> exact .str _ (by decide +kernel)
    rcases this with e | e <;> rw [e]
    · exact ⟨_, T.repr (sT "body" (by simp)) (.str _ (by decide +kernel)) (by simp [dep]) (by simp [cn]) h, (Ss.str _ (by decide +kernel)).tx.ok⟩
    · exact ⟨_, T.repr (sT "head" (by simp)) (.str _ (by decide +kernel)) (by simp [dep]) (by simp [cn]) h, (Ss.str _ (by decide +kernel)).tx.ok⟩
theorem said_tup {d : D} : (∃ xs, said d = .tup xs) ∧ isNonD (flt d) = true ∨ (∃ s, said d = .str s) ∧ isNonD (flt d) = false := by
  unfold said
  split
  · rename_i c
    exact .inl ⟨⟨_, rfl⟩, c⟩
  · rename_i c
    refine .inr ⟨?_, by simpa using c⟩
    unfold flt at c ⊢
    split
    · split
      · rename_i c1 c2
        rw [if_pos c1, if_pos c2] at c
        exact absurd rfl c
      · exact ⟨_, rfl⟩
    · exact ⟨_, rfl⟩
theorem r_right {d : D} {h : Hd} (l : Lt d) (hN : 3000 ≤ NF) (hR : 10 ≤ RD) : Rt (m__law_right NF RD [d] h) (.bl true) (Pre h) := by
  have hLN := LN_eq
  have lp := l.p
  have ld := l.d
  have z : Sz NF d := ⟨l.t, by omega, by omega⟩
  refine rt_of ?_
  unfold m__law_right
  walk_at "wq"
  refine ev_of (r_due l.t (by omega) (by omega) (by omega)) fun h1 p1 => ?_
  walk_at "wq"
  refine sq_nx ?_
  walk_at "wq"
  refine ev_of (r_is_body z (by omega)) fun h2 p2 => ?_
  walk_at "wq"
  refine ev_eq (repr_bl _ _) ?_
  walk_at "wq"
  refine ev_of (r_lbody RD d _ l.t (by omega) (by omega)) fun h3 p3 => ?_
  walk_at "wq"
  refine ev_eq (repr_bl _ _) ?_
  refine ev_eq (ne_ss (ok_bl _)) ?_
  walk_at "wq"
  refine ev_of (r_is_clause z (by omega)) fun h4 p4 => ?_
  walk_at "wq"
  refine ev_eq (repr_bl _ _) ?_
  walk_at "wq"
  have hisi : Ev (isiD [said d, D.ty "tuple"] h4) fun r h' => r = .bl (isNonD (flt d)) ∧ h' = h4 := by
    rcases said_tup (d := d) with ⟨⟨xs, e⟩, c⟩ | ⟨⟨s, e⟩, c⟩
    · rw [e, c]; exact lf_isi rfl kb9 ⟨rfl, rfl⟩
    · rw [e, c]; exact lf_isi rfl kb13 ⟨rfl, rfl⟩
  refine hisi.mono ?_
  rintro _ _ ⟨rfl, rfl⟩
  walk_at "wq"
  refine ev_eq (repr_bl _ _) ?_
  refine ev_eq (ne_ss (ok_bl _)) ?_
  walk_at "wq"
  refine sq_nx ?_
  walk_at "wq"
  refine ev_of (r_said z (by omega) (by omega) (by omega)) fun h5 p5 => ?_
  walk_at "wq"
  obtain ⟨s, es, oks⟩ := said_repr l h5
  refine ev_eq es ?_
  walk_at "wq"
  refine ev_eq es ?_
  refine ev_eq (eq_s1 oks) ?_
  walk_at "wq"
  exact ⟨rfl, (((p1.trans p2).trans p3).trans p4).trans p5⟩
end


theorem dat_lst {h : Hd} {n : Nat} {xs : List D} {ps : List PyData} (e : h[n]? = some (.lst xs)) (q : toPs (rP 2 h) xs = some ps) : datD h (.at n) = some (.list ps) := by
  unfold datD toP
  unfold rP
  rw [e]
  simp only [q]
/-! ### what is no term -/
section
variable {NF RD : Nat}
def No (m : GC) (d : D) (h : Hd) : Prop := ∀ h1, Pre h h1 → m [d] h1 = some (.bl false, h1)
structure Leaf (NF RD : Nat) (d : D) (h : Hd) : Prop where
  c : No (m_is_compound NF RD) d h
  v : No (m_is_variable NF RD) d h
  n : No (m_is_any_number NF RD) d h
  a : No (m_is_any_atom NF RD) d h
theorem ev_nope {m : GC} {d : D} {h : Hd} (e : Ev (m [d] h) fun r h' => r = .bl false ∧ h' = h) : m [d] h = some (.bl false, h) := by
  obtain ⟨r, h', e, rfl, rfl⟩ := e
  exact e
theorem b_leaf {d : D} {h0 : Hd} (L : Leaf NF RD d h0) {x p : Option D} {w : Nat} {h : Hd} {ws : List D} (e : h[w]? = some (.lst (ws ++ [d]))) (hp : Pre h0 h) (hw : h0.length ≤ w) :
    Ev (B_is_term_1 NF RD [x, some (.at w), p] h) fun f h' => f = .rt (.bl false) ∧ Pre h0 h' := by
  have hp' := hp.set hw (.lst ws)
  unfold B_is_term_1
  walk_at "wq"
  refine lf_pop e ?_
  walk_at "wq"
  refine sq_nx ?_
  walk_at "wq"
  refine ev_eq (L.c _ hp') ?_
  walk_at "wq"
  refine ev_eq (L.v _ hp') ?_
  walk_at "wq"
  refine ev_eq (L.n _ hp') ?_
  walk_at "wq"
  refine ev_eq (L.a _ hp') ?_
  walk_at "wq"
  exact ⟨rfl, hp'⟩
theorem b_comp {f a : D} {as : List D} {h0 : Hd} (L : 7 < as.length ∨ No (m_is_any_atom NF RD) f h0) {x p : Option D} {w : Nat} {h : Hd} {ws : List D} (e : h[w]? = some (.lst (ws ++ [.tup (f :: a :: as)]))) (hp : Pre h0 h) (hw : h0.length ≤ w) :
    Ev (B_is_term_1 NF RD [x, some (.at w), p] h) fun f h' => f = .rt (.bl false) ∧ Pre h0 h' := by
  have hp' := hp.set hw (.lst ws)
  unfold B_is_term_1
  walk_at "wq"
  refine lf_pop e ?_
  walk_at "wq"
  refine sq_nx ?_
  walk_at "wq"
  unfold m_is_compound
  walk_at "wq"
  refine br_t (by simp; omega) ?_
  walk_at "wq"
  by_cases c : 7 < as.length
  · refine br_t (by simp [show k_MOST_ARGUMENTS = .int 8 from rfl]; omega) ?_
    walk_at "wq"
    exact ⟨rfl, hp'⟩
  · have hf := L.resolve_left c
    refine br_f (by simp; omega) ?_
    walk_at "wq"
    refine ev_eq (hf _ hp') ?_
    walk_at "wq"
    exact ⟨rfl, hp'⟩
theorem toPs_ne {r : Nat → Option PyData} {xs : List D} {ps : List PyData} (e : toPs r xs = some ps) (hx : xs ≠ []) : ps ≠ [] := by
  cases xs with
  | nil => exact absurd rfl hx
  | cons x xs =>
    unfold toPs at e
    split at e
    · split at e <;> cases e
      simp
    · cases e
theorem ne_one {h : Hd} {n m : Nat} {xs : List D} (e : h[n]? = some (.lst xs)) (e2 : h[m]? = some (.lst [])) (hx : xs ≠ []) (hl : ∀ p, datD h (.at n) = some p → p.canLay0 = true) : neD (.at n) (.at m) h = some (.bl true, h) := by
  have a2 : datD h (.at m) = some (.list []) := dat_lst e2 rfl
  cases hd : datD h (.at n) with
  | none =>
    unfold neD
    rw [hd, a2]
    have : offD h (.at n) (.at m) = true := by
      unfold offD
      simp only [e, e2]
      exact decide_eq_true (by cases xs <;> simp at hx ⊢)
    simp only [this, if_true]
  | some p =>
    have hc := hl p hd
    have : ∃ q qs, p = .list (q :: qs) := by
      unfold datD toP rP at hd
      rw [e] at hd
      simp only at hd
      split at hd
      · rename_i ps e3
        cases hd
        have := toPs_ne e3 hx
        cases ps with
        | nil => exact absurd rfl this
        | cons q qs => exact ⟨q, qs, rfl⟩
      · cases hd
    obtain ⟨q, qs, rfl⟩ := this
    unfold neD
    rw [hd, a2]
    simp only
    rw [if_pos ⟨hc, rfl, by simp [PyData.depth, PyData.depthAll]⟩]
    simp [PyData.eqv, PyData.eqvAll]
theorem c_one {i : Nat} {sg : Sg} {h : Hd} {w : Nat} {ws : List D} (e : sg[i]? = some (some (.at w))) (eh : h[w]? = some (.lst ws)) (hx : ws ≠ []) (hl : ∀ p, datD (h ++ [.lst []]) (.at w) = some p → p.canLay0 = true) :
    testM (opM neD (varM i) (lstM nilM)) sg h = some (true, h ++ [.lst []]) := by
  have h1 := ne_one ((Pre.app h [.lst []]).get eh) (get_new h (.lst [])) hx hl
  unfold testM opM varM lstM nilM
  simp only [e, List.length_nil, Nat.zero_le, if_true, h1]
theorem ev_turn {c : MT} {b : MS} {sg : Sg} {h h1 : Hd} {k : Nat} {Q : Fl → Hd → Prop} (hc : c sg h = some (true, h1)) (hb : Ev (b sg h1) (LpK Q fun sg2 h2 => Ev (whileM c b k sg2 h2) Q)) : Ev (whileM c b (k + 1) sg h) Q := by
  obtain ⟨f, h2, e, q⟩ := hb
  unfold whileM
  cases f with
  | nx sg2 => obtain ⟨f', h3, e3, q3⟩ := q; exact ⟨f', h3, by simp only [hc, e, e3], q3⟩
  | ct sg2 => obtain ⟨f', h3, e3, q3⟩ := q; exact ⟨f', h3, by simp only [hc, e, e3], q3⟩
  | bk sg2 => exact ⟨_, _, by simp only [hc, e], q⟩
  | rt d => exact ⟨_, _, by simp only [hc, e], q⟩
/-- d is at once no term -/
def Bad (NF RD : Nat) (d : D) (h0 : Hd) : Prop := ∀ (x p : Option D) (w : Nat) (h : Hd) (ws : List D), h[w]? = some (.lst (ws ++ [d])) → Pre h0 h → h0.length ≤ w → Ev (B_is_term_1 NF RD [x, some (.at w), p] h) fun f h' => f = .rt (.bl false) ∧ Pre h0 h'
theorem Leaf.bad {d : D} {h0 : Hd} (L : Leaf NF RD d h0) : Bad NF RD d h0 := fun _ _ _ _ _ e hp hw => b_leaf L e hp hw
def Lay (h0 : Hd) (ws : List D) : Prop := ∀ h w p, Pre h0 h → h[w]? = some (.lst ws) → datD h (.at w) = some p → p.canLay0 = true
theorem b_okc {x p : Option D} {w : Nat} {h : Hd} {ws : List D} {f : Str} {a : D} {as : List D} (hN : 50 ≤ NF) (e : h[w]? = some (.lst (ws ++ [.tup (.str f :: a :: as)]))) (hf : atomOk f = true) (hn : as.length < 8) (hl : ws.length + 9 ≤ LN) :
    Ev (B_is_term_1 NF RD [x, some (.at w), p] h) fun f' h' => f' = .nx [x, some (.at w), some (.tup (.str f :: a :: as))] ∧ Pre (h.set w (.lst (ws ++ a :: as))) h' := by
  have e2 := get_set (p := .lst ws) e
  unfold B_is_term_1
  walk_at "wp"
  refine lf_pop e ?_
  walk_at "wp"
  refine ev_eq (r_is_compound NF RD _ _ rfl) ?_
  refine tr_bl (br_t (isCmp_cmp _ _ _) ?_)
  walk_at "wp"
  refine br_f (by simp only [List.length_cons, decide_eq_false_iff_not]; omega) ?_
  walk_at "wp"
  refine ev_of (r_is_any_atom NF RD f _ hN (Nat.le_trans (atom_len hf) (by decide))) fun h' p => ?_
  walk_at "wp"
  refine br_f (by simp [hf]) ?_
  have e3 := p.get e2
  walk_at "wp"
  refine lf_extendT e3 ?_ ?_
  · rw [cut1]; simp only [List.length_cons]; omega
  rw [cut1]
  refine ⟨rfl, ?_⟩
  obtain ⟨g, rfl⟩ := p
  rw [List.set_append_left _ _ (by simpa using lt_of e), List.set_set]
  exact Pre.app _ _
/-- a stack that ends in what is no term -/
inductive Off (NF RD : Nat) (h0 : Hd) : Nat → List D → Prop
  | bad (k : Nat) (ws : List D) (d : D) : Bad NF RD d h0 → Lay h0 (ws ++ [d]) → Off NF RD h0 (k + 1) (ws ++ [d])
  | ok (k : Nat) (ws : List D) (d : D) : T d → Lay h0 (ws ++ [d]) → ws.length < 100 → Off NF RD h0 k (ws ++ args d) → Off NF RD h0 (k + 1) (ws ++ [d])
  | cmp (k : Nat) (ws : List D) (f : Str) (a : D) (as : List D) : atomOk f = true → as.length < 8 → Lay h0 (ws ++ [.tup (.str f :: a :: as)]) → ws.length < 100 → Off NF RD h0 k (ws ++ a :: as) → Off NF RD h0 (k + 1) (ws ++ [.tup (.str f :: a :: as)])
theorem off_turn (hN : 50 ≤ NF) {h0 : Hd} {k : Nat} {ws : List D} (o : Off NF RD h0 k ws) : ∀ {h : Hd} {w : Nat} {x : D} {p : Option D}, h[w]? = some (.lst ws) → Pre h0 h → h0.length ≤ w → Ev (whileM (C_is_term_0 NF RD) (B_is_term_1 NF RD) k [some x, some (.at w), p] h) fun f h' => f = .rt (.bl false) ∧ Pre h0 h' := by
  have hLN := LN_eq
  induction o with
  | bad k ws d hb hl =>
    intro h w x p e hp hw
    have hp2 := hp.app' [.lst []]
    have e2 := (Pre.app h [.lst []]).get e
    refine ev_turn (c_one rfl e (by simp) fun p' ep => hl _ _ p' hp2 e2 ep) ?_
    refine (hb _ _ _ _ ws e2 hp2 hw).mono ?_
    rintro _ h' ⟨rfl, hp'⟩
    exact ⟨rfl, hp'⟩
  | ok k ws d ht hl hws _ ih =>
    intro h w x p e hp hw
    have hp2 := hp.app' [.lst []]
    have e2 := (Pre.app h [.lst []]).get e
    refine ev_turn (c_one rfl e (by simp) fun p' ep => hl _ _ p' hp2 e2 ep) ?_
    refine ev_of (b_is_term NF RD hN e2 ht (by omega)) fun h' p' => ?_
    exact ih (p'.get (get_set e2)) ((hp2.set hw _).trans p') hw
  | cmp k ws f a as hf hn hl hws _ ih =>
    intro h w x p e hp hw
    have hp2 := hp.app' [.lst []]
    have e2 := (Pre.app h [.lst []]).get e
    refine ev_turn (c_one rfl e (by simp) fun p' ep => hl _ _ p' hp2 e2 ep) ?_
    refine (b_okc hN e2 hf hn (by omega)).mono ?_
    rintro _ h' ⟨rfl, p'⟩
    exact ih (p'.get (get_set e2)) ((hp2.set hw _).trans p') hw
theorem not_term {d : D} {h : Hd} (hN : 50 ≤ NF) (o : Off NF RD h NF [d]) : Ev (m_is_term NF RD [d] h) fun r h' => r = .bl false ∧ Pre h h' := by
  unfold m_is_term
  walk_at "wq"
  refine sq_nx ?_
  walk_at "wq"
  refine (off_turn hN o (get_new _ _) (Pre.app _ _) (Nat.le_refl _)).mono ?_
  rintro _ h' ⟨rfl, hp'⟩
  exact ⟨rfl, hp'⟩
end
section
variable {NF RD : Nat}
theorem leaf_kd {d : D} {h : Hd} {k : String} {bi : Bool} (hk : ∀ h1, Pre h h1 → kdD h1 d = some k) (t : kitB k "tuple" = some false) (i : kitB k "int" = some bi) (b : bi = true → kitB k "bool" = some true) (s : kitB k "str" = some false) : Leaf NF RD d h := by
  have hint : No (m_is_int NF RD) d h := fun h1 hp => ev_nope (by
    unfold m_is_int
    walk_at "wq"
    refine lf_isi (hk _ hp) i ?_
    cases bi with
    | false => walk_at "wq"; exact ⟨rfl, rfl⟩
    | true =>
      walk_at "wq"
      refine lf_isi (hk _ hp) (b rfl) ?_
      walk_at "wq"
      exact ⟨rfl, rfl⟩)
  refine ⟨?_, ?_, ?_, ?_⟩
  · refine fun h1 hp => ev_nope ?_
    unfold m_is_compound
    walk_at "wq"
    refine lf_isi (hk _ hp) t ?_
    walk_at "wq"
    exact ⟨rfl, rfl⟩
  · refine fun h1 hp => ev_nope ?_
    unfold m_is_variable
    walk_at "wq"
    refine lf_isi (hk _ hp) t ?_
    walk_at "wq"
    exact ⟨rfl, rfl⟩
  · refine fun h1 hp => ev_nope ?_
    unfold m_is_any_number
    walk_at "wq"
    refine ev_eq (hint _ hp) ?_
    walk_at "wq"
    exact ⟨rfl, rfl⟩
  · refine fun h1 hp => ev_nope ?_
    unfold m_is_any_atom
    walk_at "wq"
    refine lf_isi (hk _ hp) s ?_
    walk_at "wq"
    exact ⟨rfl, rfl⟩
theorem no_atom {d : D} {h : Hd} {k : String} (hk : ∀ h1, Pre h h1 → kdD h1 d = some k) (s : kitB k "str" = some false) : No (m_is_any_atom NF RD) d h := by
  refine fun h1 hp => ev_nope ?_
  unfold m_is_any_atom
  walk_at "wq"
  refine lf_isi (hk _ hp) s ?_
  walk_at "wq"
  exact ⟨rfl, rfl⟩
theorem leaf_non (h : Hd) : Leaf NF RD .non h := leaf_kd (k := "NoneType") (bi := false) (fun _ _ => rfl) (by decide +kernel) (by decide +kernel) (fun e => by cases e) (by decide +kernel)
theorem leaf_bl (b : Bool) (h : Hd) : Leaf NF RD (.bl b) h := leaf_kd (k := "bool") (bi := true) (fun _ _ => rfl) (by decide +kernel) (by decide +kernel) (fun e => by decide +kernel) (by decide +kernel)
theorem leaf_lst {n : Nat} {xs : List D} {h : Hd} (e : h[n]? = some (.lst xs)) : Leaf NF RD (.at n) h := leaf_kd (k := "list") (bi := false) (fun _ hp => by unfold kdD; simp only [hp.get e]) (by decide +kernel) (by decide +kernel) (fun e => by cases e) (by decide +kernel)
theorem leaf_dct {n : Nat} {xs : List (Key × D)} {h : Hd} (e : h[n]? = some (.dct xs)) : Leaf NF RD (.at n) h := leaf_kd (k := "dict") (bi := false) (fun _ hp => by unfold kdD; simp only [hp.get e]) (by decide +kernel) (by decide +kernel) (fun e => by cases e) (by decide +kernel)
theorem leaf_nil (h : Hd) : Leaf NF RD (.tup []) h := by
  refine ⟨fun h1 hp => r_is_compound NF RD _ _ rfl, fun h1 hp => ev_nope ?_, fun h1 hp => ?_, no_atom (k := "tuple") (fun _ _ => rfl) (by decide +kernel)⟩
  · unfold m_is_variable
    walk_at "wq"
    exact ⟨rfl, rfl⟩
  · exact ev_nope (by unfold m_is_any_number; walk_at "wq"; unfold m_is_int; walk_at "wq"; exact ⟨rfl, rfl⟩)
theorem leaf_neg (h : Hd) {i : Int} (hi : i < 0) : Leaf NF RD (.tup [.int i]) h := by
  refine ⟨fun h1 hp => r_is_compound NF RD _ _ rfl, fun h1 hp => ev_nope ?_, fun h1 hp => ?_, no_atom (k := "tuple") (fun _ _ => rfl) (by decide +kernel)⟩
  · unfold m_is_variable
    walk_at "wq"
    refine ev_eq (r_is_int NF RD _ _ rfl) ?_
    walk_at "wq"
    refine ⟨?_, rfl⟩
    simp
    omega
  · exact ev_nope (by unfold m_is_any_number; walk_at "wq"; unfold m_is_int; walk_at "wq"; exact ⟨rfl, rfl⟩)
theorem leaf_long (h : Hd) {s : Str} (hs : 40 < s.length) (hl : s.length ≤ LN) : Leaf NF RD (.str s) h := by
  refine ⟨fun h1 hp => r_is_compound NF RD _ _ rfl, fun h1 hp => ev_nope ?_, fun h1 hp => ?_, fun h1 hp => ev_nope ?_⟩
  · unfold m_is_variable
    walk_at "wq"
    exact ⟨rfl, rfl⟩
  · exact ev_nope (by unfold m_is_any_number; walk_at "wq"; unfold m_is_int; walk_at "wq"; exact ⟨rfl, rfl⟩)
  · unfold m_is_any_atom
    walk_at "wq"
    refine br_t (by simp; omega) ?_
    walk_at "wq"
    exact ⟨rfl, rfl⟩
theorem lay_clo {ws : List D} {ps : List PyData} (h0 : Hd) (e : ∀ r, toPs r ws = some ps) (c : PyData.canLayAll0 ps = true) : Lay h0 ws := by
  intro h w p hp ew ed
  rw [dat_lst ew (e _)] at ed
  cases ed
  unfold PyData.canLay0
  exact c
theorem off1 {d : D} {h0 : Hd} (k : Nat) (b : Bad NF RD d h0) (l : Lay h0 [d]) : Off NF RD h0 (k + 1) [d] := .bad k [] d b l
theorem lay_lst {n : Nat} {h0 : Hd} (e : h0[n]? = some (.lst [.int 1])) : Lay h0 [.at n] := by
  intro h w p hp ew ed
  have : toPs (rP 2 h) [.at n] = some [.list [.int 1]] := by
    unfold toPs toP rP
    simp [hp.get e, toPs, toP]
  rw [dat_lst ew this] at ed
  cases ed
  decide
theorem lay_dct {n : Nat} {h0 : Hd} (e : h0[n]? = some (.dct [])) : Lay h0 [.at n] := by
  intro h w p hp ew ed
  have : toPs (rP 2 h) [.at n] = none := by
    unfold toPs toP rP
    simp [hp.get e]
  unfold datD toP rP at ed
  rw [ew] at ed
  simp only [this] at ed
  cases ed
end
theorem lf_mulT {j : Int} {xs : List D} {h : Hd} {Q : D → Hd → Prop} (c : xs ≠ [] ∧ 2 ≤ j ∧ j ≤ 1000 ∧ xs.length ≤ 1000) (q : Q (.tup (List.replicate j.toNat xs).flatten) h) : Ev (mulD (.tup xs) (.int j) h) Q := ⟨_, _, by simp only [mulD, if_pos c], q⟩
section
variable {NF RD : Nat}
theorem leaf_one (h : Hd) {x : D} {k : String} {bi : Bool} (hk : ∀ h1, kdD h1 x = some k) (i : kitB k "int" = some bi) (b : bi = true → kitB k "bool" = some true) : Leaf NF RD (.tup [x]) h := by
  have hint : ∀ h1, m_is_int NF RD [x] h1 = some (.bl false, h1) := fun h1 => ev_nope (by
    unfold m_is_int
    walk_at "wq"
    refine lf_isi (hk _) i ?_
    cases bi with
    | false => walk_at "wq"; exact ⟨rfl, rfl⟩
    | true =>
      walk_at "wq"
      refine lf_isi (hk _) (b rfl) ?_
      walk_at "wq"
      exact ⟨rfl, rfl⟩)
  refine ⟨fun h1 hp => r_is_compound NF RD _ _ rfl, fun h1 hp => ev_nope ?_, fun h1 hp => ?_, no_atom (k := "tuple") (fun _ _ => rfl) (by decide +kernel)⟩
  · unfold m_is_variable
    walk_at "wq"
    refine ev_eq (hint _) ?_
    walk_at "wq"
    exact ⟨rfl, rfl⟩
  · exact ev_nope (by unfold m_is_any_number; walk_at "wq"; unfold m_is_int; walk_at "wq"; exact ⟨rfl, rfl⟩)
theorem bad_str (hN : 50 ≤ NF) {s : Str} {h0 : Hd} (hs : atomOk s = false) (hl : s.length ≤ LN) : Bad NF RD (.str s) h0 := by
  intro x p w h ws e hp hw
  have hp' := hp.set hw (.lst ws)
  unfold B_is_term_1
  walk_at "wq"
  refine lf_pop e ?_
  walk_at "wq"
  refine sq_nx ?_
  walk_at "wq"
  refine ev_eq (r_is_compound NF RD _ _ rfl) ?_
  walk_at "wq"
  refine ev_eq (d := .bl false) (h' := h.set w (.lst ws)) (ev_nope (by unfold m_is_variable; walk_at "wq"; exact ⟨rfl, rfl⟩)) ?_
  walk_at "wq"
  refine ev_eq (r_is_any_number NF RD _ _ rfl) ?_
  walk_at "wq"
  refine ev_of (r_is_any_atom NF RD s _ hN hl) fun h' p' => ?_
  walk_at "wq"
  refine br_t (by simp [hs]) ?_
  walk_at "wq"
  exact ⟨rfl, hp'.trans p'⟩
theorem lay_at {n : Nat} {h0 : Hd} {xs : List D} {ps : List PyData} (e : h0[n]? = some (.lst xs)) (q : ∀ r, toPs r xs = some ps) (c : PyData.canLayAll0 ps = true) : Lay h0 [.at n] := by
  intro h w p hp ew ed
  have : toPs (rP 2 h) [.at n] = some [.list ps] := by
    unfold toPs toP rP
    simp [hp.get e, toPs, q]
  rw [dat_lst ew this] at ed
  cases ed
  simp [PyData.canLay0, PyData.canLayAll0, c]
theorem lay_dc {n : Nat} {h0 : Hd} {kvs : List (Key × D)} (e : h0[n]? = some (.dct kvs)) : Lay h0 [.at n] := by
  intro h w p hp ew ed
  have : toPs (rP 2 h) [.at n] = none := by
    unfold toPs toP rP
    simp [hp.get e]
  unfold datD toP rP at ed
  rw [ew] at ed
  simp only [this] at ed
  cases ed
/-- what is no term is neither a body nor a clause -/
def OffA (NF RD : Nat) (d : D) (h : Hd) : Prop := ∀ h1, Pre h h1 → Off NF RD h1 NF [d]
theorem r_nobody {d : D} {h : Hd} (hN : 50 ≤ NF) (o : OffA NF RD d h) {h1 : Hd} (p : Pre h h1) : Rt (m_is_body NF RD [d] h1) (.bl false) (Pre h1) := by
  refine rt_of ?_
  unfold m_is_body
  walk_at "wq"
  refine (not_term hN (o _ p)).mono ?_
  rintro _ h2 ⟨rfl, p2⟩
  walk_at "wq"
  exact ⟨rfl, p2⟩
theorem r_nofault {d : D} {h : Hd} (hN : 50 ≤ NF) (o : OffA NF RD d h) {h1 : Hd} (p : Pre h h1) : Rt (m_fault_of NF RD [d] h1) (.str "head") (Pre h1) := by
  refine rt_of ?_
  unfold m_fault_of
  walk_at "wq"
  refine (not_term hN (o _ p)).mono ?_
  rintro _ h2 ⟨rfl, p2⟩
  walk_at "wq"
  exact ⟨rfl, p2⟩
theorem r_noclause {d : D} {h : Hd} (hN : 50 ≤ NF) (o : OffA NF RD d h) {h1 : Hd} (p : Pre h h1) : Rt (m_is_clause NF RD [d] h1) (.bl false) (Pre h1) := by
  refine rt_of ?_
  unfold m_is_clause
  walk_at "wq"
  refine ev_of (r_nofault hN o p) fun h2 p2 => ?_
  walk_at "wq"
  exact ⟨rfl, p2⟩
theorem r_odd {d x0 : D} {p1 p2 p3 p4 p5 p7 : Option D} {h : Hd} (hN : 50 ≤ NF) (o : OffA NF RD d h) : Ev (B_law_0 NF RD [some x0, p1, p2, p3, p4, p5, some d, p7] h) fun f h' => f = .nx [some x0, p1, p2, p3, p4, p5, some d, p7] ∧ Pre h h' := by
  unfold B_law_0
  walk_at "wq"
  refine ev_of (r_nobody hN o (Pre.refl _)) fun h1 q1 => ?_
  walk_at "wq"
  refine lf_isntB ?_
  refine blk (br_f rfl ?_)
  walk_at "wq"
  refine ev_of (r_noclause hN o q1) fun h2 q2 => ?_
  walk_at "wq"
  refine lf_isntB ?_
  refine blk (br_f rfl ?_)
  walk_at "wq"
  obtain ⟨h3, e3, q3⟩ := r_nofault hN o (q1.trans q2)
  refine ev_eq (said_x e3 rfl) ?_
  refine ev_c ?_
  have ok : PyData.strOk "head" = true := by decide +kernel
  refine ev_eq (ne_ss ok) ?_
  walk_at "wq"
  exact ⟨rfl, (q1.trans q2).trans q3⟩
end


theorem lf_addR {xs ys : List D} {m : Nat} {h : Hd} {Q : D → Hd → Prop} (e2 : h[m]? = some (.lst ys)) (l : xs.length + ys.length ≤ LN) (q : Q (.at h.length) (h ++ [.lst (xs ++ ys)])) : Ev (addD (.rol xs) (.at m) h) Q := ⟨_, _, by simp only [addD, e2, if_pos l], q⟩
theorem cut3 (xs : List D) : (cutD xs (some 1) (some 4)).length ≤ 3 ∧ ∀ x ∈ cutD xs (some 1) (some 4), x ∈ xs := by
  unfold cutD
  have h1 : HT.sIx xs.length xs.length (some 4) ≤ 4 := by
    unfold HT.sIx
    simp
    omega
  have h2 : HT.sIx xs.length 0 (some 1) = min 1 xs.length := by
    unfold HT.sIx
    simp
  refine ⟨?_, fun x h => ?_⟩
  · simp only [List.length_drop, List.length_take, h2]
    omega
  · exact List.mem_of_mem_drop (List.mem_of_mem_take h)
section
variable {NF RD : Nat}
theorem r_cell (ns : List Int) (h : Hd) : ∃ c, m__law_cell_at NF RD [.rol (ns.map D.int), .int 0] h = some (.int c, h) := by
  have : Ev (m__law_cell_at NF RD [.rol (ns.map D.int), .int 0] h) fun r h' => (∃ c, r = .int c) ∧ h' = h := by
    unfold m__law_cell_at
    walk_at "wq"
    refine br (fun c => ?_) fun c => ?_
    · walk_at "wq"
      cases ns with
      | nil => simp at c
      | cons n ns =>
        refine lf_ixR (at0 _ _) ?_
        walk_at "wq"
        exact ⟨⟨_, rfl⟩, rfl⟩
    · walk_at "wq"
      refine sq_nx ?_
      walk_at "wq"
      exact ⟨⟨_, rfl⟩, rfl⟩
  obtain ⟨r, h', e, ⟨c, rfl⟩, rfl⟩ := this
  exact ⟨c, e⟩
theorem r_well (c : Int) (h : Hd) : Ev (m__law_well NF RD [.int c] h) fun r h' => ∃ w, r = .at w ∧ h.length ≤ w ∧ Pre h h' ∧ Wl 900000 w h' := by
  unfold m__law_well
  walk_at "wq"
  by_cases q : (10 : Int) ^ Int.toNat 18 ≤ c
  · rw [decide_eq_true q]
    walk_at "wq"
    refine lf_ixL (get_new _ _) (at1 _ _ _) ?_
    walk_at "wq"
    refine ⟨_, rfl, by simp, ?_, c, c, 0, get_new _ _, by decide, by decide⟩
    exact (Pre.app _ _).app' _
  · rw [decide_eq_false q]
    walk_at "wq"
    refine lf_ixL (get_new _ _) (at0 _ _) ?_
    walk_at "wq"
    refine ⟨_, rfl, by simp, ?_, 0, c, 0, get_new _ _, by decide, by decide⟩
    exact (Pre.app _ _).app' _
theorem Lt.of {d : D} {n m : Nat} (t : T d) (s : Ss d) (p : (parts d).length ≤ n) (e : dep d ≤ m) (hn : n ≤ 400) (hm : m ≤ 8) : Lt d := ⟨t, s, by omega, by omega⟩
theorem Lt.two {f : Str} {a b : D} (hf : f ∈ AT) (t1 : T a) (s1 : Ss a) (p1 : (parts a).length ≤ 130) (d1 : dep a ≤ 7) (t2 : T b) (s2 : Ss b) (p2 : (parts b).length ≤ 130) (d2 : dep b ≤ 7) : Lt (.tup [.str f, a, b]) := by
  refine ⟨.cmp f a [b] (at_atom _ hf) (by simp) ?_, .tup _ ?_, ?_, ?_⟩
  · intro x hx
    simp only [List.mem_cons, List.not_mem_nil, or_false] at hx
    rcases hx with rfl | rfl <;> assumption
  · intro x hx
    simp only [List.mem_cons, List.not_mem_nil, or_false] at hx
    rcases hx with rfl | rfl | rfl
    · exact .str _ hf
    · exact s1
    · exact s2
  · simp only [parts, partsT, partss, List.length_cons, List.length_append, List.length_nil]
    omega
  · rw [dep_args]
    simp only [K21.args, deps]
    omega
theorem Lt.one {f : Str} {a : D} (hf : f ∈ AT) (t1 : T a) (s1 : Ss a) (p1 : (parts a).length ≤ 130) (d1 : dep a ≤ 6) : Lt (.tup [.str f, a]) ∧ dep (.tup [.str f, a]) ≤ 7 := by
  refine ⟨⟨.cmp f a [] (at_atom _ hf) (by simp) (by simpa using t1), .tup _ ?_, ?_, ?_⟩, ?_⟩
  · intro x hx
    simp only [List.mem_cons, List.not_mem_nil, or_false] at hx
    rcases hx with rfl | rfl
    · exact .str _ hf
    · exact s1
  · simp only [parts, partsT, partss, List.length_cons, List.length_append, List.length_nil]
    omega
  · rw [dep_args]
    simp only [K21.args, deps]
    omega
  · rw [dep_args]
    simp only [K21.args, deps]
    omega
theorem b_terms {a b w : D} {c tn q p : Option D} {h : Hd} (hN : 3000 ≤ NF) (hR : 10 ≤ RD) (t1 : T a) (s1 : Ss a) (p1 : (parts a).length ≤ 13) (d1 : dep a ≤ 3) (t2 : T b) (s2 : Ss b) (p2 : (parts b).length ≤ 121) (d2 : dep b ≤ 5) :
    Ev (forSM (seqI (lstM (consM (varM 4) (consM (varM 5) (consM (tupM (consM (cM (.str ":-")) (consM (varM 4) (consM (varM 5) nilM)))) (consM (tupM (consM (cM (.str ":-")) (consM (tupM (consM (cM (.str "p")) (consM (varM 4) nilM))) (consM (varM 5) nilM)))) (consM (tupM (consM (cM (.str ":-")) (consM (varM 5) nilM))) nilM))))))) (nameG 6) (B_law_1 NF RD) NF ([some w, c, tn, q, some a, some b, p, none] : Sg) h)
      fun f h' => ∃ p', f = .nx [some w, c, tn, q, some a, some b, p', none] ∧ Pre h h' := by
  have hLN := LN_eq
  have hm : (":-" : Str) ∈ AT := by decide +kernel
  have hpp : ("p" : Str) ∈ AT := by decide +kernel
  walk_at "wq"
  have lp := Lt.one hpp t1 s1 (by omega) (by omega)
  have key : ∀ x ∈ [a, b, .tup [.str ":-", a, b], .tup [.str ":-", .tup [.str "p", a], b], .tup [.str ":-", b]], Lt x := by
    intro x hx
    simp only [List.mem_cons, List.not_mem_nil, or_false] at hx
    rcases hx with rfl | rfl | rfl | rfl | rfl
    · exact Lt.of t1 s1 p1 d1 (by decide) (by decide)
    · exact Lt.of t2 s2 p2 d2 (by decide) (by decide)
    · exact Lt.two hm t1 s1 (by omega) (by omega) t2 s2 (by omega) (by omega)
    · refine Lt.two hm lp.1.t lp.1.s ?_ lp.2 t2 s2 (by omega) (by omega)
      simp only [parts, partsT, partss, List.length_cons, List.length_append, List.length_nil]
      omega
    · exact (Lt.one hm t2 s2 (by omega) (by omega)).1
  refine ev_for (xs := [a, b, .tup [.str ":-", a, b], .tup [.str ":-", .tup [.str "p", a], b], .tup [.str ":-", b]]) (fun as sg h1 => Pre h h1 ∧ (∃ p', sg = [some w, c, tn, q, some a, some b, p', none]) ∧ h1[h.length]? = some (.lst [a, b, .tup [.str ":-", a, b], .tup [.str ":-", .tup [.str "p", a], b], .tup [.str ":-", b]])) ⟨Pre.app _ _, ⟨_, rfl⟩, get_new _ _⟩ (by simp; omega) (fun _ _ _ i => yl_obj i.2.2) ?_ ?_
  · rintro as x bs sg h1 ex ⟨hp, ⟨p', rfl⟩, e1⟩
    have lx := key x (by rw [ex]; simp)
    walk_at "wq"
    unfold B_law_1
    walk_at "wq"
    refine ev_of (r_right lx hN hR) fun h2 p2 => ?_
    walk_at "wq"
    exact ⟨hp.trans p2, ⟨_, rfl⟩, p2.get e1⟩
  · rintro sg h1 ⟨hp, ⟨p', rfl⟩, e1⟩
    exact ⟨_, rfl, hp⟩
theorem b_cell {c : Int} {x0 : D} {p2 p3 p4 p5 p6 : Option D} {h : Hd} (hN : 3000 ≤ NF) (hR : 10 ≤ RD) :
    Ev (B_law_3 NF RD [some x0, some (.int c), p2, p3, p4, p5, p6, none] h) fun f h' => ∃ w q2 q3 q4 q5 q6, h.length ≤ w ∧ f = .nx [some x0, some (.int c), q2, q3, q4, q5, q6, none] ∧ Fw w h h' := by
  have hLN := LN_eq
  unfold B_law_3
  walk_at "wq"
  refine (r_well c h).mono ?_
  rintro _ h1 ⟨w, rfl, hw0, hp1, hw1⟩
  walk_at "wq"
  refine sq_nx ?_
  walk_at "wq"
  refine ⟨12, rfl, by decide, ?_⟩
  refine ev_for (xs := (List.range 12).map fun i => D.int (0 + (i : Nat))) (fun as sg h2 => (∃ q3 q4 q5 q6, sg = [some x0, some (.int c), some (.at w), q3, q4, q5, q6, none]) ∧ Fw w h h2 ∧ Wl (900000 - 2000 * as.length) w h2) ⟨⟨_, _, _, _, rfl⟩, Fw.pre hp1, hw1⟩ (by simp; omega) (fun _ _ _ _ => yl_fix) ?_ ?_
  · rintro as x bs sg h2 ex ⟨⟨q3, q4, q5, q6, rfl⟩, hf, hw⟩
    have hl : as.length < 12 := by
      have := congrArg List.length ex
      simp at this
      omega
    walk_at "wq"
    unfold B_law_2
    walk_at "wq"
    have D2 : Dr 2 = 78 := rfl
    have D4 : Dr 4 = 726 := rfl
    refine (r_part (NF := NF) (by omega) 2 RD (1000 + (900000 - 2000 * as.length - 1900)) w h2 (by omega) (by decide) (hw.le (by omega))).mono ?_
    rintro a h3 ⟨t1, s1, l1, d1, hf3, hw3⟩
    walk_at "wq"
    refine (r_part (NF := NF) (by omega) 4 RD (900000 - 2000 * as.length - 1900) w h3 (by omega) (by decide) (hw3.le (by omega))).mono ?_
    rintro b h4 ⟨t2, s2, l2, d2, hf4, hw4⟩
    walk_at "wq"
    refine sq_nx ?_
    refine (b_terms (w := x0) hN hR t1 s1 l1 d1 t2 s2 l2 d2).mono ?_
    rintro _ h5 ⟨p', rfl, hp5⟩
    refine lp_nx ⟨⟨_, _, _, _, rfl⟩, ((hf.trans hf3).trans hf4).trans (Fw.pre hp5), ?_⟩
    refine (hw4.pre hp5).le ?_
    simp
    omega
  · rintro sg h2 ⟨⟨q3, q4, q5, q6, rfl⟩, hf, hw⟩
    exact ⟨w, _, _, _, _, _, hw0, rfl, hf⟩
theorem o_all (hN : 50 ≤ NF) {h : Hd} {a b c d : Nat} {d0 d1 : List D} (ea : h[a]? = some (.lst [])) (eb : h[b]? = some (.dct [])) (ec : h[c]? = some (.dct [(.inr "a", .int 1)])) (ed : h[d]? = some (.lst [.str ":-", .str "a", .str "b"])) {n : Nat} (hn : NF = n + 3) {x : D}
    (hx : x ∈ [D.non, .bl true, .at a, .tup [], .tup [.str "f"], .tup [.str "f", .non], .tup [.str "f", .bl true], .at b, .at c, .tup [.str "f", .tup [.str "x"]], .tup [.int (-1)], .tup [.bl true], .str (repS "a" 41),
      .tup ([.str "f"] ++ (List.replicate 9 [.int 1]).flatten), .tup [.int 1, .int 2], .tup [.str "p", .str "\n"], .at d, .tup [.str ":-", .str "a", .non]]) : OffA NF RD x h := by
  subst hn
  have hLN := LN_eq
  have hf : atomOk "f" = true := by decide +kernel
  intro h1 hp
  simp only [List.mem_cons, List.not_mem_nil, or_false] at hx
  rcases hx with rfl | rfl | rfl | rfl | rfl | rfl | rfl | rfl | rfl | rfl | rfl | rfl | rfl | rfl | rfl | rfl | rfl | rfl
  · exact off1 _ (leaf_non _).bad (lay_clo _ (fun r => rfl) rfl)
  · exact off1 _ (leaf_bl _ _).bad (lay_clo _ (fun r => rfl) rfl)
  · exact off1 _ (leaf_lst (hp.get ea)).bad (lay_at (hp.get ea) (fun _ => rfl) rfl)
  · exact off1 _ (leaf_nil _).bad (lay_clo _ (fun r => rfl) rfl)
  · exact off1 _ (leaf_one _ (k := "str") (bi := false) (fun _ => rfl) (by decide +kernel) (fun e => by cases e)).bad (lay_clo _ (fun r => rfl) (by decide +kernel))
  · refine .cmp _ [] _ _ _ hf (by decide) (lay_clo _ (fun r => rfl) (by decide +kernel)) (by decide) ?_
    exact .bad _ [] _ (leaf_non _).bad (lay_clo _ (fun r => rfl) (by decide +kernel))
  · refine .cmp _ [] _ _ _ hf (by decide) (lay_clo _ (fun r => rfl) (by decide +kernel)) (by decide) ?_
    exact .bad _ [] _ (leaf_bl _ _).bad (lay_clo _ (fun r => rfl) (by decide +kernel))
  · exact off1 _ (leaf_dct (hp.get eb)).bad (lay_dc (hp.get eb))
  · exact off1 _ (leaf_dct (hp.get ec)).bad (lay_dc (hp.get ec))
  · refine .cmp _ [] _ _ _ hf (by decide) (lay_clo _ (fun r => rfl) (by decide +kernel)) (by decide) ?_
    exact .bad _ [] _ (leaf_one _ (k := "str") (bi := false) (fun _ => rfl) (by decide +kernel) (fun e => by cases e)).bad (lay_clo _ (fun r => rfl) (by decide +kernel))
  · exact off1 _ (leaf_neg _ (by decide)).bad (lay_clo _ (fun r => rfl) rfl)
  · exact off1 _ (leaf_one _ (k := "bool") (bi := true) (fun _ => rfl) (by decide +kernel) (fun e => by decide +kernel)).bad (lay_clo _ (fun r => rfl) (by decide +kernel))
  · have h41 : (repS "a" 41).length = 41 := by decide +kernel
    exact off1 _ (leaf_long _ (by omega) (by omega)).bad (lay_clo _ (fun r => rfl) (by decide +kernel))
  · exact off1 _ (fun _ _ _ _ _ e hp hw => b_comp (.inl (by decide)) e hp hw) (lay_clo _ (fun r => rfl) (by decide +kernel))
  · exact off1 _ (fun _ _ _ _ _ e hp hw => b_comp (.inr (no_atom (k := "int") (fun _ _ => rfl) (by decide +kernel))) e hp hw) (lay_clo _ (fun r => rfl) (by decide +kernel))
  · refine .cmp _ [] _ _ _ (by decide +kernel) (by decide) (lay_clo _ (fun r => rfl) (by decide +kernel)) (by decide) ?_
    exact .bad _ [] _ (bad_str (by omega) (by decide +kernel) (by decide +kernel)) (lay_clo _ (fun r => rfl) (by decide +kernel))
  · exact off1 _ (leaf_lst (hp.get ed)).bad (lay_at (hp.get ed) (fun _ => rfl) (by decide +kernel))
  · refine .cmp _ [] _ _ _ (by decide +kernel) (by decide) (lay_clo _ (fun r => rfl) (by decide +kernel)) (by decide) ?_
    exact .bad _ [.str "a"] _ (leaf_non _).bad (lay_clo _ (fun r => rfl) (by decide +kernel))
end
section
variable {NF RD : Nat}
theorem lf_slR {xs : List D} {lo hi : Option Int} {h : Hd} {Q : D → Hd → Prop} (q : Q (.at h.length) (h ++ [.lst (cutD xs lo hi)])) : Ev (sliceD (.rol xs) lo hi h) Q := ⟨_, _, rfl, q⟩
theorem law_true_n (ns : List Int) (hl : ns.length ≤ 63) (n : Nat) (hN : 3100 ≤ n + 3) (hR : 10 ≤ RD) : ∃ h', m_law (n + 3) RD [.rol (ns.map D.int)] [] = some (.bl true, h') := by
  have main : Ev (m_law (n + 3) RD [.rol (ns.map D.int)] []) fun r h' => r = .bl true := by
    have hLN := LN_eq
    unfold m_law
    walk_at "wq"
    obtain ⟨c0, e0⟩ := r_cell (NF := n + 3) (RD := RD) ns []
    refine ev_eq e0 ?_
    walk_at "wq"
    refine lf_slR ?_
    walk_at "wq"
    obtain ⟨hc3, hcm⟩ := cut3 (List.map D.int ns)
    refine lf_addL ((Pre.app _ _).get (get_new _ _)) (get_new _ _) (by simp at hc3 ⊢; omega) ?_
    walk_at "wq"
    generalize hcs : cutD (List.map D.int ns) (some 1) (some 4) = cs at *
    have el := get_new ([] ++ [O.lst [D.int c0]] ++ [O.lst cs]) (O.lst ([D.int c0] ++ cs))
    generalize ([] ++ [O.lst [D.int c0]] ++ [O.lst cs]).length = l at el
    generalize ([] ++ [O.lst [D.int c0]] ++ [O.lst cs] ++ [O.lst ([D.int c0] ++ cs)]) = h0 at el
    refine ev_for (xs := [D.int c0] ++ cs) (fun as sg h1 => h1[l]? = some (.lst ([D.int c0] ++ cs)) ∧ ∃ p1 p2 p3 p4 p5 p6, sg = [some (.rol (ns.map D.int)), p1, p2, p3, p4, p5, p6, none]) ⟨el, _, _, _, _, _, _, rfl⟩ (by simp; omega) (fun _ _ _ i => yl_obj i.1) ?_ ?_
    · rintro as x bs sg h1 ex ⟨e1, p1, p2, p3, p4, p5, p6, rfl⟩
      obtain ⟨c, rfl⟩ : ∃ c, x = D.int c := by
        have : x ∈ [D.int c0] ++ cs := by rw [ex]; simp
        simp only [List.cons_append, List.nil_append, List.mem_cons] at this
        rcases this with rfl | hx
        · exact ⟨c0, rfl⟩
        · obtain ⟨c, _, rfl⟩ := List.mem_map.mp (hcm x hx)
          exact ⟨c, rfl⟩
      walk_at "wq"
      refine (b_cell (NF := n + 3) (by omega) hR).mono ?_
      rintro _ h2 ⟨w, q2, q3, q4, q5, q6, hw0, rfl, hf⟩
      have := lt_of e1
      exact ⟨hf.get e1 (by omega), _, _, _, _, _, _, rfl⟩
    · rintro sg h1 ⟨_, p1, p2, p3, p4, p5, p6, rfl⟩
      refine sq_nx ?_
      walk_at "wq"
      refine ⟨get_new _ _, by decide, ?_⟩
      have f1 : ∀ (o : O), ((h1 ++ [O.lst []] ++ [O.dct []] ++ [O.dct []]).set (h1 ++ [O.lst []] ++ [O.dct []]).length o)[h1.length]? = some (O.lst []) := fun o => by rw [get_ne (by simp)]; simp
      have f2 : ∀ (o : O), ((h1 ++ [O.lst []] ++ [O.dct []] ++ [O.dct []]).set (h1 ++ [O.lst []] ++ [O.dct []]).length o)[(h1 ++ [O.lst []]).length]? = some (O.dct []) := fun o => by rw [get_ne (by simp)]; simp
      have f3 : ∀ (o : O), ((h1 ++ [O.lst []] ++ [O.dct []] ++ [O.dct []]).set (h1 ++ [O.lst []] ++ [O.dct []]).length o)[(h1 ++ [O.lst []] ++ [O.dct []]).length]? = some o := fun o => get_set (get_new _ _)
      replace f1 := f1 (O.dct (mergeD [] [(Sum.inr (Str.ofString "a"), D.int 1)]))
      replace f2 := f2 (O.dct (mergeD [] [(Sum.inr (Str.ofString "a"), D.int 1)]))
      replace f3 := f3 (O.dct (mergeD [] [(Sum.inr (Str.ofString "a"), D.int 1)]))
      generalize (h1 ++ [O.lst []] ++ [O.dct []] ++ [O.dct []]).set (h1 ++ [O.lst []] ++ [O.dct []]).length (O.dct (mergeD [] [(Sum.inr (Str.ofString "a"), D.int 1)])) = g at f1 f2 f3 ⊢
      replace f3 : g[(h1 ++ [O.lst []] ++ [O.dct []]).length]? = some (.dct [(.inr "a", .int 1)]) := f3
      generalize (h1 ++ [O.lst []] ++ [O.dct []]).length = c at f3 ⊢
      generalize (h1 ++ [O.lst []]).length = b at f2 ⊢
      generalize h1.length = a at f1 ⊢
      walk_at "wq"
      have h41 : Str.length "a" * (41 : Int).toNat = 41 := by decide +kernel
      refine lf_mulS (j := 41) (s := "a") ⟨by decide, by decide, by omega⟩ ?_
      walk_at "wq"
      refine sq_nx ?_
      walk_at "wq"
      refine lf_mulT ⟨by simp, by decide, by decide, by simp⟩ ?_
      walk_at "wq"
      refine lf_addT (by simp; omega) ?_
      walk_at "wq"
      refine lf_addL ((Pre.app _ _).get ((Pre.app _ _).get (get_new _ _))) (get_new _ _) (by simp; omega) ?_
      walk_at "wq"
      refine sq_nx ?_
      walk_at "wq"
      generalize hA : O.lst [D.non, D.bl true, D.at a, D.tup [], D.tup [D.str (Str.ofString "f")], D.tup [D.str (Str.ofString "f"), D.non], D.tup [D.str (Str.ofString "f"), D.bl true], D.at b, D.at c, D.tup [D.str (Str.ofString "f"), D.tup [D.str (Str.ofString "x")]], D.tup [D.int (-1)], D.tup [D.bl true], D.str (repS (Str.ofString "a") (Int.toNat 41))] = oA
      generalize hB : O.lst [D.str (Str.ofString ":-"), D.str (Str.ofString "a"), D.str (Str.ofString "b")] = oB
      generalize hC : O.lst [D.tup ([D.str (Str.ofString "f")] ++ (List.replicate (Int.toNat 9) [D.int 1]).flatten), D.tup [D.int 1, D.int 2], D.tup [D.str (Str.ofString "p"), D.str (Str.ofString "\n")], D.at (List.length (g ++ [oA])), D.tup [D.str (Str.ofString ":-"), D.str (Str.ofString "a"), D.non]] = oC
      have p1' : Pre g (g ++ [oA] ++ [oB] ++ [oC]) := ((Pre.app _ _).app' _).app' _
      have e4 : (g ++ [oA] ++ [oB] ++ [oC])[(g ++ [oA]).length]? = some oB := (Pre.app _ _).get (get_new _ _)
      have f1' := p1'.get f1
      have f2' := p1'.get f2
      have f3' := p1'.get f3
      clear hA hC p1' f1 f2 f3
      generalize (g ++ [oA]).length = d at e4 ⊢
      generalize g ++ [oA] ++ [oB] ++ [oC] = g2 at e4 f1' f2' f3' ⊢
      subst hB
      refine ev_for (xs := [D.non, .bl true, .at a, .tup [], .tup [.str "f"], .tup [.str "f", .non], .tup [.str "f", .bl true], .at b, .at c, .tup [.str "f", .tup [.str "x"]], .tup [.int (-1)], .tup [.bl true], .str (repS "a" 41),
        .tup ([.str "f"] ++ (List.replicate 9 [.int 1]).flatten), .tup [.int 1, .int 2], .tup [.str "p", .str "\n"], .at d, .tup [.str ":-", .str "a", .non]])
        (fun as sg h1 => Pre (g2 ++ [O.lst [D.non, .bl true, .at a, .tup [], .tup [.str "f"], .tup [.str "f", .non], .tup [.str "f", .bl true], .at b, .at c, .tup [.str "f", .tup [.str "x"]], .tup [.int (-1)], .tup [.bl true], .str (repS "a" 41),
        .tup ([.str "f"] ++ (List.replicate 9 [.int 1]).flatten), .tup [.int 1, .int 2], .tup [.str "p", .str "\n"], .at d, .tup [.str ":-", .str "a", .non]]]) h1 ∧ ∃ p6 p7, sg = [some (.rol (ns.map D.int)), p1, p2, p3, p4, p5, p6, p7]) ⟨Pre.refl _, _, _, rfl⟩ (by simp; omega) (fun _ _ _ i => yl_obj (i.1.get (get_new _ _))) ?_ ?_
      · rintro as x bs sg h3 ex ⟨q1, p6, p7, rfl⟩
        have hx := List.mem_append_right as (List.mem_cons_self (a := x) (l := bs))
        rw [← ex] at hx
        have q2 := (Pre.app g2 _).trans q1
        walk_at "wq"
        refine (r_odd (NF := n + 3) (by omega) (o_all (NF := n + 3) (n := n) (by omega) (q2.get f1') (q2.get f2') (q2.get f3') (d0 := []) (d1 := []) (q2.get e4) rfl hx)).mono ?_
        rintro _ h4 ⟨rfl, p4⟩
        refine lp_nx ⟨q1.trans p4, _, _, rfl⟩
      · rintro sg h3 ⟨q1, p6, p7, rfl⟩
        refine sq_nx ?_
        have big : (1000 : Int) < BIG := by decide +kernel
        have sa : ("a" : Str) ∈ AT := by decide +kernel
        have Ta : T (.str "a") := .str _ (at_atom _ sa)
        have Sa : Ss (.str "a") := .str _ sa
        have T5 : T (.int 5) := .int _ (by rw [if_neg (by decide)]; omega)
        have S5 : Ss (.int 5) := .int _ (by decide) (by decide)
        walk_at "wq"
        refine ev_of (r_right (NF := n + 3) ⟨Ta, Sa, by simp [parts], by simp [dep]⟩ (by omega) hR) fun h4 _ => ?_
        walk_at "wq"
        refine ev_of (r_right (NF := n + 3) ⟨T5, S5, by simp [parts], by simp [dep]⟩ (by omega) hR) fun h5 _ => ?_
        walk_at "wq"
        refine ev_of (r_right (NF := n + 3) ⟨.var 3 (by decide), .tup _ (by simpa using Ss.int 3 (by decide) (by decide)), by simp [parts, partsT, partss], by simp [dep, depT, deps]⟩ (by omega) hR) fun h6 _ => ?_
        walk_at "wq"
        refine ev_of (r_right (NF := n + 3) (Lt.two (by decide +kernel) Ta Sa (by simp [parts]) (by simp [dep]) T5 S5 (by simp [parts]) (by simp [dep])) (by omega) hR) fun h7 _ => ?_
        rfl
  obtain ⟨r, h', e, rfl⟩ := main
  exact ⟨h', e⟩
end
theorem law_true (ns : List Int) (hl : ns.length ≤ 63) : ∃ h', m_law 100000 10 [.rol (ns.map D.int)] [] = some (.bl true, h') := law_true_n (RD := 10) ns hl 99997 (by decide) (by decide)

end K21
namespace K21
open PySem L2 DL
section
theorem all_mk {l : PySem.W.OpenLaw} {w : World} {K : PySem.W.Frag} {h : Heap} {mg : Str → Option Value} {fa : Addr} (X : K.In h) (G : h.Ns mainGlobals mg) (hfa : mg "law" = some (.ref fa))
    {f0 f1 f2 f3 f4 f5 f6 f7 f8 f9 f10 f11 f12 f13 f14 f15 f16 f17 f18 f19 f20 f21 f22 f23 f24 f25 f26 f27 f28 f29 f30 f31 f32 f33 f34 f35 f36 : Addr}
    {od0 an0 od1 an1 od2 an2 od3 an3 od4 an4 od5 an5 od6 an6 od7 an7 od8 an8 od9 an9 od10 an10 od11 an11 od12 an12 od13 an13 od14 an14 od15 an15 od16 an16 od17 an17 od18 an18 od19 an19 od20 an20 od21 an21 od22 an22 od23 an23 od24 an24 od25 an25 od26 an26 od27 an27 od28 an28 od29 an29 od30 an30 od31 an31 od32 an32 od33 an33 od34 an34 od35 an35 od36 an36 : Option Addr} {sl0 sl1 sl2 sl3 sl4 sl5 sl6 sl7 sl8 sl9 sl10 sl11 sl12 sl13 sl14 sl15 sl16 sl17 sl18 sl19 sl20 sl21 sl22 sl23 sl24 sl25 sl26 sl27 sl28 sl29 sl30 sl31 sl32 sl33 sl34 sl35 sl36 : Array (Option Value)} {oc0 kV0 dc0 pm0 cd0 ct0 oc1 kV1 dc1 pm1 cd1 ct1 oc2 kV2 dc2 pm2 cd2 ct2 oc3 kV3 dc3 pm3 cd3 ct3 oc4 kV4 dc4 pm4 cd4 ct4 oc5 kV5 dc5 pm5 cd5 ct5 oc6 kV6 dc6 pm6 cd6 ct6 oc7 kV7 dc7 pm7 cd7 ct7 oc8 kV8 dc8 pm8 cd8 ct8 oc9 kV9 dc9 pm9 cd9 ct9 oc10 kV10 dc10 pm10 cd10 ct10 oc11 kV11 dc11 pm11 cd11 ct11 oc12 kV12 dc12 pm12 cd12 ct12 oc13 kV13 dc13 pm13 cd13 ct13 oc14 kV14 dc14 pm14 cd14 ct14 oc15 kV15 dc15 pm15 cd15 ct15 oc16 kV16 dc16 pm16 cd16 ct16 oc17 kV17 dc17 pm17 cd17 ct17 oc18 kV18 dc18 pm18 cd18 ct18 oc19 kV19 dc19 pm19 cd19 ct19 oc20 kV20 dc20 pm20 cd20 ct20 oc21 kV21 dc21 pm21 cd21 ct21 oc22 kV22 dc22 pm22 cd22 ct22 oc23 kV23 dc23 pm23 cd23 ct23 oc24 kV24 dc24 pm24 cd24 ct24 oc25 kV25 dc25 pm25 cd25 ct25 oc26 kV26 dc26 pm26 cd26 ct26 oc27 kV27 dc27 pm27 cd27 ct27 oc28 kV28 dc28 pm28 cd28 ct28 oc29 kV29 dc29 pm29 cd29 ct29 oc30 kV30 dc30 pm30 cd30 ct30 oc31 kV31 dc31 pm31 cd31 ct31 oc32 kV32 dc32 pm32 cd32 ct32 oc33 kV33 dc33 pm33 cd33 ct33 oc34 kV34 dc34 pm34 cd34 ct34 oc35 kV35 dc35 pm35 cd35 ct35 oc36 kV36 dc36 pm36 cd36 ct36 : Value}
    (a0 : PySem.W.nsIn K mainGlobals "is_int" = some (some (.ref f0))) (l0 : K.lookup f0 = some ⟨oc0, od0, .func (PySem.W.fnOf "is_int" "is_int" (defArgs s_is_int) (defBody s_is_int) (defScope s_is_int) .none kV0 dc0 pm0 an0 cd0 ct0), sl0⟩) (c0 : PySem.W.codeIn K cd0 "is_int" = true) (k0 : PySem.W.keepIn K (.ref f0) = true)
    (a1 : PySem.W.nsIn K mainGlobals "is_variable" = some (some (.ref f1))) (l1 : K.lookup f1 = some ⟨oc1, od1, .func (PySem.W.fnOf "is_variable" "is_variable" (defArgs s_is_variable) (defBody s_is_variable) (defScope s_is_variable) .none kV1 dc1 pm1 an1 cd1 ct1), sl1⟩) (c1 : PySem.W.codeIn K cd1 "is_variable" = true) (k1 : PySem.W.keepIn K (.ref f1) = true)
    (a2 : PySem.W.nsIn K mainGlobals "is_any_number" = some (some (.ref f2))) (l2 : K.lookup f2 = some ⟨oc2, od2, .func (PySem.W.fnOf "is_any_number" "is_any_number" (defArgs s_is_any_number) (defBody s_is_any_number) (defScope s_is_any_number) .none kV2 dc2 pm2 an2 cd2 ct2), sl2⟩) (c2 : PySem.W.codeIn K cd2 "is_any_number" = true) (k2 : PySem.W.keepIn K (.ref f2) = true)
    (a3 : PySem.W.nsIn K mainGlobals "is_any_atom" = some (some (.ref f3))) (l3 : K.lookup f3 = some ⟨oc3, od3, .func (PySem.W.fnOf "is_any_atom" "is_any_atom" (defArgs s_is_any_atom) (defBody s_is_any_atom) (defScope s_is_any_atom) .none kV3 dc3 pm3 an3 cd3 ct3), sl3⟩) (c3 : PySem.W.codeIn K cd3 "is_any_atom" = true) (k3 : PySem.W.keepIn K (.ref f3) = true)
    (a4 : PySem.W.nsIn K mainGlobals "is_compound" = some (some (.ref f4))) (l4 : K.lookup f4 = some ⟨oc4, od4, .func (PySem.W.fnOf "is_compound" "is_compound" (defArgs s_is_compound) (defBody s_is_compound) (defScope s_is_compound) .none kV4 dc4 pm4 an4 cd4 ct4), sl4⟩) (c4 : PySem.W.codeIn K cd4 "is_compound" = true) (k4 : PySem.W.keepIn K (.ref f4) = true)
    (a5 : PySem.W.nsIn K mainGlobals "is_term" = some (some (.ref f5))) (l5 : K.lookup f5 = some ⟨oc5, od5, .func (PySem.W.fnOf "is_term" "is_term" (defArgs s_is_term) (defBody s_is_term) (defScope s_is_term) .none kV5 dc5 pm5 an5 cd5 ct5), sl5⟩) (c5 : PySem.W.codeIn K cd5 "is_term" = true) (k5 : PySem.W.keepIn K (.ref f5) = true)
    (a6 : PySem.W.nsIn K mainGlobals "parts_of" = some (some (.ref f6))) (l6 : K.lookup f6 = some ⟨oc6, od6, .func (PySem.W.fnOf "parts_of" "parts_of" (defArgs s_parts_of) (defBody s_parts_of) (defScope s_parts_of) .none kV6 dc6 pm6 an6 cd6 ct6), sl6⟩) (c6 : PySem.W.codeIn K cd6 "parts_of" = true) (k6 : PySem.W.keepIn K (.ref f6) = true)
    (a7 : PySem.W.nsIn K mainGlobals "numbers_in" = some (some (.ref f7))) (l7 : K.lookup f7 = some ⟨oc7, od7, .func (PySem.W.fnOf "numbers_in" "numbers_in" (defArgs s_numbers_in) (defBody s_numbers_in) (defScope s_numbers_in) .none kV7 dc7 pm7 an7 cd7 ct7), sl7⟩) (c7 : PySem.W.codeIn K cd7 "numbers_in" = true) (k7 : PySem.W.keepIn K (.ref f7) = true)
    (a8 : PySem.W.nsIn K mainGlobals "replaced" = some (some (.ref f8))) (l8 : K.lookup f8 = some ⟨oc8, od8, .func (PySem.W.fnOf "replaced" "replaced" (defArgs s_replaced) (defBody s_replaced) (defScope s_replaced) .none kV8 dc8 pm8 an8 cd8 ct8), sl8⟩) (c8 : PySem.W.codeIn K cd8 "replaced" = true) (k8 : PySem.W.keepIn K (.ref f8) = true)
    {T9 : Addr} {ocT9 : Value} {odT9 : Option Addr} {nT9 : Nat} {slT9 : Array (Option Value)} {tk9_0 : Tok}
    (a9 : PySem.W.nsIn K mainGlobals "renumbering" = some (some (.ref f9))) (l9 : K.lookup f9 = some ⟨oc9, od9, .func (PySem.W.fnOf "renumbering" "renumbering" (defArgs s_renumbering) (defBody s_renumbering) (defScope s_renumbering) (.ref T9) kV9 dc9 pm9 an9 cd9 ct9), sl9⟩) (c9 : PySem.W.codeIn K cd9 "renumbering" = true) (k9 : PySem.W.keepIn K (.ref f9) = true)
    (t9 : K.lookup T9 = some ⟨ocT9, odT9, .seq #[.int 0 tk9_0] nT9, slT9⟩)
    (a10 : PySem.W.nsIn K mainGlobals "word_of" = some (some (.ref f10))) (l10 : K.lookup f10 = some ⟨oc10, od10, .func (PySem.W.fnOf "word_of" "word_of" (defArgs s_word_of) (defBody s_word_of) (defScope s_word_of) .none kV10 dc10 pm10 an10 cd10 ct10), sl10⟩) (c10 : PySem.W.codeIn K cd10 "word_of" = true) (k10 : PySem.W.keepIn K (.ref f10) = true)
    (a11 : PySem.W.nsIn K mainGlobals "is_callable" = some (some (.ref f11))) (l11 : K.lookup f11 = some ⟨oc11, od11, .func (PySem.W.fnOf "is_callable" "is_callable" (defArgs s_is_callable) (defBody s_is_callable) (defScope s_is_callable) .none kV11 dc11 pm11 an11 cd11 ct11), sl11⟩) (c11 : PySem.W.codeIn K cd11 "is_callable" = true) (k11 : PySem.W.keepIn K (.ref f11) = true)
    (a12 : PySem.W.nsIn K mainGlobals "has_good_leaves" = some (some (.ref f12))) (l12 : K.lookup f12 = some ⟨oc12, od12, .func (PySem.W.fnOf "has_good_leaves" "has_good_leaves" (defArgs s_has_good_leaves) (defBody s_has_good_leaves) (defScope s_has_good_leaves) .none kV12 dc12 pm12 an12 cd12 ct12), sl12⟩) (c12 : PySem.W.codeIn K cd12 "has_good_leaves" = true) (k12 : PySem.W.keepIn K (.ref f12) = true)
    (a13 : PySem.W.nsIn K mainGlobals "is_body" = some (some (.ref f13))) (l13 : K.lookup f13 = some ⟨oc13, od13, .func (PySem.W.fnOf "is_body" "is_body" (defArgs s_is_body) (defBody s_is_body) (defScope s_is_body) .none kV13 dc13 pm13 an13 cd13 ct13), sl13⟩) (c13 : PySem.W.codeIn K cd13 "is_body" = true) (k13 : PySem.W.keepIn K (.ref f13) = true)
    (a14 : PySem.W.nsIn K mainGlobals "with_calls" = some (some (.ref f14))) (l14 : K.lookup f14 = some ⟨oc14, od14, .func (PySem.W.fnOf "with_calls" "with_calls" (defArgs s_with_calls) (defBody s_with_calls) (defScope s_with_calls) .none kV14 dc14 pm14 an14 cd14 ct14), sl14⟩) (c14 : PySem.W.codeIn K cd14 "with_calls" = true) (k14 : PySem.W.keepIn K (.ref f14) = true)
    (a15 : PySem.W.nsIn K mainGlobals "halves" = some (some (.ref f15))) (l15 : K.lookup f15 = some ⟨oc15, od15, .func (PySem.W.fnOf "halves" "halves" (defArgs s_halves) (defBody s_halves) (defScope s_halves) .none kV15 dc15 pm15 an15 cd15 ct15), sl15⟩) (c15 : PySem.W.codeIn K cd15 "halves" = true) (k15 : PySem.W.keepIn K (.ref f15) = true)
    (a16 : PySem.W.nsIn K mainGlobals "fault_of" = some (some (.ref f16))) (l16 : K.lookup f16 = some ⟨oc16, od16, .func (PySem.W.fnOf "fault_of" "fault_of" (defArgs s_fault_of) (defBody s_fault_of) (defScope s_fault_of) .none kV16 dc16 pm16 an16 cd16 ct16), sl16⟩) (c16 : PySem.W.codeIn K cd16 "fault_of" = true) (k16 : PySem.W.keepIn K (.ref f16) = true)
    (a17 : PySem.W.nsIn K mainGlobals "is_clause" = some (some (.ref f17))) (l17 : K.lookup f17 = some ⟨oc17, od17, .func (PySem.W.fnOf "is_clause" "is_clause" (defArgs s_is_clause) (defBody s_is_clause) (defScope s_is_clause) .none kV17 dc17 pm17 an17 cd17 ct17), sl17⟩) (c17 : PySem.W.codeIn K cd17 "is_clause" = true) (k17 : PySem.W.keepIn K (.ref f17) = true)
    (a18 : PySem.W.nsIn K mainGlobals "kept_form" = some (some (.ref f18))) (l18 : K.lookup f18 = some ⟨oc18, od18, .func (PySem.W.fnOf "kept_form" "kept_form" (defArgs s_kept_form) (defBody s_kept_form) (defScope s_kept_form) .none kV18 dc18 pm18 an18 cd18 ct18), sl18⟩) (c18 : PySem.W.codeIn K cd18 "kept_form" = true) (k18 : PySem.W.keepIn K (.ref f18) = true)
    (a19 : PySem.W.nsIn K mainGlobals "stored" = some (some (.ref f19))) (l19 : K.lookup f19 = some ⟨oc19, od19, .func (PySem.W.fnOf "stored" "stored" (defArgs s_stored) (defBody s_stored) (defScope s_stored) .none kV19 dc19 pm19 an19 cd19 ct19), sl19⟩) (c19 : PySem.W.codeIn K cd19 "stored" = true) (k19 : PySem.W.keepIn K (.ref f19) = true)
    (a20 : PySem.W.nsIn K mainGlobals "_law_cell_at" = some (some (.ref f20))) (l20 : K.lookup f20 = some ⟨oc20, od20, .func (PySem.W.fnOf "_law_cell_at" "_law_cell_at" (defArgs s__law_cell_at) (defBody s__law_cell_at) (defScope s__law_cell_at) .none kV20 dc20 pm20 an20 cd20 ct20), sl20⟩) (c20 : PySem.W.codeIn K cd20 "_law_cell_at" = true) (k20 : PySem.W.keepIn K (.ref f20) = true)
    (a21 : PySem.W.nsIn K mainGlobals "_law_well" = some (some (.ref f21))) (l21 : K.lookup f21 = some ⟨oc21, od21, .func (PySem.W.fnOf "_law_well" "_law_well" (defArgs s__law_well) (defBody s__law_well) (defScope s__law_well) .none kV21 dc21 pm21 an21 cd21 ct21), sl21⟩) (c21 : PySem.W.codeIn K cd21 "_law_well" = true) (k21 : PySem.W.keepIn K (.ref f21) = true)
    (a22 : PySem.W.nsIn K mainGlobals "_law_draw" = some (some (.ref f22))) (l22 : K.lookup f22 = some ⟨oc22, od22, .func (PySem.W.fnOf "_law_draw" "_law_draw" (defArgs s__law_draw) (defBody s__law_draw) (defScope s__law_draw) .none kV22 dc22 pm22 an22 cd22 ct22), sl22⟩) (c22 : PySem.W.codeIn K cd22 "_law_draw" = true) (k22 : PySem.W.keepIn K (.ref f22) = true)
    (a23 : PySem.W.nsIn K mainGlobals "_law_one" = some (some (.ref f23))) (l23 : K.lookup f23 = some ⟨oc23, od23, .func (PySem.W.fnOf "_law_one" "_law_one" (defArgs s__law_one) (defBody s__law_one) (defScope s__law_one) .none kV23 dc23 pm23 an23 cd23 ct23), sl23⟩) (c23 : PySem.W.codeIn K cd23 "_law_one" = true) (k23 : PySem.W.keepIn K (.ref f23) = true)
    (a24 : PySem.W.nsIn K mainGlobals "_law_numbers" = some (some (.ref f24))) (l24 : K.lookup f24 = some ⟨oc24, od24, .func (PySem.W.fnOf "_law_numbers" "_law_numbers" (defArgs s__law_numbers) (defBody s__law_numbers) (defScope s__law_numbers) .none kV24 dc24 pm24 an24 cd24 ct24), sl24⟩) (c24 : PySem.W.codeIn K cd24 "_law_numbers" = true) (k24 : PySem.W.keepIn K (.ref f24) = true)
    (a25 : PySem.W.nsIn K mainGlobals "_law_put" = some (some (.ref f25))) (l25 : K.lookup f25 = some ⟨oc25, od25, .func (PySem.W.fnOf "_law_put" "_law_put" (defArgs s__law_put) (defBody s__law_put) (defScope s__law_put) .none kV25 dc25 pm25 an25 cd25 ct25), sl25⟩) (c25 : PySem.W.codeIn K cd25 "_law_put" = true) (k25 : PySem.W.keepIn K (.ref f25) = true)
    (a26 : PySem.W.nsIn K mainGlobals "_law_anew" = some (some (.ref f26))) (l26 : K.lookup f26 = some ⟨oc26, od26, .func (PySem.W.fnOf "_law_anew" "_law_anew" (defArgs s__law_anew) (defBody s__law_anew) (defScope s__law_anew) .none kV26 dc26 pm26 an26 cd26 ct26), sl26⟩) (c26 : PySem.W.codeIn K cd26 "_law_anew" = true) (k26 : PySem.W.keepIn K (.ref f26) = true)
    (a27 : PySem.W.nsIn K mainGlobals "_law_is_construct" = some (some (.ref f27))) (l27 : K.lookup f27 = some ⟨oc27, od27, .func (PySem.W.fnOf "_law_is_construct" "_law_is_construct" (defArgs s__law_is_construct) (defBody s__law_is_construct) (defScope s__law_is_construct) .none kV27 dc27 pm27 an27 cd27 ct27), sl27⟩) (c27 : PySem.W.codeIn K cd27 "_law_is_construct" = true) (k27 : PySem.W.keepIn K (.ref f27) = true)
    (a28 : PySem.W.nsIn K mainGlobals "_law_is_body" = some (some (.ref f28))) (l28 : K.lookup f28 = some ⟨oc28, od28, .func (PySem.W.fnOf "_law_is_body" "_law_is_body" (defArgs s__law_is_body) (defBody s__law_is_body) (defScope s__law_is_body) .none kV28 dc28 pm28 an28 cd28 ct28), sl28⟩) (c28 : PySem.W.codeIn K cd28 "_law_is_body" = true) (k28 : PySem.W.keepIn K (.ref f28) = true)
    (a29 : PySem.W.nsIn K mainGlobals "_law_is_goal" = some (some (.ref f29))) (l29 : K.lookup f29 = some ⟨oc29, od29, .func (PySem.W.fnOf "_law_is_goal" "_law_is_goal" (defArgs s__law_is_goal) (defBody s__law_is_goal) (defScope s__law_is_goal) .none kV29 dc29 pm29 an29 cd29 ct29), sl29⟩) (c29 : PySem.W.codeIn K cd29 "_law_is_goal" = true) (k29 : PySem.W.keepIn K (.ref f29) = true)
    (a30 : PySem.W.nsIn K mainGlobals "_law_with_calls" = some (some (.ref f30))) (l30 : K.lookup f30 = some ⟨oc30, od30, .func (PySem.W.fnOf "_law_with_calls" "_law_with_calls" (defArgs s__law_with_calls) (defBody s__law_with_calls) (defScope s__law_with_calls) .none kV30 dc30 pm30 an30 cd30 ct30), sl30⟩) (c30 : PySem.W.codeIn K cd30 "_law_with_calls" = true) (k30 : PySem.W.keepIn K (.ref f30) = true)
    (a31 : PySem.W.nsIn K mainGlobals "_law_atom" = some (some (.ref f31))) (l31 : K.lookup f31 = some ⟨oc31, od31, .func (PySem.W.fnOf "_law_atom" "_law_atom" (defArgs s__law_atom) (defBody s__law_atom) (defScope s__law_atom) .none kV31 dc31 pm31 an31 cd31 ct31), sl31⟩) (c31 : PySem.W.codeIn K cd31 "_law_atom" = true) (k31 : PySem.W.keepIn K (.ref f31) = true)
    (a32 : PySem.W.nsIn K mainGlobals "_law_part" = some (some (.ref f32))) (l32 : K.lookup f32 = some ⟨oc32, od32, .func (PySem.W.fnOf "_law_part" "_law_part" (defArgs s__law_part) (defBody s__law_part) (defScope s__law_part) .none kV32 dc32 pm32 an32 cd32 ct32), sl32⟩) (c32 : PySem.W.codeIn K cd32 "_law_part" = true) (k32 : PySem.W.keepIn K (.ref f32) = true)
    (a33 : PySem.W.nsIn K mainGlobals "_law_due" = some (some (.ref f33))) (l33 : K.lookup f33 = some ⟨oc33, od33, .func (PySem.W.fnOf "_law_due" "_law_due" (defArgs s__law_due) (defBody s__law_due) (defScope s__law_due) .none kV33 dc33 pm33 an33 cd33 ct33), sl33⟩) (c33 : PySem.W.codeIn K cd33 "_law_due" = true) (k33 : PySem.W.keepIn K (.ref f33) = true)
    (a34 : PySem.W.nsIn K mainGlobals "_law_said" = some (some (.ref f34))) (l34 : K.lookup f34 = some ⟨oc34, od34, .func (PySem.W.fnOf "_law_said" "_law_said" (defArgs s__law_said) (defBody s__law_said) (defScope s__law_said) .none kV34 dc34 pm34 an34 cd34 ct34), sl34⟩) (c34 : PySem.W.codeIn K cd34 "_law_said" = true) (k34 : PySem.W.keepIn K (.ref f34) = true)
    (a35 : PySem.W.nsIn K mainGlobals "_law_right" = some (some (.ref f35))) (l35 : K.lookup f35 = some ⟨oc35, od35, .func (PySem.W.fnOf "_law_right" "_law_right" (defArgs s__law_right) (defBody s__law_right) (defScope s__law_right) .none kV35 dc35 pm35 an35 cd35 ct35), sl35⟩) (c35 : PySem.W.codeIn K cd35 "_law_right" = true) (k35 : PySem.W.keepIn K (.ref f35) = true)
    (a36 : PySem.W.nsIn K mainGlobals "law" = some (some (.ref f36))) (l36 : K.lookup f36 = some ⟨oc36, od36, .func (PySem.W.fnOf "law" "law" (defArgs s_law) (defBody s_law) (defScope s_law) .none kV36 dc36 pm36 an36 cd36 ct36), sl36⟩) (c36 : PySem.W.codeIn K cd36 "law" = true) (k36 : PySem.W.keepIn K (.ref f36) = true)
    (z0 : PySem.W.nsIn K mainGlobals "abs" = some none)
    (z1 : PySem.W.nsIn K mainGlobals "all" = some none)
    (z2 : PySem.W.nsIn K mainGlobals "bool" = some none)
    (z3 : PySem.W.nsIn K mainGlobals "enumerate" = some none)
    (z4 : PySem.W.nsIn K mainGlobals "int" = some none)
    (z5 : PySem.W.nsIn K mainGlobals "isinstance" = some none)
    (z6 : PySem.W.nsIn K mainGlobals "len" = some none)
    (z7 : PySem.W.nsIn K mainGlobals "list" = some none)
    (z8 : PySem.W.nsIn K mainGlobals "ord" = some none)
    (z9 : PySem.W.nsIn K mainGlobals "range" = some none)
    (z10 : PySem.W.nsIn K mainGlobals "repr" = some none)
    (z11 : PySem.W.nsIn K mainGlobals "reversed" = some none)
    (z12 : PySem.W.nsIn K mainGlobals "str" = some none)
    (z13 : PySem.W.nsIn K mainGlobals "tuple" = some none)
    {u0 : Tok} (y0 : PySem.W.nsIn K mainGlobals "MOST_ARGUMENTS" = some (some (.int 8 u0)))
    {u1 : Tok} (y1 : PySem.W.nsIn K mainGlobals "MOST_SIGNS" = some (some (.int 40 u1)))
    {ua2 : Addr} {uo2 : Option Addr} {un2 : Nat} {us2 : Array (Option Value)} {uk2_0 uk2_1 uk2_2 : Tok} (y2 : PySem.W.nsIn K mainGlobals "ONE" = some (some (.ref ua2))) (v2 : K.lookup ua2 = some ⟨.type "tuple", uo2, .seq #[.str "\\+" uk2_0, .str "once" uk2_1, .str "ignore" uk2_2] un2, us2⟩)
    {u3 : Tok} (y3 : PySem.W.nsIn K mainGlobals "TOO_GREAT" = some (some (.int 1000000000000000000000000000000000000000000000000000000000000000000000000000000000000000000000000000000000000000000000000000000000000000000000000000000000000000000000000000000000000000000000000000000000000000000000000000000000000000000000000000000000000000000000000000000000000000000000000000000000000 u3)))
    {ua4 : Addr} {uo4 : Option Addr} {un4 : Nat} {us4 : Array (Option Value)} {uk4_0 uk4_1 uk4_2 uk4_3 uk4_4 : Tok} (y4 : PySem.W.nsIn K mainGlobals "TWO" = some (some (.ref ua4))) (v4 : K.lookup ua4 = some ⟨.type "tuple", uo4, .seq #[.str "," uk4_0, .str ";" uk4_1, .str "->" uk4_2, .str "*->" uk4_3, .str "forall" uk4_4] un4, us4⟩)
    {x0 x1 : Addr}
    (gx0 : PySem.W.nsIn K mainGlobals "NoClause" = some (some (.ref x0)))
    (gx1 : PySem.W.nsIn K mainGlobals "HornError" = some (some (.ref x1)))
    {nmx0 qx0 : Str} {Nx0 : Addr} {bsx0 : List Value} {snx0 : List Str} {subx0 : List Value} {abx0 : Bool} {colx0 : Option Bool} {ddx0 : Option Addr} {m0x0 m1x0 m2x0 m3x0 m5x0 : Option Value} {fx0 : Addr} {ocx0 kVx0 dcx0 pmx0 cdx0 ctx0 : Value} {odx0 anx0 : Option Addr} {slx0 : Array (Option Value)}
    (xl0 : K.lookup x0 = some (excClassObj nmx0 qx0 x0 Nx0 bsx0 [.ref x1, .type "ValueError", .type "Exception", .type "BaseException", .type "object"] true snx0 subx0 abx0 colx0 ddx0 m0x0 m1x0 m2x0 m3x0 m5x0 "ValueError.__new__"))
    (xs0 : PySem.W.findIn K (.ref x0) "__setattr__" = some (some (.builtin "object.__setattr__"))) (xg0 : PySem.W.findIn K (.ref x0) "__getattribute__" = some (some (.builtin "BaseException.__getattribute__"))) (xh0 : PySem.W.findIn K (.ref x0) "__getattr__" = some none)
    (xi0 : PySem.W.findIn K (.ref x0) "__init__" = some (some (.ref fx0))) (xt0 : PySem.W.typeIn K (.ref fx0) = some (.type "function"))
    (xf0 : K.lookup fx0 = some ⟨ocx0, odx0, .func (PySem.W.fnOf "__init__" "NoClause.__init__" (defArgs si_NoClause) (defBody si_NoClause) (defScope si_NoClause) .none kVx0 dcx0 pmx0 anx0 cdx0 ctx0), slx0⟩) (xc0 : PySem.W.codeIn K cdx0 "NoClause.__init__" = true) (xk0 : PySem.W.keepIn K (.ref fx0) = true)
    (yk0 : PySem.W.keepIn K (.ref x0) = true) (ye0 : PySem.W.subIn K (.ref x0) (.type "BaseException") = some true) (yt0 : PySem.W.typeIn K (.ref x0) = some (.type "type")) (yh0 : PySem.W.hasDictIn K x0 = true)
    (yn0_0 : PySem.W.findIn K (.ref x0) "why" = some none)
    (br0 : PySem.W.readsIn K x1 (.type "type") = true) (bf0 : PySem.W.findCls K (.ref x1) (.type "type") "__init__" = some (.val (.builtin "ValueError.__init__")))
    (ce0 : PySem.W.subIn K (.ref x1) (.type "BaseException") = some true) (ct0 : PySem.W.typeIn K (.ref x1) = some (.type "type")) (ch0 : PySem.W.hasDictIn K x1 = true) (cs0 : PySem.W.subIn K (.ref x1) (.ref x1) = some true)
    (em0_0 : PySem.W.subIn K (.ref x0) (.ref x1) = some true)
    (ce1 : PySem.W.subIn K (.ref x0) (.type "BaseException") = some true) (ct1 : PySem.W.typeIn K (.ref x0) = some (.type "type")) (ch1 : PySem.W.hasDictIn K x0 = true) (cs1 : PySem.W.subIn K (.ref x0) (.ref x0) = some true)
    (em1_0 : PySem.W.subIn K (.ref x0) (.ref x0) = some true)
    : ∃ fd : FuncData, (∀ (s : Shared) (v : Value), BindsTo s fd ⟨[v], []⟩ [("script", v)]) ∧ ∀ base : Heap, K.In base → base.Ns mainGlobals mg → FnG l.prog w K mg base (L2.CX l.prog w) 14 fa fd ["script"] (spN K 1 (m_law 100000 10)) := by
  have e := hfa.symm.trans (PySem.W.mg_of X G a36)
  cases e
  have z : Zs mg := ⟨PySem.W.mg_none_of X G z0, PySem.W.mg_none_of X G z1, PySem.W.mg_none_of X G z2, PySem.W.mg_none_of X G z3, PySem.W.mg_none_of X G z4, PySem.W.mg_none_of X G z5, PySem.W.mg_none_of X G z6, PySem.W.mg_none_of X G z7, PySem.W.mg_none_of X G z8, PySem.W.mg_none_of X G z9, PySem.W.mg_none_of X G z10, PySem.W.mg_none_of X G z11, PySem.W.mg_none_of X G z12, PySem.W.mg_none_of X G z13⟩
  have y : Ys K mg := ⟨Kst.int ⟨_, PySem.W.mg_of X G y0⟩, Kst.int ⟨_, PySem.W.mg_of X G y1⟩, Kst.strs (PySem.W.mg_of X G y2) v2 ["\\+", "once", "ignore"] (.cons ⟨_, rfl⟩ (.cons ⟨_, rfl⟩ (.cons ⟨_, rfl⟩ .nil))) (Nat.le_of_ble_eq_true rfl), Kst.int ⟨_, PySem.W.mg_of X G y3⟩, Kst.strs (PySem.W.mg_of X G y4) v4 [",", ";", "->", "*->", "forall"] (.cons ⟨_, rfl⟩ (.cons ⟨_, rfl⟩ (.cons ⟨_, rfl⟩ (.cons ⟨_, rfl⟩ (.cons ⟨_, rfl⟩ .nil))))) (Nat.le_of_ble_eq_true rfl)⟩
  have bas0 : BasC K mg "HornError" := ⟨_, PySem.W.mg_of X G gx1, br0, bf0⟩
  have ox0 : OexC K x0 := ⟨⟨_, _, _, _, _, _, _, _, _, _, _, _, _, _, _, xl0, by rfl⟩, xs0, ye0, yt0, yk0⟩
  have fi0 := fun_mk (st := si_NoClause) xf0 xc0 xk0
  have tNoClause : ExT K mg "NoClause" ["why"] := ⟨x0, fx0, _, PySem.W.mg_of X G gx0, ox0, xi0, xt0, fun P w base => i_NoClause bas0 ox0 yn0_0 fi0, fi0.binds (ps := ["self", "why"]) fun _ _ _ _ _ _ us hl => match us, hl with | [_, _], _ => rfl, ⟨xg0, xh0, ye0, yh0⟩, by
    intro f hf
    simp only [List.mem_cons, List.not_mem_nil, or_false] at hf
    subst hf; exact yn0_0⟩
  have tab : ExTab K mg TX := by
    intro p hp
    simp only [List.mem_cons, List.not_mem_nil, or_false] at hp
    subst hp; exact tNoClause
  have mHornError : mg "HornError" = some (.ref (adr mg "HornError")) := by rw [adr_of (PySem.W.mg_of X G gx1)]; exact PySem.W.mg_of X G gx1
  have eHornError : ∀ r ∈ LX, ∀ Cx, mg r = some (.ref Cx) → PySem.W.exmOne K (.ref Cx) (.ref (adr mg "HornError")) = some (subX r "HornError") := by
    intro r hr Cx hC
    rw [adr_of (PySem.W.mg_of X G gx1)]
    simp only [List.mem_cons, List.not_mem_nil, or_false] at hr
    subst hr
    · rw [PySem.W.mg_of X G gx0] at hC; cases hC; exact (PySem.W.exm_ref ce0 ch0 ct0 em0_0).trans (congrArg some (by decide +kernel))
  have mNoClause : mg "NoClause" = some (.ref (adr mg "NoClause")) := by rw [adr_of (PySem.W.mg_of X G gx0)]; exact PySem.W.mg_of X G gx0
  have eNoClause : ∀ r ∈ LX, ∀ Cx, mg r = some (.ref Cx) → PySem.W.exmOne K (.ref Cx) (.ref (adr mg "NoClause")) = some (subX r "NoClause") := by
    intro r hr Cx hC
    rw [adr_of (PySem.W.mg_of X G gx0)]
    simp only [List.mem_cons, List.not_mem_nil, or_false] at hr
    subst hr
    · rw [PySem.W.mg_of X G gx0] at hC; cases hC; exact (PySem.W.exm_ref ce1 ch1 ct1 em1_0).trans (congrArg some (by decide +kernel))
  have q : Qs K mg := ⟨tNoClause, tab, mHornError, eHornError, mNoClause, eNoClause⟩
  have F0 := fun_mk (st := s_is_int) l0 c0 k0
  have g0 : Got K mg "is_int" s_is_int P_is_int := ⟨f0, _, F0, PySem.W.mg_of X G a0, F0.binds (ps := P_is_int) fun _ _ _ _ _ _ us hl => match us, hl with | [_], _ => rfl⟩
  have F1 := fun_mk (st := s_is_variable) l1 c1 k1
  have g1 : Got K mg "is_variable" s_is_variable P_is_variable := ⟨f1, _, F1, PySem.W.mg_of X G a1, F1.binds (ps := P_is_variable) fun _ _ _ _ _ _ us hl => match us, hl with | [_], _ => rfl⟩
  have F2 := fun_mk (st := s_is_any_number) l2 c2 k2
  have g2 : Got K mg "is_any_number" s_is_any_number P_is_any_number := ⟨f2, _, F2, PySem.W.mg_of X G a2, F2.binds (ps := P_is_any_number) fun _ _ _ _ _ _ us hl => match us, hl with | [_], _ => rfl⟩
  have F3 := fun_mk (st := s_is_any_atom) l3 c3 k3
  have g3 : Got K mg "is_any_atom" s_is_any_atom P_is_any_atom := ⟨f3, _, F3, PySem.W.mg_of X G a3, F3.binds (ps := P_is_any_atom) fun _ _ _ _ _ _ us hl => match us, hl with | [_], _ => rfl⟩
  have F4 := fun_mk (st := s_is_compound) l4 c4 k4
  have g4 : Got K mg "is_compound" s_is_compound P_is_compound := ⟨f4, _, F4, PySem.W.mg_of X G a4, F4.binds (ps := P_is_compound) fun _ _ _ _ _ _ us hl => match us, hl with | [_], _ => rfl⟩
  have F5 := fun_mk (st := s_is_term) l5 c5 k5
  have g5 : Got K mg "is_term" s_is_term P_is_term := ⟨f5, _, F5, PySem.W.mg_of X G a5, F5.binds (ps := P_is_term) fun _ _ _ _ _ _ us hl => match us, hl with | [_], _ => rfl⟩
  have F6 := fun_mk (st := s_parts_of) l6 c6 k6
  have g6 : Got K mg "parts_of" s_parts_of P_parts_of := ⟨f6, _, F6, PySem.W.mg_of X G a6, F6.binds (ps := P_parts_of) fun _ _ _ _ _ _ us hl => match us, hl with | [_], _ => rfl⟩
  have F7 := fun_mk (st := s_numbers_in) l7 c7 k7
  have g7 : Got K mg "numbers_in" s_numbers_in P_numbers_in := ⟨f7, _, F7, PySem.W.mg_of X G a7, F7.binds (ps := P_numbers_in) fun _ _ _ _ _ _ us hl => match us, hl with | [_], _ => rfl⟩
  have F8 := fun_mk (st := s_replaced) l8 c8 k8
  have g8 : Got K mg "replaced" s_replaced P_replaced := ⟨f8, _, F8, PySem.W.mg_of X G a8, F8.binds (ps := P_replaced) fun _ _ _ _ _ _ us hl => match us, hl with | [_, _], _ => rfl⟩
  have F9 : FunD K "renumbering" "renumbering" (defArgs s_renumbering) (defBody s_renumbering) (defScope s_renumbering) [.int 0] [] f9 _ := ⟨⟨oc9, od9, .ref T9, kV9, dc9, pm9, an9, cd9, ct9, sl9, rfl, l9, c9, .inr ⟨by simp, T9, _, _, nT9, rfl, t9, rfl, .cons ⟨_, rfl⟩ (.nil)⟩, .inl rfl⟩, k9⟩
  obtain ⟨ds9, hv9, hb9⟩ := F9.binds1 (ps := P_renumbering) 2 1 (by simp) (by decide) (fun _ _ _ _ _ _ _ us its h1 h2 => match us, its, h1, h2 with | [_, _], [_], _, _ => ⟨_, rfl, rfl⟩)
  obtain ⟨dt9, hw9, hc9⟩ := F9.binds1 (ps := P_renumbering) 1 0 (by simp) (by decide) (fun _ _ _ _ _ _ _ us its h1 h2 => match us, its, h1, h2 with | [_], [_], _, _ => ⟨_, rfl, rfl⟩)
  have e9 : ds9 = [] := by cases hv9; rfl
  subst e9
  have g9 : GotD K mg "renumbering" s_renumbering P_renumbering [.int 0] := ⟨f9, _, F9, PySem.W.mg_of X G a9, hb9, dt9, hw9, hc9⟩
  have F10 := fun_mk (st := s_word_of) l10 c10 k10
  have g10 : Got K mg "word_of" s_word_of P_word_of := ⟨f10, _, F10, PySem.W.mg_of X G a10, F10.binds (ps := P_word_of) fun _ _ _ _ _ _ us hl => match us, hl with | [_], _ => rfl⟩
  have F11 := fun_mk (st := s_is_callable) l11 c11 k11
  have g11 : Got K mg "is_callable" s_is_callable P_is_callable := ⟨f11, _, F11, PySem.W.mg_of X G a11, F11.binds (ps := P_is_callable) fun _ _ _ _ _ _ us hl => match us, hl with | [_], _ => rfl⟩
  have F12 := fun_mk (st := s_has_good_leaves) l12 c12 k12
  have g12 : Got K mg "has_good_leaves" s_has_good_leaves P_has_good_leaves := ⟨f12, _, F12, PySem.W.mg_of X G a12, F12.binds (ps := P_has_good_leaves) fun _ _ _ _ _ _ us hl => match us, hl with | [_], _ => rfl⟩
  have F13 := fun_mk (st := s_is_body) l13 c13 k13
  have g13 : Got K mg "is_body" s_is_body P_is_body := ⟨f13, _, F13, PySem.W.mg_of X G a13, F13.binds (ps := P_is_body) fun _ _ _ _ _ _ us hl => match us, hl with | [_], _ => rfl⟩
  have F14 := fun_mk (st := s_with_calls) l14 c14 k14
  have g14 : Got K mg "with_calls" s_with_calls P_with_calls := ⟨f14, _, F14, PySem.W.mg_of X G a14, F14.binds (ps := P_with_calls) fun _ _ _ _ _ _ us hl => match us, hl with | [_], _ => rfl⟩
  have F15 := fun_mk (st := s_halves) l15 c15 k15
  have g15 : Got K mg "halves" s_halves P_halves := ⟨f15, _, F15, PySem.W.mg_of X G a15, F15.binds (ps := P_halves) fun _ _ _ _ _ _ us hl => match us, hl with | [_], _ => rfl⟩
  have F16 := fun_mk (st := s_fault_of) l16 c16 k16
  have g16 : Got K mg "fault_of" s_fault_of P_fault_of := ⟨f16, _, F16, PySem.W.mg_of X G a16, F16.binds (ps := P_fault_of) fun _ _ _ _ _ _ us hl => match us, hl with | [_], _ => rfl⟩
  have F17 := fun_mk (st := s_is_clause) l17 c17 k17
  have g17 : Got K mg "is_clause" s_is_clause P_is_clause := ⟨f17, _, F17, PySem.W.mg_of X G a17, F17.binds (ps := P_is_clause) fun _ _ _ _ _ _ us hl => match us, hl with | [_], _ => rfl⟩
  have F18 := fun_mk (st := s_kept_form) l18 c18 k18
  have g18 : Got K mg "kept_form" s_kept_form P_kept_form := ⟨f18, _, F18, PySem.W.mg_of X G a18, F18.binds (ps := P_kept_form) fun _ _ _ _ _ _ us hl => match us, hl with | [_], _ => rfl⟩
  have F19 := fun_mk (st := s_stored) l19 c19 k19
  have g19 : Got K mg "stored" s_stored P_stored := ⟨f19, _, F19, PySem.W.mg_of X G a19, F19.binds (ps := P_stored) fun _ _ _ _ _ _ us hl => match us, hl with | [_], _ => rfl⟩
  have F20 := fun_mk (st := s__law_cell_at) l20 c20 k20
  have g20 : Got K mg "_law_cell_at" s__law_cell_at P__law_cell_at := ⟨f20, _, F20, PySem.W.mg_of X G a20, F20.binds (ps := P__law_cell_at) fun _ _ _ _ _ _ us hl => match us, hl with | [_, _], _ => rfl⟩
  have F21 := fun_mk (st := s__law_well) l21 c21 k21
  have g21 : Got K mg "_law_well" s__law_well P__law_well := ⟨f21, _, F21, PySem.W.mg_of X G a21, F21.binds (ps := P__law_well) fun _ _ _ _ _ _ us hl => match us, hl with | [_], _ => rfl⟩
  have F22 := fun_mk (st := s__law_draw) l22 c22 k22
  have g22 : Got K mg "_law_draw" s__law_draw P__law_draw := ⟨f22, _, F22, PySem.W.mg_of X G a22, F22.binds (ps := P__law_draw) fun _ _ _ _ _ _ us hl => match us, hl with | [_, _], _ => rfl⟩
  have F23 := fun_mk (st := s__law_one) l23 c23 k23
  have g23 : Got K mg "_law_one" s__law_one P__law_one := ⟨f23, _, F23, PySem.W.mg_of X G a23, F23.binds (ps := P__law_one) fun _ _ _ _ _ _ us hl => match us, hl with | [_, _], _ => rfl⟩
  have F24 := fun_mk (st := s__law_numbers) l24 c24 k24
  have g24 : Got K mg "_law_numbers" s__law_numbers P__law_numbers := ⟨f24, _, F24, PySem.W.mg_of X G a24, F24.binds (ps := P__law_numbers) fun _ _ _ _ _ _ us hl => match us, hl with | [_, _], _ => rfl⟩
  have F25 := fun_mk (st := s__law_put) l25 c25 k25
  have g25 : Got K mg "_law_put" s__law_put P__law_put := ⟨f25, _, F25, PySem.W.mg_of X G a25, F25.binds (ps := P__law_put) fun _ _ _ _ _ _ us hl => match us, hl with | [_, _], _ => rfl⟩
  have F26 := fun_mk (st := s__law_anew) l26 c26 k26
  have g26 : Got K mg "_law_anew" s__law_anew P__law_anew := ⟨f26, _, F26, PySem.W.mg_of X G a26, F26.binds (ps := P__law_anew) fun _ _ _ _ _ _ us hl => match us, hl with | [_], _ => rfl⟩
  have F27 := fun_mk (st := s__law_is_construct) l27 c27 k27
  have g27 : Got K mg "_law_is_construct" s__law_is_construct P__law_is_construct := ⟨f27, _, F27, PySem.W.mg_of X G a27, F27.binds (ps := P__law_is_construct) fun _ _ _ _ _ _ us hl => match us, hl with | [_], _ => rfl⟩
  have F28 := fun_mk (st := s__law_is_body) l28 c28 k28
  have g28 : Got K mg "_law_is_body" s__law_is_body P__law_is_body := ⟨f28, _, F28, PySem.W.mg_of X G a28, F28.binds (ps := P__law_is_body) fun _ _ _ _ _ _ us hl => match us, hl with | [_], _ => rfl⟩
  have F29 := fun_mk (st := s__law_is_goal) l29 c29 k29
  have g29 : Got K mg "_law_is_goal" s__law_is_goal P__law_is_goal := ⟨f29, _, F29, PySem.W.mg_of X G a29, F29.binds (ps := P__law_is_goal) fun _ _ _ _ _ _ us hl => match us, hl with | [_], _ => rfl⟩
  have F30 := fun_mk (st := s__law_with_calls) l30 c30 k30
  have g30 : Got K mg "_law_with_calls" s__law_with_calls P__law_with_calls := ⟨f30, _, F30, PySem.W.mg_of X G a30, F30.binds (ps := P__law_with_calls) fun _ _ _ _ _ _ us hl => match us, hl with | [_], _ => rfl⟩
  have F31 := fun_mk (st := s__law_atom) l31 c31 k31
  have g31 : Got K mg "_law_atom" s__law_atom P__law_atom := ⟨f31, _, F31, PySem.W.mg_of X G a31, F31.binds (ps := P__law_atom) fun _ _ _ _ _ _ us hl => match us, hl with | [_], _ => rfl⟩
  have F32 := fun_mk (st := s__law_part) l32 c32 k32
  have g32 : Got K mg "_law_part" s__law_part P__law_part := ⟨f32, _, F32, PySem.W.mg_of X G a32, F32.binds (ps := P__law_part) fun _ _ _ _ _ _ us hl => match us, hl with | [_, _], _ => rfl⟩
  have F33 := fun_mk (st := s__law_due) l33 c33 k33
  have g33 : Got K mg "_law_due" s__law_due P__law_due := ⟨f33, _, F33, PySem.W.mg_of X G a33, F33.binds (ps := P__law_due) fun _ _ _ _ _ _ us hl => match us, hl with | [_], _ => rfl⟩
  have F34 := fun_mk (st := s__law_said) l34 c34 k34
  have g34 : Got K mg "_law_said" s__law_said P__law_said := ⟨f34, _, F34, PySem.W.mg_of X G a34, F34.binds (ps := P__law_said) fun _ _ _ _ _ _ us hl => match us, hl with | [_], _ => rfl⟩
  have F35 := fun_mk (st := s__law_right) l35 c35 k35
  have g35 : Got K mg "_law_right" s__law_right P__law_right := ⟨f35, _, F35, PySem.W.mg_of X G a35, F35.binds (ps := P__law_right) fun _ _ _ _ _ _ us hl => match us, hl with | [_], _ => rfl⟩
  have F36 := fun_mk (st := s_law) l36 c36 k36
  refine ⟨PySem.W.fnOf "law" "law" (defArgs s_law) (defBody s_law) (defScope s_law) .none kV36 dc36 pm36 an36 cd36 ct36, fun s v => .of_eq rfl, fun base _ _ => ?_⟩
  have C_is_int := c_is_int (P := l.prog) (w := w) (base := base) (NF := 100000) (RD := 10) (L := 0) g0 z y q
  have C_is_variable := c_is_variable (P := l.prog) (w := w) (base := base) (NF := 100000) (RD := 10) (L := 1) g1 z y q (C_is_int.mono (by decide))
  have C_is_any_number := c_is_any_number (P := l.prog) (w := w) (base := base) (NF := 100000) (RD := 10) (L := 1) g2 z y q (C_is_int.mono (by decide))
  have C_is_any_atom := c_is_any_atom (P := l.prog) (w := w) (base := base) (NF := 100000) (RD := 10) (L := 0) g3 z y q
  have C_is_compound := c_is_compound (P := l.prog) (w := w) (base := base) (NF := 100000) (RD := 10) (L := 0) g4 z y q
  have C_is_term := c_is_term (P := l.prog) (w := w) (base := base) (NF := 100000) (RD := 10) (L := 2) g5 z y q (C_is_compound.mono (by decide)) (C_is_any_atom.mono (by decide)) (C_is_variable.mono (by decide)) (C_is_any_number.mono (by decide))
  have C_parts_of := c_parts_of (P := l.prog) (w := w) (base := base) (NF := 100000) (RD := 10) (L := 1) g6 z y q (C_is_compound.mono (by decide))
  have C_numbers_in := c_numbers_in (P := l.prog) (w := w) (base := base) (NF := 100000) (RD := 10) (L := 2) g7 z y q (C_parts_of.mono (by decide)) (C_is_variable.mono (by decide))
  have C_replaced := c_replaced (P := l.prog) (w := w) (base := base) (NF := 100000) (RD := 10) (L := 2) g8 z y q (C_is_compound.mono (by decide)) (C_is_variable.mono (by decide))
  have C_renumbering := c_renumbering (P := l.prog) (w := w) (base := base) (NF := 100000) (RD := 10) (L := 3) g9 z y q (C_numbers_in.mono (by decide))
  have Cd_renumbering := cd_renumbering (P := l.prog) (w := w) (base := base) (NF := 100000) (RD := 10) (L := 3) (fun _ _ => Rps.cons rp_int (Rps.nil)) g9 z y q (C_numbers_in.mono (by decide))
  have C_word_of := c_word_of (P := l.prog) (w := w) (base := base) (NF := 100000) (RD := 10) (L := 1) g10 z y q (C_is_compound.mono (by decide))
  have C_is_callable := c_is_callable (P := l.prog) (w := w) (base := base) (NF := 100000) (RD := 10) (L := 1) g11 z y q (C_is_compound.mono (by decide))
  have C_has_good_leaves := c_has_good_leaves (P := l.prog) (w := w) (base := base) (NF := 100000) (RD := 10) (L := 2) g12 z y q (C_word_of.mono (by decide)) (C_is_int.mono (by decide))
  have C_is_body := c_is_body (P := l.prog) (w := w) (base := base) (NF := 100000) (RD := 10) (L := 3) g13 z y q (C_is_term.mono (by decide)) (C_has_good_leaves.mono (by decide))
  have C_with_calls := c_with_calls (P := l.prog) (w := w) (base := base) (NF := 100000) (RD := 10) (L := 2) g14 z y q (C_word_of.mono (by decide)) (C_is_variable.mono (by decide))
  have C_halves := c_halves (P := l.prog) (w := w) (base := base) (NF := 100000) (RD := 10) (L := 1) g15 z y q (C_is_compound.mono (by decide))
  have C_fault_of := c_fault_of (P := l.prog) (w := w) (base := base) (NF := 100000) (RD := 10) (L := 3) g16 z y q (C_halves.mono (by decide)) (C_is_term.mono (by decide)) (C_is_callable.mono (by decide)) (C_has_good_leaves.mono (by decide))
  have C_is_clause := c_is_clause (P := l.prog) (w := w) (base := base) (NF := 100000) (RD := 10) (L := 4) g17 z y q (C_fault_of.mono (by decide))
  have C_kept_form := c_kept_form (P := l.prog) (w := w) (base := base) (NF := 100000) (RD := 10) (L := 4) g18 z y q (C_halves.mono (by decide)) (C_with_calls.mono (by decide)) (Cd_renumbering.mono (by decide)) (C_replaced.mono (by decide))
  have C_stored := c_stored (P := l.prog) (w := w) (base := base) (NF := 100000) (RD := 10) (L := 3) g19 z y q (C_fault_of.mono (by decide)) (C_kept_form.mono (by decide))
  have C__law_cell_at := c__law_cell_at (P := l.prog) (w := w) (base := base) (NF := 100000) (RD := 10) (L := 0) g20 z y q
  have C__law_well := c__law_well (P := l.prog) (w := w) (base := base) (NF := 100000) (RD := 10) (L := 0) g21 z y q
  have C__law_draw := c__law_draw (P := l.prog) (w := w) (base := base) (NF := 100000) (RD := 10) (L := 0) g22 z y q
  have C__law_one := c__law_one (P := l.prog) (w := w) (base := base) (NF := 100000) (RD := 10) (L := 1) g23 z y q (C__law_draw.mono (by decide))
  have C__law_numbers := c__law_numbers (P := l.prog) (w := w) (base := base) (NF := 100000) (RD := 10) (L := 0) g24 z y q 10
  have C__law_put := c__law_put (P := l.prog) (w := w) (base := base) (NF := 100000) (RD := 10) (L := 0) g25 z y q 10
  have C__law_anew := c__law_anew (P := l.prog) (w := w) (base := base) (NF := 100000) (RD := 10) (L := 10) g26 z y q (C__law_numbers.mono (by decide)) (C__law_put.mono (by decide))
  have C__law_is_construct := c__law_is_construct (P := l.prog) (w := w) (base := base) (NF := 100000) (RD := 10) (L := 0) g27 z y q
  have C__law_is_body := c__law_is_body (P := l.prog) (w := w) (base := base) (NF := 100000) (RD := 10) (L := 1) g28 z y q (C__law_is_construct.mono (by decide)) 10
  have C__law_is_goal := c__law_is_goal (P := l.prog) (w := w) (base := base) (NF := 100000) (RD := 10) (L := 0) g29 z y q
  have C__law_with_calls := c__law_with_calls (P := l.prog) (w := w) (base := base) (NF := 100000) (RD := 10) (L := 1) g30 z y q (C__law_is_construct.mono (by decide)) 10
  have C__law_atom := c__law_atom (P := l.prog) (w := w) (base := base) (NF := 100000) (RD := 10) (L := 2) g31 z y q (C__law_one.mono (by decide))
  have C__law_part := c__law_part (P := l.prog) (w := w) (base := base) (NF := 100000) (RD := 10) (L := 3) g32 z y q (C__law_draw.mono (by decide)) (C__law_one.mono (by decide)) (C__law_atom.mono (by decide)) 10
  have C__law_due := c__law_due (P := l.prog) (w := w) (base := base) (NF := 100000) (RD := 10) (L := 11) g33 z y q (C__law_anew.mono (by decide)) (C__law_is_goal.mono (by decide)) (C__law_is_body.mono (by decide)) (C__law_with_calls.mono (by decide))
  have C__law_said := c__law_said (P := l.prog) (w := w) (base := base) (NF := 100000) (RD := 10) (L := 6) g34 z y q (C_stored.mono (by decide))
  have C__law_right := c__law_right (P := l.prog) (w := w) (base := base) (NF := 100000) (RD := 10) (L := 12) g35 z y q (C__law_due.mono (by decide)) (C__law_said.mono (by decide)) (C_is_body.mono (by decide)) (C__law_is_body.mono (by decide)) (C_is_clause.mono (by decide))
  exact (ok_law (L := 13) (NF := 100000) (RD := 10) F36 z y q (C__law_well.mono (by decide)) (C__law_right.mono (by decide)) (C__law_cell_at.mono (by decide)) (C__law_part.mono (by decide)) (C_is_body.mono (by decide)) (C_is_clause.mono (by decide)) (C__law_said.mono (by decide))).toN
theorem walk {l : PySem.W.OpenLaw} {q : Program} {loose : List Str} {XP : (Str → Option Value) → Heap → Prop} {YP : World → Heap → Prop} {d : DefRec} {K : Params → PySem.W.Frag} (hn : l.most = some 63) (hdf : d.params.defaults = [])
    (hY : ∀ (w : World) (h : Heap), YP w h → (K w.params).In h)
    (F : ∀ (w : World) (mg : Str → Option Value) (fa : Addr) (h : Heap), (K w.params).In h → h.Ns mainGlobals mg → mg d.name = some (.ref fa) →
      ∃ fd : FuncData, (∀ (s : Shared) (u : Value), BindsTo s fd ⟨[u], []⟩ [("script", u)]) ∧ ∀ base : Heap, (K w.params).In base → base.Ns mainGlobals mg → FnG l.prog w (K w.params) mg base (L2.CX l.prog w) 14 fa fd ["script"] (spN (K w.params) 1 (m_law 100000 10))) :
    PySem.W.WalkO q loose XP YP l.row.toRowW d [] (fun f vs => PySem.call f vs) :=
  DL.walk_G (n := 63) (k := 14) (x := "script") (CX := fun w => L2.CX l.prog w) (sp := fun w => spN (K w.params) 1 (m_law 100000 10)) hn (by decide) hdf ⟨rfl, by decide, by decide⟩ hY F (fun _ _ a ns hl hO hS => law_endN (law_true ns hl) hO hS) fun _ _ _ _ _ ⟨_, _, _, _, _, _, _, _, _, _, _, _, z⟩ => z
end
end K21
open PySem PySem.W PyProof.Rows
theorem PySem.Challenge.cw_hornhall_k21_bodies_and_clauses_holds : PySem.Challenge.rw_hornhall_k21_bodies_and_clauses.Holds := by
  w_on; o_law; k_head; (case hw => w_witness2)
  k_fill
  refine K21.walk (l := PySem.Challenge.rw_hornhall_k21_bodies_and_clauses) rfl rfl (fun w h Y => PySem.W.kIn_of Y) ?F
  case F =>
    intro w mg fa h KX G hmg
    refine' K21.all_mk KX G hmg ?a0 ?l0 ?c0 ?k0 ?a1 ?l1 ?c1 ?k1 ?a2 ?l2 ?c2 ?k2 ?a3 ?l3 ?c3 ?k3 ?a4 ?l4 ?c4 ?k4 ?a5 ?l5 ?c5 ?k5 ?a6 ?l6 ?c6 ?k6 ?a7 ?l7 ?c7 ?k7 ?a8 ?l8 ?c8 ?k8 ?a9 ?l9 ?c9 ?k9 ?t9 ?a10 ?l10 ?c10 ?k10 ?a11 ?l11 ?c11 ?k11 ?a12 ?l12 ?c12 ?k12 ?a13 ?l13 ?c13 ?k13 ?a14 ?l14 ?c14 ?k14 ?a15 ?l15 ?c15 ?k15 ?a16 ?l16 ?c16 ?k16 ?a17 ?l17 ?c17 ?k17 ?a18 ?l18 ?c18 ?k18 ?a19 ?l19 ?c19 ?k19 ?a20 ?l20 ?c20 ?k20 ?a21 ?l21 ?c21 ?k21 ?a22 ?l22 ?c22 ?k22 ?a23 ?l23 ?c23 ?k23 ?a24 ?l24 ?c24 ?k24 ?a25 ?l25 ?c25 ?k25 ?a26 ?l26 ?c26 ?k26 ?a27 ?l27 ?c27 ?k27 ?a28 ?l28 ?c28 ?k28 ?a29 ?l29 ?c29 ?k29 ?a30 ?l30 ?c30 ?k30 ?a31 ?l31 ?c31 ?k31 ?a32 ?l32 ?c32 ?k32 ?a33 ?l33 ?c33 ?k33 ?a34 ?l34 ?c34 ?k34 ?a35 ?l35 ?c35 ?k35 ?a36 ?l36 ?c36 ?k36 ?z0 ?z1 ?z2 ?z3 ?z4 ?z5 ?z6 ?z7 ?z8 ?z9 ?z10 ?z11 ?z12 ?z13 ?y0 ?y1 ?y2 ?v2 ?y3 ?y4 ?v4 ?gx0 ?gx1 ?xl0 ?xs0 ?xg0 ?xh0 ?xi0 ?xt0 ?xf0 ?xc0 ?xk0 ?yk0 ?ye0 ?yt0 ?yh0 ?yn0_0 ?br0 ?bf0 ?ce0 ?ct0 ?ch0 ?cs0 ?em0_0 ?ce1 ?ct1 ?ch1 ?cs1 ?em1_0
    (case a0 => k_is)
    (case l0 => k_is)
    (case c0 => k_is)
    (case k0 => k_is)
    (case a1 => k_is)
    (case l1 => k_is)
    (case c1 => k_is)
    (case k1 => k_is)
    (case a2 => k_is)
    (case l2 => k_is)
    (case c2 => k_is)
    (case k2 => k_is)
    (case a3 => k_is)
    (case l3 => k_is)
    (case c3 => k_is)
    (case k3 => k_is)
    (case a4 => k_is)
    (case l4 => k_is)
    (case c4 => k_is)
    (case k4 => k_is)
    (case a5 => k_is)
    (case l5 => k_is)
    (case c5 => k_is)
    (case k5 => k_is)
    (case a6 => k_is)
    (case l6 => k_is)
    (case c6 => k_is)
    (case k6 => k_is)
    (case a7 => k_is)
    (case l7 => k_is)
    (case c7 => k_is)
    (case k7 => k_is)
    (case a8 => k_is)
    (case l8 => k_is)
    (case c8 => k_is)
    (case k8 => k_is)
    (case a9 => k_is)
    (case l9 => k_is)
    (case c9 => k_is)
    (case k9 => k_is)
    (case t9 => k_is)
    (case a10 => k_is)
    (case l10 => k_is)
    (case c10 => k_is)
    (case k10 => k_is)
    (case a11 => k_is)
    (case l11 => k_is)
    (case c11 => k_is)
    (case k11 => k_is)
    (case a12 => k_is)
    (case l12 => k_is)
    (case c12 => k_is)
    (case k12 => k_is)
    (case a13 => k_is)
    (case l13 => k_is)
    (case c13 => k_is)
    (case k13 => k_is)
    (case a14 => k_is)
    (case l14 => k_is)
    (case c14 => k_is)
    (case k14 => k_is)
    (case a15 => k_is)
    (case l15 => k_is)
    (case c15 => k_is)
    (case k15 => k_is)
    (case a16 => k_is)
    (case l16 => k_is)
    (case c16 => k_is)
    (case k16 => k_is)
    (case a17 => k_is)
    (case l17 => k_is)
    (case c17 => k_is)
    (case k17 => k_is)
    (case a18 => k_is)
    (case l18 => k_is)
    (case c18 => k_is)
    (case k18 => k_is)
    (case a19 => k_is)
    (case l19 => k_is)
    (case c19 => k_is)
    (case k19 => k_is)
    (case a20 => k_is)
    (case l20 => k_is)
    (case c20 => k_is)
    (case k20 => k_is)
    (case a21 => k_is)
    (case l21 => k_is)
    (case c21 => k_is)
    (case k21 => k_is)
    (case a22 => k_is)
    (case l22 => k_is)
    (case c22 => k_is)
    (case k22 => k_is)
    (case a23 => k_is)
    (case l23 => k_is)
    (case c23 => k_is)
    (case k23 => k_is)
    (case a24 => k_is)
    (case l24 => k_is)
    (case c24 => k_is)
    (case k24 => k_is)
    (case a25 => k_is)
    (case l25 => k_is)
    (case c25 => k_is)
    (case k25 => k_is)
    (case a26 => k_is)
    (case l26 => k_is)
    (case c26 => k_is)
    (case k26 => k_is)
    (case a27 => k_is)
    (case l27 => k_is)
    (case c27 => k_is)
    (case k27 => k_is)
    (case a28 => k_is)
    (case l28 => k_is)
    (case c28 => k_is)
    (case k28 => k_is)
    (case a29 => k_is)
    (case l29 => k_is)
    (case c29 => k_is)
    (case k29 => k_is)
    (case a30 => k_is)
    (case l30 => k_is)
    (case c30 => k_is)
    (case k30 => k_is)
    (case a31 => k_is)
    (case l31 => k_is)
    (case c31 => k_is)
    (case k31 => k_is)
    (case a32 => k_is)
    (case l32 => k_is)
    (case c32 => k_is)
    (case k32 => k_is)
    (case a33 => k_is)
    (case l33 => k_is)
    (case c33 => k_is)
    (case k33 => k_is)
    (case a34 => k_is)
    (case l34 => k_is)
    (case c34 => k_is)
    (case k34 => k_is)
    (case a35 => k_is)
    (case l35 => k_is)
    (case c35 => k_is)
    (case k35 => k_is)
    (case a36 => k_is)
    (case l36 => k_is)
    (case c36 => k_is)
    (case k36 => k_is)
    (case z0 => k_is)
    (case z1 => k_is)
    (case z2 => k_is)
    (case z3 => k_is)
    (case z4 => k_is)
    (case z5 => k_is)
    (case z6 => k_is)
    (case z7 => k_is)
    (case z8 => k_is)
    (case z9 => k_is)
    (case z10 => k_is)
    (case z11 => k_is)
    (case z12 => k_is)
    (case z13 => k_is)
    (case y0 => k_is)
    (case y1 => k_is)
    (case y2 => k_is)
    (case v2 => k_is)
    (case y3 => k_is)
    (case y4 => k_is)
    (case v4 => k_is)
    (case gx0 => k_is)
    (case gx1 => k_is)
    (case xl0 => k_is)
    (case xs0 => k_is)
    (case xg0 => k_is)
    (case xh0 => k_is)
    (case xi0 => k_is)
    (case xt0 => k_is)
    (case xf0 => k_is)
    (case xc0 => k_is)
    (case xk0 => k_is)
    (case yk0 => k_is)
    (case ye0 => k_is)
    (case yt0 => k_is)
    (case yh0 => k_is)
    (case yn0_0 => k_is)
    (case br0 => k_is)
    (case bf0 => k_is)
    (case ce0 => k_is)
    (case ct0 => k_is)
    (case ch0 => k_is)
    (case cs0 => k_is)
    (case em0_0 => k_is)
    (case ce1 => k_is)
    (case ct1 => k_is)
    (case ch1 => k_is)
    (case cs1 => k_is)
    (case em1_0 => k_is)

