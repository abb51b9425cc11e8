import PyProof.Rows.All
import HandS.ForMost
import HandS.IsInst
import HandS.TupAny
import HandS.Wide
import HandS.Defaults
import HandS.Flow
import HandS.TupMul
import HandS.WordsDict
import HandS.Conv
import HandS.Zip
import HandS.ForExc
import HandS.ExcField
import HandS.CallSlots
import HandS.Style
import HandS.WideBits
import HandS.Rev
import HandS.TryOnly
import HandS.ExcInit
import HandS.ExcIs
import HandS.TryMany
import PySem.Challenge.RW_hornhall_k42_whole_laws_of_arithmetic
import KE.KBits
import KE.BitLaws
import KE.IntBitsLaws
import Wide.All
import OpenK.AllK
import Wide.FinOn
set_option Elab.async false
set_option linter.all false
set_option maxRecDepth 100000
set_option maxHeartbeats 8000000
/-! DL1: values as trees, objects by number; what stands for what. -/
namespace DL
open PySem L2

inductive D where
  | non | bl (b : Bool) | int (i : Int) | str (s : Str) | ty (s : String)
  | tup (xs : List D) | rol (xs : List D) | at (n : Nat)
  | ad (a : Addr)
inductive O where
  | lst (xs : List D) | dct (kvs : List (Key × D))
abbrev Hd := List O
abbrev Sg := List (Option D)

/-- a list that nobody writes at -/
def SqF (K : PySem.W.Frag) (H : Hp) (a : Addr) (xs : List V) : Prop :=
  (∃ ob, H a = some (.frz ob (.lst xs))) ∨
    ∃ (o : Obj) (its : Array Value) (n : Nat), K.lookup a = some o ∧ o.cls = .type "list" ∧ o.dict = none ∧ o.data = .seq its n ∧ its.size ≤ sizeLine ∧ Vals xs its.toList
theorem SqF.l {K : PySem.W.Frag} {H : Hp} {a : Addr} {xs : List V} (h : SqF K H a xs) : SqL K H a xs := by
  rcases h with ⟨o, h⟩ | h
  · exact .inl (.inr ⟨o, h⟩)
  · exact .inr h

mutual
def Rp (K : PySem.W.Frag) (H : Hp) (μ : List Addr) : D → V → Prop
  | .non, v => v = .non
  | .bl b, v => v = .bl b
  | .int i, v => v = .int i
  | .str s, v => v = .str s
  | .ty s, v => v = .ty s
  | .tup xs, v => ∃ p vs, v = .ref p ∧ SqT K H p vs ∧ Rps K H μ xs vs
  | .rol xs, v => ∃ p vs, v = .ref p ∧ SqF K H p vs ∧ Rps K H μ xs vs
  | .at n, v => ∃ a, μ[n]? = some a ∧ v = .ref a
  | .ad a, v => v = .ref a
def Rps (K : PySem.W.Frag) (H : Hp) (μ : List Addr) : List D → List V → Prop
  | [], vs => vs = []
  | d :: ds, vs => ∃ v vs', vs = v :: vs' ∧ Rp K H μ d v ∧ Rps K H μ ds vs'
end

/-- what goes on: objects keep their numbers, what cannot change stays -/
structure Le (K : PySem.W.Frag) (H : Hp) (μ : List Addr) (H' : Hp) (μ' : List Addr) : Prop where
  pre : ∃ r, μ' = μ ++ r
  tup : ∀ p vs, SqT K H p vs → SqT K H' p vs
  frz : ∀ p vs, SqF K H p vs → SqF K H' p vs
  xdt : ∀ p fs, H p = some (.xd fs) → H' p = some (.xd fs)
theorem Le.refl {K : PySem.W.Frag} {H : Hp} {μ : List Addr} : Le K H μ H μ := ⟨⟨[], by simp⟩, fun _ _ h => h, fun _ _ h => h, fun _ _ h => h⟩
theorem Le.trans {K : PySem.W.Frag} {H H1 H2 : Hp} {μ μ1 μ2 : List Addr} (a : Le K H μ H1 μ1) (b : Le K H1 μ1 H2 μ2) : Le K H μ H2 μ2 := by
  obtain ⟨r, hr⟩ := a.pre
  obtain ⟨q, hq⟩ := b.pre
  exact ⟨⟨r ++ q, by rw [hq, hr, List.append_assoc]⟩, fun p vs h => b.tup p vs (a.tup p vs h), fun p vs h => b.frz p vs (a.frz p vs h), fun p fs h => b.xdt p fs (a.xdt p fs h)⟩
theorem Le.get {K : PySem.W.Frag} {H H' : Hp} {μ μ' : List Addr} (a : Le K H μ H' μ') {n : Nat} {x : Addr} (h : μ[n]? = some x) : μ'[n]? = some x := by
  obtain ⟨r, hr⟩ := a.pre
  rw [hr, List.getElem?_append_left (by exact (List.getElem?_eq_some_iff.mp h).1)]
  exact h

section
variable {K : PySem.W.Frag} {H H' : Hp} {μ μ' : List Addr}
mutual
theorem Rp.mono (e : Le K H μ H' μ') : ∀ (d : D) (v : V), Rp K H μ d v → Rp K H' μ' d v
  | .non, _, h => by unfold Rp at *; exact h
  | .bl _, _, h => by unfold Rp at *; exact h
  | .int _, _, h => by unfold Rp at *; exact h
  | .str _, _, h => by unfold Rp at *; exact h
  | .ty _, _, h => by unfold Rp at *; exact h
  | .tup xs, v, h => by
    unfold Rp at *
    obtain ⟨p, vs, a, b, c⟩ := h
    exact ⟨p, vs, a, e.tup _ _ b, Rps.mono e xs vs c⟩
  | .rol xs, v, h => by
    unfold Rp at *
    obtain ⟨p, vs, a, b, c⟩ := h
    exact ⟨p, vs, a, e.frz _ _ b, Rps.mono e xs vs c⟩
  | .at n, v, h => by
    unfold Rp at *
    obtain ⟨a, b, c⟩ := h
    exact ⟨a, e.get b, c⟩
  | .ad _, _, h => by unfold Rp at *; exact h
theorem Rps.mono (e : Le K H μ H' μ') : ∀ (ds : List D) (vs : List V), Rps K H μ ds vs → Rps K H' μ' ds vs
  | [], _, h => by unfold Rps at *; exact h
  | d :: ds, vs, h => by
    unfold Rps at *
    obtain ⟨v, vs', a, b, c⟩ := h
    exact ⟨v, vs', a, Rp.mono e d v b, Rps.mono e ds vs' c⟩
end
theorem Rps.nil : Rps K H μ [] [] := by unfold Rps; rfl
theorem Rps.cons {d : D} {ds : List D} {v : V} {vs : List V} (a : Rp K H μ d v) (b : Rps K H μ ds vs) : Rps K H μ (d :: ds) (v :: vs) := by
  unfold Rps; exact ⟨v, vs, rfl, a, b⟩
theorem Rps.nil' {vs : List V} (h : Rps K H μ [] vs) : vs = [] := by unfold Rps at h; exact h
theorem Rps.cons' {d : D} {ds : List D} {vs : List V} (h : Rps K H μ (d :: ds) vs) : ∃ v vs', vs = v :: vs' ∧ Rp K H μ d v ∧ Rps K H μ ds vs' := by unfold Rps at h; exact h
theorem Rps.len : ∀ {ds : List D} {vs : List V}, Rps K H μ ds vs → vs.length = ds.length
  | [], vs, h => by rw [h.nil']; rfl
  | d :: ds, vs, h => by
    obtain ⟨v, vs', rfl, _, b⟩ := h.cons'
    rw [List.length_cons, List.length_cons, Rps.len b]
theorem Rps.app : ∀ {ds es : List D} {vs ws : List V}, Rps K H μ ds vs → Rps K H μ es ws → Rps K H μ (ds ++ es) (vs ++ ws)
  | [], es, vs, ws, h, g => by rw [h.nil']; exact g
  | d :: ds, es, vs, ws, h, g => by
    obtain ⟨v, vs', rfl, a, b⟩ := h.cons'
    exact Rps.cons a (Rps.app b g)
theorem Rps.get : ∀ {ds : List D} {vs : List V} {i : Nat} {d : D}, Rps K H μ ds vs → ds[i]? = some d → ∃ v, vs[i]? = some v ∧ Rp K H μ d v
  | [], vs, i, d, h, g => by simp at g
  | e :: ds, vs, 0, d, h, g => by
    obtain ⟨v, vs', rfl, a, b⟩ := h.cons'
    simp at g
    subst g
    exact ⟨v, rfl, a⟩
  | e :: ds, vs, i + 1, d, h, g => by
    obtain ⟨v, vs', rfl, a, b⟩ := h.cons'
    simpa using Rps.get b (by simpa using g)
theorem Rps.take : ∀ {ds : List D} {vs : List V} (n : Nat), Rps K H μ ds vs → Rps K H μ (ds.take n) (vs.take n)
  | ds, vs, 0, h => by simp [Rps.nil]
  | [], vs, n + 1, h => by rw [h.nil']; exact Rps.nil
  | d :: ds, vs, n + 1, h => by
    obtain ⟨v, vs', rfl, a, b⟩ := h.cons'
    exact Rps.cons a (Rps.take n b)
theorem Rps.drop : ∀ {ds : List D} {vs : List V} (n : Nat), Rps K H μ ds vs → Rps K H μ (ds.drop n) (vs.drop n)
  | ds, vs, 0, h => h
  | [], vs, n + 1, h => by rw [h.nil']; exact Rps.nil
  | d :: ds, vs, n + 1, h => by
    obtain ⟨v, vs', rfl, a, b⟩ := h.cons'
    exact Rps.drop n b
theorem Rps.rev : ∀ {ds : List D} {vs : List V}, Rps K H μ ds vs → Rps K H μ ds.reverse vs.reverse
  | [], vs, h => by rw [h.nil']; exact Rps.nil
  | d :: ds, vs, h => by
    obtain ⟨v, vs', rfl, a, b⟩ := h.cons'
    rw [List.reverse_cons, List.reverse_cons]
    exact Rps.app (Rps.rev b) (Rps.cons a Rps.nil)
theorem Rps.set : ∀ {ds : List D} {vs : List V} (i : Nat) {d : D} {v : V}, Rps K H μ ds vs → Rp K H μ d v → Rps K H μ (ds.set i d) (vs.set i v)
  | [], vs, i, d, v, h, g => by rw [h.nil']; simp [Rps.nil]
  | e :: ds, vs, 0, d, v, h, g => by
    obtain ⟨w, vs', rfl, a, b⟩ := h.cons'
    exact Rps.cons g b
  | e :: ds, vs, i + 1, d, v, h, g => by
    obtain ⟨w, vs', rfl, a, b⟩ := h.cons'
    exact Rps.cons a (Rps.set i b g)

/-- the object at a is what the number says -/
def Ok (K : PySem.W.Frag) (H : Hp) (μ : List Addr) (a : Addr) : O → Prop
  | .lst xs => ∃ vs, H a = some (.lst vs) ∧ Rps K H μ xs vs
  | .dct kvs => ∃ kw : List (Key × V), H a = some (.dK kw) ∧ kw.map (·.1) = kvs.map (·.1) ∧ Rps K H μ (kvs.map (·.2)) (kw.map (·.2))
theorem Ok.some {a : Addr} : ∀ {o : O}, Ok K H μ a o → ∃ u, H a = some u ∧ L2.Mut (Option.some u)
  | .lst _, ⟨vs, h, _⟩ => ⟨_, h, trivial⟩
  | .dct _, ⟨vs, h, _⟩ => ⟨_, h, trivial⟩
theorem Ok.mono {a : Addr} (e : Le K H μ H' μ') (ha : H' a = H a) : ∀ {o : O}, Ok K H μ a o → Ok K H' μ' a o
  | .lst _, ⟨vs, h, r⟩ => ⟨vs, ha.trans h, Rps.mono e _ _ r⟩
  | .dct _, ⟨vs, h, k, r⟩ => ⟨vs, ha.trans h, k, Rps.mono e _ _ r⟩

structure Sm (Φ : Hp) (K : PySem.W.Frag) (H : Hp) (μ : List Addr) (h : Hd) : Prop where
  len : μ.length = h.length
  nd : ∀ (n m : Nat) (a : Addr), μ[n]? = some a → μ[m]? = some a → n = m
  ob : ∀ (n : Nat) (o : O), h[n]? = some o → ∃ a, μ[n]? = some a ∧ Ok K H μ a o
  fr : ∀ (a : Addr) (o : HO), Φ a = some o → H a = some o ∧ a ∉ μ
variable {h : Hd} {Φ : Hp}
theorem Sm.at (S : Sm Φ K H μ h) {n : Nat} {a : Addr} {o : O} (e : μ[n]? = some a) (g : h[n]? = some o) : Ok K H μ a o := by
  obtain ⟨b, e', k⟩ := S.ob n o g
  rw [e] at e'
  cases e'
  exact k
theorem Sm.has (S : Sm Φ K H μ h) {n : Nat} {a : Addr} (e : μ[n]? = some a) : ∃ u, H a = some u ∧ L2.Mut (Option.some u) := by
  have hn : n < h.length := by rw [← S.len]; exact (List.getElem?_eq_some_iff.mp e).1
  exact (S.at e (List.getElem?_eq_getElem hn)).some

/-- a thing laid anew that stands for itself (a tuple): all stays -/
theorem le_new {p : Addr} {o : HO} (hp : H p = none) : Le K H μ (upd H p o) μ := by
  refine ⟨⟨[], by simp⟩, fun q vs g => ?_, fun q vs g => ?_, fun q fs g => by rw [upd_ne (ne_of_none g hp)]; exact g⟩
  · rcases g with (g | ⟨ob, g⟩) | g
    · exact .inl (.inl (by rw [upd_ne (ne_of_none g hp)]; exact g))
    · exact .inl (.inr ⟨ob, by rw [upd_ne (ne_of_none g hp)]; exact g⟩)
    · exact .inr g
  · rcases g with ⟨ob, g⟩ | g
    · exact .inl ⟨ob, by rw [upd_ne (ne_of_none g hp)]; exact g⟩
    · exact .inr g
theorem Sm.new {p : Addr} {o : HO} (S : Sm Φ K H μ h) (hp : H p = none) : Sm Φ K (upd H p o) μ h := by
  refine ⟨S.len, S.nd, fun n u g => ?_, fun a o q => ?_⟩
  rotate_left
  · obtain ⟨q1, q2⟩ := S.fr a o q
    exact ⟨by rw [upd_ne (ne_of_none q1 hp)]; exact q1, q2⟩
  obtain ⟨a, e, k⟩ := S.ob n u g
  obtain ⟨x, hx, _⟩ := k.some
  exact ⟨a, e, k.mono (le_new hp) (upd_ne (ne_of_none hx hp))⟩
/-- a new object with a number of its own -/
theorem le_obj {p : Addr} {o : HO} (hp : H p = none) : Le K H μ (upd H p o) (μ ++ [p]) := by
  have e : Le K H μ (upd H p o) μ := le_new hp
  exact ⟨⟨[p], rfl⟩, e.tup, e.frz, e.xdt⟩
theorem Sm.obj {p : Addr} {o : HO} {u : O} (S : Sm Φ K H μ h) (hp : H p = none) (k : Ok K (upd H p o) (μ ++ [p]) p u) : Sm Φ K (upd H p o) (μ ++ [p]) (h ++ [u]) := by
  have np : ∀ n : Nat, μ[n]? ≠ some p := fun n e => by
    obtain ⟨x, hx, _⟩ := S.has e
    rw [hp] at hx
    cases hx
  refine ⟨by simp [S.len], fun n m a e1 e2 => ?_, fun n w g => ?_, fun a o q => ?_⟩
  rotate_left 2
  · obtain ⟨q1, q2⟩ := S.fr a o q
    refine ⟨by rw [upd_ne (ne_of_none q1 hp)]; exact q1, fun z => ?_⟩
    rcases List.mem_append.mp z with z | z
    · exact q2 z
    · rw [List.mem_singleton.mp z, hp] at q1
      cases q1
  · rw [List.getElem?_append] at e1 e2
    split at e1 <;> split at e2
    · exact S.nd n m a e1 e2
    · rename_i h1 h2
      have : a = p := by
        rw [List.getElem?_singleton] at e2
        split at e2 <;> simp_all
      subst this
      exact absurd e1 (np n)
    · rename_i h1 h2
      have : a = p := by
        rw [List.getElem?_singleton] at e1
        split at e1 <;> simp_all
      subst this
      exact absurd e2 (np m)
    · rename_i h1 h2
      rw [List.getElem?_singleton] at e1 e2
      split at e1 <;> split at e2 <;> simp_all
      omega
  · rw [List.getElem?_append] at g
    split at g
    · obtain ⟨a, e, kk⟩ := S.ob n w g
      obtain ⟨x, hx, _⟩ := kk.some
      refine ⟨a, ?_, kk.mono (le_obj hp) (upd_ne (ne_of_none hx hp))⟩
      exact (le_obj (K := K) (H := H) (o := o) hp).get e
    · rename_i hn
      rw [List.getElem?_singleton] at g
      split at g
      · rename_i h0
        cases g
        refine ⟨p, ?_, k⟩
        have : n = μ.length := by rw [S.len]; omega
        rw [this]
        simp
      · cases g
theorem obj_at {p : Addr} {n : Nat} (S : Sm Φ K H μ h) (hn : n = h.length) : (μ ++ [p])[n]? = some p := by
  rw [hn, ← S.len]; simp
/-- an object is changed -/
theorem le_set {a : Addr} {o : HO} (S : Sm Φ K H μ h) {n : Nat} (e : μ[n]? = some a) : Le K H μ (upd H a o) μ := by
  obtain ⟨x, hx, mu⟩ := S.has e
  refine ⟨⟨[], by simp⟩, fun q vs g => ?_, fun q vs g => ?_, fun q fs g => by rw [upd_ne (fun z => by subst z; rw [hx] at g; cases g; exact mu)]; exact g⟩
  · rcases g with (g | ⟨ob, g⟩) | g
    · exact .inl (.inl (by rw [upd_ne (fun z => by subst z; rw [hx] at g; cases g; exact mu)]; exact g))
    · exact .inl (.inr ⟨ob, by rw [upd_ne (fun z => by subst z; rw [hx] at g; cases g; exact mu)]; exact g⟩)
    · exact .inr g
  · rcases g with ⟨ob, g⟩ | g
    · exact .inl ⟨ob, by rw [upd_ne (fun z => by subst z; rw [hx] at g; cases g; exact mu)]; exact g⟩
    · exact .inr g
theorem Sm.set {a : Addr} {o : HO} {u : O} (S : Sm Φ K H μ h) {n : Nat} (e : μ[n]? = some a) (k : Ok K (upd H a o) μ a u) : Sm Φ K (upd H a o) μ (h.set n u) := by
  refine ⟨by rw [List.length_set, S.len], S.nd, fun m w g => ?_, fun b o q => ?_⟩
  rotate_left
  · obtain ⟨q1, q2⟩ := S.fr b o q
    exact ⟨by rw [upd_ne fun z => by subst z; exact q2 (List.mem_of_getElem? e)]; exact q1, q2⟩
  by_cases hm : m = n
  · subst hm
    have : w = u := by
      rw [List.getElem?_set] at g
      simp at g
      exact g.2.symm
    subst this
    exact ⟨a, e, k⟩
  · rw [List.getElem?_set_ne (fun z => hm z.symm)] at g
    obtain ⟨b, e', kk⟩ := S.ob m w g
    exact ⟨b, e', kk.mono (le_set S e) (upd_ne fun z => by subst z; exact hm (S.nd m n b e' e))⟩
end

/-! ### slots -/
def Rs (K : PySem.W.Frag) (H : Hp) (μ : List Addr) (sg : Sg) (σ : L2.St) : Prop :=
  sg.length = σ.length ∧ ∀ (i : Nat) (d : D), sg[i]? = some (some d) → ∃ v, σ[i]? = some (some v) ∧ Rp K H μ d v
section
variable {K : PySem.W.Frag} {H H' : Hp} {μ μ' : List Addr} {sg : Sg} {σ : L2.St}
theorem Rs.mono (e : Le K H μ H' μ') (r : Rs K H μ sg σ) : Rs K H' μ' sg σ := ⟨r.1, fun i d g => by
  obtain ⟨v, a, b⟩ := r.2 i d g
  exact ⟨v, a, Rp.mono e d v b⟩⟩
theorem Rs.put (r : Rs K H μ sg σ) (i : Nat) {d : D} {v : V} (g : Rp K H μ d v) : Rs K H μ (sg.set i (some d)) (σ.set i (some v)) := by
  refine ⟨by rw [List.length_set, List.length_set, r.1], fun j e q => ?_⟩
  by_cases hj : j = i
  · subst hj
    rw [List.getElem?_set] at q ⊢
    simp at q
    obtain ⟨q1, q2⟩ := q
    subst q2
    rw [if_pos rfl, if_pos (by rw [← r.1]; exact q1)]
    exact ⟨v, rfl, g⟩
  · rw [List.getElem?_set_ne (fun z => hj z.symm)] at q ⊢
    exact r.2 j e q
theorem Rs.del (r : Rs K H μ sg σ) (i : Nat) : Rs K H μ (sg.set i none) (σ.set i none) := by
  refine ⟨by rw [List.length_set, List.length_set, r.1], fun j e q => ?_⟩
  by_cases hj : j = i
  · subst hj
    rw [List.getElem?_set] at q
    simp at q
  · rw [List.getElem?_set_ne (fun z => hj z.symm)] at q ⊢
    exact r.2 j e q
end
def wipeD (sg : Sg) : List Nat → Sg
  | [] => sg
  | v :: vs => (wipeD sg vs).set v none
theorem Rs.wipe {K : PySem.W.Frag} {H : Hp} {μ : List Addr} {sg : Sg} {σ : L2.St} (r : Rs K H μ sg σ) : ∀ vs : List Nat, Rs K H μ (wipeD sg vs) (L2.wipe σ vs)
  | [] => r
  | v :: vs => (Rs.wipe r vs).del v
end DL

/-! DL2: the judgements over trees; names, constants, operators, displays, tests. -/
namespace DL
open PySem L2

abbrev ME := Sg → Hd → Option (D × Hd)
abbrev MT := Sg → Hd → Option (Bool × Hd)
abbrev MA := Sg → Hd → Option (List D × Hd)

/-- what follows holds wherever the value d and the objects h' are borne -/
abbrev Kn (Φ : Hp) (K : PySem.W.Frag) (H : Hp) (μ : List Addr) (h' : Hd) (d : D) (Q : VK) : Prop :=
  ∀ (v : V) (H' : Hp) (μ' : List Addr), Sm Φ K H' μ' h' → Le K H μ H' μ' → Rp K H' μ' d v → Q v H'
def SE (K : PySem.W.Frag) (t : TE) (m : ME) : Prop := ∀ {Φ : Hp} (σ : L2.St) (H : Hp) (μ : List Addr) (sg : Sg) (h : Hd) (d : D) (h' : Hd), Sm Φ K H μ h → Rs K H μ sg σ → m sg h = some (d, h') → ∀ Q : VK, Kn Φ K H μ h' d Q → t σ H Q
def ST (K : PySem.W.Frag) (t : TT) (m : MT) : Prop := ∀ {Φ : Hp} (σ : L2.St) (H : Hp) (μ : List Addr) (sg : Sg) (h : Hd) (b : Bool) (h' : Hd), Sm Φ K H μ h → Rs K H μ sg σ → m sg h = some (b, h') → ∀ Q : Bool → Hp → Prop,
  (∀ (H' : Hp) (μ' : List Addr), Sm Φ K H' μ' h' → Le K H μ H' μ' → Q b H') → t σ H Q
def SA (K : PySem.W.Frag) (t : TA) (m : MA) : Prop := ∀ {Φ : Hp} (σ : L2.St) (H : Hp) (μ : List Addr) (sg : Sg) (h : Hd) (ds : List D) (h' : Hd), Sm Φ K H μ h → Rs K H μ sg σ → m sg h = some (ds, h') → ∀ Q : List V → Hp → Prop,
  (∀ (vs : List V) (H' : Hp) (μ' : List Addr), Sm Φ K H' μ' h' → Le K H μ H' μ' → Rps K H' μ' ds vs → Q vs H') → t σ H Q

structure DE (K : PySem.W.Frag) (X : Cx) (e : Expr) (t : TE) (m : ME) : Prop where
  k : X.K = K
  p : PE X e t
  s : SE K t m
structure DT (K : PySem.W.Frag) (X : Cx) (e : Expr) (t : TT) (m : MT) : Prop where
  k : X.K = K
  p : PT X e t
  s : ST K t m
structure DW (K : PySem.W.Frag) (X : Cx) (e : Expr) (t : TT) (m : MT) : Prop where
  k : X.K = K
  p : PW X e t
  s : ST K t m
structure DA (K : PySem.W.Frag) (X : Cx) (es : List Expr) (t : TA) (m : MA) : Prop where
  k : X.K = K
  p : PA X es t
  s : SA K t m

/-! ### names, constants -/
def varM (i : Nat) : ME := fun sg h => match sg[i]? with
  | some (some d) => some (d, h)
  | _ => none
def cM (d : D) : ME := fun _ h => some (d, h)
section
variable {K : PySem.W.Frag} {X : Cx} {pos : Pos}
theorem se_var (i : Nat) : SE K (tVar i) (varM i) := by
  intro Φ σ H μ sg h d h' S r e Q k
  unfold varM at e
  split at e
  · rename_i d' q
    cases e
    obtain ⟨v, a, b⟩ := r.2 i d q
    exact ⟨v, a, k v H μ S Le.refl b⟩
  · cases e
theorem de_var (i : Nat) {x : Str} (hN : X.N[i]? = some x := by rfl) (hv : Vis X.env.scope x := by first | exact Or.inl rfl | exact Or.inr (Or.inl rfl) | exact Or.inr (Or.inr rfl))
    (hd : (x == ("__debug__" : Str)) = false := by decide) (hcd : (x == ("__classdict__" : Str)) = false := by decide) (hK : X.K = K := by rfl) : DE K X (.Name x pos) (tVar i) (varM i) := ⟨hK, pe_var hN hv hd hcd, se_var i⟩
theorem se_c {d : D} {v : V} (hr : ∀ H μ, Rp K H μ d v) : SE K (tC v) (cM d) := by
  intro Φ σ H μ sg h d' h' S r e Q k
  cases e
  exact k v H μ S Le.refl (hr H μ)
theorem rp_int {H : Hp} {μ : List Addr} {i : Int} : Rp K H μ (.int i) (.int i) := by unfold Rp; rfl
theorem rp_bl {H : Hp} {μ : List Addr} {i : Bool} : Rp K H μ (.bl i) (.bl i) := by unfold Rp; rfl
theorem rp_str {H : Hp} {μ : List Addr} {i : Str} : Rp K H μ (.str i) (.str i) := by unfold Rp; rfl
theorem rp_non {H : Hp} {μ : List Addr} : Rp K H μ .non .non := by unfold Rp; rfl
theorem rp_ty {H : Hp} {μ : List Addr} {i : String} : Rp K H μ (.ty i) (.ty i) := by unfold Rp; rfl
theorem rp_tup {H : Hp} {μ : List Addr} {ds : List D} {p : Addr} {vs : List V} (h : SqT K H p vs) (r : Rps K H μ ds vs) : Rp K H μ (.tup ds) (.ref p) := by unfold Rp; exact ⟨p, vs, rfl, h, r⟩
theorem rp_at {H : Hp} {μ : List Addr} {n : Nat} {p : Addr} (h : μ[n]? = some p) : Rp K H μ (.at n) (.ref p) := by unfold Rp; exact ⟨p, h, rfl⟩
theorem rp_int' {H : Hp} {μ : List Addr} {i : Int} {v : V} (h : Rp K H μ (.int i) v) : v = .int i := by unfold Rp at h; exact h
theorem rp_bl' {H : Hp} {μ : List Addr} {i : Bool} {v : V} (h : Rp K H μ (.bl i) v) : v = .bl i := by unfold Rp at h; exact h
theorem rp_str' {H : Hp} {μ : List Addr} {i : Str} {v : V} (h : Rp K H μ (.str i) v) : v = .str i := by unfold Rp at h; exact h
theorem rp_non' {H : Hp} {μ : List Addr} {v : V} (h : Rp K H μ .non v) : v = .non := by unfold Rp at h; exact h
theorem rp_ty' {H : Hp} {μ : List Addr} {i : String} {v : V} (h : Rp K H μ (.ty i) v) : v = .ty i := by unfold Rp at h; exact h
theorem rp_tup' {H : Hp} {μ : List Addr} {ds : List D} {v : V} (h : Rp K H μ (.tup ds) v) : ∃ p vs, v = .ref p ∧ SqT K H p vs ∧ Rps K H μ ds vs := by unfold Rp at h; exact h
theorem rp_rol' {H : Hp} {μ : List Addr} {ds : List D} {v : V} (h : Rp K H μ (.rol ds) v) : ∃ p vs, v = .ref p ∧ SqF K H p vs ∧ Rps K H μ ds vs := by unfold Rp at h; exact h
theorem rp_ad' {a : Addr} {v : V} (r : Rp K H μ (.ad a) v) : v = .ref a := by unfold Rp at r; exact r
theorem rp_ad {a : Addr} : Rp K H μ (.ad a) (.ref a) := by unfold Rp; rfl
theorem rp_at' {H : Hp} {μ : List Addr} {n : Nat} {v : V} (h : Rp K H μ (.at n) v) : ∃ a, μ[n]? = some a ∧ v = .ref a := by unfold Rp at h; exact h
theorem de_int (hK : X.K = K := by rfl) {i : Int} {j pos} : DE K X (.Constant (.int i) j pos) (tC (.int i)) (cM (.int i)) := ⟨hK, pe_int, se_c fun _ _ => rp_int⟩
theorem de_bl (hK : X.K = K := by rfl) {i : Bool} {j pos} : DE K X (.Constant (.bool i) j pos) (tC (.bl i)) (cM (.bl i)) := ⟨hK, pe_bl, se_c fun _ _ => rp_bl⟩
theorem de_non (hK : X.K = K := by rfl) {j pos} : DE K X (.Constant .none j pos) (tC .non) (cM .non) := ⟨hK, pe_non, se_c fun _ _ => rp_non⟩
theorem de_str (hK : X.K = K := by rfl) {i : Str} {j pos} : DE K X (.Constant (.str i) j pos) (tC (.str i)) (cM (.str i)) := ⟨hK, pe_str, se_c fun _ _ => rp_str⟩
/-- a constant of the module -/
theorem de_glob {x : Str} {d : D} {v : V} {u : Value} (hm : X.mg x = some u) (rv : RelV v u) (hr : ∀ H μ, Rp K H μ d v) (hg : Gl X x := by rfl) (hd : (x == ("__debug__" : Str)) = false := by decide) (hK : X.K = K := by rfl) :
    DE K X (.Name x pos) (tC v) (cM d) := ⟨hK, pe_glob hg hm rv hd, se_c hr⟩
/-- a built-in type -/
theorem de_ty {x : Str} {n : String} (hm : X.mg x = none) (hv : bootBuiltins x = some (.type n) := by decide +kernel) (hg : Gl X x := by rfl) (hn : x ≠ "__name__" := by decide) (hd : (x == ("__debug__" : Str)) = false := by decide) (hK : X.K = K := by rfl) :
    DE K X (.Name x pos) (tC (.ty n)) (cM (.ty n)) := ⟨hK, pe_bltn hg hm hv rfl hn hd, se_c fun _ _ => rp_ty⟩
end

/-! ### operators by trees -/
abbrev G2 := D → D → Hd → Option (D × Hd)
def SO (K : PySem.W.Frag) (r : R2) (g : G2) : Prop := ∀ {Φ : Hp} (H : Hp) (μ : List Addr) (h : Hd) (x y : D) (v w : V) (d : D) (h' : Hd), Sm Φ K H μ h → Rp K H μ x v → Rp K H μ y w → g x y h = some (d, h') → ∀ Q : VK, Kn Φ K H μ h' d Q → r v w H Q
def opM (g : G2) (a b : ME) : ME := fun sg h => match a sg h with
  | some (x, h1) => match b sg h1 with
    | some (y, h2) => g x y h2
    | none => none
  | none => none
section
variable {K : PySem.W.Frag} {X : Cx} {pos : Pos} {a b c : Expr} {ta tb tc : TE} {ma mb mc : ME} {r : R2} {g : G2}
theorem se_op (hs : SO K r g) (ha : SE K ta ma) (hb : SE K tb mb) : SE K (tOp r ta tb) (opM g ma mb) := by
  intro Φ σ H μ sg h d h' S rs e Q k
  unfold opM at e
  split at e
  · rename_i x h1 e1
    split at e
    · rename_i y h2 e2
      refine ha σ H μ sg h x h1 S rs e1 _ fun v H1 μ1 S1 l1 r1 => ?_
      refine hb σ H1 μ1 sg h1 y h2 S1 (rs.mono l1) e2 _ fun w H2 μ2 S2 l2 r2 => ?_
      exact hs H2 μ2 h2 x y v w d h' S2 (Rp.mono l2 _ _ r1) r2 e Q fun z H3 μ3 S3 l3 r3 => k z H3 μ3 S3 ((l1.trans l2).trans l3) r3
    · cases e
  · cases e
theorem de_op {op : Operator} (hs : SO K r g) (ho : OpR X (binaryOp op) r) (ha : DE K X a ta ma) (hb : DE K X b tb mb) : DE K X (.BinOp a op b pos) (tOp r ta tb) (opM g ma mb) := ⟨ha.k, pe_op ho ha.p hb.p, se_op hs ha.s hb.s⟩
theorem de_cmp {op : CmpOp} (hs : SO K r g) (ho : OpR X (compareOp op) r) (ha : DE K X a ta ma) (hb : DE K X b tb mb) (hm : behindInMarks op b = false := by first | exact nobehind _ (by decide) (by decide) | rfl) : DE K X (.Compare a [op] [b] pos) (tOp r ta tb) (opM g ma mb) := ⟨ha.k, pe_cmpR ho ha.p hb.p hm, se_op hs ha.s hb.s⟩

def testM (m : ME) : MT := fun sg h => match m sg h with
  | some (.bl b, h') => some (b, h')
  | _ => none
theorem st_test (ha : SE K ta ma) : ST K (tTest ta) (testM ma) := by
  intro Φ σ H μ sg h b h' S rs e Q k
  unfold testM at e
  split at e
  · rename_i b' h1 e1
    cases e
    refine ha σ H μ sg h _ _ S rs e1 _ fun v H1 μ1 S1 l1 r1 => ⟨b, rp_bl' r1, k H1 μ1 S1 l1⟩
  · cases e
theorem dt_cmp {op : CmpOp} (hs : SO K r g) (ho : OpR X (compareOp op) r) (ha : DE K X a ta ma) (hb : DE K X b tb mb) (hm : behindInMarks op b = false := by first | exact nobehind _ (by decide) (by decide) | rfl) :
    DT K X (.Compare a [op] [b] pos) (tTest (tOp r ta tb)) (testM (opM g ma mb)) := ⟨ha.k, pt_cmpR ho ha.p hb.p hm, st_test (se_op hs ha.s hb.s)⟩
/-- a op b op' c -/
def chainM (g g' : G2) (a b c : ME) : ME := fun sg h => match a sg h with
  | some (x, h1) => match b sg h1 with
    | some (y, h2) => match g x y h2 with
      | some (.bl true, h3) => match c sg h3 with
        | some (z, h4) => g' y z h4
        | none => none
      | some (.bl false, h3) => some (.bl false, h3)
      | _ => none
    | none => none
  | none => none
theorem se_chain {r' : R2} {g' : G2} (hs : SO K r g) (hs' : SO K r' g') (ha : SE K ta ma) (hb : SE K tb mb) (hc : SE K tc mc) : SE K (tChain r r' ta tb tc) (chainM g g' ma mb mc) := by
  intro Φ σ H μ sg h d h' S rs e Q k
  unfold chainM at e
  split at e
  · rename_i x h1 e1
    split at e
    · rename_i y h2 e2
      refine ha σ H μ sg h x h1 S rs e1 _ fun v H1 μ1 S1 l1 r1 => ?_
      refine hb σ H1 μ1 sg h1 y h2 S1 (rs.mono l1) e2 _ fun w H2 μ2 S2 l2 r2 => ?_
      split at e
      · rename_i h3 e3
        refine hs H2 μ2 h2 x y v w _ _ S2 (Rp.mono l2 _ _ r1) r2 e3 _ fun z H3 μ3 S3 l3 r3 => ?_
        refine ⟨true, rp_bl' r3, iteT ?_⟩
        split at e
        · rename_i z' h4 e4
          refine hc σ H3 μ3 sg h3 z' h4 S3 (rs.mono ((l1.trans l2).trans l3)) e4 _ fun w' H4 μ4 S4 l4 r4 => ?_
          exact hs' H4 μ4 h4 y z' w w' d h' S4 (Rp.mono (l3.trans l4) _ _ r2) r4 e Q fun u H5 μ5 S5 l5 r5 => k u H5 μ5 S5 ((((l1.trans l2).trans l3).trans l4).trans l5) r5
        · cases e
      · rename_i h3 e3
        cases e
        refine hs H2 μ2 h2 x y v w _ _ S2 (Rp.mono l2 _ _ r1) r2 e3 _ fun z H3 μ3 S3 l3 r3 => ?_
        exact ⟨false, rp_bl' r3, iteF (k _ H3 μ3 S3 ((l1.trans l2).trans l3) rp_bl)⟩
      · cases e
    · cases e
  · cases e
theorem de_chain {op op' : CmpOp} {r' : R2} {g' : G2} (hs : SO K r g) (ho : OpR X (compareOp op) r) (hs' : SO K r' g') (ho' : OpR X (compareOp op') r') (ha : DE K X a ta ma) (hb : DE K X b tb mb) (hc : DE K X c tc mc)
    (hm : lastMarks [op, op'] [b, c] = false := by with_unfolding_all rfl) : DE K X (.Compare a [op, op'] [b, c] pos) (tChain r r' ta tb tc) (chainM g g' ma mb mc) := ⟨ha.k, pe_chain ho ho' ha.p hb.p hc.p hm, se_chain hs hs' ha.s hb.s hc.s⟩
theorem dt_chain {op op' : CmpOp} {r' : R2} {g' : G2} (hs : SO K r g) (ho : OpR X (compareOp op) r) (hs' : SO K r' g') (ho' : OpR X (compareOp op') r') (ha : DE K X a ta ma) (hb : DE K X b tb mb) (hc : DE K X c tc mc)
    (hm : lastMarks [op, op'] [b, c] = false := by with_unfolding_all rfl) : DT K X (.Compare a [op, op'] [b, c] pos) (tTest (tChain r r' ta tb tc)) (testM (chainM g g' ma mb mc)) := ⟨ha.k, pt_chain ho ho' ha.p hb.p hc.p hm, st_test (se_chain hs hs' ha.s hb.s hc.s)⟩
end

/-! ### laying new things -/
section
variable {K : PySem.W.Frag} {H : Hp} {μ : List Addr} {h : Hd} {Q : VK}
theorem kn_tup {ds : List D} {vs : List V} (S : Sm Φ K H μ h) (r : Rps K H μ ds vs) (k : Kn Φ K H μ h (.tup ds) Q) (p : Addr) (hp : H p = none) : Q (.ref p) (upd H p (.tup vs)) := by
  have l : Le K H μ (upd H p (.tup vs)) μ := le_new hp
  exact k _ _ μ (S.new hp) l (rp_tup (SqT.of upd_same) (Rps.mono l _ _ r))
theorem kn_lst {ds : List D} {vs : List V} (S : Sm Φ K H μ h) (r : Rps K H μ ds vs) (k : Kn Φ K H μ (h ++ [.lst ds]) (.at h.length) Q) (p : Addr) (hp : H p = none) : Q (.ref p) (upd H p (.lst vs)) := by
  have l : Le K H μ (upd H p (.lst vs)) (μ ++ [p]) := le_obj hp
  exact k (.ref p) (upd H p (.lst vs)) (μ ++ [p]) (S.obj hp ⟨vs, upd_same, Rps.mono l _ _ r⟩) l (rp_at (obj_at S rfl))
theorem kn_set {ds : List D} {vs : List V} {n : Nat} {a : Addr} {d : D} {v : V} (S : Sm Φ K H μ h) (e : μ[n]? = some a) (r : Rps K H μ ds vs) (rd : Rp K H μ d v) (k : Kn Φ K H μ (h.set n (.lst ds)) d Q) : Q v (upd H a (.lst vs)) := by
  have l : Le K H μ (upd H a (.lst vs)) μ := le_set S e
  exact k _ _ μ (S.set e ⟨vs, upd_same, Rps.mono l _ _ r⟩) l (Rp.mono l _ _ rd)
/-- a list's, a tuple's items -/
theorem Sm.lst {n : Nat} {xs : List D} {a : Addr} (S : Sm Φ K H μ h) (e : h[n]? = some (.lst xs)) (ea : μ[n]? = some a) : ∃ vs, H a = some (.lst vs) ∧ Rps K H μ xs vs := S.at ea e
end

/-- the items of a sequence -/
def seqD (h : Hd) : D → Option (List D)
  | .tup xs => some xs
  | .rol xs => some xs
  | .at n => match h[n]? with
    | some (.lst xs) => some xs
    | _ => none
  | _ => none
theorem seq_of {K : PySem.W.Frag} {H : Hp} {μ : List Addr} {h : Hd} {d : D} {v : V} {xs : List D} (S : Sm Φ K H μ h) (r : Rp K H μ d v) (e : seqD h d = some xs) :
    ∃ p vs, v = .ref p ∧ (SqL K H p vs ∨ SqT K H p vs) ∧ Rps K H μ xs vs := by
  unfold seqD at e
  split at e
  · cases e
    obtain ⟨p, vs, a, b, c⟩ := rp_tup' r
    exact ⟨p, vs, a, .inr b, c⟩
  · cases e
    obtain ⟨p, vs, a, b, c⟩ := rp_rol' r
    exact ⟨p, vs, a, .inl b.l, c⟩
  · rename_i n
    split at e
    · rename_i ys q
      cases e
      obtain ⟨a, ea, rfl⟩ := rp_at' r
      obtain ⟨vs, b, c⟩ := S.lst q ea
      exact ⟨a, vs, rfl, .inl (.of b), c⟩
    · cases e
  · cases e
abbrev LN : Nat := 16777216
theorem ln_of {n : Nat} (h : n ≤ LN) : n ≤ sizeLine := by rw [sizeLine_eq]; exact h

/-! ### displays -/
section
variable {K : PySem.W.Frag} {X : Cx} {pos : Pos} {e : Expr} {es : List Expr} {te : TE} {ta : TA} {me : ME} {ma : MA}
def nilM : MA := fun _ h => some ([], h)
def consM (a : ME) (b : MA) : MA := fun sg h => match a sg h with
  | some (x, h1) => match b sg h1 with
    | some (xs, h2) => some (x :: xs, h2)
    | none => none
  | none => none
theorem da_nil (hK : X.K = K := by rfl) : DA K X [] tNil nilM := ⟨hK, pa_nil, fun {Φ} σ H μ sg h ds h' S r e Q k => by cases e; exact k [] H μ S Le.refl Rps.nil⟩
theorem sa_cons (ha : SE K te me) (hb : SA K ta ma) : SA K (tCons te ta) (consM me ma) := by
  intro Φ σ H μ sg h ds h' S rs e Q k
  unfold consM at e
  split at e
  · rename_i x h1 e1
    split at e
    · rename_i xs h2 e2
      cases e
      refine ha σ H μ sg h x h1 S rs e1 _ fun v H1 μ1 S1 l1 r1 => ?_
      refine hb σ H1 μ1 sg h1 xs _ S1 (rs.mono l1) e2 _ fun vs H2 μ2 S2 l2 r2 => ?_
      exact k _ H2 μ2 S2 (l1.trans l2) (Rps.cons (Rp.mono l2 _ _ r1) r2)
    · cases e
  · cases e
theorem da_cons (ha : DE K X e te me) (hb : DA K X es ta ma) (hs : starEach (e :: es) X.env = (false, eval e X.env) :: starEach es X.env := by rfl) : DA K X (e :: es) (tCons te ta) (consM me ma) := ⟨ha.k, pa_cons ha.p hb.p hs, sa_cons ha.s hb.s⟩
def tupM (a : MA) : ME := fun sg h => match a sg h with
  | some (xs, h1) => if xs.length ≤ LN then some (.tup xs, h1) else none
  | none => none
def lstM (a : MA) : ME := fun sg h => match a sg h with
  | some (xs, h1) => if xs.length ≤ LN then some (.at h1.length, h1 ++ [.lst xs]) else none
  | none => none
theorem de_tup {x1} (ha : DA K X es ta ma) : DE K X (.Tuple es x1 pos) (tTup ta) (tupM ma) := ⟨ha.k, pe_tup ha.p, by
  intro Φ σ H μ sg h d h' S rs e Q k
  unfold tupM at e
  split at e
  · rename_i xs h1 e1
    split at e
    · rename_i hz
      cases e
      refine ha.s σ H μ sg h xs _ S rs e1 _ fun vs H1 μ1 S1 l1 r1 => ⟨by rw [r1.len]; exact ln_of hz, fun p hp => kn_tup S1 r1 (fun v H2 μ2 S2 l2 r2 => k v H2 μ2 S2 (l1.trans l2) r2) p hp⟩
    · cases e
  · cases e⟩
theorem de_lst (ha : DA K X es ta ma) : DE K X (.List es pos) (tLst ta) (lstM ma) := ⟨ha.k, pe_lst ha.p, by
  intro Φ σ H μ sg h d h' S rs e Q k
  unfold lstM at e
  split at e
  · rename_i xs h1 e1
    split at e
    · rename_i hz
      cases e
      refine ha.s σ H μ sg h xs _ S rs e1 _ fun vs H1 μ1 S1 l1 r1 => ⟨by rw [r1.len]; exact ln_of hz, fun p hp => kn_lst S1 r1 (fun v H2 μ2 S2 l2 r2 => k v H2 μ2 S2 (l1.trans l2) r2) p hp⟩
    · cases e
  · cases e⟩
end

/-! ### truth, and, or, not, if -/
def truD (h : Hd) : D → Option Bool
  | .non => some false
  | .bl b => some b
  | .int i => some (i != 0)
  | .str s => if s.length ≤ LN then some ((s.length : Int) != 0) else none
  | .tup xs => some (!xs.isEmpty)
  | .rol xs => some (!xs.isEmpty)
  | .at n => match h[n]? with
    | some (.lst xs) => some (!xs.isEmpty)
    | some (.dct kvs) => some (!kvs.isEmpty)
    | none => none
  | .ty _ => none
  | .ad _ => none
theorem emp_of {K : PySem.W.Frag} {H : Hp} {μ : List Addr} {ds : List D} {vs : List V} (r : Rps K H μ ds vs) : (!ds.isEmpty) = !vs.isEmpty := by
  cases ds with
  | nil => rw [r.nil']; rfl
  | cons d ds =>
    obtain ⟨v, vs', rfl, _, _⟩ := r.cons'
    rfl
theorem tru_of {K : PySem.W.Frag} {H : Hp} {μ : List Addr} {h : Hd} {d : D} {v : V} {b : Bool} (S : Sm Φ K H μ h) (r : Rp K H μ d v) (e : truD h d = some b) : TruV K v H b := by
  unfold truD at e
  split at e
  · cases e; rw [rp_non' r]; rfl
  · cases e; rw [rp_bl' r]; rfl
  · cases e; rw [rp_int' r]; rfl
  · split at e
    · rename_i hz
      cases e; rw [rp_str' r]; exact ⟨ln_of hz, rfl⟩
    · cases e
  · cases e
    obtain ⟨p, vs, rfl, b, c⟩ := rp_tup' r
    exact .inr (.inl ⟨vs, b, emp_of c⟩)
  · cases e
    obtain ⟨p, vs, rfl, b, c⟩ := rp_rol' r
    exact .inl ⟨vs, b.l, emp_of c⟩
  · rename_i n
    obtain ⟨a, ea, rfl⟩ := rp_at' r
    split at e
    · rename_i xs q
      cases e
      obtain ⟨vs, b, c⟩ := S.lst q ea
      exact .inl ⟨vs, .of b, emp_of c⟩
    · rename_i kvs q
      cases e
      obtain ⟨kw, b, c1, c2⟩ : Ok K H μ a (.dct kvs) := S.at ea q
      refine .inr (.inr ⟨kw, b, ?_⟩)
      cases kw <;> cases kvs <;> simp_all
    · cases e
  · cases e
  · cases e
section
variable {K : PySem.W.Frag} {X : Cx} {pos : Pos} {a b c : Expr} {rest : List Expr} {ta tb : TE} {ma mb : ME} {tA tB' : TT} {mA mB : MT}
def andM (a b : ME) : ME := fun sg h => match a sg h with
  | some (x, h1) => match truD h1 x with
    | some true => b sg h1
    | some false => some (x, h1)
    | none => none
  | none => none
def orM (a b : ME) : ME := fun sg h => match a sg h with
  | some (x, h1) => match truD h1 x with
    | some true => some (x, h1)
    | some false => b sg h1
    | none => none
  | none => none
def notM (a : ME) : ME := fun sg h => match a sg h with
  | some (x, h1) => match truD h1 x with
    | some b => some (.bl (!b), h1)
    | none => none
  | none => none
theorem de_one {op : BoolOp} (ha : DE K X a ta ma) : DE K X (.BoolOp op [a] pos) ta ma := ⟨ha.k, pe_one ha.p, ha.s⟩
theorem de_and (ha : DE K X a ta ma) (hb : DE K X (.BoolOp .And (b :: rest) pos) tb mb) : DE K X (.BoolOp .And (a :: b :: rest) pos) (tAndT K ta tb) (andM ma mb) := ⟨ha.k, by
  have hk := ha.k
  subst hk
  exact pe_andT ha.p hb.p, by
  intro Φ σ H μ sg h d h' S rs e Q k
  unfold andM at e
  split at e
  · rename_i x h1 e1
    refine ha.s σ H μ sg h x h1 S rs e1 _ fun v H1 μ1 S1 l1 r1 => ?_
    split at e
    · rename_i et
      exact ⟨true, tru_of S1 r1 et, iteT (hb.s σ H1 μ1 sg h1 d h' S1 (rs.mono l1) e Q fun u H2 μ2 S2 l2 r2 => k u H2 μ2 S2 (l1.trans l2) r2)⟩
    · rename_i et
      cases e
      exact ⟨false, tru_of S1 r1 et, iteF (k v H1 μ1 S1 l1 r1)⟩
    · cases e
  · cases e⟩
theorem de_or (ha : DE K X a ta ma) (hb : DE K X (.BoolOp .Or (b :: rest) pos) tb mb) : DE K X (.BoolOp .Or (a :: b :: rest) pos) (tOrT K ta tb) (orM ma mb) := ⟨ha.k, by
  have hk := ha.k
  subst hk
  exact pe_orT ha.p hb.p, by
  intro Φ σ H μ sg h d h' S rs e Q k
  unfold orM at e
  split at e
  · rename_i x h1 e1
    refine ha.s σ H μ sg h x h1 S rs e1 _ fun v H1 μ1 S1 l1 r1 => ?_
    split at e
    · rename_i et
      cases e
      exact ⟨true, tru_of S1 r1 et, iteT (k v H1 μ1 S1 l1 r1)⟩
    · rename_i et
      exact ⟨false, tru_of S1 r1 et, iteF (hb.s σ H1 μ1 sg h1 d h' S1 (rs.mono l1) e Q fun u H2 μ2 S2 l2 r2 => k u H2 μ2 S2 (l1.trans l2) r2)⟩
    · cases e
  · cases e⟩
theorem de_not (ha : DE K X a ta ma) : DE K X (.UnaryOp .Not a pos) (tNotT K ta) (notM ma) := ⟨ha.k, by
  have hk := ha.k
  subst hk
  exact pe_notT ha.p, by
  intro Φ σ H μ sg h d h' S rs e Q k
  unfold notM at e
  split at e
  · rename_i x h1 e1
    refine ha.s σ H μ sg h x h1 S rs e1 _ fun v H1 μ1 S1 l1 r1 => ?_
    split at e
    · rename_i b et
      cases e
      exact ⟨b, tru_of S1 r1 et, k _ H1 μ1 S1 l1 rp_bl⟩
    · cases e
  · cases e⟩
/-- tests -/
def truM (a : ME) : MT := fun sg h => match a sg h with
  | some (x, h1) => match truD h1 x with
    | some b => some (b, h1)
    | none => none
  | none => none
def tTru (K : PySem.W.Frag) (ta : TE) : TT := fun σ H Q => ta σ H fun x H' => ∃ k, TruV K x H' k ∧ Q k H'
theorem dt_tru (ha : DE K X a ta ma) (he : ∀ whole, isTrue a X.env whole = (do let v ← whole; standAt a.pos; holding [v] (truthy v)) := by intro _; rfl) : DT K X a (tTru K ta) (truM ma) := ⟨ha.k, by
  have hk := ha.k
  subst hk
  exact pt_truth ha.p he, by
  intro Φ σ H μ sg h d h' S rs e Q k
  unfold truM at e
  split at e
  · rename_i x h1 e1
    refine ha.s σ H μ sg h x h1 S rs e1 _ fun v H1 μ1 S1 l1 r1 => ?_
    split at e
    · rename_i b et
      cases e
      exact ⟨d, tru_of S1 r1 et, k H1 μ1 S1 l1⟩
    · cases e
  · cases e⟩
def tandM (a b : MT) : MT := fun sg h => match a sg h with
  | some (true, h1) => b sg h1
  | some (false, h1) => some (false, h1)
  | none => none
def torM (a b : MT) : MT := fun sg h => match a sg h with
  | some (true, h1) => some (true, h1)
  | some (false, h1) => b sg h1
  | none => none
def tnotM (a : MT) : MT := fun sg h => match a sg h with
  | some (b, h1) => some (!b, h1)
  | none => none
theorem dw_and1 (ha : DT K X a tA mA) : DW K X (.BoolOp .And [a] pos) tA mA := ⟨ha.k, pw_and1 ha.p, ha.s⟩
theorem dw_or1 (ha : DT K X a tA mA) : DW K X (.BoolOp .Or [a] pos) tA mA := ⟨ha.k, pw_or1 ha.p, ha.s⟩
theorem dw_and (ha : DT K X a tA mA) (hb : DW K X (.BoolOp .And (b :: rest) pos) tB' mB) : DW K X (.BoolOp .And (a :: b :: rest) pos) (tAnd tA tB') (tandM mA mB) := ⟨ha.k, pw_and ha.p hb.p, by
  intro Φ σ H μ sg h d h' S rs e Q k
  unfold tandM at e
  split at e
  · rename_i h1 e1
    exact ha.s σ H μ sg h _ h1 S rs e1 _ fun H1 μ1 S1 l1 => iteT (hb.s σ H1 μ1 sg h1 d h' S1 (rs.mono l1) e Q fun H2 μ2 S2 l2 => k H2 μ2 S2 (l1.trans l2))
  · rename_i h1 e1
    cases e
    exact ha.s σ H μ sg h _ _ S rs e1 _ fun H1 μ1 S1 l1 => iteF (k H1 μ1 S1 l1)
  · cases e⟩
theorem dw_or (ha : DT K X a tA mA) (hb : DW K X (.BoolOp .Or (b :: rest) pos) tB' mB) : DW K X (.BoolOp .Or (a :: b :: rest) pos) (tOr tA tB') (torM mA mB) := ⟨ha.k, pw_or ha.p hb.p, by
  intro Φ σ H μ sg h d h' S rs e Q k
  unfold torM at e
  split at e
  · rename_i h1 e1
    cases e
    exact ha.s σ H μ sg h _ _ S rs e1 _ fun H1 μ1 S1 l1 => iteT (k H1 μ1 S1 l1)
  · rename_i h1 e1
    exact ha.s σ H μ sg h _ h1 S rs e1 _ fun H1 μ1 S1 l1 => iteF (hb.s σ H1 μ1 sg h1 d h' S1 (rs.mono l1) e Q fun H2 μ2 S2 l2 => k H2 μ2 S2 (l1.trans l2))
  · cases e⟩
theorem dt_w (h : DW K X a tA mA) : DT K X a tA mA := ⟨h.k, h.p.pt, h.s⟩
theorem dt_not (ha : DT K X a tA mA) : DT K X (.UnaryOp .Not a pos) (tNot tA) (tnotM mA) := ⟨ha.k, pt_not ha.p, by
  intro Φ σ H μ sg h d h' S rs e Q k
  unfold tnotM at e
  split at e
  · rename_i b h1 e1
    cases e
    exact ha.s σ H μ sg h _ _ S rs e1 _ fun H1 μ1 S1 l1 => k H1 μ1 S1 l1
  · cases e⟩
def ifM (c : MT) (a b : ME) : ME := fun sg h => match c sg h with
  | some (true, h1) => a sg h1
  | some (false, h1) => b sg h1
  | none => none
theorem de_if (hc : DT K X c tA mA) (ha : DE K X a ta ma) (hb : DE K X b tb mb) : DE K X (.IfExp c a b pos) (tIf tA ta tb) (ifM mA ma mb) := ⟨ha.k, pe_ifExp hc.p ha.p hb.p, by
  intro Φ σ H μ sg h d h' S rs e Q k
  unfold ifM at e
  split at e
  · rename_i h1 e1
    exact hc.s σ H μ sg h _ h1 S rs e1 _ fun H1 μ1 S1 l1 => iteT (ha.s σ H1 μ1 sg h1 d h' S1 (rs.mono l1) e Q fun v H2 μ2 S2 l2 r2 => k v H2 μ2 S2 (l1.trans l2) r2)
  · rename_i h1 e1
    exact hc.s σ H μ sg h _ h1 S rs e1 _ fun H1 μ1 S1 l1 => iteF (hb.s σ H1 μ1 sg h1 d h' S1 (rs.mono l1) e Q fun v H2 μ2 S2 l2 r2 => k v H2 μ2 S2 (l1.trans l2) r2)
  · cases e⟩
end
end DL

/-! DL3: + - * // % ** -x, comparisons, ==, in. -/
namespace DL
open PySem L2 PySem.Spec PyProof.Rows

section
variable {K : PySem.W.Frag} {X : Cx}
/-! ### + -/
def addD : G2 := fun x y h => match x, y with
  | .int i, .int j => some (.int (i + j), h)
  | .str a, .str b => if a.length + b.length ≤ LN then some (.str (a ++ b), h) else none
  | .tup a, .tup b => if a.length + b.length ≤ LN then some (.tup (a ++ b), h) else none
  | .at a, .at b => match h[a]?, h[b]? with
    | some (.lst xs), some (.lst ys) => if xs.length + ys.length ≤ LN then some (.at h.length, h ++ [.lst (xs ++ ys)]) else none
    | _, _ => none
  | .rol xs, .at b => match h[b]? with
    | some (.lst ys) => if xs.length + ys.length ≤ LN then some (.at h.length, h ++ [.lst (xs ++ ys)]) else none
    | _ => none
  | _, _ => none
def rAddS : R2 := fun x y H Q => ∃ i j, x = .str i ∧ y = .str j ∧ i.length + j.length ≤ sizeLine ∧ Q (.str (i ++ j)) H
/-- list + list, also of one that nobody writes at -/
def rCatL (K : PySem.W.Frag) : R2 := fun x y H Q => ∃ l b xs zs, x = .ref l ∧ y = .ref b ∧ SqL K H l xs ∧ SqL K H b zs ∧ xs.length + zs.length ≤ sizeLine ∧ ∀ p, H p = none → Q (.ref p) (upd H p (.lst (xs ++ zs)))
theorem op_catL : OpR X (binaryOp .Add) (rCatL X.K) := by
  intro pins s σ H x y v u Q I rx ry h
  obtain ⟨l, b, xs, zs, rfl, rfl, hH, hB, hz, q⟩ := h
  cases rx
  cases ry
  obtain ⟨its, r, pl, h1⟩ := I.list hH
  obtain ⟨its2, r2, pl2, h2⟩ := I.list hB
  have hl := r.length
  have hl2 := r2.length
  obtain ⟨⟨cls, dd, data, sl⟩, ho, hc, n, hd⟩ := pl.isList
  obtain ⟨⟨cls2, dd2, data2, sl2⟩, ho2, hc2, n2, hd2⟩ := pl2.isList
  simp only at hc hd hc2 hd2
  subst hc hd hc2 hd2
  have e : its.toArray ++ its2.toArray = (its ++ its2).toArray := by simp
  refine concat_meets ⟨_, ho, rfl⟩ ⟨_, ho2, rfl⟩ noFill_list_add seq_list_add PySem.F.slot_list_add PySem.F.entry_list_add (PySem.F.args_list_add_2 _ _) (list_addW l b its.toArray its2.toArray n n2 dd dd2 sl sl2 (by simp only [List.size_toArray]; omega)) ⟨ho, ho2, ?_⟩
  rw [e]
  exact ⟨.ref _, _, I.lnew (t' := s.toks) (r.append r2) (by rw [List.length_append]; omega), rfl, q _ I.fresh⟩
def rAddU (K : PySem.W.Frag) : R2 := fun x y H Q => rI0 (fun i j => .int (i + j)) x y H Q ∨ rAddS x y H Q ∨ rCatA K x y H Q ∨ rCatL K x y H Q
theorem op_addU (hK : X.K = K := by rfl) : OpR X (binaryOp .Add) (rAddU K) := by
  subst hK
  exact op_add.or (OpR.or (r := rAddS) op_add_str (op_catA.or op_catL))
theorem so_add : SO K (rAddU K) addD := by
  intro Φ H μ h x y v w d h' S r1 r2 e Q k
  unfold addD at e
  split at e
  · cases e
    exact .inl ⟨_, _, rp_int' r1, rp_int' r2, k _ H μ S Le.refl rp_int⟩
  · split at e
    · rename_i hz
      cases e
      exact .inr (.inl ⟨_, _, rp_str' r1, rp_str' r2, ln_of hz, k _ H μ S Le.refl rp_str⟩)
    · cases e
  · split at e
    · rename_i a b hz
      cases e
      obtain ⟨p, vs, rfl, q1, q2⟩ := rp_tup' r1
      obtain ⟨p2, vs2, rfl, q3, q4⟩ := rp_tup' r2
      refine .inr (.inr (.inl ⟨p, p2, vs, vs2, rfl, rfl, q1, q3, by rw [q2.len, q4.len]; exact ln_of hz, fun z => ?_, fun z z2 => ?_, fun z z2 p3 hp => ?_⟩))
      · subst z
        have ha : a = [] := by
          cases a with
          | nil => rfl
          | cons a1 a2 => obtain ⟨_, _, z, _⟩ := q2.cons'; cases z
        subst ha
        exact k _ H μ S Le.refl r2
      · subst z2
        have hb : b = [] := by
          cases b with
          | nil => rfl
          | cons a1 a2 => obtain ⟨_, _, z, _⟩ := q4.cons'; cases z
        subst hb
        exact k _ H μ S Le.refl (by rw [List.append_nil]; exact r1)
      · exact kn_tup S (q2.app q4) k p3 hp
    · cases e
  · split at e
    · rename_i a b xs ys e1 e2
      split at e
      · rename_i hz
        cases e
        obtain ⟨p, ea, rfl⟩ := rp_at' r1
        obtain ⟨p2, eb, rfl⟩ := rp_at' r2
        obtain ⟨vs, q1, q2⟩ := S.lst e1 ea
        obtain ⟨vs2, q3, q4⟩ := S.lst e2 eb
        exact .inr (.inr (.inr ⟨p, p2, vs, vs2, rfl, rfl, .of q1, .of q3, by rw [q2.len, q4.len]; exact ln_of hz, fun p3 hp => kn_lst S (q2.app q4) k p3 hp⟩))
      · cases e
    · cases e
  · split at e
    · rename_i xs b ys e2
      split at e
      · rename_i hz
        cases e
        obtain ⟨p, vs, rfl, q1, q2⟩ := rp_rol' r1
        obtain ⟨p2, eb, rfl⟩ := rp_at' r2
        obtain ⟨vs2, q3, q4⟩ := S.lst e2 eb
        exact .inr (.inr (.inr ⟨p, p2, vs, vs2, rfl, rfl, q1.l, .of q3, by rw [q2.len, q4.len]; exact ln_of hz, fun p3 hp => kn_lst S (q2.app q4) k p3 hp⟩))
      · cases e
    · cases e
  · cases e
/-! ### ints: - * // % ** -/
def subD : G2 := fun x y h => match x, y with
  | .int i, .int j => some (.int (i - j), h)
  | _, _ => none
theorem so_sub : SO K (rI0 fun i j => .int (i - j)) subD := by
  intro Φ H μ h x y v w d h' S r1 r2 e Q k
  unfold subD at e
  split at e
  · cases e
    exact ⟨_, _, rp_int' r1, rp_int' r2, k _ H μ S Le.refl rp_int⟩
  · cases e
/-- the text x, n times -/
def repS (x : Str) (n : Nat) : Str := ⟨(List.replicate n x.cps.toList).flatten.toArray⟩
def rMulS : R2 := fun x y H Q => ∃ (z : Str) (n : Int), x = .str z ∧ y = .int n ∧ 0 ≤ n ∧ n ≤ 1000000 ∧ z.length * n.toNat ≤ LN ∧ Q (.str (repS z n.toNat)) H
theorem foldl_repN (l : List Nat) : ∀ (k : Nat) (acc : List Nat), List.foldl (fun x1 x2 => x1 ++ x2) acc.toArray (List.replicate k l.toArray) = (acc ++ (List.replicate k l).flatten).toArray
  | 0, acc => by simp
  | k + 1, acc => by
    have e : acc.toArray ++ l.toArray = (acc ++ l).toArray := by simp
    have e2 : (acc ++ l) ++ (List.replicate k l).flatten = acc ++ (List.replicate (k + 1) l).flatten := by
      rw [List.replicate_succ, List.flatten_cons, List.append_assoc]
    rw [← e2, ← foldl_repN l k (acc ++ l), ← e, List.replicate_succ, List.foldl_cons]
theorem op_mulS : OpR X (binaryOp .Mult) rMulS := by
  intro pins s σ H x y v u Q I rx ry h
  obtain ⟨z, n, rfl, rfl, h0, h1, hz, q⟩ := h
  obtain ⟨t, rfl⟩ := rx
  obtain ⟨t', rfl⟩ := ry
  refine P.mul_str (by
      have h2 : ¬ n ≥ 2 ^ 63 := by omega
      have h3 : ¬ n < -(2 ^ 63 : Int) := by omega
      rw [decide_eq_false h2, decide_eq_false h3]; rfl) (fun c1 _ => ?_) (fun _ _ => ?_) ?_
  · have hp : 0 < n := by omega
    have : (z.length : Int) * n ≤ 2 ^ 63 - 1 := by
      have e : (z.length : Int) * n = ((z.length * n.toNat : Nat) : Int) := by
        rw [Int.natCast_mul]
        congr 1
        omega
      rw [e]
      have : (z.length * n.toNat : Nat) ≤ 16777216 := hz
      omega
    have := (Int.le_ediv_iff_mul_le hp).mpr this
    omega
  · unfold Builtin.Str.tooLong
    have : (z.length * n.toNat : Nat) ≤ sizeLine := ln_of hz
    exact decide_eq_false (by omega)
  · obtain ⟨⟨l⟩⟩ := z
    by_cases c1 : n < 1
    · rw [if_pos c1]
      have hn : n.toNat = 0 := by omega
      refine ⟨by decide, .str (repS ⟨⟨l⟩⟩ n.toNat), H, I.tok _, ⟨s.toks, ?_⟩, q⟩
      rw [hn]
      rfl
    · rw [if_neg c1]
      by_cases c2 : (n == 1 || (⟨⟨l⟩⟩ : Str).length == 0) = true
      · rw [if_pos c2]
        refine ⟨.str (repS ⟨⟨l⟩⟩ n.toNat), H, I, ⟨t, ?_⟩, q⟩
        have e : repS ⟨⟨l⟩⟩ n.toNat = ⟨⟨l⟩⟩ := by
          unfold repS
          rcases Bool.or_eq_true _ _ ▸ c2 with c | c
          · have : n.toNat = 1 := by
              have := eq_of_beq c
              omega
            rw [this]
            simp
          · have hl : l = [] := by
              have := eq_of_beq c
              simpa [Str.length] using this
            subst hl
            simp
        rw [e]
      · rw [if_neg c2]
        refine ⟨?_, .str (repS ⟨⟨l⟩⟩ n.toNat), H, I.tok _, ⟨s.toks, ?_⟩, q⟩
        · refine PySem.fits_reps ?_
          unfold Builtin.Str.tooLong
          have := ln_of hz
          exact decide_eq_false (by omega)
        · have := foldl_repN l n.toNat []
          rw [List.nil_append] at this
          unfold repS
          rw [← this]
def mulD : G2 := fun x y h => match x, y with
  | .int i, .int j => if (-(2 ^ 64) < i ∧ i < 2 ^ 64) ∨ (-(2 ^ 64) < j ∧ j < 2 ^ 64) ∨ i.natAbs.log2 + j.natAbs.log2 < 1000000 then some (.int (i * j), h) else none
  | .str z, .int n => if 0 ≤ n ∧ n ≤ 1000000 ∧ z.length * n.toNat ≤ LN then some (.str (repS z n.toNat), h) else none
  | .at a, .int n => match h[a]? with
    | some (.lst xs) => if 0 ≤ n ∧ n ≤ 1000000 ∧ xs.length * n.toNat ≤ LN then some (.at h.length, h ++ [.lst (List.replicate n.toNat xs).flatten]) else none
    | _ => none
  | .tup xs, .int n => if xs ≠ [] ∧ 2 ≤ n ∧ n ≤ 1000 ∧ xs.length ≤ 1000 then some (.tup (List.replicate n.toNat xs).flatten, h) else none
  | _, _ => none
def rMulU (K : PySem.W.Frag) : R2 := fun x y H Q => rI CMul (fun i j => .int (i * j)) x y H Q ∨ rI CMulW (fun i j => .int (i * j)) x y H Q ∨ rMulS x y H Q ∨ rRep x y H Q ∨ rRepT K x y H Q
theorem op_mulU (hK : X.K = K := by rfl) : OpR X (binaryOp .Mult) (rMulU K) := by
  subst hK
  exact op_mul.or (op_mulW.or (op_mulS.or (op_rep.or op_repT)))
theorem Rps.rep {H : Hp} {μ : List Addr} {ds : List D} {vs : List V} (r : Rps K H μ ds vs) : ∀ n : Nat, Rps K H μ (List.replicate n ds).flatten (List.replicate n vs).flatten
  | 0 => Rps.nil
  | n + 1 => by
    rw [List.replicate_succ, List.replicate_succ, List.flatten_cons, List.flatten_cons]
    exact r.app (Rps.rep r n)
theorem so_mul : SO K (rMulU K) mulD := by
  intro Φ H μ h x y v w d h' S r1 r2 e Q k
  unfold mulD at e
  split at e
  · split at e
    · rename_i c
      cases e
      rcases c with c | c | c
      · exact .inl ⟨_, _, rp_int' r1, rp_int' r2, .inl c, k _ H μ S Le.refl rp_int⟩
      · exact .inl ⟨_, _, rp_int' r1, rp_int' r2, .inr c, k _ H μ S Le.refl rp_int⟩
      · exact .inr (.inl ⟨_, _, rp_int' r1, rp_int' r2, c, k _ H μ S Le.refl rp_int⟩)
    · cases e
  · split at e
    · rename_i c
      cases e
      exact .inr (.inr (.inl ⟨_, _, rp_str' r1, rp_int' r2, c.1, c.2.1, c.2.2, k _ H μ S Le.refl rp_str⟩))
    · cases e
  · split at e
    · rename_i e1
      split at e
      · rename_i c
        cases e
        obtain ⟨p, ea, rfl⟩ := rp_at' r1
        obtain ⟨vs, q1, q2⟩ := S.lst e1 ea
        exact .inr (.inr (.inr (.inl ⟨p, _, vs, rfl, rp_int' r2, q1, by omega, by omega, by rw [q2.len]; exact ln_of c.2.2, fun p3 hp => kn_lst S (q2.rep _) k p3 hp⟩)))
      · cases e
    · cases e
  · split at e
    · rename_i xs n c
      cases e
      obtain ⟨p, vs, rfl, q1, q2⟩ := rp_tup' r1
      refine .inr (.inr (.inr (.inr ⟨p, _, vs, rfl, rp_int' r2, q1, fun z => ?_, c.2.1, c.2.2.1, by rw [q2.len]; exact c.2.2.2, fun p3 hp => kn_tup S (q2.rep _) k p3 hp⟩)))
      subst z
      exact c.1 (by
        cases xs with
        | nil => rfl
        | cons a1 a2 => obtain ⟨_, _, z, _⟩ := q2.cons'; cases z)
    · cases e
  · cases e
def fdivD : G2 := fun x y h => match x, y with
  | .int i, .int j => if 0 < j ∧ j.natAbs.log2 < 9000 then some (.int (i / j), h) else none
  | _, _ => none
theorem so_fdiv : SO K (rI CDivW fun i j => .int (i / j)) fdivD := by
  intro Φ H μ h x y v w d h' S r1 r2 e Q k
  unfold fdivD at e
  split at e
  · split at e
    · rename_i c
      cases e
      exact ⟨_, _, rp_int' r1, rp_int' r2, c, k _ H μ S Le.refl rp_int⟩
    · cases e
  · cases e
def modD : G2 := fun x y h => match x, y with
  | .int i, .int j => if 0 < j then some (.int (i % j), h) else none
  | _, _ => none
theorem so_mod : SO K (rI (fun _ j => 0 < j) fun i j => .int (i % j)) modD := by
  intro Φ H μ h x y v w d h' S r1 r2 e Q k
  unfold modD at e
  split at e
  · split at e
    · rename_i c
      cases e
      exact ⟨_, _, rp_int' r1, rp_int' r2, c, k _ H μ S Le.refl rp_int⟩
    · cases e
  · cases e
def CPowW (i j : Int) : Prop := 0 ≤ j ∧ (Builtin.Int.intBits i : Int) * j ≤ 2 ^ 27
theorem op_powW : OpR X (binaryOp .Pow) (rI CPowW fun i j => .int (i ^ j.toNat)) := opI fun _ _ _ _ _ _ _ hc q => pow_int hc.1 hc.2 q
def powD : G2 := fun x y h => match x, y with
  | .int i, .int j => if 0 ≤ j ∧ (Builtin.Int.intBits i : Int) * j ≤ 2 ^ 27 then some (.int (i ^ j.toNat), h) else none
  | _, _ => none
theorem so_pow : SO K (rI CPowW fun i j => .int (i ^ j.toNat)) powD := by
  intro Φ H μ h x y v w d h' S r1 r2 e Q k
  unfold powD at e
  split at e
  · split at e
    · rename_i c
      cases e
      exact ⟨_, _, rp_int' r1, rp_int' r2, c, k _ H μ S Le.refl rp_int⟩
    · cases e
  · cases e
def negM (a : ME) : ME := fun sg h => match a sg h with
  | some (.int i, h1) => some (.int (-i), h1)
  | _ => none
theorem de_neg {pos : Pos} {a : Expr} {ta : TE} {ma : ME} (ha : DE K X a ta ma) : DE K X (.UnaryOp .USub a pos) (tUn (rU fun i => .int (-i)) ta) (negM ma) := ⟨ha.k, pe_un un_neg ha.p, by
  intro Φ σ H μ sg h d h' S rs e Q k
  unfold negM at e
  split at e
  · rename_i i h1 e1
    cases e
    exact ha.s σ H μ sg h _ _ S rs e1 _ fun v H1 μ1 S1 l1 r1 => ⟨_, rp_int' r1, k _ H1 μ1 S1 l1 rp_int⟩
  · cases e⟩
/-! ### < <= > >= -/
def ltS (a b : Str) : Bool := decide (a.cps.toList < b.cps.toList)
def ltD : G2 := fun x y h => match x, y with
  | .int i, .int j => some (.bl (decide (i < j)), h)
  | .str a, .str b => some (.bl (ltS a b), h)
  | _, _ => none
def leD : G2 := fun x y h => match x, y with
  | .int i, .int j => some (.bl (decide (i ≤ j)), h)
  | .str a, .str b => some (.bl (!ltS b a), h)
  | _, _ => none
def gtD : G2 := fun x y h => match x, y with
  | .int i, .int j => some (.bl (decide (j < i)), h)
  | .str a, .str b => some (.bl (ltS b a), h)
  | _, _ => none
def geD : G2 := fun x y h => match x, y with
  | .int i, .int j => some (.bl (decide (j ≤ i)), h)
  | .str a, .str b => some (.bl (!ltS a b), h)
  | _, _ => none
def rCmpS (g : Str → Str → Bool) : R2 := fun x y H Q => ∃ i j, x = .str i ∧ y = .str j ∧ Q (.bl (g i j)) H
def rCmpU (p : Int → Int → Bool) (g : Str → Str → Bool) : R2 := fun x y H Q => rI0 (fun i j => .bl (p i j)) x y H Q ∨ rCmpS g x y H Q
abbrev rLtU := rCmpU (fun i j => decide (i < j)) ltS
abbrev rLeU := rCmpU (fun i j => decide (i ≤ j)) fun a b => !ltS b a
abbrev rGtU := rCmpU (fun i j => decide (j < i)) fun a b => ltS b a
abbrev rGeU := rCmpU (fun i j => decide (j ≤ i)) fun a b => !ltS a b
theorem op_ltU : OpR X (compareOp .Lt) rLtU := op_lt.or (fun pins s σ H x y v u Q I a b c => op_lt_str pins s σ H x y v u Q I a b c)
theorem op_leU : OpR X (compareOp .LtE) rLeU := op_le.or (fun pins s σ H x y v u Q I a b c => op_le_str pins s σ H x y v u Q I a b c)
theorem op_gtU : OpR X (compareOp .Gt) rGtU := op_gt.or (fun pins s σ H x y v u Q I a b c => op_gt_str pins s σ H x y v u Q I a b c)
theorem op_geU : OpR X (compareOp .GtE) rGeU := op_ge.or (fun pins s σ H x y v u Q I a b c => op_ge_str pins s σ H x y v u Q I a b c)
theorem so_lt : SO K rLtU ltD := by
  intro Φ H μ h x y v w d h' S r1 r2 e Q k
  unfold ltD at e
  split at e
  · cases e; exact .inl ⟨_, _, rp_int' r1, rp_int' r2, k _ H μ S Le.refl rp_bl⟩
  · cases e; exact .inr ⟨_, _, rp_str' r1, rp_str' r2, k _ H μ S Le.refl rp_bl⟩
  · cases e
theorem so_le : SO K rLeU leD := by
  intro Φ H μ h x y v w d h' S r1 r2 e Q k
  unfold leD at e
  split at e
  · cases e; exact .inl ⟨_, _, rp_int' r1, rp_int' r2, k _ H μ S Le.refl rp_bl⟩
  · cases e; exact .inr ⟨_, _, rp_str' r1, rp_str' r2, k _ H μ S Le.refl rp_bl⟩
  · cases e
theorem so_gt : SO K rGtU gtD := by
  intro Φ H μ h x y v w d h' S r1 r2 e Q k
  unfold gtD at e
  split at e
  · cases e; exact .inl ⟨_, _, rp_int' r1, rp_int' r2, k _ H μ S Le.refl rp_bl⟩
  · cases e; exact .inr ⟨_, _, rp_str' r1, rp_str' r2, k _ H μ S Le.refl rp_bl⟩
  · cases e
theorem so_ge : SO K rGeU geD := by
  intro Φ H μ h x y v w d h' S r1 r2 e Q k
  unfold geD at e
  split at e
  · cases e; exact .inl ⟨_, _, rp_int' r1, rp_int' r2, k _ H μ S Le.refl rp_bl⟩
  · cases e; exact .inr ⟨_, _, rp_str' r1, rp_str' r2, k _ H μ S Le.refl rp_bl⟩
  · cases e
/-! ### == != -/
mutual
def toP (r : Nat → Option PyData) : D → Option PyData
  | .non => some .none
  | .bl b => some (.bool b)
  | .int i => some (.int i)
  | .str s => some (.str s)
  | .ty _ => none
  | .ad _ => none
  | .tup xs => match toPs r xs with
    | some ps => some (.tuple ps)
    | none => none
  | .rol xs => match toPs r xs with
    | some ps => some (.list ps)
    | none => none
  | .at n => r n
def toPs (r : Nat → Option PyData) : List D → Option (List PyData)
  | [] => some []
  | d :: ds => match toP r d with
    | some p => match toPs r ds with
      | some ps => some (p :: ps)
      | none => none
    | none => none
end
def rP : Nat → Hd → Nat → Option PyData
  | 0, _, _ => none
  | k + 1, h, n => match h[n]? with
    | some (.lst xs) => match toPs (rP k h) xs with
      | some ps => some (.list ps)
      | none => none
    | _ => none
mutual
theorem dp_of {H : Hp} {μ : List Addr} {r : Nat → Option PyData} (hr : ∀ n a p, μ[n]? = some a → r n = some p → Dp K H (.ref a) p) : ∀ (d : D) (v : V) (p : PyData), Rp K H μ d v → toP r d = some p → Dp K H v p
  | .non, v, p, h, e => by
    unfold toP at e
    cases e; rw [rp_non' h]; exact .non
  | .bl b, v, p, h, e => by
    unfold toP at e
    cases e; rw [rp_bl' h]; exact .bl b
  | .int b, v, p, h, e => by
    unfold toP at e
    cases e; rw [rp_int' h]; exact .int b
  | .str b, v, p, h, e => by
    unfold toP at e
    cases e; rw [rp_str' h]; exact .str b
  | .ty b, v, p, h, e => by
    unfold toP at e
    cases e
  | .ad b, v, p, h, e => by
    unfold toP at e
    cases e
  | .tup xs, v, p, h, e => by
    unfold toP at e
    split at e
    · rename_i ps q
      cases e
      obtain ⟨a, vs, rfl, b, c⟩ := rp_tup' h
      exact .tup b (dps_of hr xs vs ps c q)
    · cases e
  | .rol xs, v, p, h, e => by
    unfold toP at e
    split at e
    · rename_i ps q
      cases e
      obtain ⟨a, vs, rfl, b, c⟩ := rp_rol' h
      exact .lst b.l (dps_of hr xs vs ps c q)
    · cases e
  | .at n, v, p, h, e => by
    unfold toP at e
    obtain ⟨a, ea, rfl⟩ := rp_at' h
    exact hr n a p ea e
theorem dps_of {H : Hp} {μ : List Addr} {r : Nat → Option PyData} (hr : ∀ n a p, μ[n]? = some a → r n = some p → Dp K H (.ref a) p) : ∀ (ds : List D) (vs : List V) (ps : List PyData), Rps K H μ ds vs → toPs r ds = some ps → DpAll K H vs ps
  | [], vs, ps, h, e => by
    unfold toPs at e
    cases e; rw [h.nil']; exact .nil
  | d :: ds, vs, ps, h, e => by
    unfold toPs at e
    obtain ⟨v, vs', rfl, a, b⟩ := h.cons'
    split at e
    · rename_i p q
      split at e
      · rename_i ps' q'
        cases e
        exact .cons (dp_of hr d v p a q) (dps_of hr ds vs' ps' b q')
      · cases e
    · cases e
end
theorem rp_dp {H : Hp} {μ : List Addr} {h : Hd} (S : Sm Φ K H μ h) : ∀ (k n : Nat) (a : Addr) (p : PyData), μ[n]? = some a → rP k h n = some p → Dp K H (.ref a) p
  | 0, n, a, p, e, q => by
    unfold rP at q
    cases q
  | k + 1, n, a, p, e, q => by
    unfold rP at q
    split at q
    · rename_i xs e1
      split at q
      · rename_i ps e2
        cases q
        obtain ⟨vs, b, c⟩ := S.lst e1 e
        exact .lst (.of b) (dps_of (rp_dp S k) xs vs ps c e2)
      · cases q
    · cases q
def datD (h : Hd) (d : D) : Option PyData := toP (rP 3 h) d
theorem dat_of {H : Hp} {μ : List Addr} {h : Hd} {d : D} {v : V} {p : PyData} (S : Sm Φ K H μ h) (r : Rp K H μ d v) (e : datD h d = some p) : Dp K H v p := dp_of (rp_dp S 3) d v p r e
def rEqM (K : PySem.W.Frag) : R2 := fun x y H Q => (∃ d e, Dp K H x d ∧ Dp K H y e ∧ d.canLay0 = true ∧ e.canLay0 = true ∧ min d.depth e.depth ≤ 64 ∧ Q (.bl (PyData.eqv d e)) H) ∨ ∃ (a b : Addr) (xs ys : List V), x = .ref a ∧ y = .ref b ∧ SqL K H a xs ∧ SqL K H b ys ∧ xs.length ≠ ys.length ∧ Q (.bl false) H
def rNeM (K : PySem.W.Frag) : R2 := fun x y H Q => (∃ d e, Dp K H x d ∧ Dp K H y e ∧ d.canLay0 = true ∧ e.canLay0 = true ∧ min d.depth e.depth ≤ 64 ∧ Q (.bl (!PyData.eqv d e)) H) ∨ ∃ (a b : Addr) (xs ys : List V), x = .ref a ∧ y = .ref b ∧ SqL K H a xs ∧ SqL K H b ys ∧ xs.length ≠ ys.length ∧ Q (.bl true) H
theorem op_eqU (hu : X.A.units + 64 < cLine) (hK : X.K = K := by rfl) : OpR X (compareOp .Eq) (rEqM K) := by
  subst hK
  intro pins s σ H x y v u Q I rx ry h
  obtain ⟨d, e, hd, he, sd, se, hm, q⟩ | ⟨a, b, xs, ys, rfl, rfl, ha, hb, hl, q⟩ := h
  · obtain ⟨as, r1⟩ := Dp.reads I d x v hd rx
    obtain ⟨bs, r2⟩ := Dp.reads I e y u he ry
    exact SeqAt.compareEq_reads r1 r2 sd se (by omega) ⟨.bl _, H, I, rfl, q⟩
  · cases rx
    cases ry
    obtain ⟨is, rv, ⟨o, n, ho, hc, _, hd⟩, _⟩ := I.list ha
    obtain ⟨js, rw', ⟨o', n', ho', hc', _, hd'⟩, _⟩ := I.list hb
    have l1 := rv.length
    have l2 := rw'.length
    exact SeqAt.RcAt.lists_lengths ⟨_, ho, hc, _, hd⟩ ⟨_, ho', hc', _, hd'⟩ (by simp; omega) (by omega) _ _ _ _ ⟨.bl _, H, I, rfl, q⟩
theorem op_neU (hu : X.A.units + 64 < cLine) (hK : X.K = K := by rfl) : OpR X (compareOp .NotEq) (rNeM K) := by
  subst hK
  intro pins s σ H x y v u Q I rx ry h
  obtain ⟨d, e, hd, he, sd, se, hm, q⟩ | ⟨a, b, xs, ys, rfl, rfl, ha, hb, hl, q⟩ := h
  · obtain ⟨as, r1⟩ := Dp.reads I d x v hd rx
    obtain ⟨bs, r2⟩ := Dp.reads I e y u he ry
    exact SeqAt.compareNe_reads r1 r2 sd se (by omega) ⟨.bl _, H, I, rfl, q⟩
  · cases rx
    cases ry
    obtain ⟨is, rv, ⟨o, n, ho, hc, _, hd⟩, _⟩ := I.list ha
    obtain ⟨js, rw', ⟨o', n', ho', hc', _, hd'⟩, _⟩ := I.list hb
    have l1 := rv.length
    have l2 := rw'.length
    exact SeqAt.RcNeAt.lists_lengths ⟨_, ho, hc, _, hd⟩ ⟨_, ho', hc', _, hd'⟩ (by simp; omega) (by omega) _ _ _ _ ⟨.bl _, H, I, rfl, q⟩
/-- two lists of unlike lengths -/
def offD (h : Hd) : D → D → Bool
  | .at n, .at m => match h[n]?, h[m]? with
    | some (.lst xs), some (.lst ys) => decide (xs.length ≠ ys.length)
    | _, _ => false
  | _, _ => false
theorem off_of {Φ : Hp} {K : PySem.W.Frag} {H : Hp} {μ : List Addr} {h : Hd} {x y : D} {v w : V} (S : Sm Φ K H μ h) (r1 : Rp K H μ x v) (r2 : Rp K H μ y w) (e : offD h x y = true) : ∃ (a b : Addr) (xs ys : List V), v = .ref a ∧ w = .ref b ∧ SqL K H a xs ∧ SqL K H b ys ∧ xs.length ≠ ys.length := by
  unfold offD at e
  split at e
  · split at e
    · rename_i xs ys e1 e2
      obtain ⟨a, ea, rfl⟩ := rp_at' r1
      obtain ⟨b, eb, rfl⟩ := rp_at' r2
      obtain ⟨us, hu, ru⟩ := S.lst e1 ea
      obtain ⟨ws, hw, rw'⟩ := S.lst e2 eb
      have l1 := ru.len
      have l2 := rw'.len
      have := of_decide_eq_true e
      exact ⟨a, b, us, ws, rfl, rfl, SqL.of hu, SqL.of hw, by omega⟩
    · cases e
  · cases e
def eqD : G2 := fun x y h => match datD h x, datD h y with
  | some p, some q => if p.canLay0 = true ∧ q.canLay0 = true ∧ min p.depth q.depth ≤ 64 then some (.bl (PyData.eqv p q), h) else none
  | _, _ => if offD h x y = true then some (.bl false, h) else none
def neD : G2 := fun x y h => match datD h x, datD h y with
  | some p, some q => if p.canLay0 = true ∧ q.canLay0 = true ∧ min p.depth q.depth ≤ 64 then some (.bl (!PyData.eqv p q), h) else none
  | _, _ => if offD h x y = true then some (.bl true, h) else none
theorem so_eq : SO K (rEqM K) eqD := by
  intro Φ H μ h x y v w d h' S r1 r2 e Q k
  unfold eqD at e
  split at e
  · rename_i p q e1 e2
    split at e
    · rename_i c
      cases e
      exact .inl ⟨p, q, dat_of S r1 e1, dat_of S r2 e2, c.1, c.2.1, c.2.2, k _ H μ S Le.refl rp_bl⟩
    · cases e
  · split at e
    · rename_i c
      cases e
      obtain ⟨a, b, xs, ys, rfl, rfl, h1, h2, h3⟩ := off_of S r1 r2 c
      exact .inr ⟨a, b, xs, ys, rfl, rfl, h1, h2, h3, k _ H μ S Le.refl rp_bl⟩
    · cases e
theorem so_ne : SO K (rNeM K) neD := by
  intro Φ H μ h x y v w d h' S r1 r2 e Q k
  unfold neD at e
  split at e
  · rename_i p q e1 e2
    split at e
    · rename_i c
      cases e
      exact .inl ⟨p, q, dat_of S r1 e1, dat_of S r2 e2, c.1, c.2.1, c.2.2, k _ H μ S Le.refl rp_bl⟩
    · cases e
  · split at e
    · rename_i c
      cases e
      obtain ⟨a, b, xs, ys, rfl, rfl, h1, h2, h3⟩ := off_of S r1 r2 c
      exact .inr ⟨a, b, xs, ys, rfl, rfl, h1, h2, h3, k _ H μ S Le.refl rp_bl⟩
    · cases e
end
/-! ### in, not in: a sign in a text, a flat thing in a sequence -/
def flD : D → Option V
  | .non => some .non
  | .bl b => some (.bl b)
  | .int i => some (.int i)
  | .str s => some (.str s)
  | _ => none
def flDs : List D → Option (List V)
  | [] => some []
  | d :: ds => match flD d, flDs ds with
    | some v, some vs => some (v :: vs)
    | _, _ => none
theorem fl_of {K : PySem.W.Frag} {H : Hp} {μ : List Addr} {d : D} {v u : V} (r : Rp K H μ d v) (e : flD d = some u) : v = u ∧ flatV u = true := by
  unfold flD at e
  split at e <;> cases e
  · exact ⟨rp_non' r, rfl⟩
  · exact ⟨rp_bl' r, rfl⟩
  · exact ⟨rp_int' r, rfl⟩
  · exact ⟨rp_str' r, rfl⟩
theorem fls_of {K : PySem.W.Frag} {H : Hp} {μ : List Addr} : ∀ {ds : List D} {vs us : List V}, Rps K H μ ds vs → flDs ds = some us → vs = us ∧ us.all flatV = true
  | [], vs, us, r, e => by
    unfold flDs at e
    cases e
    exact ⟨r.nil', rfl⟩
  | d :: ds, vs, us, r, e => by
    unfold flDs at e
    obtain ⟨v, vs', rfl, a, b⟩ := r.cons'
    split at e
    · rename_i u us' e1 e2
      cases e
      obtain ⟨rfl, q1⟩ := fl_of a e1
      obtain ⟨rfl, q2⟩ := fls_of b e2
      exact ⟨rfl, by rw [List.all_cons, q1, q2]; rfl⟩
    · cases e
def inD (neg : Bool) : G2 := fun x y h => match y with
  | .str z => match x with
    | .str ⟨⟨[c]⟩⟩ => some (.bl (neg ^^ decide (c ∈ z.cps.toList)), h)
    | _ => none
  | y => match seqD h y with
    | some ys => match flD x, flDs ys with
      | some v, some vs => some (.bl (neg ^^ inV v vs), h)
      | _, _ => none
    | none => none
def rInSg (neg : Bool) : R2 := fun x y H Q => ∃ (c : Nat) (z : Str), x = .str ⟨#[c]⟩ ∧ y = .str z ∧ Q (.bl (neg ^^ decide (c ∈ z.cps.toList))) H
def rInU (K : PySem.W.Frag) (neg : Bool) : R2 := fun x y H Q => rInSg neg x y H Q ∨ rIn K neg x y H Q
section
variable {K : PySem.W.Frag} {X : Cx}
theorem op_inU (hK : X.K = K := by rfl) : OpR X (compareOp .In) (rInU K false) := by
  subst hK
  refine OpR.or (r := rInSg false) (fun pins s σ H x y v u Q I a b c => ?_) op_in_seq
  obtain ⟨c, z, h1, h2, q⟩ := c
  exact op_in_sign pins s σ H x y v u Q I a b ⟨c, z, h1, h2, by simpa using q⟩
theorem op_niU (hK : X.K = K := by rfl) : OpR X (compareOp .NotIn) (rInU K true) := by
  subst hK
  refine OpR.or (r := rInSg true) (fun pins s σ H x y v u Q I a b c => ?_) op_notIn_seq
  obtain ⟨c, z, h1, h2, q⟩ := c
  exact op_notIn_sign pins s σ H x y v u Q I a b ⟨c, z, h1, h2, by simpa using q⟩
theorem so_in (neg : Bool) : SO K (rInU K neg) (inD neg) := by
  intro Φ H μ h x y v w d h' S r1 r2 e Q k
  unfold inD at e
  split at e
  · split at e
    · cases e
      exact .inl ⟨_, _, rp_str' r1, rp_str' r2, k _ H μ S Le.refl rp_bl⟩
    · cases e
  · split at e
    · rename_i ys e1
      split at e
      · rename_i a vs e2 e3
        cases e
        obtain ⟨p, ws, rfl, q1, q2⟩ := seq_of S r2 e1
        obtain ⟨rfl, f1⟩ := fl_of r1 e2
        obtain ⟨rfl, f2⟩ := fls_of q2 e3
        refine .inr ⟨p, _, rfl, q1, f1, f2, ?_⟩
        have : (if neg = true then !inV v ws else inV v ws) = (neg ^^ inV v ws) := by cases neg <;> simp
        rw [this]
        exact k _ H μ S Le.refl rp_bl
      · cases e
    · cases e
end
end DL

/-! DL4: subscripts, slices, built-ins, methods. -/
namespace DL
open PySem L2 PySem.Spec PyProof.Rows

theorem PE.or {X : Cx} {e : Expr} {t u : TE} (h : PE X e t) (h' : PE X e u) : PE X e (fun σ H Q => t σ H Q ∨ u σ H Q) :=
  ⟨fun pins s σ H Q I q => q.elim (h.run pins s σ H Q I) (h'.run pins s σ H Q I)⟩

/-! ### dicts -/
def valD (kvs : List (Key × D)) (k : Key) : Option D := (kvs.find? fun kv => decide (kv.1 = k)).map (·.2)
def putD (kvs : List (Key × D)) (k : Key) (d : D) : List (Key × D) :=
  if (kvs.any fun kv => decide (kv.1 = k)) = true then kvs.map (fun kv => if kv.1 = k then (kv.1, d) else kv) else kvs ++ [(k, d)]
def keyD : D → Option Key
  | .int i => some (.inl i)
  | .str s => some (.inr s)
  | _ => none
section
variable {K : PySem.W.Frag} {H : Hp} {μ : List Addr}
theorem key_of {d : D} {v : V} {k : Key} (r : Rp K H μ d v) (e : keyD d = some k) : v = kV k := by
  unfold keyD at e
  split at e <;> cases e
  · exact rp_int' r
  · exact rp_str' r
/-- the pairs of a dict stand for those of another -/
def Rkv (K : PySem.W.Frag) (H : Hp) (μ : List Addr) (kvs : List (Key × D)) (kw : List (Key × V)) : Prop := kw.map (·.1) = kvs.map (·.1) ∧ Rps K H μ (kvs.map (·.2)) (kw.map (·.2))
theorem Rkv.nil : Rkv K H μ [] [] := ⟨rfl, Rps.nil⟩
theorem Rkv.nil' {kw : List (Key × V)} (r : Rkv K H μ [] kw) : kw = [] := by
  have := r.1
  simpa using this
theorem Rkv.cons' {k : Key} {d : D} {kvs : List (Key × D)} {kw : List (Key × V)} (r : Rkv K H μ ((k, d) :: kvs) kw) : ∃ v kw', kw = (k, v) :: kw' ∧ Rp K H μ d v ∧ Rkv K H μ kvs kw' := by
  obtain ⟨a, b⟩ := r
  cases kw with
  | nil => simp at a
  | cons p kw' =>
    obtain ⟨k', v⟩ := p
    simp only [List.map_cons, List.cons.injEq] at a b
    obtain ⟨w, ws, e, c1, c2⟩ := b.cons'
    cases e
    obtain ⟨rfl, a2⟩ := a
    exact ⟨v, kw', rfl, c1, a2, c2⟩
theorem Rkv.cons {k : Key} {d : D} {v : V} {kvs : List (Key × D)} {kw : List (Key × V)} (a : Rp K H μ d v) (r : Rkv K H μ kvs kw) : Rkv K H μ ((k, d) :: kvs) ((k, v) :: kw) :=
  ⟨by simp [r.1], Rps.cons a r.2⟩
theorem Rkv.val {k : Key} : ∀ {kvs : List (Key × D)} {kw : List (Key × V)}, Rkv K H μ kvs kw → (valD kvs k = none ∧ valV kw k = none) ∨ ∃ d v, valD kvs k = some d ∧ valV kw k = some v ∧ Rp K H μ d v
  | [], kw, r => by rw [r.nil']; exact .inl ⟨rfl, rfl⟩
  | (k', d) :: kvs, kw, r => by
    obtain ⟨v, kw', rfl, a, b⟩ := r.cons'
    by_cases e : k' = k
    · refine .inr ⟨d, v, ?_, valV_pos e, a⟩
      simp [valD, List.find?_cons, e]
    · rw [valV_neg (by exact e)]
      have : valD ((k', d) :: kvs) k = valD kvs k := by simp [valD, List.find?_cons, e]
      rw [this]
      exact Rkv.val b
theorem Rkv.any {k : Key} : ∀ {kvs : List (Key × D)} {kw : List (Key × V)}, Rkv K H μ kvs kw → (kvs.any fun kv => decide (kv.1 = k)) = (kw.any fun kv => decide (kv.1 = k))
  | [], kw, r => by rw [r.nil']; rfl
  | (k', d) :: kvs, kw, r => by
    obtain ⟨v, kw', rfl, a, b⟩ := r.cons'
    rw [List.any_cons, List.any_cons, Rkv.any b]
theorem Rkv.mapPut {k : Key} {d : D} {v : V} (a : Rp K H μ d v) : ∀ {kvs : List (Key × D)} {kw : List (Key × V)}, Rkv K H μ kvs kw → Rkv K H μ (kvs.map fun kv => if kv.1 = k then (kv.1, d) else kv) (kw.map fun kv => if kv.1 = k then (kv.1, v) else kv)
  | [], kw, r => by rw [r.nil']; exact Rkv.nil
  | (k', d') :: kvs, kw, r => by
    obtain ⟨v', kw', rfl, b, c⟩ := r.cons'
    rw [List.map_cons, List.map_cons]
    by_cases e : k' = k
    · rw [if_pos (show (k', d').1 = k from e), if_pos (show (k', v').1 = k from e)]
      exact Rkv.cons a (Rkv.mapPut a c)
    · rw [if_neg (show ¬ (k', d').1 = k from e), if_neg (show ¬ (k', v').1 = k from e)]
      exact Rkv.cons b (Rkv.mapPut a c)
theorem Rkv.app : ∀ {kvs kvs2 : List (Key × D)} {kw kw2 : List (Key × V)}, Rkv K H μ kvs kw → Rkv K H μ kvs2 kw2 → Rkv K H μ (kvs ++ kvs2) (kw ++ kw2)
  | [], kvs2, kw, kw2, r, q => by rw [r.nil']; exact q
  | (k', d') :: kvs, kvs2, kw, kw2, r, q => by
    obtain ⟨v', kw', rfl, b, c⟩ := r.cons'
    exact Rkv.cons b (Rkv.app c q)
theorem Rkv.put {k : Key} {d : D} {v : V} {kvs : List (Key × D)} {kw : List (Key × V)} (r : Rkv K H μ kvs kw) (a : Rp K H μ d v) : Rkv K H μ (putD kvs k d) (putK kw k v) := by
  unfold putD putK
  rw [Rkv.any r]
  split
  · exact Rkv.mapPut a r
  · exact Rkv.app r (Rkv.cons a Rkv.nil)
theorem Rkv.len {kvs : List (Key × D)} {kw : List (Key × V)} (r : Rkv K H μ kvs kw) : kw.length = kvs.length := by
  have := congrArg List.length r.1
  simpa using this
theorem Sm.dct {h : Hd} {n : Nat} {kvs : List (Key × D)} {a : Addr} (S : Sm Φ K H μ h) (e : h[n]? = some (.dct kvs)) (ea : μ[n]? = some a) : ∃ kw, H a = some (.dK kw) ∧ Rkv K H μ kvs kw := S.at ea e
end

/-! ### subscripts -/
def isDct (h : Hd) : D → Bool
  | .at n => match h[n]? with
    | some (.dct _) => true
    | _ => false
  | _ => false
def subsD : G2 := fun x y h => match x, y with
  | .str z, .int i => if z.length ≤ LN then match atI z.cps.toList i with
    | some c => some (.str ⟨#[c]⟩, h)
    | none => none else none
  | x, y => match seqD h x with
    | some xs => match y with
      | .int i => match atI xs i with
        | some d => some (d, h)
        | none => none
      | _ => none
    | none => match x with
      | .at n => match h[n]? with
        | some (.dct kvs) => match keyD y with
          | some k => match valD kvs k with
            | some d => some (d, h)
            | none => none
          | none => none
        | _ => none
      | _ => none
section
variable {K : PySem.W.Frag} {X : Cx} {pos : Pos} {a b : Expr} {ta tb : TE} {ma mb : ME}
theorem ix_U (hK : X.K = K := by rfl) : IxR X (rIx K) := by subst hK; exact ix_seq
def tSub (K : PySem.W.Frag) (ta tb : TE) : TE := fun σ H Q => tOp (rIx K) ta tb σ H Q ∨ tDGet ta tb σ H Q
theorem atI_get {H : Hp} {μ : List Addr} {xs : List D} {vs : List V} {i : Int} {d : D} (r : Rps K H μ xs vs) (e : atI xs i = some d) : ∃ v, atI vs i = some v ∧ Rp K H μ d v := by
  unfold atI at e ⊢
  rw [r.len]
  cases q : ixN xs.length i with
  | none => rw [q] at e; cases e
  | some j =>
    rw [q] at e
    exact r.get e
theorem de_sub (ha : DE K X a ta ma) (hb : DE K X b tb mb) (hu : X.A.units + 1 < cLine) (hs : PlainIx b := by exact fun _ _ => rfl) (hs2 : NoSl b := by exact fun _ _ => rfl) : DE K X (.Subscript a b pos) (tSub K ta tb) (opM subsD ma mb) := ⟨ha.k, PE.or (pe_ix (ix_U ha.k) ha.p hb.p hs) (pe_dget hu ha.p hb.p hs2), by
  intro Φ σ H μ sg h d h' S rs e Q k
  unfold opM at e
  split at e
  · rename_i x h1 e1
    split at e
    · rename_i y h2 e2
      unfold subsD at e
      split at e
      · rename_i z i
        split at e
        · rename_i hz
          split at e
          · rename_i c q
            cases e
            refine .inl (ha.s σ H μ sg h _ h1 S rs e1 _ fun v H1 μ1 S1 l1 r1 => ?_)
            refine hb.s σ H1 μ1 sg h1 _ _ S1 (rs.mono l1) e2 _ fun w H2 μ2 S2 l2 r2 => ?_
            exact .inr (.inr ⟨z, i, c, rp_str' r1, rp_int' r2, ln_of hz, q, k _ H2 μ2 S2 (l1.trans l2) rp_str⟩)
          · cases e
        · cases e
      · split at e
        · rename_i xs q1
          split at e
          · rename_i i _
            split at e
            · rename_i d1 q2
              cases e
              refine .inl (ha.s σ H μ sg h _ h1 S rs e1 _ fun v H1 μ1 S1 l1 r1 => ?_)
              refine hb.s σ H1 μ1 sg h1 _ _ S1 (rs.mono l1) e2 _ fun w H2 μ2 S2 l2 r2 => ?_
              obtain ⟨p, vs, rfl, c1, c2⟩ := seq_of S2 (Rp.mono l2 _ _ r1) q1
              obtain ⟨u, c3, c4⟩ := atI_get c2 q2
              rcases c1 with c1 | c1
              · exact .inl ⟨p, vs, i, u, rfl, rp_int' r2, c1, c3, k _ H2 μ2 S2 (l1.trans l2) c4⟩
              · exact .inr (.inl ⟨p, vs, i, u, rfl, rp_int' r2, c1, c3, k _ H2 μ2 S2 (l1.trans l2) c4⟩)
            · cases e
          · cases e
        · split at e
          · rename_i n
            split at e
            · rename_i kvs q2
              split at e
              · rename_i kk q3
                split at e
                · rename_i d1 q4
                  cases e
                  refine .inr (ha.s σ H μ sg h _ h1 S rs e1 _ fun v H1 μ1 S1 l1 r1 => ?_)
                  refine hb.s σ H1 μ1 sg h1 _ _ S1 (rs.mono l1) e2 _ fun w H2 μ2 S2 l2 r2 => ?_
                  obtain ⟨p, ep, rfl⟩ := rp_at' (Rp.mono l2 _ _ r1)
                  obtain ⟨kw, c1, c2⟩ := S2.dct q2 ep
                  rcases c2.val (k := kk) with ⟨z, _⟩ | ⟨d2, u, z1, z2, z3⟩
                  · rw [q4] at z; cases z
                  · rw [q4] at z1
                    cases z1
                    refine ⟨p, u, rfl, ?_, k _ H2 μ2 S2 (l1.trans l2) z3⟩
                    rw [key_of r2 q3, ← z2]
                    exact DGet.k c1
                · cases e
              · cases e
            · cases e
          · cases e
    · cases e
  · cases e⟩
end

/-! ### slices -/
abbrev MO := Sg → Hd → Option (Option Int × Hd)
def SOp (K : PySem.W.Frag) (t : TO) (m : MO) : Prop := ∀ {Φ : Hp} (σ : L2.St) (H : Hp) (μ : List Addr) (sg : Sg) (h : Hd) (o : Option Int) (h' : Hd), Sm Φ K H μ h → Rs K H μ sg σ → m sg h = some (o, h') → ∀ Q : Option Int → Hp → Prop,
  (∀ (H' : Hp) (μ' : List Addr), Sm Φ K H' μ' h' → Le K H μ H' μ' → Q o H') → t σ H Q
structure DO (K : PySem.W.Frag) (X : Cx) (e : Option Expr) (t : TO) (m : MO) : Prop where
  k : X.K = K
  p : PO X e t
  s : SOp K t m
def noM : MO := fun _ h => some (none, h)
def partM (a : ME) : MO := fun sg h => match a sg h with
  | some (.int i, h1) => some (some i, h1)
  | _ => none
def cutD (xs : List D) (lo hi : Option Int) : List D := (xs.drop (HT.sIx xs.length 0 lo)).take (HT.sIx xs.length xs.length hi - HT.sIx xs.length 0 lo)
def sliceD (x : D) (lo hi : Option Int) (h : Hd) : Option (D × Hd) := match x with
  | .str z => if z.length ≤ LN then some (.str (cutS z lo hi), h) else none
  | .tup xs => some (.tup (cutD xs lo hi), h)
  | .rol xs => some (.at h.length, h ++ [.lst (cutD xs lo hi)])
  | .at n => match h[n]? with
    | some (.lst xs) => some (.at h.length, h ++ [.lst (cutD xs lo hi)])
    | _ => none
  | _ => none
def slM (a : ME) (lo hi : MO) : ME := fun sg h => match a sg h with
  | some (x, h1) => match lo sg h1 with
    | some (l, h2) => match hi sg h2 with
      | some (u, h3) => sliceD x l u h3
      | none => none
    | none => none
  | none => none
def rSlU (K : PySem.W.Frag) : V → Option Int → Option Int → Hp → VK → Prop := fun x lo hi H Q => rSlA K x lo hi H Q ∨ rSlL K x lo hi H Q ∨ rSlS x lo hi H Q
section
variable {K : PySem.W.Frag} {X : Cx} {pos : Pos} {a : Expr} {ta : TE} {ma : ME} {lo hi : Option Expr} {tl th : TO} {ml mh : MO}
theorem do_none (hK : X.K = K := by rfl) : DO K X none tNoPart noM := ⟨hK, po_none, fun {Φ} σ H μ sg h o h' S rs e Q k => by cases e; exact k H μ S Le.refl⟩
theorem do_some (ha : DE K X a ta ma) : DO K X (some a) (tPart ta) (partM ma) := ⟨ha.k, po_some ha.p, by
  intro Φ σ H μ sg h o h' S rs e Q k
  unfold partM at e
  split at e
  · rename_i i h1 e1
    cases e
    exact ha.s σ H μ sg h _ _ S rs e1 _ fun v H1 μ1 S1 l1 r1 => ⟨i, rp_int' r1, k H1 μ1 S1 l1⟩
  · cases e⟩
theorem sl_U (hK : X.K = K := by rfl) : SlR X (rSlU K) := by subst hK; exact sl_tupA.or (sl_list.or sl_str)
theorem cut_of {H : Hp} {μ : List Addr} {xs : List D} {vs : List V} (r : Rps K H μ xs vs) (lo hi : Option Int) : Rps K H μ (cutD xs lo hi) (cutV vs lo hi) := by
  unfold cutD cutV
  rw [r.len]
  exact (r.drop _).take _
theorem de_slice {p2 : Pos} (ha : DE K X a ta ma) (hl : DO K X lo tl ml) (hh : DO K X hi th mh) : DE K X (.Subscript a (.Slice lo hi none p2) pos) (tSl (rSlU K) ta tl th) (slM ma ml mh) := ⟨ha.k, pe_slice (sl_U ha.k) ha.p hl.p hh.p, by
  intro Φ σ H μ sg h d h' S rs e Q k
  unfold slM at e
  split at e
  · rename_i x h1 e1
    split at e
    · rename_i l h2 e2
      split at e
      · rename_i u h3 e3
        refine ha.s σ H μ sg h x h1 S rs e1 _ fun v H1 μ1 S1 l1 r1 => ?_
        refine hl.s σ H1 μ1 sg h1 l h2 S1 (rs.mono l1) e2 _ fun H2 μ2 S2 l2 => ?_
        refine hh.s σ H2 μ2 sg h2 u h3 S2 (rs.mono (l1.trans l2)) e3 _ fun H3 μ3 S3 l3 => ?_
        have r3 := Rp.mono (l2.trans l3) _ _ r1
        have k3 : Kn Φ K H3 μ3 h' d Q := fun v H' μ' S' l' r' => k v H' μ' S' (((l1.trans l2).trans l3).trans l') r'
        unfold sliceD at e
        split at e
        · split at e
          · rename_i hz
            cases e
            exact .inr (.inr ⟨_, rp_str' r3, ln_of hz, k3 _ H3 μ3 S3 Le.refl rp_str⟩)
          · cases e
        · rename_i xs
          cases e
          obtain ⟨p, vs, rfl, c1, c2⟩ := rp_tup' r3
          refine .inl ⟨p, vs, rfl, c1, fun z => ?_, fun _ q hq => kn_tup S3 (cut_of c2 l u) k3 q hq⟩
          have : cutD xs l u = xs := by
            unfold cutD
            rw [c2.len] at z
            rw [z.1, z.2]
            simp
          rw [this] at k3
          exact k3 _ H3 μ3 S3 Le.refl r3
        · rename_i xs
          cases e
          obtain ⟨p, vs, rfl, c1, c2⟩ := rp_rol' r3
          exact .inr (.inl ⟨p, vs, rfl, c1.l, fun q hq => kn_lst S3 (cut_of c2 l u) k3 q hq⟩)
        · split at e
          · rename_i n _ xs q
            cases e
            obtain ⟨p, ep, rfl⟩ := rp_at' r3
            obtain ⟨vs, c1, c2⟩ := S3.lst q ep
            exact .inr (.inl ⟨p, vs, rfl, .of c1, fun q hq => kn_lst S3 (cut_of c2 l u) k3 q hq⟩)
          · cases e
        · cases e
      · cases e
    · cases e
  · cases e⟩
end
end DL

/-! DL5: calls of built-ins, methods of lists and dicts. -/
namespace DL
open PySem L2 PySem.Spec PyProof.Rows

/-! ### calls of built-ins by trees -/
abbrev GC := List D → Hd → Option (D × Hd)
def SC (K : PySem.W.Frag) (r : List V → Hp → VK → Prop) (g : GC) : Prop := ∀ {Φ : Hp} (H : Hp) (μ : List Addr) (h : Hd) (xs : List D) (vs : List V) (d : D) (h' : Hd), Sm Φ K H μ h → Rps K H μ xs vs → g xs h = some (d, h') → ∀ Q : VK, Kn Φ K H μ h' d Q → r vs H Q
def cbM (g : GC) (a : MA) : ME := fun sg h => match a sg h with
  | some (xs, h1) => g xs h1
  | none => none
section
variable {K : PySem.W.Frag} {X : Cx} {pos p : Pos} {e : Expr} {es : List Expr} {ta : TA} {ma : MA} {r : List V → Hp → VK → Prop} {g : GC}
theorem se_cb (hs : SC K r g) (ha : SA K ta ma) : SE K (tCB r ta) (cbM g ma) := by
  intro Φ σ H μ sg h d h' S rs e Q k
  unfold cbM at e
  split at e
  · rename_i xs h1 e1
    exact ha σ H μ sg h xs h1 S rs e1 _ fun vs H1 μ1 S1 l1 r1 => hs H1 μ1 h1 xs vs d h' S1 r1 e Q fun v H2 μ2 S2 l2 r2 => k v H2 μ2 S2 (l1.trans l2) r2
  · cases e
theorem de_callB {x : Str} {id : String} (hs : SC K r g) (hc : CallR X (.builtin id) r) (hm : X.mg x = none) (ha : DA K X (e :: es) ta ma) (hv : bootBuiltins x = some (.builtin id) := by decide +kernel) (hg : Gl X x := by rfl) (hn : x ≠ "__name__" := by decide) (hdb : (x == ("__debug__" : Str)) = false := by decide)
    (he : starEach (e :: es) X.env = (false, eval e X.env) :: starEach es X.env := by rfl) (hpl : (backTo pos (starEach es X.env)).any (·.1) = false := by rfl) : DE K X (.Call (.Name x p) (e :: es) [] pos) (tCB r ta) (cbM g ma) := ⟨ha.k, pe_callB hc hg hm hv ha.p hn hdb he hpl, se_cb hs ha.s⟩
theorem de_callTy {x : Str} {T : String} (hs : SC K r g) (hc : CallR X (.type T) r) (hm : X.mg x = none) (ha : DA K X (e :: es) ta ma) (hv : bootBuiltins x = some (.type T) := by decide +kernel) (hg : Gl X x := by rfl) (hn : x ≠ "__name__" := by decide) (hdb : (x == ("__debug__" : Str)) = false := by decide)
    (he : starEach (e :: es) X.env = (false, eval e X.env) :: starEach es X.env := by rfl) (hpl : (backTo pos (starEach es X.env)).any (·.1) = false := by rfl) : DE K X (.Call (.Name x p) (e :: es) [] pos) (tCB r ta) (cbM g ma) := ⟨ha.k, pe_callTy hc hg hm hv ha.p hn hdb he hpl, se_cb hs ha.s⟩
end
theorem rps1 {K : PySem.W.Frag} {H : Hp} {μ : List Addr} {d : D} {vs : List V} (r : Rps K H μ [d] vs) : ∃ v, vs = [v] ∧ Rp K H μ d v := by
  obtain ⟨v, vs', rfl, a, b⟩ := r.cons'
  rw [b.nil']
  exact ⟨v, rfl, a⟩
theorem rps2 {K : PySem.W.Frag} {H : Hp} {μ : List Addr} {d e : D} {vs : List V} (r : Rps K H μ [d, e] vs) : ∃ v w, vs = [v, w] ∧ Rp K H μ d v ∧ Rp K H μ e w := by
  obtain ⟨v, vs', rfl, a, b⟩ := r.cons'
  obtain ⟨w, rfl, c⟩ := rps1 b
  exact ⟨v, w, rfl, a, c⟩

section
variable {K : PySem.W.Frag} {X : Cx}
/-- len -/
def lenD : GC := fun xs h => match xs with
  | [.str s] => if s.length ≤ LN then some (.int s.length, h) else none
  | [.at n] => match h[n]? with
    | some (.lst ys) => some (.int ys.length, h)
    | some (.dct kvs) => some (.int kvs.length, h)
    | none => none
  | [.tup ys] => some (.int ys.length, h)
  | [.rol ys] => some (.int ys.length, h)
  | _ => none
def rLenA (K : PySem.W.Frag) : List V → Hp → VK → Prop := fun xs H Q => ∃ x n, xs = [x] ∧ LenV K x H n ∧ Q (.int n) H
def rLenDd : List V → Hp → VK → Prop := fun xs H Q => ∃ a kvs, xs = [V.ref a] ∧ H a = some (.dK kvs) ∧ Q (.int kvs.length) H
def rLenU (K : PySem.W.Frag) : List V → Hp → VK → Prop := fun xs H Q => rLenA K xs H Q ∨ rLenDd xs H Q
theorem call_lenU (hK : X.K = K := by rfl) : CallR X (.builtin "len") (rLenU K) := by
  subst hK
  exact CallR.or (r := rLenA X.K) (r' := rLenDd) call_len call_lenD
theorem sc_len : SC K (rLenU K) lenD := by
  intro Φ H μ h xs vs d h' S r e Q k
  unfold lenD at e
  split at e
  · split at e
    · rename_i hz
      cases e
      obtain ⟨v, rfl, a⟩ := rps1 r
      rw [rp_str' a]
      exact .inl ⟨_, _, rfl, ⟨ln_of hz, rfl⟩, k _ H μ S Le.refl rp_int⟩
    · cases e
  · obtain ⟨v, rfl, a⟩ := rps1 r
    obtain ⟨p, ep, rfl⟩ := rp_at' a
    split at e
    · rename_i ys q
      cases e
      obtain ⟨ws, b, c⟩ := S.lst q ep
      refine .inl ⟨_, _, rfl, .inl ⟨ws, .of b, rfl⟩, ?_⟩
      rw [c.len]
      exact k _ H μ S Le.refl rp_int
    · rename_i kvs q
      cases e
      obtain ⟨kw, b, c⟩ := S.dct q ep
      refine .inr ⟨p, kw, rfl, b, ?_⟩
      rw [c.len]
      exact k _ H μ S Le.refl rp_int
    · cases e
  · cases e
    obtain ⟨v, rfl, a⟩ := rps1 r
    obtain ⟨p, ws, rfl, b, c⟩ := rp_tup' a
    refine .inl ⟨_, _, rfl, .inr ⟨ws, b, rfl⟩, ?_⟩
    rw [c.len]
    exact k _ H μ S Le.refl rp_int
  · cases e
    obtain ⟨v, rfl, a⟩ := rps1 r
    obtain ⟨p, ws, rfl, b, c⟩ := rp_rol' a
    refine .inl ⟨_, _, rfl, .inl ⟨ws, b.l, rfl⟩, ?_⟩
    rw [c.len]
    exact k _ H μ S Le.refl rp_int
  · cases e
/-- abs, int, ord, min and max of two -/
def absD : GC := fun xs h => match xs with
  | [.int i] => some (.int (if i < 0 then -i else i), h)
  | _ => none
theorem sc_abs : SC K (fun xs H Q => ∃ i, xs = [.int i] ∧ Q (.int (if i < 0 then -i else i)) H) absD := by
  intro Φ H μ h xs vs d h' S r e Q k
  unfold absD at e
  split at e
  · cases e
    obtain ⟨v, rfl, a⟩ := rps1 r
    rw [rp_int' a]
    exact ⟨_, rfl, k _ H μ S Le.refl rp_int⟩
  · cases e
def intD : GC := fun xs h => match xs with
  | [.int i] => some (.int i, h)
  | [.bl b] => some (.int (if b then 1 else 0), h)
  | _ => none
theorem sc_int : SC K (fun xs H Q => (∃ i, xs = [.int i] ∧ Q (.int i) H) ∨ ∃ k, xs = [.bl k] ∧ Q (.int (if k then 1 else 0)) H) intD := by
  intro Φ H μ h xs vs d h' S r e Q k
  unfold intD at e
  split at e
  · cases e
    obtain ⟨v, rfl, a⟩ := rps1 r
    rw [rp_int' a]
    exact .inl ⟨_, rfl, k _ H μ S Le.refl rp_int⟩
  · cases e
    obtain ⟨v, rfl, a⟩ := rps1 r
    rw [rp_bl' a]
    exact .inr ⟨_, rfl, k _ H μ S Le.refl rp_int⟩
  · cases e
def ordD : GC := fun xs h => match xs with
  | [.str ⟨⟨[c]⟩⟩] => some (.int c, h)
  | _ => none
theorem sc_ord : SC K (fun xs H Q => ∃ x, xs = [.str x] ∧ x.length = 1 ∧ Q (.int (x.cps.getD 0 0 : Nat)) H) ordD := by
  intro Φ H μ h xs vs d h' S r e Q k
  unfold ordD at e
  split at e
  · cases e
    obtain ⟨v, rfl, a⟩ := rps1 r
    rw [rp_str' a]
    exact ⟨_, rfl, rfl, k _ H μ S Le.refl rp_int⟩
  · cases e
/-- all, any of a list of bools -/
def blsD : List D → Option (List Bool)
  | [] => some []
  | .bl b :: ds => match blsD ds with
    | some bs => some (b :: bs)
    | none => none
  | _ => none
theorem bls_of {H : Hp} {μ : List Addr} : ∀ {ds : List D} {vs : List V} {bs : List Bool}, Rps K H μ ds vs → blsD ds = some bs → vs = bs.map V.bl
  | [], vs, bs, r, e => by
    unfold blsD at e
    cases e
    exact r.nil'
  | .bl b :: ds, vs, bs, r, e => by
    unfold blsD at e
    obtain ⟨v, vs', rfl, a, c⟩ := r.cons'
    split at e
    · rename_i bs' q
      cases e
      rw [rp_bl' a, bls_of c q]
      rfl
    · cases e
  | .non :: ds, vs, bs, r, e => by unfold blsD at e; cases e
  | .int _ :: ds, vs, bs, r, e => by unfold blsD at e; cases e
  | .str _ :: ds, vs, bs, r, e => by unfold blsD at e; cases e
  | .ty _ :: ds, vs, bs, r, e => by unfold blsD at e; cases e
  | .ad _ :: ds, vs, bs, r, e => by unfold blsD at e; cases e
  | .tup _ :: ds, vs, bs, r, e => by unfold blsD at e; cases e
  | .rol _ :: ds, vs, bs, r, e => by unfold blsD at e; cases e
  | .at _ :: ds, vs, bs, r, e => by unfold blsD at e; cases e
def allD : GC := fun xs h => match xs with
  | [.at n] => match h[n]? with
    | some (.lst ys) => match blsD ys with
      | some bs => some (.bl (bs.all id), h)
      | none => none
    | _ => none
  | _ => none
theorem sc_all : SC K (rAll K) allD := by
  intro Φ H μ h xs vs d h' S r e Q k
  unfold allD at e
  split at e
  · split at e
    · rename_i ys q
      split at e
      · rename_i bs q2
        cases e
        obtain ⟨v, rfl, a⟩ := rps1 r
        obtain ⟨p, ep, rfl⟩ := rp_at' a
        obtain ⟨ws, b, c⟩ := S.lst q ep
        exact ⟨p, bs, rfl, by rw [← bls_of c q2]; exact .of b, k _ H μ S Le.refl rp_bl⟩
      · cases e
    · cases e
  · cases e
theorem call_allU (hK : X.K = K := by rfl) (hc : X.calm = true := by rfl) : CallR X (.builtin "all") (rAll K) := by subst hK; exact cr_all hc
/-- max, min: of two ints, of a list of ints -/
def intsD : List D → Option (List Int)
  | [] => some []
  | .int b :: ds => match intsD ds with
    | some bs => some (b :: bs)
    | none => none
  | _ => none
theorem ints_of {H : Hp} {μ : List Addr} : ∀ {ds : List D} {vs : List V} {bs : List Int}, Rps K H μ ds vs → intsD ds = some bs → vs = bs.map V.int
  | [], vs, bs, r, e => by
    unfold intsD at e
    cases e
    exact r.nil'
  | .int b :: ds, vs, bs, r, e => by
    unfold intsD at e
    obtain ⟨v, vs', rfl, a, c⟩ := r.cons'
    split at e
    · rename_i bs' q
      cases e
      rw [rp_int' a, ints_of c q]
      rfl
    · cases e
  | .non :: ds, vs, bs, r, e => by unfold intsD at e; cases e
  | .bl _ :: ds, vs, bs, r, e => by unfold intsD at e; cases e
  | .str _ :: ds, vs, bs, r, e => by unfold intsD at e; cases e
  | .ty _ :: ds, vs, bs, r, e => by unfold intsD at e; cases e
  | .ad _ :: ds, vs, bs, r, e => by unfold intsD at e; cases e
  | .tup _ :: ds, vs, bs, r, e => by unfold intsD at e; cases e
  | .rol _ :: ds, vs, bs, r, e => by unfold intsD at e; cases e
  | .at _ :: ds, vs, bs, r, e => by unfold intsD at e; cases e
def maxI : Int → List Int → Int
  | m, [] => m
  | m, x :: xs => maxI (if x > m then x else m) xs
theorem maxI_mem : ∀ (xs : List Int) (m : Int), maxI m xs ∈ m :: xs
  | [], m => by simp [maxI]
  | x :: xs, m => by
    unfold maxI
    have := maxI_mem xs (if x > m then x else m)
    by_cases c : x > m
    · rw [if_pos c] at this ⊢
      rcases List.mem_cons.mp this with q | q
      · rw [q]; simp
      · exact List.mem_cons_of_mem _ (List.mem_cons_of_mem _ q)
    · rw [if_neg c] at this ⊢
      rcases List.mem_cons.mp this with q | q
      · rw [q]; simp
      · exact List.mem_cons_of_mem _ (List.mem_cons_of_mem _ q)
theorem maxI_le : ∀ (xs : List Int) (m : Int), ∀ y ∈ m :: xs, y ≤ maxI m xs
  | [], m, y, h => by
    simp at h
    unfold maxI
    omega
  | x :: xs, m, y, h => by
    unfold maxI
    have q := maxI_le xs (if x > m then x else m)
    have q0 := q _ List.mem_cons_self
    rcases List.mem_cons.mp h with rfl | h
    · split at q0 <;> rename_i c
      · rw [if_pos c]; omega
      · rw [if_neg c]; omega
    · rcases List.mem_cons.mp h with rfl | h
      · split at q0 <;> rename_i c
        · rw [if_pos c]; omega
        · rw [if_neg c]; omega
      · exact q y (List.mem_cons_of_mem _ h)
def maxD : GC := fun xs h => match xs with
  | [.int i, .int j] => some (.int (if j > i then j else i), h)
  | [.at n] => match h[n]? with
    | some (.lst ys) => match intsD ys with
      | some (m :: ms) => some (.int (maxI m ms), h)
      | _ => none
    | _ => none
  | _ => none
def rMax2A : List V → Hp → VK → Prop := fun xs H Q => ∃ i j, xs = [.int i, .int j] ∧ Q (.int (if j > i then j else i)) H
def rMaxU (K : PySem.W.Frag) : List V → Hp → VK → Prop := fun xs H Q => rMax2A xs H Q ∨ rMax K xs H Q
theorem call_maxU (hK : X.K = K := by rfl) (hc : X.calm = true := by rfl) : CallR X (.builtin "max") (rMaxU K) := by
  subst hK
  exact CallR.or (r := rMax2A) (call_max2 hc) (cr_max hc)
theorem sc_max : SC K (rMaxU K) maxD := by
  intro Φ H μ h xs vs d h' S r e Q k
  unfold maxD at e
  split at e
  · cases e
    obtain ⟨v, w, rfl, a, b⟩ := rps2 r
    rw [rp_int' a, rp_int' b]
    exact .inl ⟨_, _, rfl, k _ H μ S Le.refl rp_int⟩
  · split at e
    · rename_i ys q
      split at e
      · rename_i m ms q2
        cases e
        obtain ⟨v, rfl, a⟩ := rps1 r
        obtain ⟨p, ep, rfl⟩ := rp_at' a
        obtain ⟨ws, b, c⟩ := S.lst q ep
        refine .inr ⟨p, m :: ms, rfl, by rw [← ints_of c q2]; exact .of b, by simp, fun z hz hm => ?_⟩
        have h1 := hm _ (maxI_mem ms m)
        have h2 := maxI_le ms m z hz
        have : z = maxI m ms := by omega
        rw [this]
        exact k _ H μ S Le.refl rp_int
      · cases e
    · cases e
  · cases e
def minD : GC := fun xs h => match xs with
  | [.int i, .int j] => some (.int (if j < i then j else i), h)
  | _ => none
theorem sc_min : SC K (fun xs H Q => ∃ i j, xs = [.int i, .int j] ∧ Q (.int (if j < i then j else i)) H) minD := by
  intro Φ H μ h xs vs d h' S r e Q k
  unfold minD at e
  split at e
  · cases e
    obtain ⟨v, w, rfl, a, b⟩ := rps2 r
    rw [rp_int' a, rp_int' b]
    exact ⟨_, _, rfl, k _ H μ S Le.refl rp_int⟩
  · cases e
/-- isinstance(x, T), T a built-in type -/
def kdD (h : Hd) : D → Option String
  | .non => some "NoneType"
  | .bl _ => some "bool"
  | .int _ => some "int"
  | .str _ => some "str"
  | .tup _ => some "tuple"
  | .rol _ => some "list"
  | .at n => match h[n]? with
    | some (.lst _) => some "list"
    | some (.dct _) => some "dict"
    | none => none
  | .ty _ => none
  | .ad _ => none
def isiD : GC := fun xs h => match xs with
  | [x, .ty T] => match kdD h x with
    | some k => match kitB k T with
      | some b => some (.bl b, h)
      | none => none
    | none => none
  | _ => none
theorem kd_of {H : Hp} {μ : List Addr} {h : Hd} {d : D} {v : V} {s : String} (S : Sm Φ K H μ h) (r : Rp K H μ d v) (e : kdD h d = some s) : TyX K H v (.type s) := by
  unfold kdD at e
  split at e
  · cases e; rw [rp_non' r]; exact .base .non
  · cases e; rw [rp_bl' r]; exact .base (.bl _)
  · cases e; rw [rp_int' r]; exact .base (.int _)
  · cases e; rw [rp_str' r]; exact .base (.str _)
  · cases e
    obtain ⟨p, ws, rfl, b, c⟩ := rp_tup' r
    rcases b with (b | ⟨ob, b⟩) | ⟨o, its, n, b, b2, _⟩
    · exact .base (.tup b)
    · exact .fTuple b
    · exact .kTuple b b2
  · cases e
    obtain ⟨p, ws, rfl, b, c⟩ := rp_rol' r
    rcases b with ⟨ob, b⟩ | ⟨o, its, n, b, b2, _⟩
    · exact .base (.frz b)
    · exact .kList b b2
  · obtain ⟨p, ep, rfl⟩ := rp_at' r
    split at e
    · rename_i ys q
      cases e
      obtain ⟨ws, b, c⟩ := S.lst q ep
      exact .base (.lst b)
    · rename_i ys q
      cases e
      obtain ⟨ws, b, c⟩ := S.dct q ep
      exact .base (.dK b)
    · cases e
  · cases e
  · cases e
theorem sc_isi : SC K (rIsi K) isiD := by
  intro Φ H μ h xs vs d h' S r e Q k
  unfold isiD at e
  split at e
  · split at e
    · rename_i kk q
      split at e
      · rename_i b q2
        cases e
        obtain ⟨v, w, rfl, a, c⟩ := rps2 r
        rw [rp_ty' c]
        exact ⟨v, _, _, _, b, rfl, .ty _, kd_of S a q, kit_ty q2, k _ H μ S Le.refl rp_bl⟩
      · cases e
    · cases e
  · cases e
theorem call_isiU (hK : X.K = K := by rfl) : CallR X (.builtin "isinstance") (rIsi K) := by subst hK; exact call_isi
/-- tuple(x), list(x) -/
def tuplD : GC := fun xs h => match xs with
  | [.tup ys] => some (.tup ys, h)
  | [.rol ys] => some (.tup ys, h)
  | [.at n] => match h[n]? with
    | some (.lst ys) => some (.tup ys, h)
    | _ => none
  | _ => none
def rTupl (K : PySem.W.Frag) : List V → Hp → VK → Prop := fun xs H Q => ∃ p ys, xs = [.ref p] ∧ ((SqL K H p ys ∧ ∀ l, H l = none → Q (.ref l) (upd H l (.tup ys))) ∨ (SqT K H p ys ∧ Q (.ref p) H))
theorem call_tuplU (hK : X.K = K := by rfl) : CallR X (.type "tuple") (rTupl K) := by subst hK; exact call_tuple_of
theorem sc_tupl : SC K (rTupl K) tuplD := by
  intro Φ H μ h xs vs d h' S r e Q k
  unfold tuplD at e
  split at e
  · cases e
    obtain ⟨v, rfl, a⟩ := rps1 r
    obtain ⟨p, ws, rfl, b, c⟩ := rp_tup' a
    exact ⟨p, ws, rfl, .inr ⟨b, k _ H μ S Le.refl a⟩⟩
  · cases e
    obtain ⟨v, rfl, a⟩ := rps1 r
    obtain ⟨p, ws, rfl, b, c⟩ := rp_rol' a
    exact ⟨p, ws, rfl, .inl ⟨b.l, fun l hl => kn_tup S c k l hl⟩⟩
  · split at e
    · rename_i ys q
      cases e
      obtain ⟨v, rfl, a⟩ := rps1 r
      obtain ⟨p, ep, rfl⟩ := rp_at' a
      obtain ⟨ws, b, c⟩ := S.lst q ep
      exact ⟨p, ws, rfl, .inl ⟨.of b, fun l hl => kn_tup S c k l hl⟩⟩
    · cases e
  · cases e
def kD : Key → D
  | .inl i => .int i
  | .inr s => .str s
theorem rps_keys {H : Hp} {μ : List Addr} : ∀ {kvs : List (Key × D)} {kw : List (Key × V)}, kw.map (·.1) = kvs.map (·.1) → Rps K H μ (kvs.map fun kv => kD kv.1) (kw.map fun kv => kV kv.1)
  | [], kw, e => by
    have : kw = [] := by simpa using e
    subst this
    exact Rps.nil
  | (k, d) :: kvs, [], e => by simp at e
  | (k, d) :: kvs, (k', v) :: kw, e => by
    simp only [List.map_cons, List.cons.injEq] at e
    obtain ⟨rfl, e⟩ := e
    refine Rps.cons ?_ (rps_keys e)
    cases k' with
    | inl i => exact rp_int
    | inr s => exact rp_str
def listD : GC := fun xs h => match xs with
  | [.tup ys] => some (.at h.length, h ++ [.lst ys])
  | [.rol ys] => some (.at h.length, h ++ [.lst ys])
  | [.at n] => match h[n]? with
    | some (.lst ys) => some (.at h.length, h ++ [.lst ys])
    | some (.dct kvs) => some (.at h.length, h ++ [.lst (kvs.map fun kv => kD kv.1)])
    | none => none
  | _ => none
def rListA (K : PySem.W.Frag) : List V → Hp → VK → Prop := fun xs H Q => ∃ p ys, xs = [.ref p] ∧ (SqL K H p ys ∨ SqT K H p ys) ∧ ∀ l, H l = none → Q (.ref l) (upd H l (.lst ys))
def rListU (K : PySem.W.Frag) : List V → Hp → VK → Prop := fun xs H Q => rListA K xs H Q ∨ rListD xs H Q
theorem call_listU (hK : X.K = K := by rfl) (hc : X.calm = true := by rfl) : CallR X (.type "list") (rListU K) := by
  subst hK
  exact CallR.or (r := rListA X.K) call_list_of (call_list_dK hc)
theorem sc_list : SC K (rListU K) listD := by
  intro Φ H μ h xs vs d h' S r e Q k
  unfold listD at e
  split at e
  · cases e
    obtain ⟨v, rfl, a⟩ := rps1 r
    obtain ⟨p, ws, rfl, b, c⟩ := rp_tup' a
    exact .inl ⟨p, ws, rfl, .inr b, fun l hl => kn_lst S c k l hl⟩
  · cases e
    obtain ⟨v, rfl, a⟩ := rps1 r
    obtain ⟨p, ws, rfl, b, c⟩ := rp_rol' a
    exact .inl ⟨p, ws, rfl, .inl b.l, fun l hl => kn_lst S c k l hl⟩
  · obtain ⟨v, rfl, a⟩ := rps1 r
    obtain ⟨p, ep, rfl⟩ := rp_at' a
    split at e
    · rename_i ys q
      cases e
      obtain ⟨ws, b, c⟩ := S.lst q ep
      exact .inl ⟨p, ws, rfl, .inl (.of b), fun l hl => kn_lst S c k l hl⟩
    · rename_i kvs q
      cases e
      obtain ⟨kw, b, c⟩ := S.dct q ep
      exact .inr ⟨p, kw, rfl, b, fun l hl => kn_lst S (rps_keys c.1) k l hl⟩
    · cases e
  · cases e
/-- dict(list of pairs) -/
def pairsD : List D → Option (List (Key × D))
  | [] => some []
  | .tup [a, b] :: ds => match keyD a, pairsD ds with
    | some k, some ps => some ((k, b) :: ps)
    | _, _ => none
  | _ => none
def mergeD (kvs more : List (Key × D)) : List (Key × D) := more.foldl (fun acc kv => putD acc kv.1 kv.2) kvs
theorem pairs_of {H : Hp} {μ : List Addr} : ∀ {ds : List D} {vs : List V} {ps : List (Key × D)}, Rps K H μ ds vs → pairsD ds = some ps →
    ∃ (as : List Addr) (kw : List (Key × V)), vs = as.map V.ref ∧ Paired (fun p kv => SqT K H p [kV kv.1, kv.2]) as kw ∧ Rkv K H μ ps kw := by
  intro ds
  induction ds with
  | nil =>
    intro vs ps r e
    unfold pairsD at e
    cases e
    exact ⟨[], [], r.nil', .nil, Rkv.nil⟩
  | cons d ds ih =>
    intro vs ps r e
    unfold pairsD at e
    split at e
    · rename_i heq; cases heq
    · rename_i a b ds' heq
      cases heq
      split at e
      · rename_i k ps' q1 q2
        cases e
        obtain ⟨v, vs', rfl, c1, c2⟩ := r.cons'
        obtain ⟨as, kw, rfl, c3, c4⟩ := ih c2 q2
        obtain ⟨p, ws, rfl, c5, c6⟩ := rp_tup' c1
        obtain ⟨u, w, rfl, c7, c8⟩ := rps2 c6
        rw [key_of c7 q1] at c5
        exact ⟨p :: as, (k, w) :: kw, rfl, .cons c5 c3, Rkv.cons c8 c4⟩
      · cases e
    · cases e
theorem Rkv.merge {H : Hp} {μ : List Addr} : ∀ {ps kvs : List (Key × D)} {kw kz : List (Key × V)}, Rkv K H μ ps kw → Rkv K H μ kvs kz → Rkv K H μ (mergeD kvs ps) (mergeK kz kw)
  | [], kvs, kw, kz, r, q => by rw [r.nil']; exact q
  | (k, d) :: ps, kvs, kw, kz, r, q => by
    obtain ⟨v, kw', rfl, a, b⟩ := r.cons'
    show Rkv K H μ (mergeD (putD kvs k d) ps) (mergeK (putK kz k v) kw')
    exact Rkv.merge b (q.put a)
def dictD : GC := fun xs h => match xs with
  | [.at n] => match h[n]? with
    | some (.lst ys) => match pairsD ys with
      | some ps => some (.at h.length, h ++ [.dct (mergeD [] ps)])
      | none => none
    | _ => none
  | _ => none
theorem kn_dct {H : Hp} {μ : List Addr} {h : Hd} {Q : VK} {kvs : List (Key × D)} {kw : List (Key × V)} (S : Sm Φ K H μ h) (r : Rkv K H μ kvs kw) (k : Kn Φ K H μ (h ++ [.dct kvs]) (.at h.length) Q) (p : Addr) (hp : H p = none) : Q (.ref p) (upd H p (.dK kw)) := by
  have l : Le K H μ (upd H p (.dK kw)) (μ ++ [p]) := le_obj hp
  exact k (.ref p) (upd H p (.dK kw)) (μ ++ [p]) (S.obj hp ⟨kw, upd_same, r.1, Rps.mono l _ _ r.2⟩) l (rp_at (obj_at S rfl))
def rDictP (K : PySem.W.Frag) : List V → Hp → VK → Prop := fun xs H Q => ∃ (a : Addr) (ps : List Addr) (kvs : List (Key × V)), xs = [.ref a] ∧ SqL K H a (ps.map V.ref) ∧ Paired (fun p kv => SqT K H p [kV kv.1, kv.2]) ps kvs ∧ ∀ p, H p = none → Q (.ref p) (upd H p (.dK (mergeK [] kvs)))
theorem call_dictU (hK : X.K = K := by rfl) (hc : X.calm = true := by rfl) : CallR X (.type "dict") (rDictP K) := by subst hK; exact call_dictP hc
theorem sc_dict : SC K (rDictP K) dictD := by
  intro Φ H μ h xs vs d h' S r e Q k
  unfold dictD at e
  split at e
  · split at e
    · rename_i ys q
      split at e
      · rename_i ps q2
        cases e
        obtain ⟨v, rfl, a⟩ := rps1 r
        obtain ⟨p, ep, rfl⟩ := rp_at' a
        obtain ⟨ws, b, c⟩ := S.lst q ep
        obtain ⟨as, kw, rfl, c3, c4⟩ := pairs_of c q2
        exact ⟨p, as, kw, rfl, .of b, c3, fun l hl => kn_dct S (Rkv.merge c4 Rkv.nil) k l hl⟩
      · cases e
    · cases e
  · cases e
end

/-! ### methods of lists -/
abbrev GM := D → List D → Hd → Option (D × Hd)
def SM (K : PySem.W.Frag) (r : V → List V → Hp → VK → Prop) (g : GM) : Prop := ∀ {Φ : Hp} (H : Hp) (μ : List Addr) (h : Hd) (x : D) (v : V) (xs : List D) (vs : List V) (d : D) (h' : Hd), Sm Φ K H μ h → Rp K H μ x v → Rps K H μ xs vs → g x xs h = some (d, h') → ∀ Q : VK, Kn Φ K H μ h' d Q → r v vs H Q
/-- the receiver's kind, seen ahead of the arguments -/
def kindD (T : String) (h : Hd) (x : D) : Bool := match x with
  | .str _ => T == "str"
  | .at n => match h[n]? with
    | some (.lst _) => T == "list"
    | some (.dct _) => T == "dict"
    | none => false
  | .rol _ => T == "list"
  | _ => false
theorem kind_of {K : PySem.W.Frag} {H : Hp} {μ : List Addr} {h : Hd} {T : String} {x : D} {v : V} (S : Sm Φ K H μ h) (r : Rp K H μ x v) (e : kindD T h x = true) : tyV K T v H := by
  unfold kindD at e
  split at e
  · rw [rp_str' r]
    exact eq_of_beq e
  · obtain ⟨p, ep, rfl⟩ := rp_at' r
    split at e
    · rename_i ys q
      obtain ⟨ws, b, c⟩ := S.lst q ep
      exact .inl ⟨eq_of_beq e, ws, .of b⟩
    · rename_i ys q
      obtain ⟨ws, b, c⟩ := S.dct q ep
      exact .inr (.inr (.inl ⟨eq_of_beq e, .inl ⟨ws, b⟩⟩))
    · cases e
  · obtain ⟨p, ws, rfl, b, c⟩ := rp_rol' r
    exact .inl ⟨eq_of_beq e, ws, b.l⟩
  · cases e
def bmM (T : String) (g : GM) (o : ME) (a : MA) : ME := fun sg h => match o sg h with
  | some (x, h1) => if kindD T h1 x = true then match a sg h1 with
    | some (xs, h2) => g x xs h2
    | none => none else none
  | none => none
section
variable {K : PySem.W.Frag} {X : Cx} {apos cpos : Pos} {o e : Expr} {es : List Expr} {to : TE} {mo : ME} {ta : TA} {ma : MA} {r : V → List V → Hp → VK → Prop} {g : GM} {T id : String} {name : Str}
theorem de_bm (hs : SM K r g) (pa : PlainAttrs T) (slot : Slot T name id) (hty : typeOf (.builtin id) = pure (.type "method_descriptor")) (hm : MtR X id r) (ho : DE K X o to mo) (ha : DA K X (e :: es) ta ma)
    (hbase : attributeBase o name X.env (eval o X.env) = eval o X.env := by rfl)
    (hfew : ((backTo cpos (starEach (e :: es) X.env)).all (fun x => !x.1) && (backToKw cpos (keywordEach [] X.env)).all (fun x => x.1.isSome)
      && decide ((e :: es).length + ([] : List Keyword).length + (if ([] : List Keyword).isEmpty then 0 else 1) < 30)) = true := by rfl)
    (hline : (apos.endLine == cpos.line) = true := by rfl) (hs1 : starEach (e :: es) X.env = (false, eval e X.env) :: starEach es X.env := by rfl) (hplain : (backTo cpos (starEach es X.env)).any (·.1) = false := by rfl) :
    DE K X (.Call (.Attribute o name apos) (e :: es) [] cpos) (tBM K T r to ta) (bmM T g mo ma) := ⟨ho.k, by
  have hk := ho.k
  subst hk
  exact pe_bm pa slot hty hm ho.p ha.p hbase hfew hline hs1 hplain, by
  intro Φ σ H μ sg h d h' S rs e Q k
  unfold bmM at e
  split at e
  · rename_i x h1 e1
    split at e
    · rename_i hk
      split at e
      · rename_i xs h2 e2
        refine ho.s σ H μ sg h x h1 S rs e1 _ fun v H1 μ1 S1 l1 r1 => ⟨kind_of S1 r1 hk, ?_⟩
        refine ha.s σ H1 μ1 sg h1 xs h2 S1 (rs.mono l1) e2 _ fun vs H2 μ2 S2 l2 r2 => ?_
        exact hs H2 μ2 h2 x v xs vs d h' S2 (Rp.mono l2 _ _ r1) r2 e Q fun v H3 μ3 S3 l3 r3 => k v H3 μ3 S3 ((l1.trans l2).trans l3) r3
      · cases e
    · cases e
  · cases e⟩
theorem de_bm0 (hs : SM K r g) (pa : PlainAttrs T) (slot : Slot T name id) (hty : typeOf (.builtin id) = pure (.type "method_descriptor")) (hm : MtR X id r) (ho : DE K X o to mo)
    (hbase : attributeBase o name X.env (eval o X.env) = eval o X.env := by rfl) (hline : (apos.endLine == cpos.line) = true := by rfl) :
    DE K X (.Call (.Attribute o name apos) [] [] cpos) (tBM0 K T r to) (bmM T g mo nilM) := ⟨ho.k, by
  have hk := ho.k
  subst hk
  exact pe_bm0 pa slot hty hm ho.p hbase hline, by
  intro Φ σ H μ sg h d h' S rs e Q k
  unfold bmM at e
  split at e
  · rename_i x h1 e1
    split at e
    · rename_i hk
      split at e
      · rename_i xs h2 e2
        cases e2
        refine ho.s σ H μ sg h x h1 S rs e1 _ fun v H1 μ1 S1 l1 r1 => ⟨kind_of S1 r1 hk, ?_⟩
        exact hs H1 μ1 h1 x v [] [] d h' S1 r1 Rps.nil e Q fun v H3 μ3 S3 l3 r3 => k v H3 μ3 S3 (l1.trans l3) r3
      · cases e
    · cases e
  · cases e⟩
def appendD : GM := fun x xs h => match x, xs with
  | .at n, [y] => match h[n]? with
    | some (.lst ys) => if ys.length < LN then some (.non, h.set n (.lst (ys ++ [y]))) else none
    | _ => none
  | _, _ => none
theorem ln_lt {n : Nat} (h : n < LN) : n < sizeLine := by rw [sizeLine_eq]; exact h
theorem sm_append : SM K rAppend appendD := by
  intro Φ H μ h x v xs vs d h' S r1 r2 e Q k
  unfold appendD at e
  split at e
  · split at e
    · rename_i ys q
      split at e
      · rename_i hz
        cases e
        obtain ⟨p, ep, rfl⟩ := rp_at' r1
        obtain ⟨w, rfl, a⟩ := rps1 r2
        obtain ⟨ws, b, c⟩ := S.lst q ep
        exact ⟨p, ws, w, rfl, rfl, b, by rw [c.len]; exact ln_lt hz, kn_set S ep (c.app (Rps.cons a Rps.nil)) rp_non k⟩
      · cases e
    · cases e
  · cases e
def popD : GM := fun x xs h => match x, xs with
  | .at n, [] => match h[n]? with
    | some (.lst ys) => match ys[ys.length - 1]? with
      | some y => some (y, h.set n (.lst ys.dropLast))
      | none => none
    | _ => none
  | _, _ => none
theorem Rps.dropLast {H : Hp} {μ : List Addr} {ds : List D} {vs : List V} (r : Rps K H μ ds vs) : Rps K H μ ds.dropLast vs.dropLast := by
  rw [List.dropLast_eq_take, List.dropLast_eq_take, r.len]
  exact r.take _
theorem sm_pop : SM K rPop popD := by
  intro Φ H μ h x v xs vs d h' S r1 r2 e Q k
  unfold popD at e
  split at e
  · split at e
    · rename_i ys q
      split at e
      · rename_i y q2
        cases e
        obtain ⟨p, ep, rfl⟩ := rp_at' r1
        obtain ⟨ws, b, c⟩ := S.lst q ep
        obtain ⟨w, c1, c2⟩ := c.get q2
        exact ⟨p, ws, w, rfl, r2.nil', b, by rw [c.len]; exact c1, kn_set S ep c.dropLast c2 k⟩
      · cases e
    · cases e
  · cases e
end
end DL

namespace PySem
open Sem Builtin
theorem list_extend_list_tup (l : Addr) (items : Array Value) (n : Nat) (b : Addr) (items2 : Array Value) (n2 : Nat) (dd : Option Addr) (sl : Array (Option Value)) (hs0 : ¬(!items.isEmpty && Builtin.List.listTooLong (items.size + items2.size)) = true) (hs1 : items.size ≤ sizeLine) (hs2 : items.size + items2.size ≤ sizeLine + 1) :
    Meets (Builtin.«list.extend» ⟨[.ref l, .ref b], []⟩) (fun _ R s => s.heap.get? l = some { cls := .type "list", dict := none, data := .seq items n, slots := #[] } ∧ s.heap.get? b = some { cls := .type "tuple", dict := dd, data := .seq items2 n2, slots := sl } ∧ R (.ok (.ret Value.none)) { s with heap := s.heap.update l (Obj.mapSeq fun x => x ++ items2), toks := s.toks }) :=
  .of_wp fun prog w A R s h => by
    obtain ⟨hp, g, d, tk, os⟩ := s; obtain ⟨hl, hb, h⟩ := h; have f1 := AutoSeq1.idx_int; have f2 := AutoSeq1.sub_tuple_tuple; have f3 := AutoSeq1.sub_list_list; have f4 := AutoSeq1.sub_tuple_list; have f5 := AutoSeq1.sub_list_tuple;
    have hz' : (items ++ items2).size ≤ sizeLine + 1 := by rw [Array.size_append]; exact hs2
    wp_walk using (wpAny_updateSeq hl rfl (hz := hs1) (_hz' := hz')), wpAny_loadPart' hl, wpAny_loadPart' hb; exact ⟨_, rfl, h⟩
end PySem
namespace DL
open PySem L2 PySem.Spec PyProof.Rows
section
variable {K : PySem.W.Frag} {X : Cx}
/-- xs.extend(a list, a tuple) -/
def rExtT (K : PySem.W.Frag) : V → List V → Hp → VK → Prop := fun x vs H Q => ∃ l b xs zs, x = .ref l ∧ vs = [.ref b] ∧ H l = some (.lst xs) ∧ SqT K H b zs ∧ xs.length + zs.length ≤ sizeLine ∧ Q .non (upd H l (.lst (xs ++ zs)))
theorem mt_extT : MtR X "list.extend" (rExtT X.K) := by
  intro pins s σ H x vs v us Q I rx rv h
  obtain ⟨l, b, xs, zs, rfl, rfl, hH, hB, hz, q⟩ := h
  cases rx
  obtain ⟨u, rfl, ru⟩ := rv.one
  cases ru
  obtain ⟨z, its, n, r, hl, e⟩ := I.lstM hH
  obtain ⟨its2, r2, ⟨⟨cls2, dd2, data2, sl2⟩, ho2, hc2, n2, hd2⟩, hz2⟩ := I.tuple hB
  simp only at hc2 hd2
  subst hc2 hd2
  have hl2 := r2.length
  have hsz : its.toArray.size + its2.toArray.size ≤ sizeLine := by rw [List.size_toArray, List.size_toArray]; omega
  have hlong : ¬ (!its.toArray.isEmpty && Builtin.List.listTooLong (its.toArray.size + its2.toArray.size)) = true := by
    rw [notLongL hsz, Bool.and_false]
    exact Bool.false_ne_true
  refine call_meets F.slot_list_extend ⟨_, e, rfl⟩ F.entry_list_extend (F.args_list_extend_2 _ _)
    (PySem.list_extend_list_tup l its.toArray n b its2.toArray n2 dd2 sl2 hlong (by rw [List.size_toArray]; omega) (by omega)) ⟨e, ho2, ?_⟩
  refine ⟨.non, _, I.lset (its' := its ++ its2) hH e (by simp) (r.append r2) ?_, rfl, q⟩
  rw [List.length_append]
  omega
def rExtU (K : PySem.W.Frag) : V → List V → Hp → VK → Prop := fun x xs H Q => rExtend x xs H Q ∨ rExtT K x xs H Q
theorem mt_extU (hK : X.K = K := by rfl) : MtR X "list.extend" (rExtU K) := by
  subst hK
  exact MtR.or (r := rExtend) (r' := rExtT X.K) mt_extend mt_extT
def extendD : GM := fun x xs h => match x, xs with
  | .at n, [.tup zs] => match h[n]? with
    | some (.lst ys) => if ys.length + zs.length ≤ LN then some (.non, h.set n (.lst (ys ++ zs))) else none
    | _ => none
  | .at n, [.at m] => match h[n]?, h[m]? with
    | some (.lst ys), some (.lst zs) => if ys.length + zs.length ≤ LN then some (.non, h.set n (.lst (ys ++ zs))) else none
    | _, _ => none
  | _, _ => none
theorem sm_extend : SM K (rExtU K) extendD := by
  intro Φ H μ h x v xs vs d h' S r1 r2 e Q k
  unfold extendD at e
  split at e
  · split at e
    · rename_i ys q
      split at e
      · rename_i hz
        cases e
        obtain ⟨p, ep, rfl⟩ := rp_at' r1
        obtain ⟨w, rfl, a⟩ := rps1 r2
        obtain ⟨ws, b, c⟩ := S.lst q ep
        obtain ⟨p2, ws2, rfl, b2, c2⟩ := rp_tup' a
        exact .inr ⟨p, p2, ws, ws2, rfl, rfl, b, b2, by rw [c.len, c2.len]; exact ln_of hz, kn_set S ep (c.app c2) rp_non k⟩
      · cases e
    · cases e
  · split at e
    · rename_i ys zs q q2
      split at e
      · rename_i hz
        cases e
        obtain ⟨p, ep, rfl⟩ := rp_at' r1
        obtain ⟨w, rfl, a⟩ := rps1 r2
        obtain ⟨ws, b, c⟩ := S.lst q ep
        obtain ⟨p2, ep2, rfl⟩ := rp_at' a
        obtain ⟨ws2, b2, c2⟩ := S.lst q2 ep2
        exact .inl ⟨p, p2, ws, ws2, rfl, rfl, b, b2, by rw [c.len, c2.len]; exact ln_of hz, kn_set S ep (c.app c2) rp_non k⟩
      · cases e
    · cases e
  · cases e
end
/-! ### d.get(k), d.get(k, x) -/
def getD2 (o a b : ME) : ME := fun sg h => match o sg h with
  | some (.at n, h1) => if isDct h1 (.at n) = true then match a sg h1 with
    | some (y, h2) => match b sg h2 with
      | some (z, h3) => match h3[n]? with
        | some (.dct kvs) => match keyD y with
          | some k => some ((valD kvs k).getD z, h3)
          | none => none
        | _ => none
      | none => none
    | none => none else none
  | _ => none
def getD1 (o a : ME) : ME := getD2 o a (cM .non)
section
variable {K : PySem.W.Frag} {X : Cx} {apos cpos : Pos} {o a b : Expr} {to ta tb : TE} {mo ma mb : ME}
theorem is_dct {H : Hp} {μ : List Addr} {h : Hd} {n : Nat} {p : Addr} (S : Sm Φ K H μ h) (ep : μ[n]? = some p) (e : isDct h (.at n) = true) : IsD H p := by
  unfold isDct at e
  simp only at e
  split at e
  · rename_i kvs q
    obtain ⟨kw, b, c⟩ := S.dct q ep
    exact .inl ⟨kw, .of b⟩
  · cases e
theorem de_get2 (hu : X.A.units + 1 < cLine) (ho : DE K X o to mo) (ha : DE K X a ta ma) (hb : DE K X b tb mb) (m : M2 X o "get" apos a b cpos := by exact ⟨rfl, rfl, rfl, rfl⟩) :
    DE K X (.Call (.Attribute o "get" apos) [a, b] [] cpos) (tDGet2 to ta tb) (getD2 mo ma mb) := ⟨ho.k, pe_dget2 hu ho.p ha.p hb.p m, by
  intro Φ σ H μ sg h d h' S rs e Q k
  unfold getD2 at e
  split at e
  · rename_i n h1 e1
    split at e
    · rename_i hd
      split at e
      · rename_i y h2 e2
        split at e
        · rename_i z h3 e3
          split at e
          · rename_i kvs q
            split at e
            · rename_i kk q2
              cases e
              refine ho.s σ H μ sg h _ h1 S rs e1 _ fun v H1 μ1 S1 l1 r1 => ?_
              obtain ⟨p, ep, rfl⟩ := rp_at' r1
              refine ⟨p, rfl, is_dct S1 ep hd, ?_⟩
              refine ha.s σ H1 μ1 sg h1 y h2 S1 (rs.mono l1) e2 _ fun w H2 μ2 S2 l2 r2 => ?_
              refine hb.s σ H2 μ2 sg h2 z _ S2 (rs.mono (l1.trans l2)) e3 _ fun u H3 μ3 S3 l3 r3 => ?_
              have ep3 := (l2.trans l3).get ep
              obtain ⟨kw, c1, c2⟩ := S3.dct q ep3
              refine ⟨valV kw kk, ?_, ?_⟩
              · rw [key_of (Rp.mono l3 _ _ r2) q2]
                exact DGet.k c1
              · rcases c2.val (k := kk) with ⟨z1, z2⟩ | ⟨d2, u2, z1, z2, z3⟩
                · rw [z2]
                  rw [z1] at k
                  exact k u H3 μ3 S3 ((l1.trans l2).trans l3) r3
                · rw [z2]
                  rw [z1] at k
                  exact k u2 H3 μ3 S3 ((l1.trans l2).trans l3) z3
            · cases e
          · cases e
        · cases e
      · cases e
    · cases e
  · cases e⟩
theorem de_get1 (hu : X.A.units + 1 < cLine) (ho : DE K X o to mo) (ha : DE K X a ta ma) (m : M1 X o "get" apos a cpos := by exact ⟨rfl, rfl, rfl, rfl⟩) :
    DE K X (.Call (.Attribute o "get" apos) [a] [] cpos) (tDGet1 to ta) (getD1 mo ma) := ⟨ho.k, pe_dget1 hu ho.p ha.p m, by
  intro Φ σ H μ sg h d h' S rs e Q k
  unfold getD1 getD2 at e
  split at e
  · rename_i n h1 e1
    split at e
    · rename_i hd
      split at e
      · rename_i y h2 e2
        split at e
        · rename_i z h3 e3
          cases e3
          split at e
          · rename_i kvs q
            split at e
            · rename_i kk q2
              cases e
              refine ho.s σ H μ sg h _ h1 S rs e1 _ fun v H1 μ1 S1 l1 r1 => ?_
              obtain ⟨p, ep, rfl⟩ := rp_at' r1
              refine ⟨p, rfl, is_dct S1 ep hd, ?_⟩
              refine ha.s σ H1 μ1 sg h1 y _ S1 (rs.mono l1) e2 _ fun w H2 μ2 S2 l2 r2 => ?_
              have ep3 := l2.get ep
              obtain ⟨kw, c1, c2⟩ := S2.dct q ep3
              refine ⟨valV kw kk, ?_, ?_⟩
              · rw [key_of r2 q2]
                exact DGet.k c1
              · rcases c2.val (k := kk) with ⟨z1, z2⟩ | ⟨d2, u2, z1, z2, z3⟩
                · rw [z2]
                  rw [z1] at k
                  exact k .non H2 μ2 S2 (l1.trans l2) rp_non
                · rw [z2]
                  rw [z1] at k
                  exact k u2 H2 μ2 S2 (l1.trans l2) z3
            · cases e
          · cases e
        · cases e
      · cases e
    · cases e
  · cases e⟩
/-- {} -/
def dnewM : ME := fun _ h => some (.at h.length, h ++ [.dct []])
theorem de_dnew {pos : Pos} (hK : X.K = K := by rfl) : DE K X (.Dict [] [] pos) tDNewK dnewM := ⟨hK, pe_dnewK, by
  intro Φ σ H μ sg h d h' S rs e Q k
  cases e
  exact fun p hp => kn_dct S Rkv.nil k p hp⟩
end
end DL

/-! DL6: statements, targets, loops, comprehensions. -/
namespace DL
open PySem L2 PySem.Spec PyProof.Rows

inductive Fl where
  | nx (sg : Sg) | rt (d : D) | bk (sg : Sg) | ct (sg : Sg)
abbrev MS := Sg → Hd → Option (Fl × Hd)
def Ek (Φ : Hp) (K : PySem.W.Frag) (H : Hp) (μ : List Addr) (h' : Hd) (f : Fl) (E : Ends) : Prop := match f with
  | .nx sg' => ∀ (σ' : L2.St) (H' : Hp) (μ' : List Addr), Sm Φ K H' μ' h' → Le K H μ H' μ' → Rs K H' μ' sg' σ' → E.nx σ' H'
  | .rt d => ∀ (v : V) (H' : Hp) (μ' : List Addr), Sm Φ K H' μ' h' → Le K H μ H' μ' → Rp K H' μ' d v → E.rt v H'
  | .bk sg' => ∀ (σ' : L2.St) (H' : Hp) (μ' : List Addr), Sm Φ K H' μ' h' → Le K H μ H' μ' → Rs K H' μ' sg' σ' → E.bk σ' H'
  | .ct sg' => ∀ (σ' : L2.St) (H' : Hp) (μ' : List Addr), Sm Φ K H' μ' h' → Le K H μ H' μ' → Rs K H' μ' sg' σ' → E.ct σ' H'
def SS (K : PySem.W.Frag) (t : TS) (m : MS) : Prop := ∀ {Φ : Hp} (σ : L2.St) (H : Hp) (μ : List Addr) (sg : Sg) (h : Hd) (f : Fl) (h' : Hd), Sm Φ K H μ h → Rs K H μ sg σ → m sg h = some (f, h') → ∀ E : Ends, Ek Φ K H μ h' f E → t E σ H
structure DS (K : PySem.W.Frag) (X : Cx) (st : Stmt) (t : TS) (m : MS) : Prop where
  k : X.K = K
  p : PS X st t
  s : SS K t m
structure DSs (K : PySem.W.Frag) (X : Cx) (st : List Stmt) (t : TS) (m : MS) : Prop where
  k : X.K = K
  p : PSs X st t
  s : SS K t m
theorem Ek.le {K : PySem.W.Frag} {H H1 : Hp} {μ μ1 : List Addr} {h' : Hd} {f : Fl} {E : Ends} (l : Le K H μ H1 μ1) (k : Ek Φ K H μ h' f E) : Ek Φ K H1 μ1 h' f E := by
  cases f <;> exact fun a b c d e g => k a b c d (l.trans e) g

/-! ### targets -/
abbrev MG := D → Sg → Hd → Option (Sg × Hd)
abbrev MGs := List D → Sg → Hd → Option (Sg × Hd)
def SG (K : PySem.W.Frag) (t : TG) (m : MG) : Prop := ∀ {Φ : Hp} (σ : L2.St) (H : Hp) (μ : List Addr) (sg : Sg) (h : Hd) (x : D) (v : V) (sg' : Sg) (h' : Hd), Sm Φ K H μ h → Rs K H μ sg σ → Rp K H μ x v → m x sg h = some (sg', h') →
  ∀ Q : L2.St → Hp → Prop, (∀ (σ' : L2.St) (H' : Hp) (μ' : List Addr), Sm Φ K H' μ' h' → Le K H μ H' μ' → Rs K H' μ' sg' σ' → Q σ' H') → t v σ H Q
def SGs (K : PySem.W.Frag) (t : TGs) (m : MGs) : Prop := ∀ {Φ : Hp} (σ : L2.St) (H : Hp) (μ : List Addr) (sg : Sg) (h : Hd) (xs : List D) (vs : List V) (sg' : Sg) (h' : Hd), Sm Φ K H μ h → Rs K H μ sg σ → Rps K H μ xs vs → m xs sg h = some (sg', h') →
  ∀ Q : L2.St → Hp → Prop, (∀ (σ' : L2.St) (H' : Hp) (μ' : List Addr), Sm Φ K H' μ' h' → Le K H μ H' μ' → Rs K H' μ' sg' σ' → Q σ' H') → t vs σ H Q
/-- what a target leaves of the slots vs of a comprehension -/
def Only (vs : List Nat) (t : TG) : Prop := ∀ (v : V) (σ : L2.St) (H : Hp) (Q : L2.St → Hp → Prop), t v σ H Q → t v σ H fun σ2 H2 => wipe σ2 vs = wipe σ vs ∧ Q σ2 H2
def Onlys (vs : List Nat) (t : TGs) : Prop := ∀ (v : List V) (σ : L2.St) (H : Hp) (Q : L2.St → Hp → Prop), t v σ H Q → t v σ H fun σ2 H2 => wipe σ2 vs = wipe σ vs ∧ Q σ2 H2
structure DG (K : PySem.W.Frag) (X : Cx) (e : Expr) (t : TG) (m : MG) : Prop where
  k : X.K = K
  p : PG X e t
  s : SG K t m
structure DGs (K : PySem.W.Frag) (X : Cx) (e : List Expr) (t : TGs) (m : MGs) : Prop where
  k : X.K = K
  p : PGs X e t
  s : SGs K t m
def nameG (i : Nat) : MG := fun d sg h => some (sg.set i (some d), h)
def nilG : MGs := fun ds sg h => match ds with
  | [] => some (sg, h)
  | _ => none
def consG (a : MG) (b : MGs) : MGs := fun ds sg h => match ds with
  | d :: ds => match a d sg h with
    | some (sg1, h1) => b ds sg1 h1
    | none => none
  | [] => none
def tupG (n : Nat) (a : MGs) : MG := fun d sg h => match d with
  | .tup xs => if xs.length = n then a xs sg h else none
  | _ => none
section
variable {K : PySem.W.Frag} {X : Cx} {pos : Pos}
theorem sg_name (i : Nat) : SG K (gName i) (nameG i) := by
  intro Φ σ H μ sg h x v sg' h' S rs r e Q k
  cases e
  exact k _ H μ S Le.refl (rs.put i r)
theorem dg_name (i : Nat) {x : Str} (hN : X.N.Nodup) (hi : X.N[i]? = some x := by rfl) (hx : Loc X.env.scope x := by first | exact Or.inl rfl | exact Or.inr rfl) (hf : X.fn x = true ∨ X.env.scope.names.lookup x = some .local := by first | exact .inl rfl | exact .inr rfl) (hK : X.K = K := by rfl) :
    DG K X (.Name x pos) (gName i) (nameG i) := ⟨hK, pg_name hN hi hx hf, sg_name i⟩
theorem dgs_nil (hK : X.K = K := by rfl) : DGs K X [] gNil nilG := ⟨hK, pgs_nil, by
  intro Φ σ H μ sg h x v sg' h' S rs r e Q k
  unfold nilG at e
  split at e
  · cases e
    exact ⟨r.nil', k σ H μ S Le.refl rs⟩
  · cases e⟩
theorem dgs_cons {e : Expr} {es : List Expr} {t : TG} {u : TGs} {m : MG} {n : MGs} (a : DG K X e t m) (b : DGs K X es u n) (hs : (assignEach (e :: es) X.env).map (·.2) = assign e X.env :: (assignEach es X.env).map (·.2) := by rfl) : DGs K X (e :: es) (gCons t u) (consG m n) := ⟨a.k, pgs_cons a.p b.p hs, by
  intro Φ σ H μ sg h x v sg' h' S rs r e Q k
  unfold consG at e
  split at e
  · split at e
    · rename_i sg1 h1 e1
      obtain ⟨w, ws, rfl, r1, r2⟩ := r.cons'
      refine ⟨w, ws, rfl, a.s σ H μ sg h _ w sg1 h1 S rs r1 e1 _ fun σ1 H1 μ1 S1 l1 rs1 => ?_⟩
      exact b.s σ1 H1 μ1 sg1 h1 _ ws sg' h' S1 rs1 (Rps.mono l1 _ _ r2) e Q fun σ2 H2 μ2 S2 l2 rs2 => k σ2 H2 μ2 S2 (l1.trans l2) rs2
    · cases e
  · cases e⟩
theorem dg_tup {es : List Expr} {k0 : Nat} {t : TGs} {m : MGs} {n : Nat} (a : DGs K X es t m) (hn : (assignEach es X.env).length = n := by rfl) (hst : (assignEach es X.env).findIdx? (·.1) = none := by rfl) (hc : X.calm = true := by rfl) :
    DG K X (.Tuple es k0 pos) (gTup K n t) (tupG n m) := ⟨a.k, by
  have hk := a.k
  subst hk
  exact pg_tup hc a.p hn hst, by
  intro Φ σ H μ sg h x v sg' h' S rs r e Q k
  unfold tupG at e
  split at e
  · split at e
    · rename_i hl
      obtain ⟨p, vs, rfl, b, c⟩ := rp_tup' r
      exact ⟨p, vs, rfl, b, by rw [c.len]; exact hl, a.s σ H μ sg h _ vs sg' h' S rs c e Q k⟩
    · cases e
  · cases e⟩
theorem wipe_set {σ : L2.St} {i : Nat} {o : Option V} : ∀ {vs : List Nat}, i ∈ vs → wipe (σ.set i o) vs = wipe σ vs
  | v :: vs, h => by
    unfold wipe
    by_cases e : i ∈ vs
    · rw [wipe_set e]
    · have : i = v := by
        rcases List.mem_cons.mp h with q | q
        · exact q
        · exact absurd q e
      subst this
      have : ∀ ws : List Nat, i ∉ ws → wipe (σ.set i o) ws = (wipe σ ws).set i o := by
        intro ws
        induction ws with
        | nil => intro _; rfl
        | cons w ws ih =>
          intro hn
          unfold wipe
          rw [ih (fun q => hn (List.mem_cons_of_mem _ q)), List.set_comm]
          intro z
          exact hn (by rw [z]; exact List.mem_cons_self)
      rw [this vs e, List.set_set]
theorem wipe_idem (σ : L2.St) : ∀ vs : List Nat, wipe (wipe σ vs) vs = wipe σ vs := by
  have key : ∀ (vs us : List Nat), (∀ i ∈ us, i ∈ vs) → wipe (wipe σ us) vs = wipe σ vs := by
    intro vs us
    induction us with
    | nil => intro _; rfl
    | cons u us ih =>
      intro h
      show wipe ((wipe σ us).set u none) vs = wipe σ vs
      rw [wipe_set (h u List.mem_cons_self)]
      exact ih fun i hi => h i (List.mem_cons_of_mem _ hi)
  exact fun vs => key vs vs fun i h => h
theorem only_name {i : Nat} {vs : List Nat} (h : i ∈ vs) : Only vs (gName i) := fun v σ H Q q => ⟨wipe_set h, q⟩
theorem onlys_nil {vs : List Nat} : Onlys vs gNil := fun v σ H Q q => ⟨q.1, rfl, q.2⟩
theorem onlys_cons {vs : List Nat} {t : TG} {u : TGs} (a : Only vs t) (b : Onlys vs u) (mono : ∀ v σ H (Q Q' : L2.St → Hp → Prop), t v σ H Q → (∀ σ' H', Q σ' H' → Q' σ' H') → t v σ H Q') : Onlys vs (gCons t u) := fun v σ H Q q => by
  obtain ⟨w, r, e, q⟩ := q
  refine ⟨w, r, e, mono _ _ _ _ _ (a _ _ _ _ q) fun σ1 H1 ⟨z1, z2⟩ => ?_⟩
  have := b _ _ _ _ z2
  rw [z1] at this
  exact this
theorem only_tup {vs : List Nat} {n : Nat} {t : TGs} (a : Onlys vs t) : Only vs (gTup K n t) := fun v σ H Q q => by
  obtain ⟨p, xs, e, h1, h2, q⟩ := q
  exact ⟨p, xs, e, h1, h2, a _ _ _ _ q⟩
theorem mono_name {i : Nat} : ∀ v σ H (Q Q' : L2.St → Hp → Prop), gName i v σ H Q → (∀ σ' H', Q σ' H' → Q' σ' H') → gName i v σ H Q' := fun v σ H Q Q' q f => f _ _ q
end

/-! ### statements -/
def passM : MS := fun sg h => some (.nx sg, h)
def brkM : MS := fun sg h => some (.bk sg, h)
def cntM : MS := fun sg h => some (.ct sg, h)
def exprM (a : ME) : MS := fun sg h => match a sg h with
  | some (_, h1) => some (.nx sg, h1)
  | none => none
def retM (a : ME) : MS := fun sg h => match a sg h with
  | some (d, h1) => some (.rt d, h1)
  | none => none
def asgM (a : ME) (g : MG) : MS := fun sg h => match a sg h with
  | some (d, h1) => match g d sg h1 with
    | some (sg', h2) => some (.nx sg', h2)
    | none => none
  | none => none
def seqM (a b : MS) : MS := fun sg h => match a sg h with
  | some (.nx sg1, h1) => b sg1 h1
  | r => r
def ifSM (c : MT) (a b : MS) : MS := fun sg h => match c sg h with
  | some (true, h1) => a sg h1
  | some (false, h1) => b sg h1
  | none => none
def neverM : MS := fun _ _ => none
def augM (i : Nat) (g : G2) (a : ME) : MS := fun sg h => match sg[i]? with
  | some (some x) => match a sg h with
    | some (y, h1) => match g x y h1 with
      | some (z, h2) => some (.nx (sg.set i (some z)), h2)
      | none => none
    | none => none
  | _ => none
def parM (i j : Nat) (a : MA) : MS := fun sg h => match a sg h with
  | some ([x, y], h1) => some (.nx ((sg.set i (some x)).set j (some y)), h1)
  | _ => none
section
variable {K : PySem.W.Frag} {X : Cx} {pos pos' : Pos} {e : Expr} {te : TE} {me : ME} {st : Stmt} {rest : List Stmt} {t u : TS} {m n : MS} {c : Expr} {tc : TT} {mc : MT}
theorem dss_nil (hK : X.K = K := by rfl) : DSs K X [] tNext passM := ⟨hK, pss_nil, fun {Φ} σ H μ sg h f h' S rs e E k => by cases e; exact k σ H μ S Le.refl rs⟩
theorem ss_seq (a : SS K t m) (b : SS K u n) : SS K (tSeq t u) (seqM m n) := by
  intro Φ σ H μ sg h f h' S rs e E k
  unfold seqM at e
  split at e
  · rename_i sg1 h1 e1
    exact a σ H μ sg h _ h1 S rs e1 _ fun σ1 H1 μ1 S1 l1 rs1 => b σ1 H1 μ1 sg1 h1 f h' S1 rs1 e E (k.le l1)
  · rename_i hn
    refine a σ H μ sg h f h' S rs e _ ?_
    cases f with
    | nx sg1 => exact absurd e (hn sg1 h')
    | rt d => exact k
    | bk sg1 => exact k
    | ct sg1 => exact k
theorem dss_cons (a : DS K X st t m) (b : DSs K X rest u n) : DSs K X (st :: rest) (tSeq t u) (seqM m n) := ⟨a.k, pss_cons a.p b.p, ss_seq a.s b.s⟩
theorem dss_one (a : DS K X st t m) : DSs K X [st] t m := ⟨a.k, pss_one a.p, a.s⟩
theorem ds_pass (hK : X.K = K := by rfl) : DS K X (.Pass pos) tNext passM := ⟨hK, ps_pass, fun {Φ} σ H μ sg h f h' S rs e E k => by cases e; exact k σ H μ S Le.refl rs⟩
theorem ds_break (hK : X.K = K := by rfl) : DS K X (.Break pos) tBreak brkM := ⟨hK, ps_break, fun {Φ} σ H μ sg h f h' S rs e E k => by cases e; exact k σ H μ S Le.refl rs⟩
theorem ds_cont (hK : X.K = K := by rfl) : DS K X (.Continue pos) tCont cntM := ⟨hK, ps_continue, fun {Φ} σ H μ sg h f h' S rs e E k => by cases e; exact k σ H μ S Le.refl rs⟩
theorem ss_expr (a : SE K te me) : SS K (tDrop te) (exprM me) := by
  intro Φ σ H μ sg h f h' S rs e E k
  unfold exprM at e
  split at e
  · rename_i d h1 e1
    cases e
    exact a σ H μ sg h d _ S rs e1 _ fun v H1 μ1 S1 l1 r1 => k σ H1 μ1 S1 l1 (rs.mono l1)
  · cases e
theorem ds_expr (a : DE K X e te me) (hs : swapsWith e none pos.line X.env = pure false := by rfl) : DS K X (.Expr e pos) (tDrop te) (exprM me) := ⟨a.k, ps_expr a.p hs, ss_expr a.s⟩
theorem ss_ret (a : SE K te me) : SS K (tRet te) (retM me) := by
  intro Φ σ H μ sg h f h' S rs e E k
  unfold retM at e
  split at e
  · rename_i d h1 e1
    cases e
    exact a σ H μ sg h d _ S rs e1 _ fun v H1 μ1 S1 l1 r1 => k v H1 μ1 S1 l1 r1
  · cases e
theorem ds_ret (a : DE K X e te me) : DS K X (.Return (some e) pos) (tRet te) (retM me) := ⟨a.k, ps_ret a.p, ss_ret a.s⟩
theorem ds_retN (hK : X.K = K := by rfl) : DS K X (.Return none pos) tRetN (fun sg h => some (.rt .non, h)) := ⟨hK, ps_retN, fun {Φ} σ H μ sg h f h' S rs e E k => by cases e; exact k .non H μ S Le.refl rp_non⟩
theorem ss_asg {tg : TG} {mg : MG} (a : SE K te me) (g : SG K tg mg) : SS K (tAsg te tg) (asgM me mg) := by
  intro Φ σ H μ sg h f h' S rs e E k
  unfold asgM at e
  split at e
  · rename_i d h1 e1
    split at e
    · rename_i sg2 h2 e2
      cases e
      exact a σ H μ sg h d h1 S rs e1 _ fun v H1 μ1 S1 l1 r1 => g σ H1 μ1 sg h1 d v sg2 _ S1 (rs.mono l1) r1 e2 _ fun σ2 H2 μ2 S2 l2 rs2 => k σ2 H2 μ2 S2 (l1.trans l2) rs2
    · cases e
  · cases e
theorem ds_asg {tg : Expr} {gt : TG} {mg : MG} (a : DE K X e te me) (g : DG K X tg gt mg) (hs : swapsWithSole [tg] e pos.line X.env = pure false := by rfl) (hw : swappedStores [tg] e X.env = pure none := by rfl)
    (h1 : (assignEach [tg] X.env).map (·.2) = [assign tg X.env] := by rfl) : DS K X (.Assign [tg] e pos) (tAsg te gt) (asgM me mg) := ⟨a.k, ps_asg a.p g.p hs hw h1, ss_asg a.s g.s⟩
theorem ds_set (i : Nat) {x : Str} (a : DE K X e te me) (hN : X.N.Nodup) (hi : X.N[i]? = some x := by rfl) (hx : Loc X.env.scope x := by first | exact Or.inl rfl | exact Or.inr rfl) (hs : swapsWith e (some (.Name x pos')) pos.line X.env = pure false := by rfl)
    (hf : X.fn x = true ∨ X.env.scope.names.lookup x = some .local := by first | exact .inl rfl | exact .inr rfl) : DS K X (.Assign [.Name x pos'] e pos) (tAsg te (gName i)) (asgM me (nameG i)) := ⟨a.k, ps_set hN hi hx a.p hs hf, ss_asg a.s (sg_name i)⟩
theorem ss_if (hc : ST K tc mc) (a : SS K t m) (b : SS K u n) : SS K (tIfS tc t u) (ifSM mc m n) := by
  intro Φ σ H μ sg h f h' S rs e E k
  unfold ifSM at e
  split at e
  · rename_i h1 e1
    exact hc σ H μ sg h _ h1 S rs e1 _ fun H1 μ1 S1 l1 => iteT (a σ H1 μ1 sg h1 f h' S1 (rs.mono l1) e E (k.le l1))
  · rename_i h1 e1
    exact hc σ H μ sg h _ h1 S rs e1 _ fun H1 μ1 S1 l1 => iteF (b σ H1 μ1 sg h1 f h' S1 (rs.mono l1) e E (k.le l1))
  · cases e
theorem ds_if {p q : List Stmt} (hc : DT K X c tc mc) (a : DSs K X p t m) (b : DSs K X q u n) : DS K X (.If c p q pos) (tIfS tc t u) (ifSM mc m n) := ⟨a.k, ps_if hc.p a.p b.p, ss_if hc.s a.s b.s⟩
theorem ds_never (hK : X.K = K := by rfl) : DS K X st tNever neverM := ⟨hK, ps_never, fun {Φ} σ H μ sg h f h' S rs e E k => by cases e⟩
theorem ds_aug (i : Nat) {x : Str} {op : Operator} {ti : TIp} {g : G2} (hs : SO K ti g) (ho : PIp X op ti) (a : DE K X e te me) (hN : X.N.Nodup) (hi : X.N[i]? = some x := by rfl) (hx : Loc X.env.scope x := by first | exact Or.inl rfl | exact Or.inr rfl)
    (hf : X.fn x = true ∨ X.env.scope.names.lookup x = some .local := by first | exact .inl rfl | exact .inr rfl) : DS K X (.AugAssign (.Name x pos') op e pos) (tAug i te ti) (augM i g me) := ⟨a.k, ps_aug hN hi hx a.p ho hf, by
  intro Φ σ H μ sg h f h' S rs e E k
  unfold augM at e
  split at e
  · rename_i x q
    split at e
    · rename_i y h1 e1
      split at e
      · rename_i z h2 e2
        cases e
        obtain ⟨v, q1, q2⟩ := rs.2 i x q
        refine ⟨v, q1, a.s σ H μ sg h y h1 S rs e1 _ fun w H1 μ1 S1 l1 r1 => ?_⟩
        exact hs H1 μ1 h1 x y v w z _ S1 (Rp.mono l1 _ _ q2) r1 e2 _ fun u H2 μ2 S2 l2 r2 => k _ H2 μ2 S2 (l1.trans l2) ((rs.mono (l1.trans l2)).put i r2)
      · cases e
    · cases e
  · cases e⟩
theorem ds_par (i j : Nat) {x y : Str} {a b : Expr} {ta : TA} {ma : MA} {px py pt : Pos} {kt k2 pt2} (d : DA K X [a, b] ta ma) (hN : X.N.Nodup) (hi : X.N[i]? = some x := by rfl) (hj : X.N[j]? = some y := by rfl) (hij : i ≠ j := by decide)
    (hx : X.env.scope.names.lookup x = some .local := by rfl) (hy : X.env.scope.names.lookup y = some .local := by rfl)
    (hw : swappedStores [.Tuple [.Name x px, .Name y py] kt pt] (.Tuple [a, b] k2 pt2) X.env = pure (some [x, y]) := by rfl)
    (hs : swapsWithSole [.Tuple [.Name x px, .Name y py] kt pt] (.Tuple [a, b] k2 pt2) pos.line X.env = pure false := by rfl) (hc : X.calm = true := by rfl) :
    DS K X (.Assign [.Tuple [.Name x px, .Name y py] kt pt] (.Tuple [a, b] k2 pt2) pos) (tPar i j ta) (parM i j ma) := ⟨d.k, ps_par hc hN hi hj hij hx hy d.p hw hs, by
  intro Φ σ H μ sg h f h' S rs e E k
  unfold parM at e
  split at e
  · rename_i x y h1 e1
    cases e
    refine d.s σ H μ sg h _ _ S rs e1 _ fun vs H1 μ1 S1 l1 r1 => ?_
    obtain ⟨v, w, rfl, r2, r3⟩ := rps2 r1
    exact ⟨v, w, rfl, k _ H1 μ1 S1 l1 (((rs.mono l1).put i r2).put j r3)⟩
  · cases e⟩
/-- o[i] = v, a list's or a dict's -/
def setD (o i v : ME) : MS := fun sg h => match v sg h with
  | some (z, h1) => match o sg h1 with
    | some (.at n, h2) => match i sg h2 with
      | some (y, h3) => match h3[n]? with
        | some (.lst xs) => match y with
          | .int j => match ixN xs.length j with
            | some q => some (.nx sg, h3.set n (.lst (xs.set q z)))
            | none => none
          | _ => none
        | some (.dct kvs) => match keyD y with
          | some k => if kvs.length < LN then some (.nx sg, h3.set n (.dct (putD kvs k z))) else none
          | none => none
        | none => none
      | none => none
    | _ => none
  | none => none
def tSetL (to ti tv : TE) : TS := tAsg tv (gSub to ti rSetL)
def tSetU (to ti tv : TE) : TS := fun E σ H => tSetL to ti tv E σ H ∨ sDPut to ti tv E σ H
theorem PS.or {t u : TS} (h : PS X st t) (h' : PS X st u) : PS X st (fun E σ H => t E σ H ∨ u E σ H) := ⟨fun pins s σ H E I q => q.elim (h.run pins s σ H E I) (h'.run pins s σ H E I)⟩
theorem ds_put {o i v : Expr} {to ti tv : TE} {mo mi mv : ME} (ho : DE K X o to mo) (hi : DE K X i ti mi) (hv : DE K X v tv mv) (hu : X.A.units + 1 < cLine) (hs : swapsWith v (some (.Subscript o i pos')) pos.line X.env = pure false := by rfl)
    (hs2 : swapsWithSole [.Subscript o i pos'] v pos.line X.env = pure false := by rfl) (hw : swappedStores [.Subscript o i pos'] v X.env = pure none := by rfl) (h1 : (assignEach [.Subscript o i pos'] X.env).map (·.2) = [assign (.Subscript o i pos') X.env] := by rfl)
    (ha : ∀ v, assign (.Subscript o i pos') X.env v = (do
      let ov ← holding [v] (eval o X.env)
      let iv ← holding [v, ov] (eval i X.env)
      standAt pos'
      holding [v, ov, iv] (setItem ov iv v)
      release [v, ov, iv] []) := by intro _; rfl) :
    DS K X (.Assign [.Subscript o i pos'] v pos) (tSetU to ti tv) (setD mo mi mv) := ⟨ho.k, PS.or (ps_asg hv.p (pg_sub ho.p hi.p set_list ha) hs2 hw h1) (ps_dput hu ho.p hi.p hv.p hs), by
  intro Φ σ H μ sg h f h' S rs e E k
  unfold setD at e
  split at e
  · rename_i z h1 e1
    split at e
    · rename_i n h2 e2
      split at e
      · rename_i y h3 e3
        split at e
        · rename_i xs q
          split at e
          · rename_i j
            split at e
            · rename_i qq e4
              cases e
              refine .inl (hv.s σ H μ sg h z h1 S rs e1 _ fun v H1 μ1 S1 l1 r1 => ?_)
              refine ho.s σ H1 μ1 sg h1 _ h2 S1 (rs.mono l1) e2 _ fun w H2 μ2 S2 l2 r2 => ?_
              refine hi.s σ H2 μ2 sg h2 _ _ S2 (rs.mono (l1.trans l2)) e3 _ fun u H3 μ3 S3 l3 r3 => ?_
              obtain ⟨p, ep, rfl⟩ := rp_at' (Rp.mono l3 _ _ r2)
              obtain ⟨ws, b, c⟩ := S3.lst q ep
              have rz := Rp.mono (l2.trans l3) _ _ r1
              refine ⟨p, ws, j, qq, rfl, rp_int' r3, b, by rw [c.len]; exact e4, ?_⟩
              have l4 : Le K H3 μ3 (upd H3 p (.lst (ws.set qq v))) μ3 := le_set S3 ep
              exact k σ _ μ3 (S3.set ep ⟨_, upd_same, Rps.mono l4 _ _ (c.set qq rz)⟩) (((l1.trans l2).trans l3).trans l4) (rs.mono (((l1.trans l2).trans l3).trans l4))
            · cases e
          · cases e
        · rename_i kvs q
          split at e
          · rename_i kk e4
            split at e
            · rename_i hz
              cases e
              refine .inr (hv.s σ H μ sg h z h1 S rs e1 _ fun v H1 μ1 S1 l1 r1 => ?_)
              refine ho.s σ H1 μ1 sg h1 _ h2 S1 (rs.mono l1) e2 _ fun w H2 μ2 S2 l2 r2 => ?_
              refine hi.s σ H2 μ2 sg h2 _ _ S2 (rs.mono (l1.trans l2)) e3 _ fun u H3 μ3 S3 l3 r3 => ?_
              obtain ⟨p, ep, rfl⟩ := rp_at' (Rp.mono l3 _ _ r2)
              obtain ⟨kw, b, c⟩ := S3.dct q ep
              have rz := Rp.mono (l2.trans l3) _ _ r1
              refine ⟨p, _, rfl, by rw [key_of r3 e4]; exact DPut.k b (by rw [c.len]; exact ln_lt hz), ?_⟩
              have l4 : Le K H3 μ3 (upd H3 p (.dK (putK kw kk v))) μ3 := le_set S3 ep
              have c2 := c.put (k := kk) rz
              exact k σ _ μ3 (S3.set ep ⟨_, upd_same, c2.1, Rps.mono l4 _ _ c2.2⟩) (((l1.trans l2).trans l3).trans l4) (rs.mono (((l1.trans l2).trans l3).trans l4))
            · cases e
          · cases e
        · cases e
      · cases e
    · cases e
  · cases e⟩
end

/-! ### while -/
def whileM (c : MT) (b : MS) : Nat → MS
  | 0 => fun _ _ => none
  | k + 1 => fun sg h => match c sg h with
    | some (true, h1) => match b sg h1 with
      | some (.nx sg2, h2) => whileM c b k sg2 h2
      | some (.ct sg2, h2) => whileM c b k sg2 h2
      | some (.bk sg2, h2) => some (.nx sg2, h2)
      | some (.rt d, h2) => some (.rt d, h2)
      | none => none
    | some (false, h1) => some (.nx sg, h1)
    | none => none
section
variable {K : PySem.W.Frag} {X : Cx} {pos : Pos} {c : Expr} {tc : TT} {mc : MT} {body : List Stmt} {tb : TS} {mb : MS}
theorem ss_while (N : Nat) (hc : ST K tc mc) (hb : SS K tb mb) : SS K (tWhile tc tb) (whileM mc mb N) := by
  intro Φ σ H μ sg h f h' S rs e E k
  refine ⟨fun m σ1 H1 => ∃ μ1 sg1 h1, Sm Φ K H1 μ1 h1 ∧ Le K H μ H1 μ1 ∧ Rs K H1 μ1 sg1 σ1 ∧ whileM mc mb m sg1 h1 = some (f, h'), ⟨N, μ, sg, h, S, Le.refl, rs, e⟩, ?_⟩
  rintro m σ1 H1 ⟨μ1, sg1, h1, S1, l1, rs1, e1⟩
  cases m with
  | zero => cases e1
  | succ m =>
    unfold whileM at e1
    split at e1
    · rename_i h2 e2
      refine hc σ1 H1 μ1 sg1 h1 _ h2 S1 rs1 e2 _ fun H2 μ2 S2 l2 => iteT ?_
      refine ⟨fun σ3 H3 => ∃ μ3 sg3 h3, Sm Φ K H3 μ3 h3 ∧ Le K H μ H3 μ3 ∧ Rs K H3 μ3 sg3 σ3 ∧ whileM mc mb m sg3 h3 = some (f, h'), fun σ3 H3 q => ⟨m, Nat.lt_succ_self _, q⟩, ?_⟩
      split at e1
      · rename_i sg3 h3 e3
        exact hb σ1 H2 μ2 sg1 h2 _ h3 S2 (rs1.mono l2) e3 _ fun σ3 H3 μ3 S3 l3 rs3 => ⟨μ3, sg3, h3, S3, (l1.trans l2).trans l3, rs3, e1⟩
      · rename_i sg3 h3 e3
        exact hb σ1 H2 μ2 sg1 h2 _ h3 S2 (rs1.mono l2) e3 _ fun σ3 H3 μ3 S3 l3 rs3 => ⟨μ3, sg3, h3, S3, (l1.trans l2).trans l3, rs3, e1⟩
      · rename_i sg3 h3 e3
        cases e1
        exact hb σ1 H2 μ2 sg1 h2 _ _ S2 (rs1.mono l2) e3 _ fun σ3 H3 μ3 S3 l3 rs3 => k σ3 H3 μ3 S3 ((l1.trans l2).trans l3) rs3
      · rename_i d h3 e3
        cases e1
        exact hb σ1 H2 μ2 sg1 h2 _ _ S2 (rs1.mono l2) e3 _ fun v H3 μ3 S3 l3 r3 => k v H3 μ3 S3 ((l1.trans l2).trans l3) r3
      · cases e1
    · rename_i h2 e2
      cases e1
      exact hc σ1 H1 μ1 sg1 h1 _ _ S1 rs1 e2 _ fun H2 μ2 S2 l2 => iteF (k σ1 H2 μ2 S2 (l1.trans l2) (rs1.mono l2))
    · cases e1
theorem ds_while (N : Nat) (hp : PassesOwn (model X.prog X.w) X.A X.env X.xe) (hc : DT K X c tc mc) (hb : DSs K X body tb mb) : DS K X (.While c body [] pos) (tWhile tc tb) (whileM mc mb N) := ⟨hc.k, ps_while hp hc.p hb.p, ss_while N hc.s hb.s⟩
end

/-! ### what a for walks -/
inductive Src where
  | fix (xs : List D) | obj (n : Nat) | enu (xs : List D) (n : Option Nat)
def Src.nxt (h : Hd) : Src → Nat → Option (Option D)
  | .fix xs, i => some xs[i]?
  | .obj n, i => match h[n]? with
    | some (.lst xs) => some xs[i]?
    | _ => none
  | .enu xs none, i => some (xs[i]?.map fun d => .tup [.int (i : Nat), d])
  | .enu _ (some n), i => match h[n]? with
    | some (.lst xs) => some (xs[i]?.map fun d => .tup [.int (i : Nat), d])
    | _ => none
abbrev MI := Sg → Hd → Option (Src × Hd)
def JOk (Φ : Hp) (K : PySem.W.Frag) (J : It) (s : Src) (H0 : Hp) (μ0 : List Addr) : Prop := ∀ (i : Nat) (H : Hp) (μ : List Addr) (h : Hd), Sm Φ K H μ h → Le K H0 μ0 H μ →
  (∀ d, s.nxt h i = some (some d) → J.go i H ∧ ∀ x H', J.yld i H x H' → Sm Φ K H' μ h ∧ Le K H μ H' μ ∧ Rp K H' μ d x) ∧ (s.nxt h i = some none → J.stop i H)
def SI (K : PySem.W.Frag) (t : TI) (m : MI) : Prop := ∀ {Φ : Hp} (σ : L2.St) (H : Hp) (μ : List Addr) (sg : Sg) (h : Hd) (s : Src) (h' : Hd), Sm Φ K H μ h → Rs K H μ sg σ → m sg h = some (s, h') → ∀ R : It → Hp → Prop,
  (∀ (J : It) (H' : Hp) (μ' : List Addr), Sm Φ K H' μ' h' → Le K H μ H' μ' → JOk Φ K J s H' μ' → R J H') → t σ H R
structure DI (K : PySem.W.Frag) (X : Cx) (tg e : Expr) (t : TI) (m : MI) : Prop where
  k : X.K = K
  p : PI X tg e t
  s : SI K t m
def seqI (a : ME) : MI := fun sg h => match a sg h with
  | some (.tup xs, h1) => some (.fix xs, h1)
  | some (.rol xs, h1) => some (.fix xs, h1)
  | some (.at n, h1) => match h1[n]? with
    | some (.lst _) => some (.obj n, h1)
    | _ => none
  | some (.str s, h1) => some (.fix (s.cps.toList.map fun c => .str ⟨⟨[c]⟩⟩), h1)
  | _ => none
def iSeq (K : PySem.W.Frag) (te : TE) : TI := fun σ H R => iList K te σ H R ∨ iTup K te σ H R ∨ iStr te σ H R
theorem PI.or {X : Cx} {tg e : Expr} {t u : TI} (h : PI X tg e t) (h' : PI X tg e u) : PI X tg e (fun σ H R => t σ H R ∨ u σ H R) := ⟨fun pins s σ H R I q => q.elim (h.run pins s σ H R I) (h'.run pins s σ H R I)⟩
section
variable {K : PySem.W.Frag} {X : Cx} {pos p : Pos} {tg e : Expr} {te : TE} {me : ME} {ta : TA} {ma : MA}
theorem j_lst {a : Addr} {n : Nat} {H0 : Hp} {μ0 : List Addr} (ea : μ0[n]? = some a) : JOk Φ K (Itl K a) (.obj n) H0 μ0 := by
  intro i H μ h S l
  have ep := l.get ea
  refine ⟨fun d q => ?_, fun q => ?_⟩
  · unfold Src.nxt at q
    simp only at q
    split at q
    · rename_i xs e1
      obtain ⟨vs, b, c⟩ := S.lst e1 ep
      obtain ⟨v, c1, c2⟩ := c.get (Option.some.inj q)
      refine ⟨⟨vs, v, .of b, c1⟩, fun x H' y => ?_⟩
      obtain ⟨rfl, y⟩ := y
      have := y vs (.of b)
      rw [c1] at this
      cases this
      exact ⟨S, Le.refl, c2⟩
    · cases q
  · unfold Src.nxt at q
    simp only at q
    split at q
    · rename_i xs e1
      obtain ⟨vs, b, c⟩ := S.lst e1 ep
      refine ⟨vs, .of b, ?_⟩
      rw [c.len]
      exact List.getElem?_eq_none_iff.mp (Option.some.inj q)
    · cases q
theorem j_frz {a : Addr} {xs : List D} {vs : List V} {H0 : Hp} {μ0 : List Addr} (b : SqF K H0 a vs) (c : Rps K H0 μ0 xs vs) : JOk Φ K (Itl K a) (.fix xs) H0 μ0 := by
  intro i H μ h S l
  have b' := (l.frz _ _ b).l
  have c' := Rps.mono l _ _ c
  refine ⟨fun d q => ?_, fun q => ?_⟩
  · obtain ⟨v, c1, c2⟩ := c'.get (Option.some.inj q)
    refine ⟨⟨vs, v, b', c1⟩, fun x H' y => ?_⟩
    obtain ⟨rfl, y⟩ := y
    have := y vs b'
    rw [c1] at this
    cases this
    exact ⟨S, Le.refl, c2⟩
  · refine ⟨vs, b', ?_⟩
    rw [c'.len]
    exact List.getElem?_eq_none_iff.mp (Option.some.inj q)
theorem j_tup {a : Addr} {xs : List D} {vs : List V} {H0 : Hp} {μ0 : List Addr} (b : SqT K H0 a vs) (c : Rps K H0 μ0 xs vs) : JOk Φ K (Itt K a) (.fix xs) H0 μ0 := by
  intro i H μ h S l
  have b' := l.tup _ _ b
  have c' := Rps.mono l _ _ c
  refine ⟨fun d q => ?_, fun q => ?_⟩
  · obtain ⟨v, c1, c2⟩ := c'.get (Option.some.inj q)
    refine ⟨⟨vs, v, b', c1⟩, fun x H' y => ?_⟩
    obtain ⟨rfl, y⟩ := y
    have := y vs b'
    rw [c1] at this
    cases this
    exact ⟨S, Le.refl, c2⟩
  · refine ⟨vs, b', ?_⟩
    rw [c'.len]
    exact List.getElem?_eq_none_iff.mp (Option.some.inj q)
theorem j_str {s : Str} {H0 : Hp} {μ0 : List Addr} : JOk Φ K (Its s) (.fix (s.cps.toList.map fun c => .str ⟨⟨[c]⟩⟩)) H0 μ0 := by
  intro i H μ h S l
  refine ⟨fun d q => ?_, fun q => ?_⟩
  · have q := Option.some.inj q
    rw [List.getElem?_map] at q
    cases q2 : s.cps.toList[i]? with
    | none => rw [q2] at q; cases q
    | some c =>
      rw [q2] at q
      cases q
      refine ⟨by
        have := (List.getElem?_eq_some_iff.mp q2).1
        show i < s.cps.size
        simpa using this, fun x H' y => ?_⟩
      obtain ⟨rfl, c', y1, rfl⟩ := y
      have : c' = c := by
        rw [← Array.getElem?_toList, q2] at y1
        exact (Option.some.inj y1).symm
      subst this
      exact ⟨S, Le.refl, rp_str⟩
  · have q := List.getElem?_eq_none_iff.mp (Option.some.inj q)
    show s.cps.size ≤ i
    simpa using q
theorem di_seq (a : DE K X e te me) : DI K X tg e (iSeq K te) (seqI me) := ⟨a.k, by
  have hk := a.k
  subst hk
  exact PI.or (pi_list a.p) (PI.or (pi_tup a.p) (pi_str a.p)), by
  intro Φ σ H μ sg h s h' S rs e R k
  unfold seqI at e
  split at e
  · rename_i xs h1 e1
    cases e
    refine .inr (.inl (a.s σ H μ sg h _ _ S rs e1 _ fun v H1 μ1 S1 l1 r1 => ?_))
    obtain ⟨p, vs, rfl, b, c⟩ := rp_tup' r1
    exact ⟨p, rfl, ⟨vs, b⟩, k _ H1 μ1 S1 l1 (j_tup b c)⟩
  · rename_i xs h1 e1
    cases e
    refine .inl (a.s σ H μ sg h _ _ S rs e1 _ fun v H1 μ1 S1 l1 r1 => ?_)
    obtain ⟨p, vs, rfl, b, c⟩ := rp_rol' r1
    exact ⟨p, rfl, ⟨vs, b.l⟩, k _ H1 μ1 S1 l1 (j_frz b c)⟩
  · rename_i n h1 e1
    split at e
    · rename_i xs q
      cases e
      refine .inl (a.s σ H μ sg h _ _ S rs e1 _ fun v H1 μ1 S1 l1 r1 => ?_)
      obtain ⟨p, ep, rfl⟩ := rp_at' r1
      obtain ⟨vs, b, c⟩ := S1.lst q ep
      exact ⟨p, rfl, ⟨vs, .of b⟩, k _ H1 μ1 S1 l1 (j_lst ep)⟩
    · cases e
  · rename_i s h1 e1
    cases e
    refine .inr (.inr (a.s σ H μ sg h _ _ S rs e1 _ fun v H1 μ1 S1 l1 r1 => ?_))
    exact ⟨s, rp_str' r1, k _ H1 μ1 S1 l1 j_str⟩
  · cases e⟩
/-- range(n), range(a, b) -/
def rngD (lo : Int) (n : Nat) : Src := .fix ((List.range n).map fun i => .int (lo + (i : Nat)))
def rngI (a : MA) : MI := fun sg h => match a sg h with
  | some ([.int j], h1) => if -(2 ^ 62) ≤ j ∧ j < 2 ^ 62 then some (rngD 0 j.toNat, h1) else none
  | _ => none
def rng2I (a : MA) : MI := fun sg h => match a sg h with
  | some ([.int i, .int j], h1) => if -(2 ^ 62) ≤ i ∧ i < 2 ^ 62 ∧ -(2 ^ 62) ≤ j ∧ j < 2 ^ 62 then some (rngD i (j - i).toNat, h1) else none
  | _ => none
theorem j_rng {lo : Int} {n : Nat} {H0 : Hp} {μ0 : List Addr} : JOk Φ K (Itr lo n) (rngD lo n) H0 μ0 := by
  intro i H μ h S l
  refine ⟨fun d q => ?_, fun q => ?_⟩
  · have q := Option.some.inj q
    rw [List.getElem?_map] at q
    by_cases hi : i < n
    · rw [List.getElem?_range hi] at q
      cases q
      refine ⟨hi, fun x H' y => ?_⟩
      obtain ⟨rfl, rfl⟩ := y
      exact ⟨S, Le.refl, rp_int⟩
    · rw [List.getElem?_eq_none (by simp; omega)] at q
      cases q
  · have q := List.getElem?_eq_none_iff.mp (Option.some.inj q)
    show n ≤ i
    simpa using q
theorem di_range1 {a : Expr} (ha : DA K X [a] ta ma) (hm : X.mg "range" = none) (hg : Gl X "range" := by rfl) (hs : starEach [a] X.env = [(false, eval a X.env)] := by rfl) : DI K X tg (.Call (.Name "range" p) [a] [] pos) (iRng1 ta) (rngI ma) := ⟨ha.k, pi_range1 hg hm ha.p hs, by
  intro Φ σ H μ sg h s h' S rs e R k
  unfold rngI at e
  split at e
  · rename_i j h1 e1
    split at e
    · rename_i hj
      cases e
      refine ha.s σ H μ sg h _ _ S rs e1 _ fun vs H1 μ1 S1 l1 r1 => ?_
      obtain ⟨v, rfl, r2⟩ := rps1 r1
      rw [rp_int' r2]
      exact ⟨j, rfl, hj.1, hj.2, k _ H1 μ1 S1 l1 j_rng⟩
    · cases e
  · cases e⟩
theorem di_range2 {a b : Expr} (ha : DA K X [a, b] ta ma) (hm : X.mg "range" = none) (hg : Gl X "range" := by rfl) (hs : starEach [a, b] X.env = [(false, eval a X.env), (false, eval b X.env)] := by rfl) (hs2 : starEach [b] X.env = [(false, eval b X.env)] := by rfl) : DI K X tg (.Call (.Name "range" p) [a, b] [] pos) (iRng2 ta) (rng2I ma) := ⟨ha.k, pi_range2 hg hm ha.p hs hs2, by
  intro Φ σ H μ sg h s h' S rs e R k
  unfold rng2I at e
  split at e
  · rename_i i j h1 e1
    split at e
    · rename_i hj
      cases e
      refine ha.s σ H μ sg h _ _ S rs e1 _ fun vs H1 μ1 S1 l1 r1 => ?_
      obtain ⟨v, w, rfl, r2, r3⟩ := rps2 r1
      rw [rp_int' r2, rp_int' r3]
      exact ⟨i, j, rfl, hj, k _ H1 μ1 S1 l1 j_rng⟩
    · cases e
  · cases e⟩
/-- enumerate(a list) -/
def enuI (a : MA) : MI := fun sg h => match a sg h with
  | some ([.at n], h1) => match h1[n]? with
    | some (.lst _) => some (.enu [] (some n), h1)
    | _ => none
  | some ([.rol xs], h1) => some (.enu xs none, h1)
  | _ => none
theorem j_enuL {a : Addr} {n : Nat} {H0 : Hp} {μ0 : List Addr} (ea : μ0[n]? = some a) : JOk Φ K (Ite K a) (.enu [] (some n)) H0 μ0 := by
  intro i H μ h S l
  have ep := l.get ea
  refine ⟨fun d q => ?_, fun q => ?_⟩
  · unfold Src.nxt at q
    simp only at q
    split at q
    · rename_i xs e1
      obtain ⟨vs, b, c⟩ := S.lst e1 ep
      cases q2 : xs[i]? with
      | none => rw [q2] at q; cases q
      | some d' =>
        rw [q2] at q
        cases q
        obtain ⟨v, c1, c2⟩ := c.get q2
        refine ⟨⟨vs, v, .of b, c1⟩, fun x H' y => ?_⟩
        obtain ⟨T, x', rfl, hT, rfl, y⟩ := y
        have := y vs (.of b)
        rw [c1] at this
        cases this
        have l4 : Le K H μ (upd H T (.tup [.int (i : Nat), v])) μ := le_new hT
        exact ⟨S.new hT, l4, rp_tup (SqT.of upd_same) (Rps.cons rp_int (Rps.cons (Rp.mono l4 _ _ c2) Rps.nil))⟩
    · cases q
  · unfold Src.nxt at q
    simp only at q
    split at q
    · rename_i xs e1
      obtain ⟨vs, b, c⟩ := S.lst e1 ep
      refine ⟨vs, .of b, ?_⟩
      rw [c.len]
      have := Option.some.inj q
      simpa using this
    · cases q
theorem j_enuF {a : Addr} {xs : List D} {vs : List V} {H0 : Hp} {μ0 : List Addr} (b : SqF K H0 a vs) (c : Rps K H0 μ0 xs vs) : JOk Φ K (Ite K a) (.enu xs none) H0 μ0 := by
  intro i H μ h S l
  have b' := (l.frz _ _ b).l
  have c' := Rps.mono l _ _ c
  refine ⟨fun d q => ?_, fun q => ?_⟩
  · have q := Option.some.inj q
    cases q2 : xs[i]? with
    | none => rw [q2] at q; cases q
    | some d' =>
      rw [q2] at q
      cases q
      obtain ⟨v, c1, c2⟩ := c'.get q2
      refine ⟨⟨vs, v, b', c1⟩, fun x H' y => ?_⟩
      obtain ⟨T, x', rfl, hT, rfl, y⟩ := y
      have := y vs b'
      rw [c1] at this
      cases this
      have l4 : Le K H μ (upd H T (.tup [.int (i : Nat), v])) μ := le_new hT
      exact ⟨S.new hT, l4, rp_tup (SqT.of upd_same) (Rps.cons rp_int (Rps.cons (Rp.mono l4 _ _ c2) Rps.nil))⟩
  · refine ⟨vs, b', ?_⟩
    rw [c'.len]
    have := Option.some.inj q
    simpa using this
theorem di_enum {elts : List Expr} {kk : Nat} {tpos : Pos} (ha : DA K X [e] ta ma) (hm : X.mg "enumerate" = none) (hg : Gl X "enumerate" := by rfl) (hs : starEach [e] X.env = [(false, eval e X.env)] := by rfl) :
    DI K X (.Tuple elts kk tpos) (.Call (.Name "enumerate" p) [e] [] pos) (iEnum K ta) (enuI ma) := ⟨ha.k, by
  have hk := ha.k
  subst hk
  exact pi_enum hg hm ha.p hs, by
  intro Φ σ H μ sg h s h' S rs e R k
  unfold enuI at e
  split at e
  · rename_i n h1 e1
    split at e
    · rename_i xs q
      cases e
      refine ha.s σ H μ sg h _ _ S rs e1 _ fun vs H1 μ1 S1 l1 r1 => ?_
      obtain ⟨v, rfl, r2⟩ := rps1 r1
      obtain ⟨p, ep, rfl⟩ := rp_at' r2
      obtain ⟨ws, b, c⟩ := S1.lst q ep
      exact ⟨p, ws, rfl, .of b, k _ H1 μ1 S1 l1 (j_enuL ep)⟩
    · cases e
  · rename_i xs h1 e1
    cases e
    refine ha.s σ H μ sg h _ _ S rs e1 _ fun vs H1 μ1 S1 l1 r1 => ?_
    obtain ⟨v, rfl, r2⟩ := rps1 r1
    obtain ⟨p, ws, rfl, b, c⟩ := rp_rol' r2
    exact ⟨p, ws, rfl, b.l, k _ H1 μ1 S1 l1 (j_enuF b c)⟩
  · cases e⟩
end

/-! ### for -/
def forM (s : Src) (g : MG) (b : MS) : Nat → Nat → MS
  | 0, _ => fun _ _ => none
  | k + 1, i => fun sg h => match s.nxt h i with
    | some (some d) => match g d sg h with
      | some (sg1, h1) => match b sg1 h1 with
        | some (.nx sg2, h2) => forM s g b k (i + 1) sg2 h2
        | some (.ct sg2, h2) => forM s g b k (i + 1) sg2 h2
        | some (.bk sg2, h2) => some (.nx sg2, h2)
        | some (.rt d, h2) => some (.rt d, h2)
        | none => none
      | none => none
    | some none => some (.nx sg, h)
    | none => none
def forSM (it : MI) (g : MG) (b : MS) (N : Nat) : MS := fun sg h => match it sg h with
  | some (s, h1) => forM s g b N 0 sg h1
  | none => none
section
variable {K : PySem.W.Frag} {X : Cx} {pos : Pos} {tg it : Expr} {ti : TI} {mi : MI} {gt : TG} {mg : MG} {body : List Stmt} {tb : TS} {mb : MS}
theorem ss_for (N : Nat) (hi : SI K ti mi) (hg : SG K gt mg) (hb : SS K tb mb) : SS K (tFor ti gt tb) (forSM mi mg mb N) := by
  intro Φ σ H μ sg h f h' S rs e E k
  unfold forSM at e
  split at e
  · rename_i s h0 e0
    refine hi σ H μ sg h s h0 S rs e0 _ fun J H0 μ0 S0 l0 hJ => ?_
    refine ⟨fun i m σ1 H1 => ∃ μ1 sg1 h1, Sm Φ K H1 μ1 h1 ∧ Le K H0 μ0 H1 μ1 ∧ Rs K H1 μ1 sg1 σ1 ∧ forM s mg mb m i sg1 h1 = some (f, h'), ⟨N, μ0, sg, h0, S0, Le.refl, rs.mono l0, e⟩, ?_⟩
    rintro i m σ1 H1 ⟨μ1, sg1, h1, S1, l1, rs1, e1⟩
    cases m with
    | zero => cases e1
    | succ m =>
      unfold forM at e1
      obtain ⟨j1, j2⟩ := hJ i H1 μ1 h1 S1 l1
      split at e1
      · rename_i d q
        obtain ⟨go, yld⟩ := j1 d q
        refine .inr ⟨go, fun σ3 H3 => ∃ μ3 sg3 h3, Sm Φ K H3 μ3 h3 ∧ Le K H0 μ0 H3 μ3 ∧ Rs K H3 μ3 sg3 σ3 ∧ forM s mg mb m (i + 1) sg3 h3 = some (f, h'), fun σ3 H3 q => ⟨m, Nat.lt_succ_self _, q⟩, fun x H2 y => ?_⟩
        obtain ⟨S2, l2, r2⟩ := yld x H2 y
        split at e1
        · rename_i sg3 h3 e3
          refine hg σ1 H2 μ1 sg1 h1 d x sg3 h3 S2 (rs1.mono l2) r2 e3 _ fun σ3 H3 μ3 S3 l3 rs3 => ?_
          split at e1
          · rename_i sg4 h4 e4
            exact hb σ3 H3 μ3 sg3 h3 _ h4 S3 rs3 e4 _ fun σ4 H4 μ4 S4 l4 rs4 => ⟨μ4, sg4, h4, S4, ((l1.trans l2).trans l3).trans l4, rs4, e1⟩
          · rename_i sg4 h4 e4
            exact hb σ3 H3 μ3 sg3 h3 _ h4 S3 rs3 e4 _ fun σ4 H4 μ4 S4 l4 rs4 => ⟨μ4, sg4, h4, S4, ((l1.trans l2).trans l3).trans l4, rs4, e1⟩
          · rename_i sg4 h4 e4
            cases e1
            exact hb σ3 H3 μ3 sg3 h3 _ _ S3 rs3 e4 _ fun σ4 H4 μ4 S4 l4 rs4 => k σ4 H4 μ4 S4 ((((l0.trans l1).trans l2).trans l3).trans l4) rs4
          · rename_i d4 h4 e4
            cases e1
            exact hb σ3 H3 μ3 sg3 h3 _ _ S3 rs3 e4 _ fun v H4 μ4 S4 l4 r4 => k v H4 μ4 S4 ((((l0.trans l1).trans l2).trans l3).trans l4) r4
          · cases e1
        · cases e1
      · rename_i q
        cases e1
        exact .inl ⟨j2 q, k σ1 H1 μ1 S1 (l0.trans l1) rs1⟩
      · cases e1
  · cases e
theorem ds_for (N : Nat) (hp : PassesOwn (model X.prog X.w) X.A X.env X.xe) (hi : DI K X tg it ti mi) (hg : DG K X tg gt mg) (hb : DSs K X body tb mb) (hs : ∀ x, foldedSetIterable it X.env x = pure x := by intro _; rfl) (hc : X.calm = true := by rfl) :
    DS K X (.For tg it body [] pos) (tFor ti gt tb) (forSM mi mg mb N) := ⟨hi.k, ps_for hp hc hi.p hg.p hb.p hs, ss_for N hi.s hg.s hb.s⟩

end

/-! ### [e for x in xs if c] -/
def lcM' (s : Src) (g : MG) (c : MT) (a : ME) (D0 : Nat) (sg0 : Sg) : Nat → Nat → Hd → Option Hd
  | 0, _ => fun _ => none
  | k + 1, i => fun h => match s.nxt h i with
    | some (some d) => match g d sg0 h with
      | some (sg1, h1) => match c sg1 h1 with
        | some (true, h2) => match a sg1 h2 with
          | some (y, h3) => match h3[D0]? with
            | some (.lst acc) => if acc.length < LN then lcM' s g c a D0 sg0 k (i + 1) (h3.set D0 (.lst (acc ++ [y]))) else none
            | _ => none
          | none => none
        | some (false, h2) => lcM' s g c a D0 sg0 k (i + 1) h2
        | none => none
      | none => none
    | some none => some h
    | none => none
def lcM (it : MI) (g : MG) (c : MT) (a : ME) (vs : List Nat) (N : Nat) : ME := fun sg h => match it sg h with
  | some (s, h1) => match lcM' s g c a h1.length (wipeD sg vs) N 0 (h1 ++ [.lst []]) with
    | some h2 => some (.at h1.length, h2)
    | none => none
  | none => none
def yesM : MT := fun _ h => some (true, h)
structure DTs (K : PySem.W.Frag) (X : Cx) (ifs : List Expr) (t : TT) (m : MT) : Prop where
  k : X.K = K
  p : PTs X ifs t
  s : ST K t m
section
variable {K : PySem.W.Frag} {X : Cx} {pos : Pos} {tg it elt : Expr} {ifs : List Expr} {ti : TI} {mi : MI} {gt : TG} {mg : MG} {tt : TT} {mt : MT} {te : TE} {me : ME} {scope : Scope} {own : List (Str × Nat)}
theorem dts_nil (hK : X.K = K := by rfl) : DTs K X [] tYes yesM := ⟨hK, pts_nil, fun {Φ} σ H μ sg h b h' S rs e Q k => by cases e; exact k H μ S Le.refl⟩
theorem dts_one {c : Expr} {t : TT} {m : MT} (a : DT K X c t m) : DTs K X [c] t m := ⟨a.k, pts_one a.p, a.s⟩
theorem de_lc (N : Nat) (hN : X.N.Nodup) (hi : DI K X tg it ti mi) (ok : BlkOk X.N X.env.scope scope own) (ho : Only (own.map (·.2)) gt)
    (hg : ∀ (s : Shared) (H : Hp) (C : Addr) (cl : List (Str × Addr)) (fp : List Addr), DG K (X.blk s H scope (compEnvC scope cl C X.env) fp) tg gt mg)
    (ht : ∀ (s : Shared) (H : Hp) (C : Addr) (cl : List (Str × Addr)) (fp : List Addr), DTs K (X.blk s H scope (compEnvC scope cl C X.env) fp) ifs tt mt)
    (he : ∀ (s : Shared) (H : Hp) (C : Addr) (cl : List (Str × Addr)) (fp : List Addr), DE K (X.blk s H scope (compEnvC scope cl C X.env) fp) elt te me) (hs : ∀ x, foldedSetIterable it X.env x = pure x := by intro _; rfl) (hc : X.calm = true := by rfl) :
    DE K X (.ListComp elt [⟨tg, it, ifs, 0⟩] scope pos) (tLc ti gt tt te (own.map (·.2))) (lcM mi mg mt me (own.map (·.2)) N) := ⟨hi.k, pe_lc hc hN hi.p ok (fun s H C cl fp => (hg s H C cl fp).p) (fun s H C cl fp => (ht s H C cl fp).p) (fun s H C cl fp => (he s H C cl fp).p) hs, by
  have sg_ : SG K gt mg := (hg X.s_0 X.H_0 0 [] []).s
  have st_ : ST K tt mt := (ht X.s_0 X.H_0 0 [] []).s
  have se_ : SE K te me := (he X.s_0 X.H_0 0 [] []).s
  intro Φ σ H μ sg h d h' S rs e Q k
  unfold lcM at e
  split at e
  · rename_i s h0 e0
    split at e
    · rename_i h9 e9
      cases e
      refine hi.s σ H μ sg h s h0 S rs e0 _ fun J H0 μ0 S0 l0 hJ => fun D hD => ?_
      have lD : Le K H0 μ0 (upd H0 D (.lst [])) (μ0 ++ [D]) := le_obj hD
      have SD : Sm Φ K (upd H0 D (.lst [])) (μ0 ++ [D]) (h0 ++ [.lst []]) := S0.obj hD ⟨[], upd_same, Rps.nil⟩
      have eD : (μ0 ++ [D])[h0.length]? = some D := obj_at S0 rfl
      refine ⟨fun i m H1 => ∃ μ1 h1, Sm Φ K H1 μ1 h1 ∧ Le K (upd H0 D (.lst [])) (μ0 ++ [D]) H1 μ1 ∧ lcM' s mg mt me h0.length (wipeD sg (own.map (·.2))) m i h1 = some h', ⟨N, μ0 ++ [D], _, SD, Le.refl, e9⟩, ?_⟩
      rintro i m H1 ⟨μ1, h1, S1, l1, e1⟩
      cases m with
      | zero => cases e1
      | succ m =>
        unfold lcM' at e1
        obtain ⟨j1, j2⟩ := hJ i H1 μ1 h1 S1 (lD.trans l1)
        have w0 : Rs K H1 μ1 (wipeD sg (own.map (·.2))) (wipe σ (own.map (·.2))) := (rs.mono ((l0.trans lD).trans l1)).wipe _
        split at e1
        · rename_i d q
          obtain ⟨go, yld⟩ := j1 d q
          refine .inr ⟨go, fun H3 => ∃ μ3 h3, Sm Φ K H3 μ3 h3 ∧ Le K (upd H0 D (.lst [])) (μ0 ++ [D]) H3 μ3 ∧ lcM' s mg mt me h0.length (wipeD sg (own.map (·.2))) m (i + 1) h3 = some h', fun H3 q => ⟨m, Nat.lt_succ_self _, q⟩, fun x H2 y => ?_⟩
          obtain ⟨S2, l2, r2⟩ := yld x H2 y
          split at e1
          · rename_i sg3 h3 e3
            rw [← wipe_idem σ (own.map (·.2))]
            have w1 : Rs K H2 μ1 (wipeD sg (own.map (·.2))) (wipe (wipe σ (own.map (·.2))) (own.map (·.2))) := by rw [wipe_idem]; exact w0.mono l2
            have q3 := ho x (wipe (wipe σ (own.map (·.2))) (own.map (·.2))) H2 (fun σ2 H2 => tt σ2 H2 fun b H3 => if b = true then te σ2 H3 fun y H4 => ∃ acc, H4 D = some (.lst acc) ∧ acc.length < sizeLine ∧ (fun H3 => ∃ μ3 h3, Sm Φ K H3 μ3 h3 ∧ Le K (upd H0 D (.lst [])) (μ0 ++ [D]) H3 μ3 ∧ lcM' s mg mt me h0.length (wipeD sg (own.map (·.2))) m (i + 1) h3 = some h') (upd H4 D (.lst (acc ++ [y]))) else (fun H3 => ∃ μ3 h3, Sm Φ K H3 μ3 h3 ∧ Le K (upd H0 D (.lst [])) (μ0 ++ [D]) H3 μ3 ∧ lcM' s mg mt me h0.length (wipeD sg (own.map (·.2))) m (i + 1) h3 = some h') H3)
              (sg_ _ H2 μ1 _ h1 d x sg3 h3 S2 w1 r2 e3 _ fun σ3 H3 μ3 S3 l3 rs3 => ?_)
            · rw [wipe_idem] at q3 ⊢
              rw [wipe_idem] at q3
              exact q3
            split at e1
            · rename_i h4 e4
              refine st_ σ3 H3 μ3 sg3 h3 _ h4 S3 rs3 e4 _ fun H4 μ4 S4 l4 => iteT ?_
              split at e1
              · rename_i y h5 e5
                refine se_ σ3 H4 μ4 sg3 h4 y h5 S4 (rs3.mono l4) e5 _ fun v H5 μ5 S5 l5 r5 => ?_
                split at e1
                · rename_i acc q5
                  split at e1
                  · rename_i hz
                    have lA := (((l1.trans l2).trans l3).trans l4).trans l5
                    have ep := lA.get eD
                    obtain ⟨ws, b, c⟩ := S5.lst q5 ep
                    have lB : Le K H5 μ5 (upd H5 D (.lst (ws ++ [v]))) μ5 := le_set S5 ep
                    have SB : Sm Φ K (upd H5 D (.lst (ws ++ [v]))) μ5 (h5.set h0.length (.lst (acc ++ [y]))) := S5.set ep ⟨_, upd_same, Rps.mono lB _ _ (c.app (Rps.cons r5 Rps.nil))⟩
                    exact ⟨ws, b, by rw [c.len]; exact ln_lt hz, μ5, _, SB, lA.trans lB, e1⟩
                  · cases e1
                · cases e1
              · cases e1
            · rename_i h4 e4
              refine st_ σ3 H3 μ3 sg3 h3 _ h4 S3 rs3 e4 _ fun H4 μ4 S4 l4 => iteF ?_
              exact ⟨μ4, h4, S4, ((l1.trans l2).trans l3).trans l4, e1⟩
            · cases e1
          · cases e1
        · rename_i q
          cases e1
          refine .inl ⟨j2 q, k _ H1 μ1 S1 ((l0.trans lD).trans l1) (rp_at (l1.get eD))⟩
        · cases e1
    · cases e
  · cases e⟩
end
end DL

/-! DM7: defs and their calls, with what they raise; slices backwards; the end. -/
namespace DL
open PySem L2 PySem.Spec PyProof.Rows

/-! ### room, and no repr that runs -/
structure RoomG (k : Nat) (A : Around) : Prop where
  r : Room k A
  g : A.guards = some []
theorem RoomG.mono {j k : Nat} {A : Around} (r : RoomG k A) (h : j ≤ k) : RoomG j A := ⟨r.r.mono h, r.g⟩
theorem hu1 {A : Around} {k : Nat} (hr : RoomG k A) : A.units + 1 < cLine := hu_of hr.r
theorem hu64 {A : Around} {k : Nat} (hr : RoomG k A) : A.units + 64 < cLine := by have := hr.r.un; omega

/-! ### a def's promise, given no repr that runs -/
structure FnG (P : Program) (w : World) (K : PySem.W.Frag) (mg : Str → Option Value) (base : Heap) (CX : CXT) (k : Nat) (f : Addr) (fd : FuncData) (ps : List Str) (sp : Sp) : Prop where
  len : ∀ vs H Q E, sp vs H Q E → vs.length = ps.length
  run : ∀ (A : Around) (outer : List Env) (s : Shared) (H : Hp) (args : Args) (us : List Value) (vs : List V) (Q : VK) (E : XK), RoomG k A → Env0 P w K mg base A outer s H → BindsTo s fd args (ps.zip us) → Vals vs us → sp vs H Q E →
    codeAny (model P w) A (.call (.ref f) args) (CR CX outer P w H s Q E) s
theorem FnG.mono {P : Program} {w : World} {K : PySem.W.Frag} {mg : Str → Option Value} {base : Heap} {CX : CXT} {j k : Nat} {f : Addr} {fd : FuncData} {ps : List Str} {sp : Sp} (F : FnG P w K mg base CX j f fd ps sp) (h : j ≤ k) :
    FnG P w K mg base CX k f fd ps sp := ⟨F.len, fun A outer s H args us vs Q E hr => F.run A outer s H args us vs Q E (hr.mono h)⟩
theorem fng_of {CX : CXT} {P : Program} {w : World} {K : PySem.W.Frag} {mg : Str → Option Value} {base : Heap} {k : Nat} {f : Addr} {name qual : Str} {params : Arguments} {body : List Stmt} {scope : Scope} {dV kV doc pm cdv ct oc : Value} {an od : Option Addr}
    {osl : Array (Option Value)} {N ps : List Str} {sp : Sp} (lk : K.lookup f = some ⟨oc, od, .func (PySem.W.fnOf name qual params body scope dV kV doc pm an cdv ct), osl⟩) (hcd : PySem.W.codeIn K cdv qual = true) (S : FnScope N ps scope)
    (len : ∀ vs H Q E, sp vs H Q E → vs.length = ps.length)
    (hbody : ∀ (A : Around) (outer : List Env) (s : Shared) (H : Hp) (vs : List V) (Q : VK) (E : XK), RoomG k (A.deeper (envOfC qual scope s.heap.objs.size f cdv)) → sp vs H Q E →
      ∃ t, PSs (cxOf CX P w K mg base N qual scope f cdv A outer s H E) body t ∧ t { nx := fun _ H' => Q .non H', rt := Q } (start N vs) H) :
    FnG P w K mg base CX (k + 1) f (PySem.W.fnOf name qual params body scope dV kV doc pm an cdv ct) ps sp := by
  refine ⟨len, fun A outer s H args us vs Q E hr e0 hb r hsp => ?_⟩
  have hl := len _ _ _ _ hsp
  have KX : K.In s.heap := e0.mod.kin.keeps fun b o e => (e0.bs b o e).1
  have lim : s.heap.NoLimit := e0.mod.nolimit.keeps fun b o e => (e0.bs b o e).1
  have hkind : ∀ y ∈ ps.zip us, scope.names.lookup y.1 = some .local ∨ (scope.names.lookup y.1 = some .cell ∧ ((cellsFrom (s.heap.objs.size + 1) scope.names []).lookup y.1).isSome = true) := fun ⟨n, v⟩ hy => by
    rcases S.par n (List.of_mem_zip hy).1 with q | q
    · exact .inl q
    · exact .inr ⟨q, PySem.W.cellsFrom_some _ _ _ (.inl q)⟩
  refine codeAny_call_function hr.r.depth (KX _ _ lk) rfl S.co S.gen rfl (PySem.W.codeRec_of KX hcd) (hb _ _ _ _ ?_)
  refine wpAny_newFunctionEnv_cells S.kind hkind fun env he s1 x => ?_
  subst he
  refine ⟨lim.keeps x.toInCall.keep, codeAny_func ?_⟩
  obtain ⟨t, ht, hq⟩ := hbody A outer s H vs Q E ⟨hr.r.deeper _, hr.g⟩ hsp
  have I : Inv (cxOf CX P w K mg base N qual scope f cdv A outer s H E) [] (start N vs) H s1 := inv_start S hr.r.hd e0 hl r x
  refine wpAny_mono (ht.run [] s1 (start N vs) H _ I hq) (fun fl s' hs => ?_) fun e s' hs => hs
  have fin : ∀ {σ' : L2.St} {H' : Hp} {v : V} {u : Value}, Inv (cxOf CX P w K mg base N qual scope f cdv A outer s H E) [] σ' H' s' → RelV v u → Q v H' → CE outer P w H s Q u s' :=
    fun {σ' H' v u} J rv q => ⟨v, H', J.os, J.bare, J.base, J.hok, rv, q⟩
  cases fl with
  | ret u =>
    obtain ⟨v, σ', H', J, rv, q⟩ := hs
    exact fin J rv q
  | next =>
    obtain ⟨σ', H', J, q⟩ := hs
    exact fin (v := V.non) (u := Value.none) J rfl q
  | brk =>
    obtain ⟨_, _, _, q⟩ := hs
    exact False.elim q
  | cont =>
    obtain ⟨_, _, _, q⟩ := hs
    exact False.elim q
section
variable {X : Cx} {CX : CXT} {k : Nat} {f : Addr} {fd : FuncData} {ps : List Str} {sp : Sp} {dvs : List V} {ds : List Value} {E : L2.St → XK} {x : Str} {p pos : Pos} {e : Expr} {es : List Expr} {t : TA}
theorem run_fnG {pins : List (Addr × Obj)} {σ : L2.St} {H : Hp} {s : Shared} {Q : VK} {us : List Value} {vs : List V} (F : FnG X.prog X.w X.K X.mg X.base CX k f fd ps sp) (hr : RoomG k X.A) (hb : Binds X.K fd ps ds) (hd : Vals dvs ds) (hx : PassesAt CX X σ (E σ))
    (I : Inv X pins σ H s) (r : Vals vs us) (h : sp (vs ++ dvs) H Q (E σ)) : wpAny (model X.prog X.w) X.A (call (.ref f) us) (EP X pins σ Q) X.xe s := by
  have r2 : Vals (vs ++ dvs) (us ++ ds) := r.append hd
  have hl : (us ++ ds).length = ps.length := by rw [← r2.length]; exact F.len _ _ _ _ h
  refine wpAny_call (codeAny_mono (F.run X.A X.stack s H ⟨us, []⟩ (us ++ ds) (vs ++ dvs) Q (E σ) hr I.env0 (hb s us I.kIn hl) r2 h) fun r s' hq => ?_)
  cases r with
  | error e => exact hx pins H s e s' I hq
  | ok fl =>
    cases fl with
    | ret u => exact I.after hq
    | next => exact False.elim hq
    | brk => exact False.elim hq
    | cont => exact False.elim hq
theorem pe_callG (F : FnG X.prog X.w X.K X.mg X.base CX k f fd ps sp) (hr : RoomG k X.A) (hg : Gl X x) (hm : X.mg x = some (.ref f)) (hk : PySem.W.keepIn X.K (.ref f) = true) (hb : Binds X.K fd ps ds) (hd : Vals dvs ds) (hx : ∀ σ, PassesAt CX X σ (E σ))
    (ha : PA X (e :: es) t) (hdb : (x == ("__debug__" : Str)) = false := by decide) (he : starEach (e :: es) X.env = (false, eval e X.env) :: starEach es X.env := by rfl) (hpl : (backTo pos (starEach es X.env)).any (·.1) = false := by rfl) :
    PE X (.Call (.Name x p) (e :: es) [] pos) (tCallSD sp dvs E t) := by
  refine ⟨fun pins s σ H Q I h => ?_⟩
  refine wpAny_Call_Name_kw (ld_glob I hg hm ?_ hdb)
  refine PySem.W.callWith_K (h₀ := X.base) I.ok.mod.kin hk (thn (ha.run pos pins s σ H _ I h) fun us s1 ⟨vs, H1, I1, r, q⟩ => ⟨I1.kIn, ?_⟩) he hpl
  exact run_fnG F hr hb hd (hx σ) I1 r q
theorem pe_callG0 (F : FnG X.prog X.w X.K X.mg X.base CX k f fd ps sp) (hr : RoomG k X.A) (hg : Gl X x) (hm : X.mg x = some (.ref f)) (hk : PySem.W.keepIn X.K (.ref f) = true) (hb : Binds X.K fd ps ds) (hd : Vals dvs ds) (hx : ∀ σ, PassesAt CX X σ (E σ))
    (hdb : (x == ("__debug__" : Str)) = false := by decide) : PE X (.Call (.Name x p) [] [] pos) (tCallSD sp dvs E tNil) := by
  refine ⟨fun pins s σ H Q I h => ?_⟩
  refine wpAny_Call_Name_kw (ld_glob I hg hm ?_ hdb)
  exact PySem.W.callWith_K0 I.kIn hk (run_fnG (us := []) F hr hb hd (hx σ) I .nil h)
theorem passE0 (σ : L2.St) : PassesAt (L2.CX X.prog X.w) X σ ((fun _ => E0) σ) := fun pins H s e s' I h => passL pins σ H s e s' I h
end

/-! ### what is raised -/
structure Xn where
  cls : Str
  fs : List (Str × D)
abbrev GX := List D → Hd → Option (Xn × Hd)
abbrev MX := Sg → Hd → Option (Xn × Sg × Hd)
def noX : MX := fun _ _ => none
def noGX : GX := fun _ _ => none
/-- the exception x is borne by the class cls and the dict d -/
def RX (K : PySem.W.Frag) (mg : Str → Option Value) (H : Hp) (μ : List Addr) (x : Xn) (cls : Value) (d : Option Addr) : Prop :=
  ∃ (C dx : Addr) (vs : List V), mg x.cls = some (.ref C) ∧ cls = .ref C ∧ d = some dx ∧ H dx = some (.xd ((x.fs.map (·.1)).zip vs)) ∧ Rps K H μ (x.fs.map (·.2)) vs
theorem RX.mono {K : PySem.W.Frag} {mg : Str → Option Value} {H H' : Hp} {μ μ' : List Addr} {x : Xn} {cls : Value} {d : Option Addr} (l : Le K H μ H' μ') (r : RX K mg H μ x cls d) : RX K mg H' μ' x cls d := by
  obtain ⟨C, dx, vs, h1, h2, h3, h4, h5⟩ := r
  exact ⟨C, dx, vs, h1, h2, h3, l.xdt _ _ h4, Rps.mono l _ _ h5⟩
def Wk (Φ : Hp) (K : PySem.W.Frag) (mg : Str → Option Value) (H : Hp) (μ : List Addr) (h' : Hd) (sg' : Sg) (x : Xn) (W : WX) : Prop :=
  ∀ (σ' : L2.St) (H' : Hp) (μ' : List Addr) (cls : Value) (d : Option Addr), Sm Φ K H' μ' h' → Le K H μ H' μ' → Rs K H' μ' sg' σ' → RX K mg H' μ' x cls d → W cls d σ' H'
theorem Wk.le {Φ : Hp} {K : PySem.W.Frag} {mg : Str → Option Value} {H H1 : Hp} {μ μ1 : List Addr} {h' : Hd} {sg' : Sg} {x : Xn} {W : WX} (l : Le K H μ H1 μ1) (k : Wk Φ K mg H μ h' sg' x W) : Wk Φ K mg H1 μ1 h' sg' x W :=
  fun σ' H' μ' cls d S l' rs r => k σ' H' μ' cls d S (l.trans l') rs r
def XEx (K : PySem.W.Frag) (mg : Str → Option Value) (W : WX) (t : TE) (x : MX) : Prop := ∀ {Φ : Hp} (σ : L2.St) (H : Hp) (μ : List Addr) (sg : Sg) (h : Hd) (xn : Xn) (sg' : Sg) (h' : Hd), Sm Φ K H μ h → Rs K H μ sg σ → x sg h = some (xn, sg', h') → Wk Φ K mg H μ h' sg' xn W → ∀ Q : VK, t σ H Q
def XSt (K : PySem.W.Frag) (mg : Str → Option Value) (W : WX) (t : TS) (x : MX) : Prop := ∀ {Φ : Hp} (σ : L2.St) (H : Hp) (μ : List Addr) (sg : Sg) (h : Hd) (xn : Xn) (sg' : Sg) (h' : Hd), Sm Φ K H μ h → Rs K H μ sg σ → x sg h = some (xn, sg', h') → Wk Φ K mg H μ h' sg' xn W → ∀ E : Ends, t E σ H
structure DEX (K : PySem.W.Frag) (mg : Str → Option Value) (X : Cx) (W : WX) (e : Expr) (t : TE) (m : ME) (x : MX) : Prop where
  k : X.K = K
  p : Takes X W → PE X e t
  s : SE K t m
  x : XEx K mg W t x
structure DSX (K : PySem.W.Frag) (mg : Str → Option Value) (X : Cx) (W : WX) (st : Stmt) (t : TS) (m : MS) (x : MX) : Prop where
  k : X.K = K
  p : Takes X W → PassesOwn (model X.prog X.w) X.A X.env X.xe → PS X st t
  s : SS K t m
  x : XSt K mg W t x
structure DSsX (K : PySem.W.Frag) (mg : Str → Option Value) (X : Cx) (W : WX) (st : List Stmt) (t : TS) (m : MS) (x : MX) : Prop where
  k : X.K = K
  p : Takes X W → PassesOwn (model X.prog X.w) X.A X.env X.xe → PSs X st t
  s : SS K t m
  x : XSt K mg W t x
theorem xst_no {K : PySem.W.Frag} {mg : Str → Option Value} {W : WX} {t : TS} : XSt K mg W t noX := by
  intro Φ σ H μ sg h xn sg' h' S rs e
  cases e
theorem DSs.x {K : PySem.W.Frag} {mg : Str → Option Value} {X : Cx} {W : WX} {st : List Stmt} {t : TS} {m : MS} (d : DSs K X st t m) : DSsX K mg X W st t m noX := ⟨d.k, fun _ _ => d.p, d.s, xst_no⟩
theorem DS.x {K : PySem.W.Frag} {mg : Str → Option Value} {X : Cx} {W : WX} {st : Stmt} {t : TS} {m : MS} (d : DS K X st t m) : DSX K mg X W st t m noX := ⟨d.k, fun _ _ => d.p, d.s, xst_no⟩

/-! ### what a def keeps -/
def spX (K : PySem.W.Frag) (mg : Str → Option Value) (n : Nat) (m : GC) (x : GX) : Sp := fun vs H Q E => ∃ (Φ : Hp) (μ : List Addr) (ds : List D) (h : Hd), Sm Φ K H μ h ∧ Rps K H μ ds vs ∧ ds.length = n ∧
  ((∃ (d : D) (h' : Hd), m ds h = some (d, h') ∧ Kn Φ K H μ h' d Q) ∨
    ∃ (xn : Xn) (h' : Hd), x ds h = some (xn, h') ∧ ∀ (H' : Hp) (μ' : List Addr) (cls : Value) (d : Option Addr), Sm Φ K H' μ' h' → Le K H μ H' μ' → RX K mg H' μ' xn cls d → E cls d H')
def startD (n : Nat) (ds : List D) : Sg := ds.map some ++ List.replicate (n - ds.length) none
def bodyM (n : Nat) (ms : MS) : GC := fun ds h => match ms (startD n ds) h with
  | some (.nx _, h') => some (.non, h')
  | some (.rt d, h') => some (d, h')
  | _ => none
def bodyX (n : Nat) (x : MX) : GX := fun ds h => match x (startD n ds) h with
  | some (xn, _, h') => some (xn, h')
  | none => none
theorem rs_start {K : PySem.W.Frag} {H : Hp} {μ : List Addr} {N : List Str} {ds : List D} {vs : List V} (r : Rps K H μ ds vs) : Rs K H μ (startD N.length ds) (L2.start N vs) := by
  unfold startD L2.start
  rw [r.len]
  refine ⟨by simp [r.len], fun i d e => ?_⟩
  rw [List.getElem?_append] at e ⊢
  rw [List.length_map] at e
  rw [List.length_map, r.len]
  split at e
  · rename_i hi
    rw [if_pos hi]
    rw [List.getElem?_map] at e ⊢
    cases q : ds[i]? with
    | none => rw [q] at e; cases e
    | some d' =>
      rw [q] at e
      cases e
      obtain ⟨v, a, b⟩ := r.get q
      exact ⟨v, by rw [a]; rfl, b⟩
  · rename_i hi
    rw [List.getElem?_replicate] at e
    split at e <;> cases e
section
variable {P : Program} {w : World} {K : PySem.W.Frag} {mg : Str → Option Value} {base : Heap}
theorem body_ok {N : List Str} {X : Cx} {body : List Stmt} {t : TS} {ms : MS} {xs : MX} {vs : List V} {H : Hp} {Q : VK} {E : XK} {n : Nat} (d : DSsX K mg X (fun cls d _ H => E cls d H) body t ms xs)
    (h : spX K mg n (bodyM N.length ms) (bodyX N.length xs) vs H Q E) : t { nx := fun _ H' => Q .non H', rt := Q } (L2.start N vs) H := by
  obtain ⟨Φ, μ, ds, h0, S, r, _, ⟨dd, h', e, k⟩ | ⟨xn, h', e, k⟩⟩ := h
  · unfold bodyM at e
    split at e
    · rename_i sg' h1 e1
      cases e
      exact d.s _ H μ _ h0 _ _ S (rs_start r) e1 _ fun σ' H' μ' S' l' r' => k .non H' μ' S' l' rp_non
    · rename_i d1 h1 e1
      cases e
      exact d.s _ H μ _ h0 _ _ S (rs_start r) e1 _ k
    · cases e
  · unfold bodyX at e
    split at e
    · rename_i xn1 sg1 h1 e1
      cases e
      exact d.x _ H μ _ h0 _ _ _ S (rs_start r) e1 (fun σ' H' μ' cls dd S' l' _ rx => k H' μ' cls dd S' l' rx) _
    · cases e
theorem sp_len {n : Nat} {m : GC} {x : GX} {vs : List V} {H : Hp} {Q : VK} {E : XK} (h : spX K mg n m x vs H Q E) : vs.length = n := by
  obtain ⟨Φ, μ, ds, h0, S, r, hl, _⟩ := h
  rw [r.len, hl]
/-- the wish of a body, and what passes through it -/
abbrev BdW (E : XK) : WX := fun cls d _ H => E cls d H
theorem fn_M {x qual : Str} {st : Stmt} {f : Addr} {fd : FuncData} {N ps : List Str} {k : Nat} {ms : MS} {xs : MX} (F : Fun K x qual st f fd) (S : FnScope N ps (defScope st))
    (hb : ∀ (cdv : Value) (A : Around) (outer : List Env) (s : Shared) (H : Hp) (E : XK), RoomG k (A.deeper (envOfC qual (defScope st) s.heap.objs.size f cdv)) →
      ∃ t, DSsX K mg (cxOf (L2.CX P w) P w K mg base N qual (defScope st) f cdv A outer s H E) (BdW E) (defBody st) t ms xs) : FnG P w K mg base (L2.CX P w) (k + 1) f fd ps (spX K mg ps.length (bodyM N.length ms) (bodyX N.length xs)) := by
  obtain ⟨oc, od, kV, doc, pm, an, cdv, ct, osl, rfl, lk, hcd⟩ := F.ex
  refine fng_of lk hcd S (fun vs H Q E h => sp_len h) fun A outer s H vs Q E hr h => ?_
  obtain ⟨t, d⟩ := hb cdv A outer s H E hr
  exact ⟨t, d.p (takes_of rfl rfl rfl rfl) (passes_of rfl), body_ok d h⟩
theorem fn_MD {x qual : Str} {pa : Arguments} {bd : List Stmt} {sc : Scope} {dvs : List V} {kws : List (Str × V)} {f : Addr} {fd : FuncData} {N ps : List Str} {k : Nat} {ms : MS} {xs : MX} (F : FunD K x qual pa bd sc dvs kws f fd) (S : FnScope N ps sc)
    (hb : ∀ (cdv : Value) (A : Around) (outer : List Env) (s : Shared) (H : Hp) (E : XK), RoomG k (A.deeper (envOfC qual sc s.heap.objs.size f cdv)) →
      ∃ t, DSsX K mg (cxOf (L2.CX P w) P w K mg base N qual sc f cdv A outer s H E) (BdW E) bd t ms xs) : FnG P w K mg base (L2.CX P w) (k + 1) f fd ps (spX K mg ps.length (bodyM N.length ms) (bodyX N.length xs)) := by
  obtain ⟨oc, od, dV, kV, doc, pm, an, cdv, ct, osl, rfl, lk, hcd, _, _⟩ := F.ex
  refine fng_of lk hcd S (fun vs H Q E h => sp_len h) fun A outer s H vs Q E hr h => ?_
  obtain ⟨t, d⟩ := hb cdv A outer s H E hr
  exact ⟨t, d.p (takes_of rfl rfl rfl rfl) (passes_of rfl), body_ok d h⟩
theorem fn_none {f : Addr} {fd : FuncData} {ps : List Str} {k n : Nat} : FnG P w K mg base (L2.CX P w) k f fd ps (spX K mg n (fun _ _ => none) noGX) :=
  ⟨fun vs H Q E h => (by
    obtain ⟨_, _, _, _, _, _, _, ⟨_, _, e, _⟩ | ⟨_, _, e, _⟩⟩ := h <;> cases e), fun A outer s H args us vs Q E _ _ _ _ h => (by
    obtain ⟨_, _, _, _, _, _, _, ⟨_, _, e, _⟩ | ⟨_, _, e, _⟩⟩ := h <;> cases e)⟩

/-- the def x keeps: called with n things it does what m says, or raises what xg says -/
structure CalM (P : Program) (w : World) (K : PySem.W.Frag) (mg : Str → Option Value) (base : Heap) (k : Nat) (x : Str) (n : Nat) (m : GC) (xg : GX) (dd : List D) : Prop where
  ex : ∃ (f : Addr) (fd : FuncData) (ps : List Str) (ds : List Value) (dvs : List V), FnG P w K mg base (L2.CX P w) k f fd ps (spX K mg n m xg) ∧ mg x = some (.ref f) ∧ PySem.W.keepIn K (.ref f) = true ∧ Binds K fd ps ds ∧ Vals dvs ds ∧ ∀ H μ, Rps K H μ dd dvs
theorem CalM.mono {j k : Nat} {x : Str} {n : Nat} {m : GC} {xg : GX} {dd : List D} (c : CalM P w K mg base j x n m xg dd) (h : j ≤ k) : CalM P w K mg base k x n m xg dd := by
  obtain ⟨f, fd, ps, ds, dvs, F, r⟩ := c.ex
  exact ⟨f, fd, ps, ds, dvs, F.mono h, r⟩
theorem rps_nil0 : ∀ H μ, Rps K H μ [] ([] : List V) := fun _ _ => Rps.nil
end
def callM (n : Nat) (m : GC) (dd : List D) (a : MA) : ME := fun sg h => match a sg h with
  | some (xs, h1) => if (xs ++ dd).length = n then m (xs ++ dd) h1 else none
  | none => none
def callX (n : Nat) (x : GX) (dd : List D) (a : MA) : MX := fun sg h => match a sg h with
  | some (xs, h1) => if (xs ++ dd).length = n then match x (xs ++ dd) h1 with
    | some (xn, h2) => some (xn, sg, h2)
    | none => none else none
  | none => none
def tcM (K : PySem.W.Frag) (mg : Str → Option Value) (n : Nat) (m : GC) (xg : GX) (dd : List D) (E : L2.St → XK) (ta : TA) : TE := fun σ H Q => ∀ dvs : List V, (∀ H μ, Rps K H μ dd dvs) → tCallSD (spX K mg n m xg) dvs E ta σ H Q
section
variable {P : Program} {w : World} {K : PySem.W.Frag} {mg : Str → Option Value} {base : Heap} {X : Cx} {pos p : Pos} {e : Expr} {es : List Expr} {ta : TA} {ma : MA} {x : Str} {n j k : Nat} {m : GC} {xg : GX} {dd : List D} {E : L2.St → XK} {W : WX}
theorem se_call (ha : SA K ta ma) : SE K (tcM K mg n m xg dd E ta) (callM n m dd ma) := by
  intro Φ σ H μ sg h d h' S rs e Q kk dvs hd
  unfold callM at e
  split at e
  · rename_i xs h1 e1
    split at e
    · rename_i hl
      exact ha σ H μ sg h xs h1 S rs e1 _ fun vs H1 μ1 S1 l1 r1 => ⟨Φ, μ1, xs ++ dd, h1, S1, r1.app (hd H1 μ1), hl, .inl ⟨d, h', e, fun v H2 μ2 S2 l2 r2 => kk v H2 μ2 S2 (l1.trans l2) r2⟩⟩
    · cases e
  · cases e
theorem xe_call (ha : SA K ta ma) : XEx K mg W (tcM K mg n m xg dd (WE W) ta) (callX n xg dd ma) := by
  intro Φ σ H μ sg h xn sg' h' S rs e kk Q dvs hd
  unfold callX at e
  split at e
  · rename_i xs h1 e1
    split at e
    · rename_i hl
      split at e
      · rename_i xn2 h2 e2
        cases e
        exact ha σ H μ sg h xs h1 S rs e1 _ fun vs H1 μ1 S1 l1 r1 => ⟨Φ, μ1, xs ++ dd, h1, S1, r1.app (hd H1 μ1), hl, .inr ⟨xn, h', e2, fun H2 μ2 cls d S2 l2 rx => kk σ H2 μ2 cls d S2 (l1.trans l2) (rs.mono (l1.trans l2)) rx⟩⟩
      · cases e
    · cases e
  · cases e
theorem de_call (c : CalM X.prog X.w K mg X.base j x n m xg dd) (hr : RoomG k X.A) (ha : DA K X (e :: es) ta ma) (hj : j ≤ k := by omega) (hmg : X.mg = mg := by rfl) (hg : Gl X x := by rfl)
    (hdb : (x == ("__debug__" : Str)) = false := by decide) (he : starEach (e :: es) X.env = (false, eval e X.env) :: starEach es X.env := by rfl) (hpl : (backTo pos (starEach es X.env)).any (·.1) = false := by rfl) :
    DE K X (.Call (.Name x p) (e :: es) [] pos) (tcM K mg n m xg dd (fun _ => E0) ta) (callM n m dd ma) := ⟨ha.k, by
  have hk := ha.k
  subst hk
  subst hmg
  obtain ⟨f, fd, ps, ds, dvs, F, h1, h2, h3, h4, h5⟩ := c.ex
  exact ⟨fun pins s σ H Q I q => (pe_callG F (hr.mono hj) hg h1 h2 h3 h4 (fun σ => passE0 σ) ha.p hdb he hpl).run pins s σ H Q I (q dvs h5)⟩, se_call ha.s⟩
theorem de_call0 (c : CalM X.prog X.w K mg X.base j x n m xg dd) (hr : RoomG k X.A) (hj : j ≤ k := by omega) (hmg : X.mg = mg := by rfl) (hg : Gl X x := by rfl)
    (hdb : (x == ("__debug__" : Str)) = false := by decide) (hK : X.K = K := by rfl) :
    DE K X (.Call (.Name x p) [] [] pos) (tcM K mg n m xg dd (fun _ => E0) tNil) (callM n m dd nilM) := ⟨hK, by
  have hk := hK
  subst hk
  subst hmg
  obtain ⟨f, fd, ps, ds, dvs, F, h1, h2, h3, h4, h5⟩ := c.ex
  exact ⟨fun pins s σ H Q I q => (pe_callG0 F (hr.mono hj) hg h1 h2 h3 h4 (fun σ => passE0 σ) hdb).run pins s σ H Q I (q dvs h5)⟩, se_call (da_nil (X := X) hK).s⟩
theorem dx_call (c : CalM X.prog X.w K mg X.base j x n m xg dd) (hr : RoomG k X.A) (ha : DA K X (e :: es) ta ma) (hj : j ≤ k := by omega) (hmg : X.mg = mg := by rfl) (hg : Gl X x := by rfl)
    (hdb : (x == ("__debug__" : Str)) = false := by decide) (he : starEach (e :: es) X.env = (false, eval e X.env) :: starEach es X.env := by rfl) (hpl : (backTo pos (starEach es X.env)).any (·.1) = false := by rfl) :
    DEX K mg X W (.Call (.Name x p) (e :: es) [] pos) (tcM K mg n m xg dd (WE W) ta) (callM n m dd ma) (callX n xg dd ma) := ⟨ha.k, fun tk => by
  subst hmg
  have hk := ha.k
  subst hk
  obtain ⟨f, fd, ps, ds, dvs, F, h1, h2, h3, h4, h5⟩ := c.ex
  exact ⟨fun pins s σ H Q I q => (pe_callG F (hr.mono hj) hg h1 h2 h3 h4 (passAt tk) ha.p hdb he hpl).run pins s σ H Q I (q dvs h5)⟩, se_call ha.s, xe_call ha.s⟩
theorem dx_call0 (c : CalM X.prog X.w K mg X.base j x n m xg dd) (hr : RoomG k X.A) (hj : j ≤ k := by omega) (hmg : X.mg = mg := by rfl) (hg : Gl X x := by rfl)
    (hdb : (x == ("__debug__" : Str)) = false := by decide) (hK : X.K = K := by rfl) :
    DEX K mg X W (.Call (.Name x p) [] [] pos) (tcM K mg n m xg dd (WE W) tNil) (callM n m dd nilM) (callX n xg dd nilM) := ⟨hK, fun tk => by
  subst hmg
  have hk := hK
  subst hk
  obtain ⟨f, fd, ps, ds, dvs, F, h1, h2, h3, h4, h5⟩ := c.ex
  exact ⟨fun pins s σ H Q I q => (pe_callG0 F (hr.mono hj) hg h1 h2 h3 h4 (passAt tk) hdb).run pins s σ H Q I (q dvs h5)⟩, se_call (da_nil (X := X) hK).s, xe_call (da_nil (X := X) hK).s⟩
end

/-! ### t[:0:-1], xs[::-1] -/
/-- the items from the last one down to the one behind the place hi -/
def backs {α : Type} (xs : List α) (hi : Option Int) : List α := match hi with
  | none => xs.reverse
  | some _ => (xs.drop 1).reverse
def TS3 := V → Option Int → Hp → VK → Prop
def rBackT (K : PySem.W.Frag) : V → Option Int → Hp → VK → Prop := fun x hi H Q => ∃ a xs, x = .ref a ∧ (hi = none ∨ hi = some 0) ∧ SqT K H a xs ∧ ∀ p, H p = none → Q (.ref p) (upd H p (.tup (backs xs hi)))
def rBackL (K : PySem.W.Frag) : V → Option Int → Hp → VK → Prop := fun x hi H Q => ∃ a xs, x = .ref a ∧ (hi = none ∨ hi = some 0) ∧ SqL K H a xs ∧ ∀ p, H p = none → Q (.ref p) (upd H p (.lst (backs xs hi)))
def tBack (r : V → Option Int → Hp → VK → Prop) (te : TE) (th : TO) (ts : TO) : TE := fun σ H Q => te σ H fun x H1 => th σ H1 fun u H2 => ts σ H2 fun st H3 => st = some (-1) ∧ r x u H3 Q
/-- x[:hi:-1] by values -/
def BkR (X : Cx) (r : V → Option Int → Hp → VK → Prop) : Prop :=
  ∀ (pins : List (Addr × Obj)) (s : Shared) (σ : L2.St) (H : Hp) (x : V) (v vu vs : Value) (hi : Option Int) (sl : Addr) (Q : VK), Inv X pins σ H s → RelV x v → s.heap.IsSliceOf sl .none vu vs → IsPart vu hi → IsPart vs (some (-1)) → r x hi H Q →
    ∃ T id, typeLookup (.type T) "__getitem__" = pure (some (.builtin id)) ∧ s.TypeIs v T ∧ wpAny (model X.prog X.w) X.A (getItem v (.ref sl)) (EP X pins σ Q) X.xe s
theorem pe_back {X : Cx} {e st : Expr} {hi : Option Expr} {p2 pos : Pos} {te : TE} {th ts : TO} {r : V → Option Int → Hp → VK → Prop} (hr : BkR X r) (he : PE X e te) (hu : PO X hi th) (hs : PO X (some st) ts) : PE X (.Subscript e (.Slice none hi (some st) p2) pos) (tBack r te th ts) := by
  refine ⟨fun pins s σ H Q I h => ?_⟩
  refine Subscript_ (thn (he.run pins s σ H _ I h) fun v s1 ⟨x, H1, I1, r1, q1⟩ => ?_)
  refine wpAny_Slice ?_
  rw [evalPart_none]
  refine wpAny_pure ?_
  refine thn (hu.run pins s1 σ H1 _ I1 q1) fun vu s3 ⟨u, H3, I3, pu, q3⟩ => ?_
  refine thn (hs.run pins s3 σ H3 _ I3 q3) fun vs s4 ⟨k, H4, I4, ps, ek, q4⟩ => ?_
  subst ek
  have I5 : Inv X pins σ H4 { s4 with heap := s4.heap.push { cls := .type "slice", data := .fields #[.none, vu, vs] } } := I4.kept (t' := s4.toks) fun b ob q => Heap.get?_push_of_some _ q
  obtain ⟨T, id, hT, ht, hg⟩ := hr pins { s4 with heap := s4.heap.push { cls := .type "slice", data := .fields #[.none, vu, vs] } } σ H4 x v vu vs u s4.heap.objs.size Q I5 r1 (Heap.IsSliceOf.new ..) pu ps q4
  show wpAny (model X.prog X.w) X.A (subscriptTail e (.Slice none hi (some st) p2) v (.ref s4.heap.objs.size)) (EP X pins σ Q) X.xe { s4 with heap := s4.heap.push { cls := .type "slice", data := .fields #[.none, vu, vs] } }
  exact tail_any (ops := [v, .ref s4.heap.objs.size]) ht hT hg (by with_unfolding_all rfl)
theorem fm_congr {α β : Type} {f g : α → Option β} : ∀ l : List α, (∀ x ∈ l, f x = g x) → l.filterMap f = l.filterMap g
  | [], _ => rfl
  | a :: l, h => by
    rw [List.filterMap_cons, List.filterMap_cons, h a List.mem_cons_self, fm_congr l fun x hx => h x (List.mem_cons_of_mem _ hx)]
theorem range_get (l : List Value) : ∀ n, (List.range n).filterMap (fun m => l[m]?) = l.take n
  | 0 => by simp
  | n + 1 => by
    rw [List.range_succ, List.filterMap_append, range_get l n, List.take_add_one]
    simp [List.filterMap_cons]
    cases l[n]? <;> simp
theorem backs_pick (l : List Value) (j : Nat) : (List.range (l.length - j)).filterMap (fun (m : Nat) => l.toArray[((l.length : Int) - 1 + (m : Int) * (-1)).toNat]?) = (l.drop j).reverse := by
  have e : (List.range (l.length - j)).filterMap (fun (m : Nat) => l.toArray[((l.length : Int) - 1 + (m : Int) * (-1)).toNat]?) = (List.range (l.length - j)).filterMap (fun m => l.reverse[m]?) := by
    refine fm_congr _ fun m hm => ?_
    have hm := List.mem_range.mp hm
    have h1 : ((l.length : Int) - 1 + (m : Int) * (-1)).toNat = l.length - 1 - m := by omega
    rw [h1, List.getElem?_toArray, List.getElem?_reverse (by omega)]
  rw [e, range_get]
  rw [List.reverse_drop]
theorem adjust_back {hi : Option Int} (h : hi = none ∨ hi = some 0) (n : Nat) : ∃ j : Nat, Builtin.Slice.sliceAdjust none hi (-1) (n : Int) = ((n : Int) - 1, (j : Int) - 1) ∧ Builtin.Slice.slicePlaces ((n : Int) - 1) ((j : Int) - 1) (-1) = n - j ∧ ∀ {α : Type} (xs : List α), xs.length = n → (xs.drop j).reverse = backs xs hi := by
  have h1 : ((-1 : Int) < 0) := by omega
  have pl : ∀ j : Nat, Builtin.Slice.slicePlaces ((n : Int) - 1) ((j : Int) - 1) (-1) = n - j := fun j => by
    unfold Builtin.Slice.slicePlaces
    have h2 : ¬ ((-1 : Int) > 0) := by omega
    simp only [h2, if_false]
    have h3 : (- (-1 : Int)) = 1 := by omega
    rw [h3, Int.ediv_one]
    split <;> omega
  rcases h with rfl | rfl
  · refine ⟨0, ?_, pl 0, fun xs _ => rfl⟩
    unfold Builtin.Slice.sliceAdjust
    simp only [h1, if_true]
    rfl
  · cases n with
    | zero =>
      refine ⟨0, ?_, pl 0, fun xs hx => ?_⟩
      · rfl
      · have : xs = [] := List.length_eq_zero_iff.mp hx
        subst this
        rfl
    | succ n =>
      refine ⟨1, ?_, pl 1, fun xs _ => rfl⟩
      unfold Builtin.Slice.sliceAdjust
      simp only [h1, if_true]
      have h2 : ¬ ((0 : Int) < 0) := by omega
      simp only [h2, if_false]
      refine Prod.ext rfl ?_
      show min (0 : Int) (((n + 1 : Nat) : Int) - 1) = ((1 : Nat) : Int) - 1
      omega
section
variable {prog : Program} {w : World} {A : Around} {E : Value → Shared → Prop} {s : Shared}
theorem sliceApplied_back {sl : Addr} {vu vs : Value} {hi : Option Int} {n j : Nat} {Q : Int × Int × Nat → Shared → Prop} (hs : s.heap.IsSliceOf sl .none vu vs) (pu : IsPart vu hi) (ps : IsPart vs (some (-1)))
    (ha : Builtin.Slice.sliceAdjust none hi (-1) (n : Int) = ((n : Int) - 1, (j : Int) - 1)) (hp : Builtin.Slice.slicePlaces ((n : Int) - 1) ((j : Int) - 1) (-1) = n - j)
    (h : Q ((n : Int) - 1, -1, n - j) s) : wpAny (model prog w) A (Builtin.Slice.sliceApplied (.ref sl) (pure (n : Int))) Q E s := by
  obtain ⟨os, hos, hcs, hds⟩ := id hs
  unfold Builtin.Slice.sliceApplied Builtin.Slice.sliceFields
  refine wpAny_bind (wpAny_bind (wpAny_field hos hds (x := .none) rfl (wpAny_bind (wpAny_field hos hds (x := vu) rfl (wpAny_bind (wpAny_field hos hds (x := vs) rfl (wpAny_pure ?_)))))))
  refine wpAny_bind (HT.slicePart_ ps ?_)
  show wpAny _ _ (if ((-1 : Int) == 0) = true then _ else _) _ _ s
  rw [if_neg (by decide)]
  refine wpAny_bind (HT.slicePart_ .none (wpAny_bind (HT.slicePart_ pu (wpAny_bind (wpAny_pure ?_)))))
  show wpAny _ _ (match Builtin.Slice.sliceAdjust none hi (-1) (n : Int) with | (lo, hi) => pure (lo, (-1 : Int), Builtin.Slice.slicePlaces lo hi (-1))) _ _ s
  rw [ha]
  show wpAny _ _ (pure ((n : Int) - 1, (-1 : Int), Builtin.Slice.slicePlaces ((n : Int) - 1) ((j : Int) - 1) (-1))) _ _ s
  rw [hp]
  exact wpAny_pure h
theorem getItem_tuple_back {t sl : Addr} {items : List Value} {vu vs : Value} {hi : Option Int} {Q : Value → Shared → Prop} (ht : IsTup s.heap t items.toArray) (hs : s.heap.IsSliceOf sl .none vu vs) (pu : IsPart vu hi) (ps : IsPart vs (some (-1))) (hh : hi = none ∨ hi = some 0)
    (h : Q (.ref s.heap.objs.size) { s with heap := s.heap.push { cls := .type "tuple", data := .seq (backs items hi).toArray } })
    (hsz : items.length ≤ sizeLine) : wpAny (model prog w) A (getItem (.ref t) (.ref sl)) Q E s := by
  obtain ⟨j, ha, hp, hb⟩ := adjust_back hh items.length
  have hb := hb items rfl
  have htake : sizeOk (.seq (backs items hi).toArray) := by
    show (backs items hi).toArray.size ≤ sizeLine
    rw [← hb, List.size_toArray, List.length_reverse, List.length_drop]
    omega
  obtain ⟨os, hos, hcs, hds⟩ := id hs
  have hTs : s.TypeIs (.ref sl) "slice" := ⟨os, hos, hcs⟩
  unfold getItem
  try with_reducible refine wpAny_holding ?_
  first | refine wpAny_bind (wpAny_pure ?_) | skip
  refine wpAny_bind (wpAny_sequenceKey ht.typeIs (by decide) ?_)
  refine wpAny_bind (wpAny_callSpecial?_slot (name := Str.ofString "__getitem__") ht.typeIs PyProof.Rows.slot_tuple_getitem
    (wpAny_call_entry PyProof.Rows.slot_tuple_getitem ht.typeIs entry_tuple_getitem ?_ (args_tuple_getitem _ _)))
  show wpAny _ _ (Builtin.Tuple.tupleItemsOf (.ref t) >>= _) _ _ s
  refine wpAny_bind (tupleItemsOf_ ht ?_)
  refine wpAny_bind (wpAny_typeOf hTs ?_)
  rw [if_pos (by decide)]
  rw [List.size_toArray]
  refine wpAny_bind (sliceApplied_back hs pu ps ha hp ?_)
  show wpAny _ _ (if (((items.length : Int) - 1) == 0 && (-1 : Int) == 1 && (items.length - j) == items.length) = true then _ else _) _ _ s
  rw [if_neg (by
    intro q
    rw [Bool.and_eq_true, Bool.and_eq_true] at q
    exact absurd q.1.2 (by decide)), backs_pick, hb]
  first
    | exact wpAny_bind (m := Builtin.Tuple.tupleExact _) (wpAny_newObj_type (wpAny_pure ⟨_, rfl, wpAny_pure h⟩) htake)
    | exact wpAny_bind (m := Builtin.Tuple.tupleExact _) (wpAny_newObj_type (wpAny_bind (wpAny_pure (wpAny_pure ⟨_, rfl, wpAny_pure h⟩))) htake)
    | exact wpAny_bind (wpAny_bind (m := Builtin.Tuple.tupleExact _) (wpAny_newObj_type (wpAny_pure (wpAny_pure ⟨_, rfl, wpAny_pure h⟩)) htake))
    | exact wpAny_bind (wpAny_bind (m := Builtin.Tuple.tupleExact _) (wpAny_newObj_type (wpAny_pure ⟨_, rfl, wpAny_pure h⟩) htake))
end
section
variable {X : Cx} {K : PySem.W.Frag}
theorem vals_backs {hi : Option Int} {xs : List V} {us : List Value} (r : Vals xs us) : Vals (backs xs hi) (backs us hi) := by
  cases hi with
  | none => exact Vals.reverse r
  | some i => exact Vals.reverse (r.drop 1)
theorem backs_length {α : Type} (xs : List α) (hi : Option Int) : (backs xs hi).length ≤ xs.length := by
  cases hi <;> simp [backs]
theorem bk_tup : BkR X (rBackT X.K) := by
  intro pins s σ H x v vu vs hi sl Q I rx hs pu ps h
  obtain ⟨a, xs, rfl, hh, hx, q⟩ := h
  cases rx
  obtain ⟨its, r, ht, hz⟩ := I.tuple hx
  refine ⟨"tuple", _, PyProof.Rows.slot_tuple_getitem.lookup, ht.typeIs, ?_⟩
  refine getItem_tuple_back ht hs pu ps hh ?_ (by rw [← r.length]; exact hz)
  refine ⟨.ref s.heap.objs.size, _, I.laid (t' := s.toks) (o := .tup (backs xs hi)) (fun b ob q => Heap.get?_push_of_some _ q) (Nat.le_refl _) ?_, rfl, q _ (I.hok.fresh (Nat.le_refl _))⟩
  exact ⟨Nat.le_trans (backs_length xs hi) hz, _, vals_backs r, IsTup.new _ _⟩
theorem bk_list : BkR X (fun x hi H Q => hi = none ∧ rBackL X.K x hi H Q) := by
  intro pins s σ H x v vu vs hi sl Q I rx hs pu ps h
  obtain ⟨rfl, a, xs, rfl, hh, hx, q⟩ := h
  cases rx
  obtain ⟨its, r, ht, hz⟩ := I.list hx
  have hlen := r.length
  refine ⟨"list", _, slot_list_getitem.lookup, ht.isList.typeIs, ?_⟩
  refine wpAny_getItem_list_slice ht.isList hs .none pu ps (by simp) ?_ (by rw [List.size_toArray] <;> omega)
  rw [PySem.W.krv_pick]
  refine ⟨.ref s.heap.objs.size, _, I.laid (t' := s.toks) (o := .lst (backs xs none)) (fun b ob q => Heap.get?_push_of_some _ q) (Nat.le_refl _) ?_, rfl, q _ (I.hok.fresh (Nat.le_refl _))⟩
  exact ⟨Nat.le_trans (backs_length xs none) hz, _, 0, Vals.reverse r, Heap.get?_push_size _ rfl⟩
def rBackU (K : PySem.W.Frag) : V → Option Int → Hp → VK → Prop := fun x hi H Q => rBackT K x hi H Q ∨ (hi = none ∧ rBackL K x hi H Q)
theorem bk_U (hK : X.K = K := by rfl) : BkR X (rBackU K) := by
  subst hK
  intro pins s σ H x v vu vs hi sl Q I rx hs pu ps h
  rcases h with h | h
  · exact bk_tup pins s σ H x v vu vs hi sl Q I rx hs pu ps h
  · exact bk_list pins s σ H x v vu vs hi sl Q I rx hs pu ps h
def backD (x : D) (hi : Option Int) (h : Hd) : Option (D × Hd) := match x with
  | .tup xs => match hi with
    | none => some (.tup (backs xs none), h)
    | some i => if i = 0 then some (.tup (backs xs (some 0)), h) else none
  | .rol xs => match hi with
    | none => some (.at h.length, h ++ [.lst xs.reverse])
    | some _ => none
  | .at n => match hi with
    | none => match h[n]? with
      | some (.lst xs) => some (.at h.length, h ++ [.lst xs.reverse])
      | _ => none
    | some _ => none
  | _ => none
def backM (a : ME) (hi st : MO) : ME := fun sg h => match a sg h with
  | some (x, h1) => match hi sg h1 with
    | some (u, h2) => match st sg h2 with
      | some (some k, h3) => if k = -1 then backD x u h3 else none
      | _ => none
    | none => none
  | none => none
theorem rps_backs {H : Hp} {μ : List Addr} {ds : List D} {vs : List V} (r : Rps K H μ ds vs) (hi : Option Int) : Rps K H μ (backs ds hi) (backs vs hi) := by
  cases hi with
  | none => exact r.rev
  | some i => exact (r.drop 1).rev
theorem de_back {a : Expr} {ta : TE} {ma : ME} {hi : Option Expr} {st : Expr} {th ts : TO} {mh ms : MO} {p2 pos : Pos} (ha : DE K X a ta ma) (hh : DO K X hi th mh) (hs : DO K X (some st) ts ms) : DE K X (.Subscript a (.Slice none hi (some st) p2) pos) (tBack (rBackU K) ta th ts) (backM ma mh ms) := ⟨ha.k, pe_back (bk_U ha.k) ha.p hh.p hs.p, by
  intro Φ σ H μ sg h d h' S rs e Q k
  unfold backM at e
  split at e
  · rename_i x h1 e1
    split at e
    · rename_i u h2 e2
      split at e
      · rename_i kk h3 e3
        split at e
        · rename_i hk
          subst hk
          refine ha.s σ H μ sg h x h1 S rs e1 _ fun v H1 μ1 S1 l1 r1 => ?_
          refine hh.s σ H1 μ1 sg h1 u h2 S1 (rs.mono l1) e2 _ fun H2 μ2 S2 l2 => ?_
          refine hs.s σ H2 μ2 sg h2 _ h3 S2 (rs.mono (l1.trans l2)) e3 _ fun H3 μ3 S3 l3 => ⟨rfl, ?_⟩
          have r3 := Rp.mono (l2.trans l3) _ _ r1
          have k3 : Kn Φ K H3 μ3 h' d Q := fun v H' μ' S' l' r' => k v H' μ' S' (((l1.trans l2).trans l3).trans l') r'
          unfold backD at e
          split at e
          · obtain ⟨p, vs, rfl, c1, c2⟩ := rp_tup' r3
            split at e
            · cases e
              exact .inl ⟨p, vs, rfl, .inl rfl, c1, fun q hq => kn_tup S3 (rps_backs c2 none) k3 q hq⟩
            · split at e
              · rename_i hi0
                subst hi0
                cases e
                exact .inl ⟨p, vs, rfl, .inr rfl, c1, fun q hq => kn_tup S3 (rps_backs c2 (some 0)) k3 q hq⟩
              · cases e
          · obtain ⟨p, vs, rfl, c1, c2⟩ := rp_rol' r3
            split at e
            · cases e
              exact .inr ⟨rfl, p, vs, rfl, .inl rfl, c1.l, fun q hq => kn_lst S3 (rps_backs c2 none) k3 q hq⟩
            · cases e
          · obtain ⟨p, ep, rfl⟩ := rp_at' r3
            split at e
            · split at e
              · rename_i xs q
                cases e
                obtain ⟨vs, c1, c2⟩ := S3.lst q ep
                exact .inr ⟨rfl, p, vs, rfl, .inl rfl, .of c1, fun q hq => kn_lst S3 (rps_backs c2 none) k3 q hq⟩
              · cases e
            · cases e
          · cases e
        · cases e
      · cases e
    · cases e
  · cases e⟩
end
/-! ### x += e of ints -/
def addID : G2 := fun x y h => match x, y with
  | .int i, .int j => some (.int (i + j), h)
  | _, _ => none
theorem so_addI {K : PySem.W.Frag} : SO K (rI0 fun i j => .int (i + j)) addID := by
  intro Φ H μ h x y v w d h' S r1 r2 e Q k
  unfold addID at e
  split at e
  · cases e
    exact ⟨_, _, rp_int' r1, rp_int' r2, k _ H μ S Le.refl rp_int⟩
  · cases e

/-! ### what the top has left of a def -/
structure Got (K : PySem.W.Frag) (mg : Str → Option Value) (x : Str) (st : Stmt) (ps : List Str) : Prop where
  ex : ∃ (f : Addr) (fd : FuncData), Fun K x x st f fd ∧ mg x = some (.ref f) ∧ Binds K fd ps []
theorem Got.cal {P : Program} {w : World} {K : PySem.W.Frag} {mg : Str → Option Value} {base : Heap} {k : Nat} {x : Str} {st : Stmt} {ps N : List Str} {ms : MS} {xs : MX} (g : Got K mg x st ps) (S : FnScope N ps (defScope st))
    (hb : ∀ (f : Addr) (cdv : Value) (A : Around) (outer : List Env) (s : Shared) (H : Hp) (E : XK), RoomG k (A.deeper (envOfC x (defScope st) s.heap.objs.size f cdv)) →
      ∃ t, DSsX K mg (cxOf (L2.CX P w) P w K mg base N x (defScope st) f cdv A outer s H E) (BdW E) (defBody st) t ms xs) : CalM P w K mg base (k + 1) x ps.length (bodyM N.length ms) (bodyX N.length xs) [] := by
  obtain ⟨f, fd, F, hm, hb0⟩ := g.ex
  exact ⟨f, fd, ps, [], [], fn_M F S (fun cdv A outer s H E hr => hb f cdv A outer s H E hr), hm, F.kp, hb0, .nil, fun _ _ => Rps.nil⟩
theorem Got.none {P : Program} {w : World} {K : PySem.W.Frag} {mg : Str → Option Value} {base : Heap} {k n : Nat} {x : Str} {st : Stmt} {ps : List Str} (g : Got K mg x st ps) : CalM P w K mg base k x n (fun _ _ => none) noGX [] := by
  obtain ⟨f, fd, F, hm, hb0⟩ := g.ex
  exact ⟨f, fd, ps, [], [], fn_none, hm, F.kp, hb0, .nil, fun _ _ => Rps.nil⟩
/-- one with defaults -/
structure GotD (K : PySem.W.Frag) (mg : Str → Option Value) (x : Str) (st : Stmt) (ps : List Str) (dvs : List V) : Prop where
  ex : ∃ (f : Addr) (fd : FuncData), FunD K x x (defArgs st) (defBody st) (defScope st) dvs [] f fd ∧ mg x = some (.ref f) ∧ Binds K fd ps [] ∧ ∃ ds, Vals dvs ds ∧ Binds K fd ps ds
theorem GotD.cal {P : Program} {w : World} {K : PySem.W.Frag} {mg : Str → Option Value} {base : Heap} {k : Nat} {x : Str} {st : Stmt} {ps N : List Str} {dvs : List V} {ms : MS} {xs : MX} (g : GotD K mg x st ps dvs) (S : FnScope N ps (defScope st))
    (hb : ∀ (f : Addr) (cdv : Value) (A : Around) (outer : List Env) (s : Shared) (H : Hp) (E : XK), RoomG k (A.deeper (envOfC x (defScope st) s.heap.objs.size f cdv)) →
      ∃ t, DSsX K mg (cxOf (L2.CX P w) P w K mg base N x (defScope st) f cdv A outer s H E) (BdW E) (defBody st) t ms xs) : CalM P w K mg base (k + 1) x ps.length (bodyM N.length ms) (bodyX N.length xs) [] := by
  obtain ⟨f, fd, F, hm, hb0, ds, h1, h2⟩ := g.ex
  exact ⟨f, fd, ps, [], [], fn_MD F S (fun cdv A outer s H E hr => hb f cdv A outer s H E hr), hm, F.kp, hb0, .nil, fun _ _ => Rps.nil⟩
theorem GotD.cald {P : Program} {w : World} {K : PySem.W.Frag} {mg : Str → Option Value} {base : Heap} {k : Nat} {x : Str} {st : Stmt} {ps N : List Str} {dvs : List V} {dd : List D} {ms : MS} {xs : MX} (g : GotD K mg x st ps dvs) (hd : ∀ H μ, Rps K H μ dd dvs) (S : FnScope N ps (defScope st))
    (hb : ∀ (f : Addr) (cdv : Value) (A : Around) (outer : List Env) (s : Shared) (H : Hp) (E : XK), RoomG k (A.deeper (envOfC x (defScope st) s.heap.objs.size f cdv)) →
      ∃ t, DSsX K mg (cxOf (L2.CX P w) P w K mg base N x (defScope st) f cdv A outer s H E) (BdW E) (defBody st) t ms xs) : CalM P w K mg base (k + 1) x ps.length (bodyM N.length ms) (bodyX N.length xs) dd := by
  obtain ⟨f, fd, F, hm, hb0, ds, h1, h2⟩ := g.ex
  exact ⟨f, fd, ps, ds, dvs, fn_MD F S (fun cdv A outer s H E hr => hb f cdv A outer s H E hr), hm, F.kp, h2, h1, hd⟩

/-! ### the end -/
theorem law_end {K : PySem.W.Frag} {mg : Str → Option Value} {m : GC} {x : GX} {H : Hp} {a : Addr} {ns : List Int} (hm : ∃ h', m [.rol (ns.map D.int)] [] = some (.bl true, h')) (hO : L2.Only H) (hS : SqL K H a (ns.map V.int)) :
    spX K mg 1 m x [.ref a] H (fun v _ => v = .bl true) fun _ _ _ => False := by
  obtain ⟨h', hm⟩ := hm
  have hF : SqF K H a (ns.map V.int) := by
    rcases hS with (h | h) | h
    · rcases hO a with q | ⟨o, xs, q⟩ <;> rw [q] at h <;> cases h
    · exact .inl h
    · exact .inr h
  have rI : ∀ ns : List Int, Rps K H [] (ns.map D.int) (ns.map V.int) := by
    intro ns
    induction ns with
    | nil => exact Rps.nil
    | cons n ns ih => exact Rps.cons rp_int ih
  refine ⟨fun _ => none, [], [.rol (ns.map D.int)], [], ⟨rfl, fun n m a e => by simp at e, fun n o e => by simp at e, fun a o e => by cases e⟩, ?_, rfl, .inl ⟨.bl true, h', hm, fun v H' μ' _ _ r => rp_bl' r⟩⟩
  refine Rps.cons ?_ Rps.nil
  unfold Rp
  exact ⟨a, _, rfl, hF, rI ns⟩
/-- the law's call, where the promise wants no repr that runs (as the hand layer's law_call) -/
theorem law_callG {P : Program} {w : World} {K : PySem.W.Frag} {mg mb : Str → Option Value} {CX : CXT} {k : Nat} {fa a : Addr} {fd : FuncData} {x : Str} {sp : Sp} {s₁ : Shared} {vs : List Value} {ns : List Int}
    (KX : K.In s₁.heap) (hns : s₁.heap.Ns mainGlobals mg) (hb : s₁.heap.Ns builtinsNs mb) (hbb : ∀ x : Str, x ≠ "__name__" → mb x = bootBuiltins x) (hlim : s₁.heap.NoLimit) (hg : s₁.gens = #[])
    (ha : s₁.heap.get? a = some { cls := .type "list", data := .seq vs.toArray }) (hi : IntsAre vs ns) (hl : ns.length ≤ sizeLine) (hr : Room k callerA)
    (F : ∀ base : Heap, K.In base → base.Ns mainGlobals mg → FnG P w K mg base CX k fa fd [x] sp) (hbind : ∀ (s : Shared) (u : Value), BindsTo s fd ⟨[u], []⟩ [(x, u)])
    (hsp : ∀ H : Hp, L2.Only H → SqL K H a (ns.map V.int) → sp [.ref a] H (fun v _ => v = .bl true) fun _ _ _ => False)
    (hCX : ∀ H e s', CX [] H s₁ (fun _ _ _ => False) e s' → False) :
    codeAny (model P w) callerA (.call (.ref fa) ⟨[.ref a], []⟩) (fun r s' => r = .ok (.ret (.bool true)) ∧ OldK s₁.heap s'.heap ∧ s'.os = s₁.os ∧ AllBare s'.gens) s₁ := by
  have rv := vals_ints hi
  have lenV := hi.length
  -- from an abstract heap in which nothing but the script may be tracked
  have core : ∀ H : Hp, L2.Only H → SqL K H a (ns.map V.int) → HOk P w H s₁.heap → (∀ b, H b ≠ none → b = a) → (H a ≠ none → K.lookup a = none) →
      codeAny (model P w) callerA (.call (.ref fa) ⟨[.ref a], []⟩) (fun r s' => r = .ok (.ret (.bool true)) ∧ OldK s₁.heap s'.heap ∧ s'.os = s₁.os ∧ AllBare s'.gens) s₁ := by
    intro H hO hS hok hA hK
    have base_of : ∀ {b : Addr} {o : Obj}, s₁.heap.get? b = some o → H b = none → (hidT s₁.heap H).get? b = some o := fun e n => hidT_get e n
    have noA : ∀ {b : Addr} {o : Obj} {es : Array DictEntry} {ep : Nat}, s₁.heap.get? b = some o → o.data = .dict es ep → H b = none := fun {b o es ep} e d => by
      cases q : H b with
      | none => rfl
      | some u =>
        have e' : b = a := hA b (by rw [q]; simp)
        subst e'
        rw [ha] at e; cases e
        have d' : Data.seq vs.toArray _ = Data.dict es ep := d
        cases d'
    have nsK : ∀ {b : Addr} {m : Str → Option Value}, s₁.heap.Ns b m → (hidT s₁.heap H).Ns b m := fun {b m} ⟨o, es, ep, e, d, r⟩ => ⟨o, es, ep, base_of e (noA e d), d, r⟩
    have hKb : K.In (hidT s₁.heap H) := fun b o e => base_of (KX b o e) (by
      cases q : H b with
      | none => rfl
      | some u =>
        have e' : b = a := hA b (by rw [q]; simp)
        subst e'
        rw [hK (by rw [q]; simp)] at e; cases e)
    have hM : Mod K mg (hidT s₁.heap H) := ⟨hKb, nsK hns, ⟨mb, nsK hb, hbb⟩, let ⟨mc, h1, h2⟩ := hlim; ⟨mc, nsK h1, h2⟩⟩
    have e0 : Env0 P w K mg (hidT s₁.heap H) callerA [] s₁ H := ⟨rfl, hM, fun b o e => of_hidT e, Nat.le_of_eq (hidT_size _ _), trivial, fun b hb => absurd (show b ∈ ([] : List Addr) from hb) (by simp), hok, .of_eq hg⟩
    refine codeAny_mono ((F _ hKb (nsK hns)).run callerA [] s₁ H ⟨[.ref a], []⟩ [.ref a] [.ref a] _ _ ⟨hr, rfl⟩ e0 (hbind s₁ (.ref a)) (.cons rfl .nil) (hsp H hO hS)) fun r s' h => ?_
    cases r with
    | error e => exact (hCX H e s' h).elim
    | ok fl =>
      cases fl with
      | next => exact False.elim h
      | brk => exact False.elim h
      | cont => exact False.elim h
      | ret u =>
        obtain ⟨v, H', os, bare, un, hok', r', q⟩ := h
        have q' : v = .bl true := q
        subst q'
        obtain rfl : u = Value.bool true := r'
        refine ⟨rfl, OldK.of_keep fun b o e => ?_, os, bare⟩
        cases q : H b with
        | none => exact un.keep b o e q (by intro z; exact absurd (show b ∈ ([] : List Addr) from z) (by simp)) (by simp)
        | some u =>
          rcases hO b with z | ⟨ob, xs, z⟩
          · rw [q] at z; cases z
          · have z2 := un.frzs b ob _ z
            obtain ⟨e1, _⟩ := hok b _ z
            obtain ⟨e2, _⟩ := hok' b _ z2
            rw [e] at e1; cases e1
            exact e2
  cases hk : K.lookup a with
  | some o =>
    -- the script is one of the module's own objects
    have e := KX a o hk
    rw [ha] at e
    cases e
    refine core (fun _ => none) (fun _ => .inl rfl) (.inr ⟨_, vs.toArray, _, hk, rfl, rfl, rfl, by rw [List.size_toArray, lenV]; exact hl, by simpa using rv⟩) (fun b u z => by have z' : (none : Option HO) = some u := z; cases z') (fun b z => absurd rfl z) fun z => absurd rfl z
  | none =>
    refine core (fun b => if b = a then some (.frz { cls := .type "list", data := .seq vs.toArray } (.lst (ns.map V.int))) else none) (fun b => ?_) (.inl (.inr ⟨{ cls := .type "list", data := .seq vs.toArray }, if_pos rfl⟩)) (fun b u z => ?_) (fun b z => ?_) fun _ => hk
    · by_cases hb : b = a
      · exact .inr ⟨_, _, if_pos hb⟩
      · exact .inl (if_neg hb)
    · by_cases hb : b = a
      · have z' := (if_pos hb).symm.trans z
        cases z'
        subst hb
        exact ⟨ha, by rw [List.length_map]; exact hl, vs, _, rv, ha⟩
      · have z' := (if_neg hb).symm.trans z
        cases z'
    · by_cases hb : b = a
      · exact hb
      · exact absurd (if_neg hb) z
/-- the end, as the hand layer's walk_of -/
theorem walk_G {l : PySem.W.OpenLaw} {n k : Nat} {q : Program} {loose : List Str} {XP : (Str → Option Value) → Heap → Prop} {YP : World → Heap → Prop} {d : DefRec} {K : Params → PySem.W.Frag} {CX : World → CXT} {sp : World → Sp} {x : Str}
    (hn : l.most = some n) (hn2 : n ≤ sizeLine) (hdf : d.params.defaults = []) (hr : Room k callerA)
    (hY : ∀ (w : World) (h : Heap), YP w h → (K w.params).In h)
    (F : ∀ (w : World) (mg : Str → Option Value) (fa : Addr) (h : Heap), (K w.params).In h → h.Ns mainGlobals mg → mg d.name = some (.ref fa) →
      ∃ fd : FuncData, (∀ (s : Shared) (u : Value), BindsTo s fd ⟨[u], []⟩ [(x, u)]) ∧
        ∀ base : Heap, (K w.params).In base → base.Ns mainGlobals mg → FnG l.prog w (K w.params) mg base (CX w) k fa fd [x] (sp w))
    (hsp : ∀ (w : World) (H : Hp) (a : Addr) (ns : List Int), ns.length ≤ n → L2.Only H → SqL (K w.params) H a (ns.map V.int) → sp w [.ref a] H (fun v _ => v = .bl true) fun _ _ _ => False)
    (hCX : ∀ (w : World) (H : Hp) (s : Shared) (e : Value) (s' : Shared), CX w [] H s (fun _ _ _ => False) e s' → False) :
    PySem.W.WalkO q loose XP YP l.row.toRowW d [] (fun f vs => PySem.call f vs) := by
  refine Att.attach_call hn hdf fun w s₀ s₁ mg mb fa o pm cd doc a vs ns G Y ho hd hcd hmg hobj hints hlen hg => ?_
  have KX := hY w _ Y
  obtain ⟨fd, hb, hF⟩ := F w mg fa _ KX G.T.g hmg
  exact law_callG KX G.T.g G.T.b G.T.builtins G.T.nolimit hg hobj hints (Nat.le_trans hlen hn2) hr hF hb (fun H hO hS => hsp w H a ns hlen hO hS) fun H e s' => hCX w H s₁ e s'
end DL

/-! DL8: three assigned at once, is None, constants of the module. -/
namespace DL
open PySem L2 PySem.Spec PyProof.Rows
theorem rps3 {K : PySem.W.Frag} {H : Hp} {μ : List Addr} {d e f : D} {vs : List V} (r : Rps K H μ [d, e, f] vs) : ∃ v w u, vs = [v, w, u] ∧ Rp K H μ d v ∧ Rp K H μ e w ∧ Rp K H μ f u := by
  obtain ⟨v, vs', rfl, a, b⟩ := r.cons'
  obtain ⟨w, u, rfl, c, d⟩ := rps2 b
  exact ⟨v, w, u, rfl, a, c, d⟩
def par3M (i j l : Nat) (a : MA) : MS := fun sg h => match a sg h with
  | some ([x, y, z], h1) => some (.nx (((sg.set i (some x)).set j (some y)).set l (some z)), h1)
  | _ => none
section
variable {K : PySem.W.Frag} {X : Cx} {pos : Pos}
theorem ds_par3 (i j l : Nat) {x y z : Str} {a b c : Expr} {ta : TA} {ma : MA} {px py pz pt : Pos} {kt k2 pt2} (d : DA K X [a, b, c] ta ma) (hN : X.N.Nodup) (hi : X.N[i]? = some x := by rfl) (hj : X.N[j]? = some y := by rfl) (hl : X.N[l]? = some z := by rfl) (hij : i ≠ j := by decide) (hil : i ≠ l := by decide) (hjl : j ≠ l := by decide)
    (hx : X.env.scope.names.lookup x = some .local := by rfl) (hy : X.env.scope.names.lookup y = some .local := by rfl) (hz : X.env.scope.names.lookup z = some .local := by rfl)
    (hw : swappedStores [.Tuple [.Name x px, .Name y py, .Name z pz] kt pt] (.Tuple [a, b, c] k2 pt2) X.env = pure (some [x, y, z]) := by rfl)
    (hs : swapsWithSole [.Tuple [.Name x px, .Name y py, .Name z pz] kt pt] (.Tuple [a, b, c] k2 pt2) pos.line X.env = pure false := by rfl) (hc : X.calm = true := by rfl) :
    DS K X (.Assign [.Tuple [.Name x px, .Name y py, .Name z pz] kt pt] (.Tuple [a, b, c] k2 pt2) pos) (tPar3 i j l ta) (par3M i j l ma) := ⟨d.k, ps_par3 hc hN hi hj hl hij hil hjl hx hy hz d.p hw hs, by
  intro Φ σ H μ sg h f h' S rs e E k
  unfold par3M at e
  split at e
  · rename_i x y z h1 e1
    cases e
    refine d.s σ H μ sg h _ _ S rs e1 _ fun vs H1 μ1 S1 l1 r1 => ?_
    obtain ⟨v, w, u, rfl, r2, r3, r4⟩ := rps3 r1
    exact ⟨v, w, u, rfl, k _ H1 μ1 S1 l1 ((((rs.mono l1).put i r2).put j r3).put l r4)⟩
  · cases e⟩
/-- x is None, x is not None -/
def isNonD : D → Bool
  | .non => true
  | _ => false
def isD : G2 := fun x y h => match y with
  | .non => some (.bl (isNonD x), h)
  | _ => none
def isntD : G2 := fun x y h => match y with
  | .non => some (.bl (!isNonD x), h)
  | _ => none
def rIsNo : R2 := fun x y H Q => y = .non ∧ Q (.bl (decide (x = .non))) H
def rIsntNo : R2 := fun x y H Q => y = .non ∧ Q (.bl (!decide (x = .non))) H
theorem is_non {H : Hp} {μ : List Addr} {x : D} {v : V} (r : Rp K H μ x v) : decide (v = .non) = isNonD x := by
  cases x with
  | non => rw [rp_non' r]; rfl
  | bl b => rw [rp_bl' r]; rfl
  | int b => rw [rp_int' r]; rfl
  | str b => rw [rp_str' r]; rfl
  | ty b => rw [rp_ty' r]; rfl
  | tup b => obtain ⟨p, vs, rfl, _⟩ := rp_tup' r; rfl
  | rol b => obtain ⟨p, vs, rfl, _⟩ := rp_rol' r; rfl
  | «at» b => obtain ⟨p, _, rfl⟩ := rp_at' r; rfl
  | ad a => rw [rp_ad' r]; rfl
theorem so_is : SO K rIsNo isD := by
  intro Φ H μ h x y v w d h' S r1 r2 e Q k
  unfold isD at e
  split at e
  · cases e
    exact ⟨rp_non' r2, by rw [is_non r1]; exact k _ H μ S Le.refl rp_bl⟩
  · cases e
theorem so_isnt : SO K rIsntNo isntD := by
  intro Φ H μ h x y v w d h' S r1 r2 e Q k
  unfold isntD at e
  split at e
  · cases e
    exact ⟨rp_non' r2, by rw [is_non r1]; exact k _ H μ S Le.refl rp_bl⟩
  · cases e
theorem op_is0 : OpR X (compareOp .Is) rIsNo := op_isN
theorem op_isnt0 : OpR X (compareOp .IsNot) rIsntNo := op_notN
/-- a constant of the module: what the name holds -/
structure Kst (K : PySem.W.Frag) (mg : Str → Option Value) (x : Str) (d : D) : Prop where
  ex : ∃ (u : Value) (v : V), mg x = some u ∧ RelV v u ∧ ∀ H μ, Rp K H μ d v
def tKst (K : PySem.W.Frag) (d : D) : TE := fun _ H Q => ∀ v : V, (∀ H μ, Rp K H μ d v) → Q v H
theorem Kst.de {x : Str} {d : D} (c : Kst K X.mg x d) (hK : X.K = K := by rfl) (hg : Gl X x := by rfl) (hd : (x == ("__debug__" : Str)) = false := by decide) : DE K X (.Name x pos) (tKst K d) (cM d) := ⟨hK, by
  obtain ⟨u, v, h1, h2, h3⟩ := c.ex
  exact ⟨fun pins s σ H Q I q => (pe_glob hg h1 h2 hd).run pins s σ H Q I (q v h3)⟩, by
  intro Φ σ H μ sg h d h' S rs e Q k
  cases e
  exact fun v hv => k v H μ S Le.refl (hv H μ)⟩
theorem Kst.int {mg : Str → Option Value} {x : Str} {i : Int} (h : ∃ t, mg x = some (.int i t)) : Kst K mg x (.int i) := by
  obtain ⟨t, h⟩ := h
  exact ⟨_, .int i, h, ⟨t, rfl⟩, fun _ _ => rp_int⟩
theorem Kst.str {mg : Str → Option Value} {x : Str} {i : Str} (h : ∃ t, mg x = some (.str i t)) : Kst K mg x (.str i) := by
  obtain ⟨t, h⟩ := h
  exact ⟨_, .str i, h, ⟨t, rfl⟩, fun _ _ => rp_str⟩
end
end DL

namespace DL
open PySem L2
/-! ### what a run gives, told from its end -/
def Ev {α : Type} (r : Option (α × Hd)) (Q : α → Hd → Prop) : Prop := ∃ d h', r = some (d, h') ∧ Q d h'
def Rt {α : Type} (r : Option (α × Hd)) (d : α) (P : Hd → Prop) : Prop := ∃ h', r = some (d, h') ∧ P h'
section
variable {α : Type} {r : Option (α × Hd)} {Q : α → Hd → Prop} {d : α} {h h' : Hd} {P : Hd → Prop}
theorem ev_eq (e : r = some (d, h')) (q : Q d h') : Ev r Q := ⟨d, h', e, q⟩
theorem ev_of (a : Rt r d P) (q : ∀ h', P h' → Q d h') : Ev r Q := by
  obtain ⟨h', e, p⟩ := a
  exact ⟨d, h', e, q h' p⟩
theorem rt_of (a : Ev r fun d' h' => d' = d ∧ P h') : Rt r d P := by
  obtain ⟨d', h', e, rfl, p⟩ := a
  exact ⟨h', e, p⟩
theorem Ev.mono {R : α → Hd → Prop} (a : Ev r Q) (k : ∀ d h', Q d h' → R d h') : Ev r R := by
  obtain ⟨d', h', e, p⟩ := a
  exact ⟨d', h', e, k _ _ p⟩
theorem Rt.mono {R : Hd → Prop} (a : Rt r d P) (k : ∀ h', P h' → R h') : Rt r d R := by
  obtain ⟨h', e, p⟩ := a
  exact ⟨h', e, k _ p⟩
def Br (t : Bool) (A B : Prop) : Prop := (t = true → A) ∧ (t = false → B)
theorem br {t : Bool} {A B : Prop} (a : t = true → A) (b : t = false → B) : Br t A B := ⟨a, b⟩
theorem br_t {t : Bool} {A B : Prop} (e : t = true) (a : A) : Br t A B := ⟨fun _ => a, fun f => by rw [e] at f; cases f⟩
theorem br_f {t : Bool} {A B : Prop} (e : t = false) (b : B) : Br t A B := ⟨fun f => (by rw [e] at f; cases f), fun _ => b⟩
def TrK (h : Hd) (x : D) (A : Bool → Prop) : Prop := ∃ t, truD h x = some t ∧ A t
def BlK (x : D) (A : Bool → Prop) : Prop := ∃ t, x = .bl t ∧ A t
def ItK (x : D) (A : Int → Prop) : Prop := ∃ t, x = .int t ∧ A t
def P2K (xs : List D) (A : D → D → Prop) : Prop := ∃ x y, xs = [x, y] ∧ A x y
def P3K (xs : List D) (A : D → D → D → Prop) : Prop := ∃ x y z, xs = [x, y, z] ∧ A x y z
def M1K (k : Option Int) (A : Prop) : Prop := k = some (-1) ∧ A
def KdK (T : String) (h : Hd) (x : D) (A : Prop) : Prop := kindD T h x = true ∧ A
theorem tr_bl {h : Hd} {b : Bool} {A : Bool → Prop} (q : A b) : TrK h (.bl b) A := ⟨b, rfl, q⟩
theorem tr_int {h : Hd} {i : Int} {A : Bool → Prop} (q : A (i != 0)) : TrK h (.int i) A := ⟨_, rfl, q⟩
theorem tr_tup {h : Hd} {xs : List D} {A : Bool → Prop} (q : A (!xs.isEmpty)) : TrK h (.tup xs) A := ⟨_, rfl, q⟩
theorem tr_non {h : Hd} {A : Bool → Prop} (q : A false) : TrK h .non A := ⟨_, rfl, q⟩
theorem tr_str {h : Hd} {s : Str} {A : Bool → Prop} (l : s.length ≤ LN) (q : A ((s.length : Int) != 0)) : TrK h (.str s) A := ⟨_, by simp only [truD, if_pos l], q⟩
theorem tr_lst {h : Hd} {n : Nat} {xs : List D} {A : Bool → Prop} (e : h[n]? = some (.lst xs)) (q : A (!xs.isEmpty)) : TrK h (.at n) A := ⟨_, by simp only [truD, e], q⟩
theorem tr_dct {h : Hd} {n : Nat} {xs : List (Key × D)} {A : Bool → Prop} (e : h[n]? = some (.dct xs)) (q : A (!xs.isEmpty)) : TrK h (.at n) A := ⟨_, by simp only [truD, e], q⟩
theorem blk {b : Bool} {A : Bool → Prop} (q : A b) : BlK (.bl b) A := ⟨b, rfl, q⟩
theorem itk {b : Int} {A : Int → Prop} (q : A b) : ItK (.int b) A := ⟨b, rfl, q⟩
theorem p2k {x y : D} {A : D → D → Prop} (q : A x y) : P2K [x, y] A := ⟨x, y, rfl, q⟩
theorem p3k {x y z : D} {A : D → D → D → Prop} (q : A x y z) : P3K [x, y, z] A := ⟨x, y, z, rfl, q⟩
theorem m1k {A : Prop} (q : A) : M1K (some (-1)) A := ⟨rfl, q⟩
theorem kd_lst {h : Hd} {n : Nat} {ws : List D} {A : Prop} (e : h[n]? = some (.lst ws)) (q : A) : KdK "list" h (.at n) A := ⟨by
  unfold kindD
  simp [e], q⟩
theorem br_tt {A B : Prop} (a : A) : Br true A B := br_t rfl a
theorem br_ff {A B : Prop} (b : B) : Br false A B := br_f rfl b
end
section
variable {sg : Sg} {h : Hd} {Q : D → Hd → Prop} {a b c : ME} {g g' : G2}
theorem ev_var {i : Nat} {d : D} (e : sg[i]? = some (some d)) (q : Q d h) : Ev (varM i sg h) Q := ⟨d, h, by simp only [varM, e], q⟩
theorem ev_c {d : D} (q : Q d h) : Ev (cM d sg h) Q := ⟨d, h, rfl, q⟩
theorem ev_op (q : Ev (a sg h) fun x h1 => Ev (b sg h1) fun y h2 => Ev (g x y h2) Q) : Ev (opM g a b sg h) Q := by
  obtain ⟨x, h1, e1, y, h2, e2, d, h3, e3, q⟩ := q
  exact ⟨d, h3, by simp only [opM, e1, e2, e3], q⟩
theorem ev_chain (q : Ev (a sg h) fun x h1 => Ev (b sg h1) fun y h2 => Ev (g x y h2) fun d h3 => BlK d fun t => Br t (Ev (c sg h3) fun z h4 => Ev (g' y z h4) Q) (Q (.bl false) h3)) : Ev (chainM g g' a b c sg h) Q := by
  obtain ⟨x, h1, e1, y, h2, e2, d, h3, e3, t, rfl, q1, q2⟩ := q
  cases t with
  | true =>
    obtain ⟨z, h4, e4, d, h5, e5, q⟩ := q1 rfl
    exact ⟨d, h5, by simp only [chainM, e1, e2, e3, e4, e5], q⟩
  | false => exact ⟨_, _, by simp only [chainM, e1, e2, e3], q2 rfl⟩
theorem ev_neg (q : Ev (a sg h) fun x h1 => ItK x fun i => Q (.int (-i)) h1) : Ev (negM a sg h) Q := by
  obtain ⟨x, h1, e1, i, rfl, q⟩ := q
  exact ⟨_, h1, by simp only [negM, e1], q⟩
theorem ev_and (q : Ev (a sg h) fun x h1 => TrK h1 x fun t => Br t (Ev (b sg h1) Q) (Q x h1)) : Ev (DL.andM a b sg h) Q := by
  obtain ⟨x, h1, e1, t, e2, q1, q2⟩ := q
  cases t with
  | true =>
    obtain ⟨d, h2, e3, q⟩ := q1 rfl
    exact ⟨d, h2, by simp only [DL.andM, e1, e2, e3], q⟩
  | false => exact ⟨x, h1, by simp only [DL.andM, e1, e2], q2 rfl⟩
theorem ev_or (q : Ev (a sg h) fun x h1 => TrK h1 x fun t => Br t (Q x h1) (Ev (b sg h1) Q)) : Ev (DL.orM a b sg h) Q := by
  obtain ⟨x, h1, e1, t, e2, q1, q2⟩ := q
  cases t with
  | false =>
    obtain ⟨d, h2, e3, q⟩ := q2 rfl
    exact ⟨d, h2, by simp only [DL.orM, e1, e2, e3], q⟩
  | true => exact ⟨x, h1, by simp only [DL.orM, e1, e2], q1 rfl⟩
theorem ev_not (q : Ev (a sg h) fun x h1 => TrK h1 x fun t => Q (.bl (!t)) h1) : Ev (DL.notM a sg h) Q := by
  obtain ⟨x, h1, e1, t, e2, q⟩ := q
  exact ⟨_, h1, by simp only [DL.notM, e1, e2], q⟩
theorem ev_ifE {t : MT} (q : Ev (t sg h) fun b0 h1 => Br b0 (Ev (a sg h1) Q) (Ev (b sg h1) Q)) : Ev (ifM t a b sg h) Q := by
  obtain ⟨x, h1, e1, q1, q2⟩ := q
  cases x with
  | true =>
    obtain ⟨d, h2, e3, q⟩ := q1 rfl
    exact ⟨d, h2, by simp only [ifM, e1, e3], q⟩
  | false =>
    obtain ⟨d, h2, e3, q⟩ := q2 rfl
    exact ⟨d, h2, by simp only [ifM, e1, e3], q⟩
end
section
variable {sg : Sg} {h : Hd} {Q : Bool → Hd → Prop} {a : ME} {s t : MT}
theorem ev_test (q : Ev (a sg h) fun x h1 => BlK x fun b => Q b h1) : Ev (testM a sg h) Q := by
  obtain ⟨x, h1, e1, b, rfl, q⟩ := q
  exact ⟨b, h1, by simp only [testM, e1], q⟩
theorem ev_tru (q : Ev (a sg h) fun x h1 => TrK h1 x fun b => Q b h1) : Ev (truM a sg h) Q := by
  obtain ⟨x, h1, e1, b, e2, q⟩ := q
  exact ⟨b, h1, by simp only [truM, e1, e2], q⟩
theorem ev_tand (q : Ev (s sg h) fun b h1 => Br b (Ev (t sg h1) Q) (Q false h1)) : Ev (tandM s t sg h) Q := by
  obtain ⟨x, h1, e1, q1, q2⟩ := q
  cases x with
  | true =>
    obtain ⟨d, h2, e3, q⟩ := q1 rfl
    exact ⟨d, h2, by simp only [tandM, e1, e3], q⟩
  | false => exact ⟨false, h1, by simp only [tandM, e1], q2 rfl⟩
theorem ev_tor (q : Ev (s sg h) fun b h1 => Br b (Q true h1) (Ev (t sg h1) Q)) : Ev (torM s t sg h) Q := by
  obtain ⟨x, h1, e1, q1, q2⟩ := q
  cases x with
  | false =>
    obtain ⟨d, h2, e3, q⟩ := q2 rfl
    exact ⟨d, h2, by simp only [torM, e1, e3], q⟩
  | true => exact ⟨true, h1, by simp only [torM, e1], q1 rfl⟩
theorem ev_tnot (q : Ev (s sg h) fun b h1 => Q (!b) h1) : Ev (tnotM s sg h) Q := by
  obtain ⟨x, h1, e1, q⟩ := q
  exact ⟨_, h1, by simp only [tnotM, e1], q⟩
theorem ev_yes (q : Q true h) : Ev (yesM sg h) Q := ⟨_, _, rfl, q⟩
end
section
variable {sg : Sg} {h : Hd} {Q : List D → Hd → Prop} {a : ME} {b : MA}
theorem ev_nil (q : Q [] h) : Ev (nilM sg h) Q := ⟨_, _, rfl, q⟩
theorem ev_cons (q : Ev (a sg h) fun x h1 => Ev (b sg h1) fun xs h2 => Q (x :: xs) h2) : Ev (consM a b sg h) Q := by
  obtain ⟨x, h1, e1, xs, h2, e2, q⟩ := q
  exact ⟨_, _, by simp only [consM, e1, e2], q⟩
end
section
variable {sg : Sg} {h : Hd} {Q : D → Hd → Prop} {a o : ME} {b : MA} {lo hi st : MO} {g : GC} {gm : GM}
def LnK (n : Nat) (A : Prop) : Prop := n ≤ LN ∧ A
theorem ln_k {n : Nat} {A : Prop} (e : n ≤ LN) (q : A) : LnK n A := ⟨e, q⟩
theorem ev_tup (q : Ev (b sg h) fun xs h1 => LnK xs.length (Q (.tup xs) h1)) : Ev (tupM b sg h) Q := by
  obtain ⟨xs, h1, e1, l, q⟩ := q
  exact ⟨_, h1, by simp only [tupM, e1, if_pos l], q⟩
theorem ev_lst (q : Ev (b sg h) fun xs h1 => LnK xs.length (Q (.at h1.length) (h1 ++ [.lst xs]))) : Ev (lstM b sg h) Q := by
  obtain ⟨xs, h1, e1, l, q⟩ := q
  exact ⟨_, _, by simp only [lstM, e1, if_pos l], q⟩
theorem ev_dnew (q : Q (.at h.length) (h ++ [.dct []])) : Ev (dnewM sg h) Q := ⟨_, _, rfl, q⟩
theorem ev_cb (q : Ev (b sg h) fun xs h1 => Ev (g xs h1) Q) : Ev (cbM g b sg h) Q := by
  obtain ⟨xs, h1, e1, d, h2, e2, q⟩ := q
  exact ⟨_, _, by simp only [cbM, e1, e2], q⟩
theorem ev_bm {T : String} (q : Ev (o sg h) fun x h1 => KdK T h1 x <| Ev (b sg h1) fun xs h2 => Ev (gm x xs h2) Q) : Ev (bmM T gm o b sg h) Q := by
  obtain ⟨x, h1, e1, k, xs, h2, e2, d, h3, e3, q⟩ := q
  exact ⟨_, _, by simp only [bmM, e1, if_pos k, e2, e3], q⟩
theorem ev_no {Q : Option Int → Hd → Prop} (q : Q none h) : Ev (noM sg h) Q := ⟨_, _, rfl, q⟩
theorem ev_part {Q : Option Int → Hd → Prop} (q : Ev (a sg h) fun x h1 => ItK x fun i => Q (some i) h1) : Ev (partM a sg h) Q := by
  obtain ⟨x, h1, e1, i, rfl, q⟩ := q
  exact ⟨_, h1, by simp only [partM, e1], q⟩
theorem ev_sl (q : Ev (a sg h) fun x h1 => Ev (lo sg h1) fun l h2 => Ev (hi sg h2) fun u h3 => Ev (sliceD x l u h3) Q) : Ev (slM a lo hi sg h) Q := by
  obtain ⟨x, h1, e1, l, h2, e2, u, h3, e3, d, h4, e4, q⟩ := q
  exact ⟨_, _, by simp only [slM, e1, e2, e3, e4], q⟩
theorem ev_back (q : Ev (a sg h) fun x h1 => Ev (hi sg h1) fun u h2 => Ev (st sg h2) fun k h3 => M1K k <| Ev (backD x u h3) Q) : Ev (backM a hi st sg h) Q := by
  obtain ⟨x, h1, e1, l, h2, e2, u, h3, e3, rfl, d, h4, e4, q⟩ := q
  exact ⟨_, _, by simp only [backM, e1, e2, e3, if_true, e4], q⟩
def ClK (n : Nat) (m : GC) (xs : List D) (h : Hd) (Q : D → Hd → Prop) : Prop := xs.length = n ∧ Ev (m xs h) Q
theorem cl_k {n : Nat} {m : GC} {xs : List D} (e : xs.length = n) (q : Ev (m xs h) Q) : ClK n m xs h Q := ⟨e, q⟩
theorem ev_call {n : Nat} {m : GC} {dd : List D} (q : Ev (b sg h) fun xs h1 => ClK n m (xs ++ dd) h1 Q) : Ev (callM n m dd b sg h) Q := by
  obtain ⟨xs, h1, e1, l, d, h2, e2, q⟩ := q
  exact ⟨_, _, by simp only [callM, e1, if_pos l, e2], q⟩
end
section
variable {sg : Sg} {h : Hd} {Q : Fl → Hd → Prop} {a o i : ME} {m n : MS} {g : MG} {t : MT}
theorem ev_pass (q : Q (.nx sg) h) : Ev (passM sg h) Q := ⟨_, _, rfl, q⟩
theorem ev_brk (q : Q (.bk sg) h) : Ev (brkM sg h) Q := ⟨_, _, rfl, q⟩
theorem ev_cnt (q : Q (.ct sg) h) : Ev (cntM sg h) Q := ⟨_, _, rfl, q⟩
theorem ev_expr (q : Ev (a sg h) fun _ h1 => Q (.nx sg) h1) : Ev (exprM a sg h) Q := by
  obtain ⟨x, h1, e1, q⟩ := q
  exact ⟨_, _, by simp only [exprM, e1], q⟩
theorem ev_ret (q : Ev (a sg h) fun d h1 => Q (.rt d) h1) : Ev (retM a sg h) Q := by
  obtain ⟨x, h1, e1, q⟩ := q
  exact ⟨_, _, by simp only [retM, e1], q⟩
theorem ev_asg (q : Ev (a sg h) fun d h1 => Ev (g d sg h1) fun sg' h2 => Q (.nx sg') h2) : Ev (asgM a g sg h) Q := by
  obtain ⟨x, h1, e1, sg', h2, e2, q⟩ := q
  exact ⟨_, _, by simp only [asgM, e1, e2], q⟩
def SqK (n : MS) (Q : Fl → Hd → Prop) : Fl → Hd → Prop
  | .nx sg, h => Ev (n sg h) Q
  | f, h => Q f h
theorem sq_nx (q : Ev (n sg h) Q) : SqK n Q (.nx sg) h := q
theorem sq_rt {d : D} (q : Q (.rt d) h) : SqK n Q (.rt d) h := q
theorem sq_bk (q : Q (.bk sg) h) : SqK n Q (.bk sg) h := q
theorem sq_ct (q : Q (.ct sg) h) : SqK n Q (.ct sg) h := q
theorem ev_seq (q : Ev (m sg h) fun f h1 => SqK n Q f h1) : Ev (seqM m n sg h) Q := by
  obtain ⟨f, h1, e1, q⟩ := q
  cases f with
  | nx sg1 =>
    obtain ⟨f2, h2, e2, q⟩ := q
    exact ⟨_, _, by simp only [seqM, e1, e2], q⟩
  | rt d => exact ⟨_, _, by simp only [seqM, e1], q⟩
  | bk d => exact ⟨_, _, by simp only [seqM, e1], q⟩
  | ct d => exact ⟨_, _, by simp only [seqM, e1], q⟩
theorem ev_ifS (q : Ev (t sg h) fun b0 h1 => Br b0 (Ev (m sg h1) Q) (Ev (n sg h1) Q)) : Ev (ifSM t m n sg h) Q := by
  obtain ⟨x, h1, e1, q1, q2⟩ := q
  cases x with
  | true =>
    obtain ⟨d, h2, e3, q⟩ := q1 rfl
    exact ⟨d, h2, by simp only [ifSM, e1, e3], q⟩
  | false =>
    obtain ⟨d, h2, e3, q⟩ := q2 rfl
    exact ⟨d, h2, by simp only [ifSM, e1, e3], q⟩
theorem ev_aug {i : Nat} {g : G2} {x : D} (e : sg[i]? = some (some x)) (q : Ev (a sg h) fun y h1 => Ev (g x y h1) fun z h2 => Q (.nx (sg.set i (some z))) h2) : Ev (augM i g a sg h) Q := by
  obtain ⟨y, h1, e1, z, h2, e2, q⟩ := q
  exact ⟨_, _, by simp only [augM, e, e1, e2], q⟩
theorem ev_par {i j : Nat} {b : MA} (q : Ev (b sg h) fun xs h1 => P2K xs fun x y => Q (.nx ((sg.set i (some x)).set j (some y))) h1) : Ev (parM i j b sg h) Q := by
  obtain ⟨xs, h1, e1, x, y, rfl, q⟩ := q
  exact ⟨_, _, by simp only [parM, e1], q⟩
theorem ev_par3 {i j l : Nat} {b : MA} (q : Ev (b sg h) fun xs h1 => P3K xs fun x y z => Q (.nx (((sg.set i (some x)).set j (some y)).set l (some z))) h1) : Ev (par3M i j l b sg h) Q := by
  obtain ⟨xs, h1, e1, x, y, z, rfl, q⟩ := q
  exact ⟨_, _, by simp only [par3M, e1], q⟩
theorem ev_setL {v : ME} {Q : Fl → Hd → Prop} (q : Ev (v sg h) fun z h1 => Ev (o sg h1) fun x h2 => Ev (i sg h2) fun y h3 => ∃ n xs j p, x = .at n ∧ h3[n]? = some (.lst xs) ∧ y = .int j ∧ ixN xs.length j = some p ∧ Q (.nx sg) (h3.set n (.lst (xs.set p z)))) : Ev (setD o i v sg h) Q := by
  obtain ⟨z, h1, e1, x, h2, e2, y, h3, e3, n, xs, j, p, rfl, e4, rfl, e5, q⟩ := q
  exact ⟨_, _, by simp only [setD, e1, e2, e3, e4, e5], q⟩
theorem ev_setK {v : ME} {Q : Fl → Hd → Prop} (q : Ev (v sg h) fun z h1 => Ev (o sg h1) fun x h2 => Ev (i sg h2) fun y h3 => ∃ n kvs k, x = .at n ∧ h3[n]? = some (.dct kvs) ∧ keyD y = some k ∧ kvs.length < LN ∧ Q (.nx sg) (h3.set n (.dct (putD kvs k z)))) : Ev (setD o i v sg h) Q := by
  obtain ⟨z, h1, e1, x, h2, e2, y, h3, e3, n, kvs, k, rfl, e4, e5, l, q⟩ := q
  exact ⟨_, _, by simp only [setD, e1, e2, e3, e4, e5, if_pos l], q⟩
theorem ev_get2 {a b : ME} {Q : D → Hd → Prop} (q : Ev (o sg h) fun x h1 => ∃ n, x = .at n ∧ isDct h1 (.at n) = true ∧ Ev (a sg h1) fun y h2 => Ev (b sg h2) fun z h3 => ∃ kvs k, h3[n]? = some (.dct kvs) ∧ keyD y = some k ∧ Q ((valD kvs k).getD z) h3) : Ev (getD2 o a b sg h) Q := by
  obtain ⟨x, h1, e1, n, rfl, k0, y, h2, e2, z, h3, e3, kvs, k, e4, e5, q⟩ := q
  exact ⟨_, _, by simp only [getD2, e1, if_pos k0, e2, e3, e4, e5], q⟩
end
section
variable {sg : Sg} {h : Hd} {Q : Sg → Hd → Prop}
theorem ev_name {i : Nat} {d : D} (q : Q (sg.set i (some d)) h) : Ev (nameG i d sg h) Q := ⟨_, _, rfl, q⟩
theorem ev_nilG (q : Q sg h) : Ev (nilG [] sg h) Q := ⟨_, _, rfl, q⟩
theorem ev_consG {a : MG} {b : MGs} {d : D} {ds : List D} (q : Ev (a d sg h) fun sg1 h1 => Ev (b ds sg1 h1) Q) : Ev (consG a b (d :: ds) sg h) Q := by
  obtain ⟨sg1, h1, e1, sg2, h2, e2, q⟩ := q
  exact ⟨_, _, by simp only [consG, e1, e2], q⟩
theorem ev_tupG {n : Nat} {a : MGs} {xs : List D} (l : xs.length = n) (q : Ev (a xs sg h) Q) : Ev (tupG n a (.tup xs) sg h) Q := by
  obtain ⟨sg1, h1, e1, q⟩ := q
  exact ⟨_, _, by simp only [tupG, if_pos l, e1], q⟩
end
section
variable {h : Hd} {Q : D → Hd → Prop} {ms : MS} {n : Nat} {ds : List D}
def BdK (Q : D → Hd → Prop) : Fl → Hd → Prop
  | .nx _, h => Q .non h
  | .rt d, h => Q d h
  | _, _ => False
theorem bd_nx {sg : Sg} (q : Q .non h) : BdK Q (.nx sg) h := q
theorem bd_rt {d : D} (q : Q d h) : BdK Q (.rt d) h := q
theorem ev_body (q : Ev (ms (startD n ds) h) (BdK Q)) : Ev (bodyM n ms ds h) Q := by
  obtain ⟨f, h1, e1, q⟩ := q
  cases f with
  | nx sg => exact ⟨_, _, by simp only [bodyM, e1], q⟩
  | rt d => exact ⟨_, _, by simp only [bodyM, e1], q⟩
  | bk sg => exact q.elim
  | ct sg => exact q.elim
end
/-! ### sources -/
section
variable {sg : Sg} {h : Hd} {Q : Src → Hd → Prop} {a : ME} {b : MA}
def sqS (x : D) (h : Hd) : Option (Src × Hd) := match x with
  | .tup xs => some (.fix xs, h)
  | .rol xs => some (.fix xs, h)
  | .at n => match h[n]? with
    | some (.lst _) => some (.obj n, h)
    | _ => none
  | .str s => some (.fix (s.cps.toList.map fun c => .str ⟨⟨[c]⟩⟩), h)
  | _ => none
theorem ev_seqI (q : Ev (a sg h) fun x h1 => Ev (sqS x h1) Q) : Ev (seqI a sg h) Q := by
  obtain ⟨x, h1, e1, s, h2, e2, q⟩ := q
  refine ⟨s, h2, ?_, q⟩
  rw [← e2]
  simp only [seqI, e1, sqS]
  cases x <;> rfl
theorem ev_rngI (q : Ev (b sg h) fun xs h1 => ∃ j, xs = [.int j] ∧ (-(2 ^ 62) ≤ j ∧ j < 2 ^ 62) ∧ Q (rngD 0 j.toNat) h1) : Ev (rngI b sg h) Q := by
  obtain ⟨xs, h1, e1, j, rfl, c, q⟩ := q
  exact ⟨_, _, by simp only [rngI, e1, if_pos c], q⟩
theorem ev_enuI (q : Ev (b sg h) fun xs h1 => ∃ n ys, xs = [.at n] ∧ h1[n]? = some (.lst ys) ∧ Q (.enu [] (some n)) h1) : Ev (enuI b sg h) Q := by
  obtain ⟨xs, h1, e1, n, ys, rfl, e2, q⟩ := q
  exact ⟨_, _, by simp only [enuI, e1, e2], q⟩
end
/-! ### loops -/
def LpK (Q : Fl → Hd → Prop) (I : Sg → Hd → Prop) : Fl → Hd → Prop
  | .nx sg, h => I sg h
  | .ct sg, h => I sg h
  | .bk sg, h => Q (.nx sg) h
  | .rt d, h => Q (.rt d) h
theorem lp_nx {Q : Fl → Hd → Prop} {I : Sg → Hd → Prop} {sg : Sg} {h : Hd} (q : I sg h) : LpK Q I (.nx sg) h := q
theorem lp_ct {Q : Fl → Hd → Prop} {I : Sg → Hd → Prop} {sg : Sg} {h : Hd} (q : I sg h) : LpK Q I (.ct sg) h := q
theorem lp_bk {Q : Fl → Hd → Prop} {I : Sg → Hd → Prop} {sg : Sg} {h : Hd} (q : Q (.nx sg) h) : LpK Q I (.bk sg) h := q
theorem lp_rt {Q : Fl → Hd → Prop} {I : Sg → Hd → Prop} {d : D} {h : Hd} (q : Q (.rt d) h) : LpK Q I (.rt d) h := q
theorem ev_while {c : MT} {b : MS} {Q : Fl → Hd → Prop} (I : Nat → Sg → Hd → Prop)
    (step : ∀ n sg h, I n sg h → Ev (c sg h) fun t h1 => Br t (Ev (b sg h1) (LpK Q fun sg2 h2 => ∃ m, m < n ∧ I m sg2 h2)) (Q (.nx sg) h1)) :
    ∀ (N n : Nat) (sg : Sg) (h : Hd), I n sg h → n < N → Ev (whileM c b N sg h) Q
  | 0, n, sg, h, i, l => by omega
  | N + 1, n, sg, h, i, l => by
    obtain ⟨t, h1, e1, q1, q2⟩ := step n sg h i
    cases t with
    | false => exact ⟨_, _, by simp only [whileM, e1], q2 rfl⟩
    | true =>
      obtain ⟨f, h2, e2, q⟩ := q1 rfl
      cases f with
      | nx sg2 =>
        obtain ⟨m, hm, i2⟩ := q
        obtain ⟨f3, h3, e3, q3⟩ := ev_while I step N m sg2 h2 i2 (by omega)
        exact ⟨_, _, by simp only [whileM, e1, e2, e3], q3⟩
      | ct sg2 =>
        obtain ⟨m, hm, i2⟩ := q
        obtain ⟨f3, h3, e3, q3⟩ := ev_while I step N m sg2 h2 i2 (by omega)
        exact ⟨_, _, by simp only [whileM, e1, e2, e3], q3⟩
      | bk sg2 => exact ⟨_, _, by simp only [whileM, e1, e2], q⟩
      | rt d => exact ⟨_, _, by simp only [whileM, e1, e2], q⟩
/-- what a source yields, for as long as I holds -/
def Yields (s : Src) (xs : List D) (h : Hd) : Prop := ∀ i, s.nxt h i = some xs[i]?
theorem yl_fix {xs : List D} {h : Hd} : Yields (.fix xs) xs h := fun i => rfl
theorem yl_obj {xs : List D} {n : Nat} {h : Hd} (e : h[n]? = some (.lst xs)) : Yields (.obj n) xs h := fun i => by simp only [Src.nxt, e]
def enuL (xs : List D) : List D := xs.mapIdx fun i d => .tup [.int (i : Nat), d]
theorem yl_enu {xs : List D} {n : Nat} {h : Hd} (e : h[n]? = some (.lst xs)) : Yields (.enu [] (some n)) (enuL xs) h := fun i => by
  simp only [Src.nxt, e, enuL, List.getElem?_mapIdx]
theorem ev_forM {s : Src} {g : MG} {b : MS} {Q : Fl → Hd → Prop} {xs : List D} (I : List D → Sg → Hd → Prop)
    (hy : ∀ as sg h, I as sg h → Yields s xs h)
    (step : ∀ as x bs sg h, xs = as ++ x :: bs → I as sg h → Ev (g x sg h) fun sg1 h1 => Ev (b sg1 h1) (LpK Q (I (as ++ [x]))))
    (fin : ∀ sg h, I xs sg h → Q (.nx sg) h) :
    ∀ (N : Nat) (as bs : List D) (sg : Sg) (h : Hd), xs = as ++ bs → I as sg h → bs.length < N → Ev (forM s g b N as.length sg h) Q
  | 0, as, bs, sg, h, e, i, l => by omega
  | N + 1, as, [], sg, h, e, i, l => by
    have hn := hy as sg h i as.length
    rw [List.append_nil] at e
    subst e
    rw [List.getElem?_eq_none (Nat.le_refl _)] at hn
    exact ⟨_, _, by simp only [forM, hn], fin _ _ i⟩
  | N + 1, as, x :: bs, sg, h, e, i, l => by
    have hn := hy as sg h i as.length
    have hx : xs[as.length]? = some x := by
      rw [e]
      simp
    rw [hx] at hn
    obtain ⟨sg1, h1, e1, f, h2, e2, q⟩ := step as x bs sg h e i
    have e' : xs = (as ++ [x]) ++ bs := by simp [e]
    have hlen : (as ++ [x]).length = as.length + 1 := by simp
    simp only [List.length_cons] at l
    cases f with
    | nx sg2 =>
      have ih := ev_forM I hy step fin N (as ++ [x]) bs sg2 h2 e' q (by omega)
      rw [hlen] at ih
      obtain ⟨f3, h3, e3, q3⟩ := ih
      exact ⟨_, _, by simp only [forM, hn, e1, e2, e3], q3⟩
    | ct sg2 =>
      have ih := ev_forM I hy step fin N (as ++ [x]) bs sg2 h2 e' q (by omega)
      rw [hlen] at ih
      obtain ⟨f3, h3, e3, q3⟩ := ih
      exact ⟨_, _, by simp only [forM, hn, e1, e2, e3], q3⟩
    | bk sg2 => exact ⟨_, _, by simp only [forM, hn, e1, e2], q⟩
    | rt d => exact ⟨_, _, by simp only [forM, hn, e1, e2], q⟩
theorem ev_forS {it : MI} {g : MG} {b : MS} {N : Nat} {sg : Sg} {h : Hd} {Q : Fl → Hd → Prop} (q : Ev (it sg h) fun s h1 => Ev (forM s g b N 0 sg h1) Q) : Ev (forSM it g b N sg h) Q := by
  obtain ⟨s, h1, e1, f, h2, e2, q⟩ := q
  exact ⟨_, _, by simp only [forSM, e1, e2], q⟩
theorem ev_for {s : Src} {g : MG} {b : MS} {Q : Fl → Hd → Prop} {xs : List D} {N : Nat} {sg : Sg} {h : Hd} (I : List D → Sg → Hd → Prop) (i : I [] sg h) (l : xs.length < N)
    (hy : ∀ as sg h, I as sg h → Yields s xs h)
    (step : ∀ as x bs sg h, xs = as ++ x :: bs → I as sg h → Ev (g x sg h) fun sg1 h1 => Ev (b sg1 h1) (LpK Q (I (as ++ [x]))))
    (fin : ∀ sg h, I xs sg h → Q (.nx sg) h) : Ev (forM s g b N 0 sg h) Q := ev_forM I hy step fin N [] xs sg h rfl i l
/-! ### comprehensions -/
theorem ev_lcM' {s : Src} {g : MG} {c : MT} {a : ME} {D0 : Nat} {sg0 : Sg} {xs : List D} (I : List D → List D → Hd → Prop)
    (hy : ∀ as ys h, I as ys h → h[D0]? = some (.lst ys) → Yields s xs h)
    (step : ∀ as x bs ys h, xs = as ++ x :: bs → I as ys h → h[D0]? = some (.lst ys) → Ev (g x sg0 h) fun sg1 h1 => Ev (c sg1 h1) fun t h2 => Br t (Ev (a sg1 h2) fun y h3 => h3[D0]? = some (.lst ys) ∧ I (as ++ [x]) (ys ++ [y]) (h3.set D0 (.lst (ys ++ [y])))) (h2[D0]? = some (.lst ys) ∧ I (as ++ [x]) ys h2)) :
    ∀ (N : Nat) (as bs ys : List D) (h : Hd), xs = as ++ bs → I as ys h → h[D0]? = some (.lst ys) → bs.length < N → ys.length + bs.length ≤ LN →
      ∃ h' zs, lcM' s g c a D0 sg0 N as.length h = some h' ∧ h'[D0]? = some (.lst zs) ∧ I xs zs h'
  | 0, as, bs, ys, h, e, i, d, l, l2 => by omega
  | N + 1, as, [], ys, h, e, i, d, l, l2 => by
    have hn := hy as ys h i d as.length
    rw [List.append_nil] at e
    subst e
    rw [List.getElem?_eq_none (Nat.le_refl _)] at hn
    exact ⟨h, ys, by simp only [lcM', hn], d, i⟩
  | N + 1, as, x :: bs, ys, h, e, i, d, l, l2 => by
    have hn := hy as ys h i d as.length
    have hx : xs[as.length]? = some x := by
      rw [e]
      simp
    rw [hx] at hn
    obtain ⟨sg1, h1, e1, t, h2, e2, q1, q2⟩ := step as x bs ys h e i d
    have e' : xs = (as ++ [x]) ++ bs := by simp [e]
    have hlen : (as ++ [x]).length = as.length + 1 := by simp
    simp only [List.length_cons] at l l2
    cases t with
    | true =>
      obtain ⟨y, h3, e3, d3, i3⟩ := q1 rfl
      have d4 : (h3.set D0 (O.lst (ys ++ [y])))[D0]? = some (.lst (ys ++ [y])) := by rw [List.getElem?_set_self (List.getElem?_eq_some_iff.mp d3).1]
      obtain ⟨h', zs, e4, q⟩ := ev_lcM' I hy step N (as ++ [x]) bs (ys ++ [y]) _ e' i3 d4 (by omega) (by simp; omega)
      rw [hlen] at e4
      exact ⟨h', zs, by simp only [lcM', hn, e1, e2, e3, d3]; rw [if_pos (by show _ < 16777216; have : LN = 16777216 := rfl; omega)]; exact e4, q⟩
    | false =>
      obtain ⟨d3, i3⟩ := q2 rfl
      obtain ⟨h', zs, e4, q⟩ := ev_lcM' I hy step N (as ++ [x]) bs ys _ e' i3 d3 (by omega) (by omega)
      rw [hlen] at e4
      exact ⟨h', zs, by simp only [lcM', hn, e1, e2]; exact e4, q⟩
theorem ev_lc {it : MI} {g : MG} {c : MT} {a : ME} {vs : List Nat} {N : Nat} {sg : Sg} {h : Hd} {Q : D → Hd → Prop}
    (q : Ev (it sg h) fun s h1 => ∃ (xs : List D) (I : List D → List D → Hd → Prop), xs.length < N ∧ xs.length ≤ LN ∧ I [] [] (h1 ++ [.lst []]) ∧
      (∀ as ys h, I as ys h → h[h1.length]? = some (.lst ys) → Yields s xs h) ∧
      (∀ as x bs ys h, xs = as ++ x :: bs → I as ys h → h[h1.length]? = some (.lst ys) → Ev (g x (wipeD sg vs) h) fun sg1 h1' => Ev (c sg1 h1') fun t h2 => Br t (Ev (a sg1 h2) fun y h3 => h3[h1.length]? = some (.lst ys) ∧ I (as ++ [x]) (ys ++ [y]) (h3.set h1.length (.lst (ys ++ [y])))) (h2[h1.length]? = some (.lst ys) ∧ I (as ++ [x]) ys h2)) ∧
      (∀ zs h', h'[h1.length]? = some (.lst zs) → I xs zs h' → Q (.at h1.length) h')) : Ev (lcM it g c a vs N sg h) Q := by
  obtain ⟨s, h1, e1, xs, I, l1, l2, i0, hy, st, fin⟩ := q
  obtain ⟨h', zs, e2, d, i⟩ := ev_lcM' I hy st N [] xs [] _ rfl i0 (by simp) l1 (by simpa using l2)
  exact ⟨_, _, by simp only [lcM, e1]; rw [show (0 : Nat) = ([] : List D).length from rfl, e2], fin zs h' d i⟩
/-! ### kinds of built-in things -/
theorem kb1 : kitB "tuple" "int" = some false := by decide +kernel
theorem kb2 : kitB "int" "int" = some true := by decide +kernel
theorem kb3 : kitB "str" "int" = some false := by decide +kernel
theorem kb4 : kitB "bool" "int" = some true := by decide +kernel
theorem kb5 : kitB "tuple" "bool" = some false := by decide +kernel
theorem kb6 : kitB "int" "bool" = some false := by decide +kernel
theorem kb7 : kitB "str" "bool" = some false := by decide +kernel
theorem kb8 : kitB "bool" "bool" = some true := by decide +kernel
theorem kb9 : kitB "tuple" "tuple" = some true := by decide +kernel
theorem kb10 : kitB "int" "tuple" = some false := by decide +kernel
theorem kb11 : kitB "str" "tuple" = some false := by decide +kernel
theorem kb12 : kitB "bool" "tuple" = some false := by decide +kernel
theorem kb13 : kitB "tuple" "str" = some false := by decide +kernel
theorem kb14 : kitB "int" "str" = some false := by decide +kernel
theorem kb15 : kitB "str" "str" = some true := by decide +kernel
theorem kb16 : kitB "bool" "str" = some false := by decide +kernel
theorem kbN1 : kitB "NoneType" "int" = some false := by decide +kernel
theorem kbN2 : kitB "NoneType" "bool" = some false := by decide +kernel
theorem kbN3 : kitB "NoneType" "tuple" = some false := by decide +kernel
theorem kbN4 : kitB "NoneType" "str" = some false := by decide +kernel
theorem eq_ii (i j : Int) (h : Hd) : eqD (.int i) (.int j) h = some (.bl (decide (i = j)), h) := by
  unfold eqD datD
  simp only [toP, PyData.canLay0, PyData.depth, PyData.eqv, true_and, Nat.min_self, Nat.zero_le, if_true]
  rw [Bool.beq_eq_decide_eq]
theorem ne_ii (i j : Int) (h : Hd) : neD (.int i) (.int j) h = some (.bl (!decide (i = j)), h) := by
  unfold neD datD
  simp only [toP, PyData.canLay0, PyData.depth, PyData.eqv, true_and, Nat.min_self, Nat.zero_le, if_true]
  rw [Bool.beq_eq_decide_eq]
/-! ### what the built-in things give -/
section
variable {h : Hd} {Q : D → Hd → Prop} {i j : Int} {s : Str} {xs ys zs ws : List D} {n m : Nat} {d : D}
theorem lf_isi {x : D} {k T : String} {b : Bool} (e1 : kdD h x = some k) (e2 : kitB k T = some b) (q : Q (.bl b) h) : Ev (isiD [x, .ty T] h) Q := ⟨_, _, by simp only [isiD, e1, e2], q⟩
theorem lf_addI (q : Q (.int (i + j)) h) : Ev (addD (.int i) (.int j) h) Q := ⟨_, _, rfl, q⟩
theorem lf_addT (l : xs.length + ys.length ≤ LN) (q : Q (.tup (xs ++ ys)) h) : Ev (addD (.tup xs) (.tup ys) h) Q := ⟨_, _, by simp only [addD, if_pos l], q⟩
theorem lf_addL (e1 : h[n]? = some (.lst xs)) (e2 : h[m]? = some (.lst ys)) (l : xs.length + ys.length ≤ LN) (q : Q (.at h.length) (h ++ [.lst (xs ++ ys)])) : Ev (addD (.at n) (.at m) h) Q := ⟨_, _, by simp only [addD, e1, e2, if_pos l], q⟩
theorem lf_addIDI (q : Q (.int (i + j)) h) : Ev (addID (.int i) (.int j) h) Q := ⟨_, _, by simp [addID], q⟩
theorem lf_subI (q : Q (.int (i - j)) h) : Ev (subD (.int i) (.int j) h) Q := ⟨_, _, rfl, q⟩
theorem lf_mulI (c : (-(2 ^ 64) < i ∧ i < 2 ^ 64) ∨ (-(2 ^ 64) < j ∧ j < 2 ^ 64) ∨ i.natAbs.log2 + j.natAbs.log2 < 1000000) (q : Q (.int (i * j)) h) : Ev (mulD (.int i) (.int j) h) Q := ⟨_, _, by simp only [mulD, if_pos c], q⟩
theorem lf_fdiv (c : 0 < j ∧ j.natAbs.log2 < 9000) (q : Q (.int (i / j)) h) : Ev (fdivD (.int i) (.int j) h) Q := ⟨_, _, by simp only [fdivD, if_pos c], q⟩
theorem lf_pow (c : 0 ≤ j ∧ (Builtin.Int.intBits i : Int) * j ≤ 2 ^ 27) (q : Q (.int (i ^ j.toNat)) h) : Ev (powD (.int i) (.int j) h) Q := ⟨_, _, by simp only [powD, if_pos c], q⟩
theorem lf_mulS (c : 0 ≤ j ∧ j ≤ 1000000 ∧ s.length * j.toNat ≤ LN) (q : Q (.str (repS s j.toNat)) h) : Ev (mulD (.str s) (.int j) h) Q := ⟨_, _, by simp only [mulD, if_pos c], q⟩
theorem lf_mulL (e : h[n]? = some (.lst xs)) (c : 0 ≤ j ∧ j ≤ 1000000 ∧ xs.length * j.toNat ≤ LN) (q : Q (.at h.length) (h ++ [.lst (List.replicate j.toNat xs).flatten])) : Ev (mulD (.at n) (.int j) h) Q := ⟨_, _, by simp only [mulD, e, if_pos c], q⟩
theorem lf_mod (c : 0 < j) (q : Q (.int (i % j)) h) : Ev (modD (.int i) (.int j) h) Q := ⟨_, _, by simp only [modD, if_pos c], q⟩
theorem lf_lt (q : Q (.bl (decide (i < j))) h) : Ev (ltD (.int i) (.int j) h) Q := ⟨_, _, rfl, q⟩
theorem lf_le (q : Q (.bl (decide (i ≤ j))) h) : Ev (leD (.int i) (.int j) h) Q := ⟨_, _, rfl, q⟩
theorem lf_gt (q : Q (.bl (decide (j < i))) h) : Ev (gtD (.int i) (.int j) h) Q := ⟨_, _, rfl, q⟩
theorem lf_ge (q : Q (.bl (decide (j ≤ i))) h) : Ev (geD (.int i) (.int j) h) Q := ⟨_, _, rfl, q⟩
theorem lf_eqI (q : Q (.bl (decide (i = j))) h) : Ev (eqD (.int i) (.int j) h) Q := ⟨_, _, eq_ii i j h, q⟩
theorem lf_neI (q : Q (.bl (!decide (i = j))) h) : Ev (neD (.int i) (.int j) h) Q := ⟨_, _, ne_ii i j h, q⟩
theorem lf_lenT (q : Q (.int xs.length) h) : Ev (lenD [.tup xs] h) Q := ⟨_, _, rfl, q⟩
theorem lf_lenR (q : Q (.int xs.length) h) : Ev (lenD [.rol xs] h) Q := ⟨_, _, rfl, q⟩
theorem lf_lenS (l : s.length ≤ LN) (q : Q (.int s.length) h) : Ev (lenD [.str s] h) Q := ⟨_, _, by simp only [lenD, if_pos l], q⟩
theorem lf_lenL (e : h[n]? = some (.lst xs)) (q : Q (.int xs.length) h) : Ev (lenD [.at n] h) Q := ⟨_, _, by simp only [lenD, e], q⟩
theorem lf_abs (q : Q (.int (if i < 0 then -i else i)) h) : Ev (absD [.int i] h) Q := ⟨_, _, rfl, q⟩
theorem lf_intI (q : Q (.int i) h) : Ev (intD [.int i] h) Q := ⟨_, _, rfl, q⟩
theorem lf_intB {b : Bool} (q : Q (.int (if b then 1 else 0)) h) : Ev (intD [.bl b] h) Q := ⟨_, _, rfl, q⟩
theorem lf_max (q : Q (.int (if j > i then j else i)) h) : Ev (maxD [.int i, .int j] h) Q := ⟨_, _, rfl, q⟩
theorem lf_min (q : Q (.int (if j < i then j else i)) h) : Ev (minD [.int i, .int j] h) Q := ⟨_, _, rfl, q⟩
theorem lf_tuplT (q : Q (.tup xs) h) : Ev (tuplD [.tup xs] h) Q := ⟨_, _, rfl, q⟩
theorem lf_tuplL (e : h[n]? = some (.lst xs)) (q : Q (.tup xs) h) : Ev (tuplD [.at n] h) Q := ⟨_, _, by simp only [tuplD, e], q⟩
theorem lf_ix (e : atI xs i = some d) (q : Q d h) : Ev (subsD (.tup xs) (.int i) h) Q := ⟨_, _, by simp only [subsD, seqD, e], q⟩
theorem lf_ixR (e : atI xs i = some d) (q : Q d h) : Ev (subsD (.rol xs) (.int i) h) Q := ⟨_, _, by simp only [subsD, seqD, e], q⟩
theorem lf_ixL (e0 : h[n]? = some (.lst xs)) (e : atI xs i = some d) (q : Q d h) : Ev (subsD (.at n) (.int i) h) Q := ⟨_, _, by simp only [subsD, seqD, e0, e], q⟩
theorem lf_ixD {kvs : List (Key × D)} {x : D} {k : Key} (e0 : h[n]? = some (.dct kvs)) (e1 : keyD x = some k) (e : valD kvs k = some d) (q : Q d h) : Ev (subsD (.at n) x h) Q := ⟨_, _, by simp only [subsD, seqD, e0, e1, e], q⟩
theorem lf_pop (e : h[n]? = some (.lst (ws ++ [d]))) (q : Q d (h.set n (.lst ws))) : Ev (popD (.at n) [] h) Q := ⟨_, _, by unfold popD; simp [e], q⟩
theorem lf_append (e : h[n]? = some (.lst ws)) (l : ws.length < LN) (q : Q .non (h.set n (.lst (ws ++ [d])))) : Ev (appendD (.at n) [d] h) Q := ⟨_, _, by simp only [appendD, e, if_pos l], q⟩
theorem lf_extendT (e : h[n]? = some (.lst ws)) (l : ws.length + zs.length ≤ LN) (q : Q .non (h.set n (.lst (ws ++ zs)))) : Ev (extendD (.at n) [.tup zs] h) Q := ⟨_, _, by simp only [extendD, e, if_pos l], q⟩
theorem lf_extendL (e : h[n]? = some (.lst ws)) (e2 : h[m]? = some (.lst zs)) (l : ws.length + zs.length ≤ LN) (q : Q .non (h.set n (.lst (ws ++ zs)))) : Ev (extendD (.at n) [.at m] h) Q := ⟨_, _, by simp only [extendD, e, e2, if_pos l], q⟩
theorem lf_slT {lo hi : Option Int} (q : Q (.tup (cutD xs lo hi)) h) : Ev (sliceD (.tup xs) lo hi h) Q := ⟨_, _, rfl, q⟩
theorem lf_slL {lo hi : Option Int} (e : h[n]? = some (.lst xs)) (q : Q (.at h.length) (h ++ [.lst (cutD xs lo hi)])) : Ev (sliceD (.at n) lo hi h) Q := ⟨_, _, by simp only [sliceD, e], q⟩
theorem lf_backT0 (q : Q (.tup (backs xs (some 0))) h) : Ev (backD (.tup xs) (some 0) h) Q := ⟨_, _, rfl, q⟩
theorem lf_listL (e : h[n]? = some (.lst xs)) (q : Q (.at h.length) (h ++ [.lst xs])) : Ev (listD [.at n] h) Q := ⟨_, _, by simp only [listD, e], q⟩
theorem lf_listD {kvs : List (Key × D)} (e : h[n]? = some (.dct kvs)) (q : Q (.at h.length) (h ++ [.lst (kvs.map fun kv => kD kv.1)])) : Ev (listD [.at n] h) Q := ⟨_, _, by simp only [listD, e], q⟩
theorem lf_dictL {ps : List (Key × D)} (e : h[n]? = some (.lst xs)) (e2 : pairsD xs = some ps) (q : Q (.at h.length) (h ++ [.dct (mergeD [] ps)])) : Ev (dictD [.at n] h) Q := ⟨_, _, by simp only [dictD, e, e2], q⟩
theorem sq_fix {Q : Src → Hd → Prop} (q : Q (.fix xs) h) : Ev (sqS (.tup xs) h) Q := ⟨_, _, rfl, q⟩
theorem sq_rol {Q : Src → Hd → Prop} (q : Q (.fix xs) h) : Ev (sqS (.rol xs) h) Q := ⟨_, _, rfl, q⟩
theorem sq_obj {Q : Src → Hd → Prop} (e : h[n]? = some (.lst xs)) (q : Q (.obj n) h) : Ev (sqS (.at n) h) Q := ⟨_, _, by simp only [sqS, e], q⟩
theorem sq_str {Q : Src → Hd → Prop} (q : Q (.fix (s.cps.toList.map fun c => .str ⟨⟨[c]⟩⟩)) h) : Ev (sqS (.str s) h) Q := ⟨_, _, rfl, q⟩
theorem at0 {α : Type} (x : α) (xs : List α) : L2.atI (x :: xs) 0 = some x := by
  unfold L2.atI L2.ixN
  simp
end
end DL

/-! DL10: bits, division by negative numbers, reversed, dict displays, tuples of the module. -/
namespace DL
open PySem L2 RT
/-! ### numbers -/
def CDivZ (i j : Int) : Prop := j ≠ 0 ∧ j.natAbs.log2 < 9000
section
variable {K : PySem.W.Frag} {X : Cx}
theorem op_fdivZ : OpR X (binaryOp .FloorDiv) (rI CDivZ fun i j => .int (i.fdiv j)) := opI fun i j _ _ _ _ _ hc q => PyProof.Rows.floordiv_int hc.1 q (.inl (PyProof.noPylong_of_log2 hc.2))
def fdivZD : G2 := fun x y h => match x, y with
  | .int i, .int j => if j ≠ 0 ∧ j.natAbs.log2 < 9000 then some (.int (i.fdiv j), h) else none
  | _, _ => none
theorem so_fdivZ : SO K (rI CDivZ fun i j => .int (i.fdiv j)) fdivZD := by
  intro Φ H μ h x y v w d h' S r1 r2 e Q k
  unfold fdivZD at e
  split at e
  · split at e
    · rename_i c
      cases e
      exact ⟨_, _, rp_int' r1, rp_int' r2, c, k _ H μ S Le.refl rp_int⟩
    · cases e
  · cases e
def modZD : G2 := fun x y h => match x, y with
  | .int i, .int j => if j ≠ 0 then some (.int (i.fmod j), h) else none
  | _, _ => none
theorem so_modZ : SO K (rI (fun _ j => j ≠ 0) fun i j => .int (i.fmod j)) modZD := by
  intro Φ H μ h x y v w d h' S r1 r2 e Q k
  unfold modZD at e
  split at e
  · split at e
    · rename_i c
      cases e
      exact ⟨_, _, rp_int' r1, rp_int' r2, c, k _ H μ S Le.refl rp_int⟩
    · cases e
  · cases e
def shlD : G2 := fun x y h => match x, y with
  | .int i, .int j => if 0 ≤ j ∧ (Builtin.Int.intBits i : Int) + j ≤ 2 ^ 27 then some (.int (i * 2 ^ j.toNat), h) else none
  | _, _ => none
theorem so_shl : SO K (rI CShl fun i j => .int (i * 2 ^ j.toNat)) shlD := by
  intro Φ H μ h x y v w d h' S r1 r2 e Q k
  unfold shlD at e
  split at e
  · split at e
    · rename_i c
      cases e
      exact ⟨_, _, rp_int' r1, rp_int' r2, c, k _ H μ S Le.refl rp_int⟩
    · cases e
  · cases e
def shrD : G2 := fun x y h => match x, y with
  | .int i, .int j => if 0 ≤ j then some (.int (i / 2 ^ j.toNat), h) else none
  | _, _ => none
theorem so_shr : SO K (rI (fun _ j => 0 ≤ j) fun i j => .int (i / 2 ^ j.toNat)) shrD := by
  intro Φ H μ h x y v w d h' S r1 r2 e Q k
  unfold shrD at e
  split at e
  · split at e
    · rename_i c
      cases e
      exact ⟨_, _, rp_int' r1, rp_int' r2, c, k _ H μ S Le.refl rp_int⟩
    · cases e
  · cases e
def bitD (f : Int → Int → Int) : G2 := fun x y h => match x, y with
  | .int i, .int j => some (.int (f i j), h)
  | _, _ => none
theorem so_bit (f : Int → Int → Int) : SO K (rI0 fun i j => .int (f i j)) (bitD f) := by
  intro Φ H μ h x y v w d h' S r1 r2 e Q k
  unfold bitD at e
  split at e
  · cases e
    exact ⟨_, _, rp_int' r1, rp_int' r2, k _ H μ S Le.refl rp_int⟩
  · cases e
abbrev andBD : G2 := bitD Builtin.bitAnd
abbrev orBD : G2 := bitD Builtin.bitOr
abbrev xorBD : G2 := bitD Builtin.bitXor
/-- x.bit_length() -/
def bitsM (a : ME) : ME := fun sg h => match a sg h with
  | some (.int i, h1) => some (.int (Builtin.Int.intBits i : Nat), h1)
  | _ => none
theorem de_bits {o : Expr} {to : TE} {mo : ME} {apos pos : Pos} (ho : DE K X o to mo) (hbase : attributeBase o "bit_length" X.env (eval o X.env) = eval o X.env := by rfl) (hline : (apos.endLine == pos.line) = true := by rfl) :
    DE K X (.Call (.Attribute o "bit_length" apos) [] [] pos) (tBits to) (bitsM mo) := ⟨ho.k, pe_bits ho.p hbase hline, by
  intro Φ σ H μ sg h d h' S rs e Q k
  unfold bitsM at e
  split at e
  · rename_i i h1 e1
    cases e
    exact ho.s σ H μ sg h _ _ S rs e1 _ fun v H1 μ1 S1 l1 r1 => ⟨i, rp_int' r1, k _ H1 μ1 S1 l1 rp_int⟩
  · cases e⟩
/-! ### reversed -/
def revI (a : ME) : MI := fun sg h => match a sg h with
  | some (.tup xs, h1) => some (.fix xs.reverse, h1)
  | some (.rol xs, h1) => some (.fix xs.reverse, h1)
  | _ => none
theorem rev_get {α : Type} {xs : List α} {i : Nat} (h : i < xs.length) : xs.reverse[i]? = xs[xs.length - 1 - i]? := List.getElem?_reverse h
theorem j_revT {a : Addr} {xs : List D} {vs : List V} {H0 : Hp} {μ0 : List Addr} (b : SqT K H0 a vs) (c : Rps K H0 μ0 xs vs) : JOk Φ K (ItvT K a vs.length) (.fix xs.reverse) H0 μ0 := by
  intro i H μ h S l
  have b' := l.tup _ _ b
  have c' := Rps.mono l _ _ c
  have hlen := c'.len
  refine ⟨fun d q => ?_, fun q => ?_⟩
  · have q := Option.some.inj q
    have hi : i < xs.length := by
      have := (List.getElem?_eq_some_iff.mp q).1
      simpa using this
    rw [rev_get hi] at q
    obtain ⟨v, c1, c2⟩ := c'.get q
    rw [← hlen] at c1
    refine ⟨⟨by rw [hlen]; exact hi, vs, v, b', c1⟩, fun x H' y => ?_⟩
    obtain ⟨rfl, y⟩ := y
    have := y vs b'
    rw [c1] at this
    cases this
    exact ⟨S, Le.refl, c2⟩
  · have := List.getElem?_eq_none_iff.mp (Option.some.inj q)
    rw [List.length_reverse] at this
    show vs.length ≤ i
    rw [hlen]
    exact this
theorem j_revF {a : Addr} {xs : List D} {vs : List V} {H0 : Hp} {μ0 : List Addr} (b : SqF K H0 a vs) (c : Rps K H0 μ0 xs vs) : JOk Φ K (Itv K a vs.length) (.fix xs.reverse) H0 μ0 := by
  intro i H μ h S l
  have b' := (l.frz _ _ b).l
  have c' := Rps.mono l _ _ c
  have hlen := c'.len
  refine ⟨fun d q => ?_, fun q => ?_⟩
  · have q := Option.some.inj q
    have hi : i < xs.length := by
      have := (List.getElem?_eq_some_iff.mp q).1
      simpa using this
    rw [rev_get hi] at q
    obtain ⟨v, c1, c2⟩ := c'.get q
    rw [← hlen] at c1
    refine ⟨⟨by rw [hlen]; exact hi, vs, v, b', c1⟩, fun x H' y => ?_⟩
    obtain ⟨rfl, y⟩ := y
    have := y vs b'
    rw [c1] at this
    cases this
    exact ⟨S, Le.refl, c2⟩
  · have := List.getElem?_eq_none_iff.mp (Option.some.inj q)
    rw [List.length_reverse] at this
    show vs.length ≤ i
    rw [hlen]
    exact this
theorem di_rev {tg e : Expr} {te : TE} {me : ME} {p pos : Pos} (a : DE K X e te me) (hm : X.mg "reversed" = none) (hg : Gl X "reversed" := by rfl) (hs : starEach [e] X.env = (false, eval e X.env) :: starEach [] X.env := by rfl) :
    DI K X tg (.Call (.Name "reversed" p) [e] [] pos) (iRevA K te) (revI me) := ⟨a.k, by
  have hk := a.k
  subst hk
  exact pi_revA hg hm a.p hs, by
  intro Φ σ H μ sg h s h' S rs e R k
  unfold revI at e
  split at e
  · rename_i xs h1 e1
    cases e
    refine a.s σ H μ sg h _ _ S rs e1 _ fun v H1 μ1 S1 l1 r1 => ?_
    obtain ⟨p, vs, rfl, b, c⟩ := rp_tup' r1
    exact ⟨p, vs, rfl, .inr ⟨b, k _ H1 μ1 S1 l1 (j_revT b c)⟩⟩
  · rename_i xs h1 e1
    cases e
    refine a.s σ H μ sg h _ _ S rs e1 _ fun v H1 μ1 S1 l1 r1 => ?_
    obtain ⟨p, vs, rfl, b, c⟩ := rp_rol' r1
    exact ⟨p, vs, rfl, .inl ⟨b.l, k _ H1 μ1 S1 l1 (j_revF b c)⟩⟩
  · cases e⟩
/-! ### several names from a tuple or a list -/
theorem PG.or {tg : Expr} {t u : TG} (h : PG X tg t) (h' : PG X tg u) : PG X tg (fun v σ H Q => t v σ H Q ∨ u v σ H Q) := ⟨fun pins s σ H v w Q I r q => q.elim (h.run pins s σ H v w Q I r) (h'.run pins s σ H v w Q I r)⟩
def uplG (n : Nat) (a : MGs) : MG := fun d sg h => match d with
  | .tup xs => if xs.length = n then a xs sg h else none
  | .at l => match h[l]? with
    | some (.lst xs) => if xs.length = n then a xs sg h else none
    | _ => none
  | _ => none
theorem dg_upl {es : List Expr} {k0 : Nat} {t : TGs} {m : MGs} {n : Nat} {pos : Pos} (a : DGs K X es t m) (hn : (assignEach es X.env).length = n := by rfl) (hst : (assignEach es X.env).findIdx? (·.1) = none := by rfl) (hc : X.calm = true := by rfl) :
    DG K X (.Tuple es k0 pos) (fun v σ H Q => gTup K n t v σ H Q ∨ gLst K n t v σ H Q) (uplG n m) := ⟨a.k, by
  have hk := a.k
  subst hk
  exact PG.or (pg_tup hc a.p hn hst) (pg_lst hc a.p hn hst), by
  intro Φ σ H μ sg h x v sg' h' S rs r e Q k
  unfold uplG at e
  split at e
  · split at e
    · rename_i hl
      obtain ⟨p, vs, rfl, b, c⟩ := rp_tup' r
      exact .inl ⟨p, vs, rfl, b, by rw [c.len]; exact hl, a.s σ H μ sg h _ vs sg' h' S rs c e Q k⟩
    · cases e
  · split at e
    · rename_i q
      split at e
      · rename_i hl
        obtain ⟨p, ep, rfl⟩ := rp_at' r
        obtain ⟨vs, b, c⟩ := S.lst q ep
        exact .inr ⟨p, vs, rfl, .of b, by rw [c.len]; exact hl, a.s σ H μ sg h _ vs sg' h' S rs c e Q k⟩
      · cases e
    · cases e
  · cases e⟩
/-! ### dict displays -/
abbrev MP := Sg → Hd → Option (List (Key × D) × Hd)
def SPr (K : PySem.W.Frag) (trs : List (TE × TE)) (m : MP) : Prop := ∀ {Φ : Hp} (σ : L2.St) (H : Hp) (μ : List Addr) (sg : Sg) (h : Hd) (kvs : List (Key × D)) (h' : Hd), Sm Φ K H μ h → Rs K H μ sg σ → m sg h = some (kvs, h') → ∀ Q : List (V × V) → Hp → Prop,
  (∀ (kw : List (Key × V)) (H' : Hp) (μ' : List Addr), Sm Φ K H' μ' h' → Le K H μ H' μ' → Rkv K H' μ' kvs kw → Q (kw.map fun kv => (kV kv.1, kv.2)) H') → tPairs trs σ H Q
structure DP (K : PySem.W.Frag) (X : Cx) (pos : Pos) (keys : List (Option Expr)) (values : List Expr) (trs : List (TE × TE)) (m : MP) : Prop where
  k : X.K = K
  p : PPs X pos keys values trs
  s : SPr K trs m
def pnilM : MP := fun _ h => some ([], h)
def pconsM (a b : ME) (r : MP) : MP := fun sg h => match a sg h with
  | some (x, h1) => match keyD x with
    | some k => match b sg h1 with
      | some (y, h2) => match r sg h2 with
        | some (kvs, h3) => some ((k, y) :: kvs, h3)
        | none => none
      | none => none
    | none => none
  | none => none
theorem dp_nil {pos : Pos} (hK : X.K = K := by rfl) : DP K X pos [] [] [] pnilM := ⟨hK, pps_nil, by
  intro Φ σ H μ sg h kvs h' S rs e Q k
  cases e
  exact k [] H μ S Le.refl Rkv.nil⟩
theorem dp_cons {pos : Pos} {ke ve : Expr} {keys : List (Option Expr)} {values : List Expr} {tk tv : TE} {mk mv : ME} {trs : List (TE × TE)} {mr : MP} (ha : DE K X ke tk mk) (hb : DE K X ve tv mv) (hr : DP K X pos keys values trs mr) :
    DP K X pos (some ke :: keys) (ve :: values) ((tk, tv) :: trs) (pconsM mk mv mr) := ⟨ha.k, pps_cons ha.p hb.p hr.p, by
  intro Φ σ H μ sg h kvs h' S rs e Q k
  unfold pconsM at e
  split at e
  · rename_i x h1 e1
    split at e
    · rename_i kk ek
      split at e
      · rename_i y h2 e2
        split at e
        · rename_i kvs' h3 e3
          cases e
          refine ha.s σ H μ sg h x h1 S rs e1 _ fun v H1 μ1 S1 l1 r1 => ?_
          refine hb.s σ H1 μ1 sg h1 y h2 S1 (rs.mono l1) e2 _ fun w H2 μ2 S2 l2 r2 => ?_
          refine hr.s σ H2 μ2 sg h2 kvs' _ S2 (rs.mono (l1.trans l2)) e3 _ fun kw H3 μ3 S3 l3 r3 => ?_
          rw [key_of r1 ek]
          exact k ((kk, w) :: kw) H3 μ3 S3 ((l1.trans l2).trans l3) ⟨by simp [r3.1], Rps.cons (Rp.mono l3 _ _ r2) r3.2⟩
        · cases e
      · cases e
    · cases e
  · cases e⟩
def dispM (r : MP) : ME := fun sg h => match r sg (h ++ [.dct []]) with
  | some (kvs, h2) => match h2[h.length]? with
    | some (.dct []) => if kvs.length ≤ 15 then some (.at h.length, h2.set h.length (.dct (mergeD [] kvs))) else none
    | _ => none
  | none => none
theorem de_disp {pos : Pos} {keys : List (Option Expr)} {values : List Expr} {trs : List (TE × TE)} {mr : MP} (hr : DP K X pos keys values trs mr) (hall : keys.all (·.isSome) = true := by rfl) (hl : keys.length = values.length := by rfl) (h0 : keys ≠ [] := by simp)
    (h15 : keys.length ≤ 15 := by decide) : DE K X (.Dict keys values pos) (tDisp trs) (dispM mr) := ⟨hr.k, pe_disp hr.p hall hl h0 h15, by
  intro Φ σ H μ sg h d h' S rs e Q k
  unfold dispM at e
  split at e
  · rename_i kvs h2 e2
    split at e
    · rename_i q
      split at e
      · rename_i hlen
        cases e
        intro p hp
        have l0 : Le K H μ (upd H p (.dK [])) (μ ++ [p]) := le_obj hp
        have S0 : Sm Φ K (upd H p (.dK [])) (μ ++ [p]) (h ++ [.dct []]) := S.obj hp ⟨[], upd_same, Rkv.nil⟩
        refine hr.s σ _ _ sg _ kvs h2 S0 (rs.mono l0) e2 _ fun kw H2 μ2 S2 l2 r2 => ?_
        have ep := l2.get (obj_at S rfl)
        obtain ⟨kw0, b, c⟩ := S2.dct q ep
        have hk0 : kw0 = [] := by
          have := c.len
          cases kw0 with
          | nil => rfl
          | cons _ _ => simp at this
        subst hk0
        refine ⟨b, kw, rfl, ?_, ?_⟩
        · have := congrArg List.length r2.1
          simp at this
          omega
        have l4 : Le K H2 μ2 (upd H2 p (.dK (mergeK [] kw))) μ2 := le_set S2 ep
        have c2 := Rkv.merge r2 (Rkv.nil (K := K) (H := H2) (μ := μ2))
        exact k _ _ μ2 (S2.set ep ⟨_, upd_same, c2.1, Rps.mono l4 _ _ c2.2⟩) ((l0.trans l2).trans l4) (rp_at ep)
      · cases e
    · cases e
  · cases e⟩
end
/-- a tuple of texts in the module -/
theorem Kst.strs {K : PySem.W.Frag} {mg : Str → Option Value} {x : Str} {a : Addr} {od : Option Addr} {n : Nat} {sl : Array (Option Value)} {arr : Array Value} (h : mg x = some (.ref a)) (l : K.lookup a = some ⟨.type "tuple", od, .seq arr n, sl⟩) (ss : List Str) (e : Vals (ss.map V.str) arr.toList) (hz : arr.size ≤ 16777216) :
    Kst K mg x (.tup (ss.map D.str)) := ⟨.ref a, .ref a, h, rfl, fun H μ => by
  have r : Rps K H μ (ss.map D.str) (ss.map V.str) := by
    clear e
    induction ss with
    | nil => exact Rps.nil
    | cons s ss ih => exact Rps.cons rp_str ih
  exact rp_tup (.inr ⟨_, arr, n, l, rfl, rfl, by rw [sizeLine_eq]; exact hz, e⟩) r⟩
/-! ### rules told from the end -/
section
variable {sg : Sg} {h : Hd} {Q : D → Hd → Prop} {a b : ME} {r : MP} {i j : Int} {xs : List D}
theorem ev_bits (q : Ev (a sg h) fun x h1 => ItK x fun i => Q (.int (Builtin.Int.intBits i : Nat)) h1) : Ev (bitsM a sg h) Q := by
  obtain ⟨x, h1, e1, i, rfl, q⟩ := q
  exact ⟨_, h1, by simp only [bitsM, e1], q⟩
theorem ev_uplT {n : Nat} {m : MGs} {Q : Sg → Hd → Prop} (l : xs.length = n) (q : Ev (m xs sg h) Q) : Ev (uplG n m (.tup xs) sg h) Q := by
  obtain ⟨sg1, h1, e1, q⟩ := q
  exact ⟨_, _, by simp only [uplG, if_pos l, e1], q⟩
theorem ev_uplL {n k : Nat} {m : MGs} {Q : Sg → Hd → Prop} (e : h[k]? = some (.lst xs)) (l : xs.length = n) (q : Ev (m xs sg h) Q) : Ev (uplG n m (.at k) sg h) Q := by
  obtain ⟨sg1, h1, e1, q⟩ := q
  exact ⟨_, _, by simp only [uplG, e, if_pos l, e1], q⟩
theorem lf_fdivZ (c : j ≠ 0 ∧ j.natAbs.log2 < 9000) (q : Q (.int (i.fdiv j)) h) : Ev (fdivZD (.int i) (.int j) h) Q := ⟨_, _, by simp only [fdivZD]; rw [if_pos c], q⟩
theorem lf_modZ (c : j ≠ 0) (q : Q (.int (i.fmod j)) h) : Ev (modZD (.int i) (.int j) h) Q := ⟨_, _, by simp only [modZD]; rw [if_pos c], q⟩
theorem lf_fdivZp (c : 0 < j ∧ j.natAbs.log2 < 9000) (q : Q (.int (i / j)) h) : Ev (fdivZD (.int i) (.int j) h) Q := lf_fdivZ ⟨by omega, c.2⟩ (by rw [Int.fdiv_eq_ediv_of_nonneg i (by omega)]; exact q)
theorem lf_modZp (c : 0 < j) (q : Q (.int (i % j)) h) : Ev (modZD (.int i) (.int j) h) Q := lf_modZ (by omega) (by rw [Int.fmod_eq_emod_of_nonneg i (by omega)]; exact q)
theorem lf_shl (c : 0 ≤ j ∧ (Builtin.Int.intBits i : Int) + j ≤ 2 ^ 27) (q : Q (.int (i * 2 ^ j.toNat)) h) : Ev (shlD (.int i) (.int j) h) Q := ⟨_, _, by simp only [shlD]; rw [if_pos c], q⟩
theorem lf_shr (c : 0 ≤ j) (q : Q (.int (i / 2 ^ j.toNat)) h) : Ev (shrD (.int i) (.int j) h) Q := ⟨_, _, by simp only [shrD]; rw [if_pos c], q⟩
theorem lf_bit {f : Int → Int → Int} (q : Q (.int (f i j)) h) : Ev (bitD f (.int i) (.int j) h) Q := ⟨_, _, rfl, q⟩
def rvS (x : D) (h : Hd) : Option (Src × Hd) := match x with
  | .tup xs => some (.fix xs.reverse, h)
  | .rol xs => some (.fix xs.reverse, h)
  | _ => none
theorem ev_revI {Q : Src → Hd → Prop} (q : Ev (a sg h) fun x h1 => Ev (rvS x h1) Q) : Ev (revI a sg h) Q := by
  obtain ⟨x, h1, e1, s, h2, e2, q⟩ := q
  refine ⟨s, h2, ?_, q⟩
  rw [← e2]
  simp only [revI, e1, rvS]
  cases x <;> rfl
theorem rv_tup {Q : Src → Hd → Prop} (q : Q (.fix xs.reverse) h) : Ev (rvS (.tup xs) h) Q := ⟨_, _, rfl, q⟩
def KyK (x : D) (A : Key → Prop) : Prop := ∃ k, keyD x = some k ∧ A k
theorem ky_int {A : Key → Prop} (q : A (.inl i)) : KyK (.int i) A := ⟨_, rfl, q⟩
theorem ky_str {A : Key → Prop} {s : Str} (q : A (.inr s)) : KyK (.str s) A := ⟨_, rfl, q⟩
theorem ev_pnil {Q : List (Key × D) → Hd → Prop} (q : Q [] h) : Ev (pnilM sg h) Q := ⟨_, _, rfl, q⟩
theorem ev_pcons {Q : List (Key × D) → Hd → Prop} (q : Ev (a sg h) fun x h1 => KyK x fun k => Ev (b sg h1) fun y h2 => Ev (r sg h2) fun kvs h3 => Q ((k, y) :: kvs) h3) : Ev (pconsM a b r sg h) Q := by
  obtain ⟨x, h1, e1, k, e2, y, h2, e3, kvs, h3, e4, q⟩ := q
  exact ⟨_, _, by simp only [pconsM, e1, e2, e3, e4], q⟩
theorem ev_disp (q : Ev (r sg (h ++ [.dct []])) fun kvs h2 => h2[h.length]? = some (.dct []) ∧ kvs.length ≤ 15 ∧ Q (.at h.length) (h2.set h.length (.dct (mergeD [] kvs)))) : Ev (dispM r sg h) Q := by
  obtain ⟨kvs, h2, e1, e2, l, q⟩ := q
  exact ⟨_, _, by simp only [dispM, e1, e2, if_pos l], q⟩
end
end DL

/-! DM11: what is raised goes through statements; raise; try; own exceptions with their own __init__. -/
namespace PySem.W
open PySem PySem.Calls PyProof.Rows
section
variable {prog : Program} {w : World} {A : Around} {E : Value → Shared → Prop} {s : Shared} {K : Frag} {name : Str}
/-- C.name, called: a class of the text -/
theorem method_ref {C : Addr} {v : Value} {pl : Sem Bool} {Q : Value × List Value → Shared → Prop} (X : K.In s.heap) (hr : readsIn K C (.type "type") = true) (e : findCls K (.ref C) (.type "type") name = some (.val v)) (hh : handedIn v = true)
    (h : Q (v, []) { s with toks := s.toks + 1 }) : wpAny (model prog w) A (getMethod (.ref C) name pl) Q E s := by
  have hr' := hr
  simp only [readsIn, Bool.and_eq_true, beq_iff_eq] at hr'
  obtain ⟨⟨⟨⟨_, b⟩, c'⟩, _⟩, _⟩ := hr'
  have L0 := looks_typeIn (M := model prog w) X b
  unfold getMethod specialOf
  refine wpAny_bind (wpAny_bind (L0.here ((looks_findIn X c').here ?_)))
  dsimp only
  rw [if_pos canon_tga]
  refine wpAny_bind (wpAny_mono (Q := fun v => Q (v, [])) (E := E) ?_ (fun _ _ z => wpAny_pure z) fun _ _ z => z)
  exact cls_value X hr e hh h
end
end PySem.W
namespace DL
open PySem L2 PySem.Spec PyProof.Rows

/-! ### through statements -/
def seqX (ax : MX) (a : MS) (bx : MX) : MX := fun sg h => match ax sg h with
  | some r => some r
  | none => match a sg h with
    | some (.nx sg1, h1) => bx sg1 h1
    | _ => none
def ifX (c : MT) (ax bx : MX) : MX := fun sg h => match c sg h with
  | some (true, h1) => ax sg h1
  | some (false, h1) => bx sg h1
  | none => none
def whileX (c : MT) (b : MS) (bx : MX) : Nat → MX
  | 0 => noX
  | k + 1 => fun sg h => match c sg h with
    | some (true, h1) => match bx sg h1 with
      | some r => some r
      | none => match b sg h1 with
        | some (.nx sg2, h2) => whileX c b bx k sg2 h2
        | some (.ct sg2, h2) => whileX c b bx k sg2 h2
        | _ => none
    | _ => none
def forX (s : Src) (g : MG) (b : MS) (bx : MX) : Nat → Nat → MX
  | 0, _ => noX
  | k + 1, i => fun sg h => match s.nxt h i with
    | some (some d) => match g d sg h with
      | some (sg1, h1) => match bx sg1 h1 with
        | some r => some r
        | none => match b sg1 h1 with
          | some (.nx sg2, h2) => forX s g b bx k (i + 1) sg2 h2
          | some (.ct sg2, h2) => forX s g b bx k (i + 1) sg2 h2
          | _ => none
      | none => none
    | _ => none
def forSX (it : MI) (g : MG) (b : MS) (bx : MX) (N : Nat) : MX := fun sg h => match it sg h with
  | some (s, h1) => forX s g b bx N 0 sg h1
  | none => none
section
variable {K : PySem.W.Frag} {mg : Str → Option Value} {X : Cx} {W : WX} {pos pos' : Pos} {e : Expr} {te : TE} {me : ME} {xe : MX} {st : Stmt} {rest : List Stmt} {t u : TS} {m n : MS} {x y : MX} {c : Expr} {tc : TT} {mc : MT}
theorem dssx_one (a : DSX K mg X W st t m x) : DSsX K mg X W [st] t m x := ⟨a.k, fun tk po => pss_one (a.p tk po), a.s, a.x⟩
theorem dssx_nil (hK : X.K = K := by rfl) : DSsX K mg X W [] tNext passM noX := (dss_nil hK).x
theorem xst_seq (as : SS K t m) (ax : XSt K mg W t x) (bx : XSt K mg W u y) : XSt K mg W (tSeq t u) (seqX x m y) := by
  intro Φ σ H μ sg h xn sg' h' S rs e k E
  unfold seqX at e
  split at e
  · rename_i r e1
    cases e
    exact ax σ H μ sg h xn sg' h' S rs e1 k _
  · split at e
    · rename_i sg1 h1 e1
      exact as σ H μ sg h _ h1 S rs e1 _ fun σ1 H1 μ1 S1 l1 rs1 => bx σ1 H1 μ1 sg1 h1 xn sg' h' S1 rs1 e (k.le l1) E
    · cases e
theorem dssx_cons (a : DSX K mg X W st t m x) (b : DSsX K mg X W rest u n y) : DSsX K mg X W (st :: rest) (tSeq t u) (seqM m n) (seqX x m y) := ⟨a.k, fun tk po => pss_cons (a.p tk po) (b.p tk po), ss_seq a.s b.s, xst_seq a.s a.x b.x⟩
theorem dsx_expr (a : DEX K mg X W e te me xe) (hs : swapsWith e none pos.line X.env = pure false := by rfl) : DSX K mg X W (.Expr e pos) (tDrop te) (exprM me) xe :=
  ⟨a.k, fun tk _ => ps_expr (a.p tk) hs, ss_expr a.s, fun {Φ} σ H μ sg h xn sg' h' S rs e k E => a.x σ H μ sg h xn sg' h' S rs e k _⟩
theorem dsx_ret (a : DEX K mg X W e te me xe) : DSX K mg X W (.Return (some e) pos) (tRet te) (retM me) xe :=
  ⟨a.k, fun tk _ => ps_ret (a.p tk), ss_ret a.s, fun {Φ} σ H μ sg h xn sg' h' S rs e k E => a.x σ H μ sg h xn sg' h' S rs e k _⟩
theorem xst_asg {tg : TG} (a : XEx K mg W te xe) : XSt K mg W (tAsg te tg) xe := fun {Φ} σ H μ sg h xn sg' h' S rs e k E => a σ H μ sg h xn sg' h' S rs e k _
theorem dsx_asg {tg : Expr} {gt : TG} {mg' : MG} (a : DEX K mg X W e te me xe) (g : DG K X tg gt mg') (hs : swapsWithSole [tg] e pos.line X.env = pure false := by rfl) (hw : swappedStores [tg] e X.env = pure none := by rfl)
    (h1 : (assignEach [tg] X.env).map (·.2) = [assign tg X.env] := by rfl) : DSX K mg X W (.Assign [tg] e pos) (tAsg te gt) (asgM me mg') xe := ⟨a.k, fun tk _ => ps_asg (a.p tk) g.p hs hw h1, ss_asg a.s g.s, xst_asg a.x⟩
theorem dsx_set (i : Nat) {x : Str} (a : DEX K mg X W e te me xe) (hN : X.N.Nodup) (hi : X.N[i]? = some x := by rfl) (hx : Loc X.env.scope x := by first | exact Or.inl rfl | exact Or.inr rfl) (hs : swapsWith e (some (.Name x pos')) pos.line X.env = pure false := by rfl)
    (hf : X.fn x = true ∨ X.env.scope.names.lookup x = some .local := by first | exact .inl rfl | exact .inr rfl) : DSX K mg X W (.Assign [.Name x pos'] e pos) (tAsg te (gName i)) (asgM me (nameG i)) xe := ⟨a.k, fun tk _ => ps_set hN hi hx (a.p tk) hs hf, ss_asg a.s (sg_name i), xst_asg a.x⟩
theorem dsx_if {p q : List Stmt} (hc : DT K X c tc mc) (a : DSsX K mg X W p t m x) (b : DSsX K mg X W q u n y) : DSX K mg X W (.If c p q pos) (tIfS tc t u) (ifSM mc m n) (ifX mc x y) := ⟨a.k, fun tk po => ps_if hc.p (a.p tk po) (b.p tk po), ss_if hc.s a.s b.s, by
  intro Φ σ H μ sg h xn sg' h' S rs e k E
  unfold ifX at e
  split at e
  · rename_i h1 e1
    exact hc.s σ H μ sg h _ h1 S rs e1 _ fun H1 μ1 S1 l1 => iteT (a.x σ H1 μ1 sg h1 xn sg' h' S1 (rs.mono l1) e (k.le l1) E)
  · rename_i h1 e1
    exact hc.s σ H μ sg h _ h1 S rs e1 _ fun H1 μ1 S1 l1 => iteF (b.x σ H1 μ1 sg h1 xn sg' h' S1 (rs.mono l1) e (k.le l1) E)
  · cases e⟩
theorem dsx_while {body : List Stmt} {tb : TS} {mb : MS} {xb : MX} (N : Nat) (hc : DT K X c tc mc) (hb : DSsX K mg X W body tb mb xb) : DSX K mg X W (.While c body [] pos) (tWhile tc tb) (whileM mc mb N) (whileX mc mb xb N) := ⟨hc.k, fun tk po => ps_while po hc.p (hb.p tk po), ss_while N hc.s hb.s, by
  intro Φ σ H μ sg h xn sg' h' S rs e k E
  refine ⟨fun m σ1 H1 => ∃ μ1 sg1 h1, Sm Φ K H1 μ1 h1 ∧ Le K H μ H1 μ1 ∧ Rs K H1 μ1 sg1 σ1 ∧ whileX mc mb xb m sg1 h1 = some (xn, sg', h'), ⟨N, μ, sg, h, S, Le.refl, rs, e⟩, ?_⟩
  rintro m σ1 H1 ⟨μ1, sg1, h1, S1, l1, rs1, e1⟩
  cases m with
  | zero => cases e1
  | succ m =>
    unfold whileX at e1
    split at e1
    · rename_i h2 e2
      refine hc.s σ1 H1 μ1 sg1 h1 _ h2 S1 rs1 e2 _ fun H2 μ2 S2 l2 => iteT ?_
      refine ⟨fun σ3 H3 => ∃ μ3 sg3 h3, Sm Φ K H3 μ3 h3 ∧ Le K H μ H3 μ3 ∧ Rs K H3 μ3 sg3 σ3 ∧ whileX mc mb xb m sg3 h3 = some (xn, sg', h'), fun σ3 H3 q => ⟨m, Nat.lt_succ_self _, q⟩, ?_⟩
      split at e1
      · rename_i r e3
        cases e1
        exact hb.x σ1 H2 μ2 sg1 h2 xn sg' h' S2 (rs1.mono l2) e3 ((k.le l1).le l2) _
      · split at e1
        · rename_i sg3 h3 e3
          exact hb.s σ1 H2 μ2 sg1 h2 _ h3 S2 (rs1.mono l2) e3 _ fun σ3 H3 μ3 S3 l3 rs3 => ⟨μ3, sg3, h3, S3, (l1.trans l2).trans l3, rs3, e1⟩
        · rename_i sg3 h3 e3
          exact hb.s σ1 H2 μ2 sg1 h2 _ h3 S2 (rs1.mono l2) e3 _ fun σ3 H3 μ3 S3 l3 rs3 => ⟨μ3, sg3, h3, S3, (l1.trans l2).trans l3, rs3, e1⟩
        · cases e1
    · cases e1⟩
theorem dsx_for {tg it : Expr} {ti : TI} {mi : MI} {gt : TG} {mg' : MG} {body : List Stmt} {tb : TS} {mb : MS} {xb : MX} (N : Nat) (hi : DI K X tg it ti mi) (hg : DG K X tg gt mg') (hb : DSsX K mg X W body tb mb xb) (hs : ∀ x, foldedSetIterable it X.env x = pure x := by intro _; rfl) (hc : X.calm = true := by rfl) :
    DSX K mg X W (.For tg it body [] pos) (tFor ti gt tb) (forSM mi mg' mb N) (forSX mi mg' mb xb N) := ⟨hi.k, fun tk po => ps_for po hc hi.p hg.p (hb.p tk po) hs, ss_for N hi.s hg.s hb.s, by
  intro Φ σ H μ sg h xn sg' h' S rs e k E
  unfold forSX at e
  split at e
  · rename_i s h0 e0
    refine hi.s σ H μ sg h s h0 S rs e0 _ fun J H0 μ0 S0 l0 hJ => ?_
    refine ⟨fun i m σ1 H1 => ∃ μ1 sg1 h1, Sm Φ K H1 μ1 h1 ∧ Le K H0 μ0 H1 μ1 ∧ Rs K H1 μ1 sg1 σ1 ∧ forX s mg' mb xb m i sg1 h1 = some (xn, sg', h'), ⟨N, μ0, sg, h0, S0, Le.refl, rs.mono l0, e⟩, ?_⟩
    rintro i m σ1 H1 ⟨μ1, sg1, h1, S1, l1, rs1, e1⟩
    cases m with
    | zero => cases e1
    | succ m =>
      unfold forX at e1
      obtain ⟨j1, j2⟩ := hJ i H1 μ1 h1 S1 l1
      split at e1
      · rename_i d q
        obtain ⟨go, yld⟩ := j1 d q
        refine .inr ⟨go, fun σ3 H3 => ∃ μ3 sg3 h3, Sm Φ K H3 μ3 h3 ∧ Le K H0 μ0 H3 μ3 ∧ Rs K H3 μ3 sg3 σ3 ∧ forX s mg' mb xb m (i + 1) sg3 h3 = some (xn, sg', h'), fun σ3 H3 q => ⟨m, Nat.lt_succ_self _, q⟩, fun x H2 y => ?_⟩
        obtain ⟨S2, l2, r2⟩ := yld x H2 y
        split at e1
        · rename_i sg3 h3 e3
          refine hg.s σ1 H2 μ1 sg1 h1 d x sg3 h3 S2 (rs1.mono l2) r2 e3 _ fun σ3 H3 μ3 S3 l3 rs3 => ?_
          split at e1
          · rename_i r e4
            cases e1
            exact hb.x σ3 H3 μ3 sg3 h3 xn sg' h' S3 rs3 e4 ((((k.le l0).le l1).le l2).le l3) _
          · split at e1
            · rename_i sg4 h4 e4
              exact hb.s σ3 H3 μ3 sg3 h3 _ h4 S3 rs3 e4 _ fun σ4 H4 μ4 S4 l4 rs4 => ⟨μ4, sg4, h4, S4, ((l1.trans l2).trans l3).trans l4, rs4, e1⟩
            · rename_i sg4 h4 e4
              exact hb.s σ3 H3 μ3 sg3 h3 _ h4 S3 rs3 e4 _ fun σ4 H4 μ4 S4 l4 rs4 => ⟨μ4, sg4, h4, S4, ((l1.trans l2).trans l3).trans l4, rs4, e1⟩
            · cases e1
        · cases e1
      · cases e1
  · cases e⟩
end

/-! ### an own exception's own __init__ -/
/-- what the written part says of a base class whose __init__ is called by its name -/
structure BasC (K : PySem.W.Frag) (mg : Str → Option Value) (x : Str) : Prop where
  ex : ∃ C : Addr, mg x = some (.ref C) ∧ PySem.W.readsIn K C (.type "type") = true ∧ PySem.W.findCls K (.ref C) (.type "type") "__init__" = some (.val (.builtin "ValueError.__init__"))
section
variable {X : Cx} {x : Str} {e : Expr} {es : List Expr} {ta : TA} {p1 p2 pos : Pos}
theorem pe_binit {pl : Sem Bool} (b : BasC X.K X.mg x) (hg : Gl X x) (ha : PA X (e :: es) ta) (hdb : (x == ("__debug__" : Str)) = false := by decide)
    (hc : eval (.Call (.Attribute (.Name x p1) "__init__" p2) (e :: es) [] pos) X.env = (do
      let ov ← eval (.Name x p1) X.env
      standAt p2.atName
      let (f, first) ← holding [ov] (getMethod ov "__init__" pl)
      callWith pos f first (backTo pos (starEach (e :: es) X.env)) (backToKw pos (keywordEach [] X.env))) := by rfl)
    (he : starEach (e :: es) X.env = (false, eval e X.env) :: starEach es X.env := by rfl) (hpl : (backTo pos (starEach es X.env)).any (·.1) = false := by rfl) :
    PE X (.Call (.Attribute (.Name x p1) "__init__" p2) (e :: es) [] pos) (tVeI X.K ta) := by
  obtain ⟨CB, hm, hr, hf⟩ := b.ex
  refine ⟨fun pins s σ H Q I h => ?_⟩
  refine PySem.W.methodCall_KW (ld_glob I hg hm ?_ hdb) hc
  refine PySem.W.method_ref I.kIn hr hf (by decide +kernel) ?_
  show wpAny _ _ (callWith pos (Value.builtin "ValueError.__init__") [] (backTo pos (starEach (e :: es) X.env)) []) _ _ _
  refine PyProof.Rows.callWith_method1 (thn (ha.run pos pins _ σ H _ (I.tok _) h) fun us s1 ⟨vs, H1, I1, r1, a, C, ws, ev, hl, T, ea, q⟩ => ?_) he hpl
  subst ev
  cases r1 with
  | @cons _ u0 _ ur ra rw' =>
    obtain rfl : u0 = Value.ref a := ra
    have hlen : ur.length ≤ sizeLine := by
      rw [← Paired.length rw', sizeLine_eq]
      omega
    exact oinit_ok T I1 ea hlen fun s' J => ⟨.non, H1, J, rfl, q⟩
end
end DL

/-! DM12: several except clauses, with names or without. -/
namespace DL
open PySem L2 PySem.Spec PyProof.Rows
/-- one clause: its class, the slot of its name, its suite -/
structure Hs where
  c : Value
  i : Option Nat
  ts : Addr → Value → Option Addr → TS
def putI (i : Option Nat) (σ : L2.St) (o : Option V) : L2.St := match i with
  | some i => σ.set i o
  | none => σ
def endI (i : Option Nat) (D : Ends) : Ends := { nx := fun σ' H' => D.nx (putI i σ' none) H', rt := D.rt, bk := fun σ' H' => D.bk (putI i σ' none) H', ct := fun σ' H' => D.ct (putI i σ' none) H' }
/-- what the clauses wish of an exception of the body, one after the other -/
def wHs (K : PySem.W.Frag) (Wout : WX) (D : Ends) : List Hs → WX
  | [] => Wout
  | q :: r => fun cls d σ H => ∃ b, PySem.W.exmOne K cls q.c = some b ∧ (b = true → ∀ a, H a = none → q.ts a cls d (endI q.i D) (putI q.i σ (some (.ref a))) H) ∧ (b = false → wHs K Wout D r cls d σ H)
inductive HsOk (X : Cx) : List ExceptHandler → List Hs → Prop
  | nil : HsOk X [] []
  | cons {x : Str} {c : Value} {ts : Addr → Value → Option Addr → TS} {b₀ : Stmt} {suite : List Stmt} {np pos' : Pos} {hds : List ExceptHandler} {l : List Hs} (hc : Names X x c)
      (hsu : ∀ (a : Addr) (oe : Obj) (cls : Value) (d : Option Addr) (pn : List (Addr × Obj)), Zc cls d oe → (∃ vs, oe.data = .fields vs) → PSs (X.suite a ((a, oe) :: pn)) (b₀ :: suite) (ts a cls d)) (r : HsOk X hds l) :
      HsOk X (.ExceptHandler (some (.Name x np)) none (b₀ :: suite) pos' :: hds) (⟨c, none, ts⟩ :: l)
  | consA {x n : Str} {i : Nat} {c : Value} {ts : Addr → Value → Option Addr → TS} {b₀ : Stmt} {suite : List Stmt} {np pos' : Pos} {hds : List ExceptHandler} {l : List Hs} (hc : Names X x c) (hi : X.N[i]? = some n) (hln : X.env.kindOf n = some .local)
      (hsu : ∀ (a : Addr) (oe : Obj) (cls : Value) (d : Option Addr) (pn : List (Addr × Obj)), Zc cls d oe → (∃ vs, oe.data = .fields vs) → PSs (X.suite a ((a, oe) :: pn)) (b₀ :: suite) (ts a cls d)) (r : HsOk X hds l) :
      HsOk X (.ExceptHandler (some (.Name x np)) (some n) (b₀ :: suite) pos' :: hds) (⟨c, some i, ts⟩ :: l)
section
variable {X : Cx} {body : List Stmt} {h₀ : ExceptHandler} {hds : List ExceptHandler} {l : List Hs} {pos : Pos} {tb : WX → TS} {Wout : WX}
theorem ps_try_hs (hs : X.stack = X.env :: X.outer) (hf : X.env.frame = some X.env.locals) (hN : X.N.Nodup) (tk : Takes X Wout)
    (hb : ∀ (W : WX) (pn : List (Addr × Obj)) (xe : Value → Shared → Prop), Takes (X.tr pn xe) W → PassesOwn (model X.prog X.w) X.A X.env xe → PSs (X.tr pn xe) body (tb W))
    (hh : HsOk X (h₀ :: hds) l) : PS X (.Try body (h₀ :: hds) [] [] pos) (fun D σ H => tb (wHs X.K Wout D l) D σ H) := by
  refine ⟨fun pins s σ H D I h => ?_⟩
  have ok := I.ok
  have hfr : X.A.frames = some (X.env :: X.outer) := by rw [ok.frames, hs]
  refine wpAny_Try_except ?_
  refine wpAny_mono ((hb (wHs X.K Wout D l) (X.pn ++ pins) (fun e s₁ => wpAny (model X.prog X.w) X.A (noteFrame e X.env) (fun _ s₂ => wpAny (model X.prog X.w) X.A (setFlight e none) (fun _ s₃ =>
    wpAny (model X.prog X.w) X.A (handleBy e X.env (h₀ :: hds)) (SP X pins D) X.xe s₃) X.xe s₂) X.xe s₁) (fun u s' xx => ?_) PassesOwn.looking).run [] s σ H D (I.toTry _) h) (fun f s1 hsp => ?_) (fun e s1 he => he)
  · obtain ⟨a, B, sI, pins', σ', H', cls, d, rfl, J', nb, up, sky, na, os, ag, w⟩ := xx
    have J : Inv X pins σ' H' sI := J'.ofTry ok
    have sky' : Sky B (X.env :: X.outer) a (Zc cls d) X.env.locals s'.heap := by rw [← hs]; exact sky
    show wpAny (model X.prog X.w) X.A (noteFrame (.ref a) X.env) _ _ _
    refine Sky.land Zc.steady hfr hf sky' fun h3 fl3 up3 => ?_
    have J3 : Inv X pins σ' H' { s' with heap := h3 } := J.landed nb fl3.1 (up.trans up3) os ag
    obtain ⟨oe3, vs3, he3, hz3, hd3⟩ := fl3.there
    have nfr : a ∉ frs (X.env :: X.outer) := fun hm => by
      obtain ⟨_, o', e', hnf⟩ := fl3.2.2.1.mem hm
      rw [he3] at e'; cases e'
      exact hnf _ hd3
    have nL : a ≠ X.env.locals := fun z => nfr (List.mem_filterMap.mpr ⟨X.env, List.mem_cons_self, by rw [hf, z]⟩)
    have nF : a ∉ X.fs := fun hm => by
      obtain ⟨e, he, q⟩ := List.mem_filterMap.mp hm
      exact nfr (List.mem_filterMap.mpr ⟨e, List.mem_cons_of_mem _ he, q⟩)
    have S3 := J3.suite he3 hd3 na nL nF
    have LT : PySem.W.Looks (model X.prog X.w) h3 (typeOf (.ref a)) cls := fun A Q E s k q => wpAny_typeOf_ref (k _ _ he3) (by rw [hz3.1]; exact q)
    have test : ∀ {x : Str} {c : Value} {np : Pos}, Names X x c → ∀ {Q : Value → Shared → Prop} {E : Value → Shared → Prop}, Q c { s' with heap := h3 } → wpAny (model X.prog X.w) (X.A.mark (some (.ref a))) (eval (.Name x np) X.env) Q E { s' with heap := h3 } := fun {x c np} hc {Q E} q => by
      obtain ⟨hg, hdbg, hm | ⟨hm, hv, hnn⟩⟩ := hc
      · exact ld_glob (X := X.suite a ((a, oe3) :: (X.pn ++ pins))) S3 hg hm q hdbg
      · exact ld_blt (X := X.suite a ((a, oe3) :: (X.pn ++ pins))) S3 hg hm hv q hnn hdbg
    have go : ∀ {hds' : List ExceptHandler} {l' : List Hs}, HsOk X hds' l' → wHs X.K Wout D l' cls d σ' H' → wpAny (model X.prog X.w) X.A (handleBy (.ref a) X.env hds') (SP X pins D) X.xe { s' with heap := h3 } := by
      intro hds' l' hk
      induction hk with
      | nil =>
        intro w
        refine wpAny_handleBy_nil ?_
        obtain ⟨k1, k2, k3, oe, vs, T, oT, ts', he, hz, hd, h1, hr⟩ := id fl3
        unfold PySem.passOn
        refine wpAny_bind (wpAny_field he hd h1 ?_)
        rw [if_neg (show ¬ ((Value.ref T == Value.none) = true) from by simp)]
        have fin : wpAny (model X.prog X.w) X.A (setFlight (.ref a) X.env.frame) (fun _ s4 => wpAny (model X.prog X.w) X.A (throw (.ref a) : Sem Flow) (SP X pins D) X.xe s4) X.xe { s' with heap := h3 } := by
          rw [hf]
          refine HandSPX.setFlight_upZ fl3 fun h4 hh4 up4 => wpAny_throw (tk _ _ ?_)
          exact ⟨a, B, sI, pins, σ', H', cls, d, rfl, J, nb, (up.trans up3).trans up4, .inr (.inr (by rw [hs]; exact hh4)), na, os, ag, w⟩
        first
          | exact wpAny_bind (wpAny_pure (wpAny_bind fin))
          | exact wpAny_bind fin
      | @cons x c ts b₀ suite np pos' hds2 l2 hc hsu r ih =>
        intro w
        obtain ⟨b, hb1, hyes, hno⟩ := w
        refine wpAny_handleBy_cons (codeAny_handlers_test ?_) (by intro q; cases q)
        refine test hc ((PySem.W.exm_one (M := model X.prog X.w) (J3.kIn) LT hb1).here ?_)
        cases b with
        | true =>
          refine codeAny_handlers_suite ?_
          refine HandSPX.lands_againZ fl3 fun h4 fl4 up4 => ?_
          have J4 : Inv X pins σ' H' { s' with heap := h4 } := J.landed nb fl4.1 ((up.trans up3).trans up4) os ag
          obtain ⟨oe4, vs4, he4, hz4, hd4⟩ := fl4.there
          have S4 := J4.suite he4 hd4 na nL nF
          refine wpAny_mono ((hsu a oe4 cls d (X.pn ++ pins) hz4 ⟨_, hd4⟩).run [] _ _ H' _ S4 (hyes rfl a na)) (fun f s6 hsp => ?_) (fun _ _ z => False.elim z)
          cases f with
          | next =>
            obtain ⟨σ6, H6, S6, q6⟩ := hsp
            exact ⟨_, _, S6.unsuite ok, q6⟩
          | brk =>
            obtain ⟨σ6, H6, S6, q6⟩ := hsp
            exact ⟨_, _, S6.unsuite ok, q6⟩
          | cont =>
            obtain ⟨σ6, H6, S6, q6⟩ := hsp
            exact ⟨_, _, S6.unsuite ok, q6⟩
          | ret u =>
            obtain ⟨v6, σ6, H6, S6, r6, q6⟩ := hsp
            exact ⟨_, _, _, S6.unsuite ok, r6, q6⟩
        | false =>
          show wpAny _ X.A (handleBy (.ref a) X.env hds2) _ _ _
          exact ih (hno rfl)
      | @consA x n i c ts b₀ suite np pos' hds2 l2 hc hi hln hsu r ih =>
        intro w
        obtain ⟨b, hb1, hyes, hno⟩ := w
        refine wpAny_handleBy_cons (codeAny_handlers_test ?_) (by intro q; cases q)
        refine test hc ((PySem.W.exm_one (M := model X.prog X.w) (J3.kIn) LT hb1).here ?_)
        cases b with
        | true =>
          refine codeAny_handlers_suite_as ?_
          refine HandSPX.lands_againZ fl3 fun h4 fl4 up4 => ?_
          have J4 : Inv X pins σ' H' { s' with heap := h4 } := J.landed nb fl4.1 ((up.trans up3).trans up4) os ag
          obtain ⟨oe4, vs4, he4, hz4, hd4⟩ := fl4.there
          have S4 := J4.suite he4 hd4 na nL nF
          refine store_ok (X := X.suite a ((a, oe4) :: (X.pn ++ pins))) (v := .ref a) S4 hN hi (.inl hln) rfl (fun s5 S5 => ?_) (.inr hln)
          refine wpAny_mono ((hsu a oe4 cls d (X.pn ++ pins) hz4 ⟨_, hd4⟩).run [] s5 _ H' _ S5 (hyes rfl a na)) (fun f s6 hsp => ?_) (fun _ _ z => False.elim z)
          have end_ : ∀ {σ6 : L2.St} {H6 : Hp} {Q : Shared → Prop}, Inv (X.suite a ((a, oe4) :: (X.pn ++ pins))) [] σ6 H6 s6 → (∀ s7, Inv X pins (σ6.set i none) H6 s7 → Q s7) →
              wpAny (model X.prog X.w) X.A (do bindName X.env n .none; unbindBehindTheSuite X.env n pos') (fun _ s7 => Q s7) X.xe s6 := fun {σ6 H6 Q} S6 hq => gone_ok (S6.unsuite ok) hN hi hln hq
          cases f with
          | next =>
            obtain ⟨σ6, H6, S6, q6⟩ := hsp
            exact end_ S6 fun s7 J7 => ⟨_, _, J7, q6⟩
          | brk =>
            obtain ⟨σ6, H6, S6, q6⟩ := hsp
            exact end_ S6 fun s7 J7 => ⟨_, _, J7, q6⟩
          | cont =>
            obtain ⟨σ6, H6, S6, q6⟩ := hsp
            exact end_ S6 fun s7 J7 => ⟨_, _, J7, q6⟩
          | ret u =>
            obtain ⟨v6, σ6, H6, S6, r6, q6⟩ := hsp
            exact end_ S6 fun s7 J7 => ⟨_, _, _, J7, r6, q6⟩
        | false =>
          show wpAny _ X.A (handleBy (.ref a) X.env hds2) _ _ _
          exact ih (hno rfl)
    exact go hh w
  · cases f with
    | next =>
      obtain ⟨σ', H', J', q⟩ := hsp
      exact wpAny_execs_nil ⟨σ', H', J'.ofTry ok, q⟩
    | brk =>
      obtain ⟨σ', H', J', q⟩ := hsp
      exact ⟨σ', H', J'.ofTry ok, q⟩
    | cont =>
      obtain ⟨σ', H', J', q⟩ := hsp
      exact ⟨σ', H', J'.ofTry ok, q⟩
    | ret u =>
      obtain ⟨v, σ', H', J', r, q⟩ := hsp
      exact ⟨v, σ', H', J'.ofTry ok, r, q⟩
end
end DL

/-! DM13: raise C(..); own exceptions; suites; try. -/
namespace DL
open PySem L2 PySem.Spec PyProof.Rows

/-! ### what an own __init__ keeps -/
def spI (K : PySem.W.Frag) (C : Addr) (fs : List Str) : Sp := fun vs H Q _ => ∃ (a : Addr) (ys : List V), vs = .ref a :: ys ∧ ys.length = fs.length ∧ H a = some (exo a C none) ∧
  ∀ (H' : Hp) (dx : Addr), H dx = none → dx ≠ a → H' a = some (exo a C (some dx)) → H' dx = some (exd dx (fs.zip ys).reverse) → (∀ b, b ≠ a → b ≠ dx → H' b = H b) → Q .non H'
theorem spI_len {K : PySem.W.Frag} {C : Addr} {fs : List Str} {vs : List V} {H : Hp} {Q : VK} {E : XK} (h : spI K C fs vs H Q E) : vs.length = fs.length + 1 := by
  obtain ⟨a, ys, rfl, hl, _⟩ := h
  rw [List.length_cons, hl]
section
variable {K : PySem.W.Frag} {C : Addr} {N : List Str} {H : Hp} {Q : VK} {E : XK} {vs : List V}
theorem ini1 {f : Str} (T : OexC K C) (hno : PySem.W.findIn K (.ref C) f = some none) (h : spI K C [f] vs H Q E) :
    tSeq (tDrop (tVeI K (tCons (tVar 0) tNil))) (tOst K f (tVar 0) (tVar 1)) { nx := fun _ H' => Q .non H', rt := Q } (L2.start [("self" : Str), f] vs) H := by
  obtain ⟨a, ys, rfl, hl, ha, k⟩ := h
  match ys, hl with
  | [y], _ =>
    refine ⟨_, rfl, a, C, [], rfl, by decide, T, ha, y, rfl, _, rfl, a, C, rfl, T, hno, .inl ⟨ha, fun dx hd hne => ?_⟩⟩
    exact k _ dx hd hne upd_same (by rw [upd_ne hne]; exact upd_same) fun b hb hb2 => by rw [upd_ne hb, upd_ne hb2]
theorem ini2 {f g : Str} (T : OexC K C) (hno : PySem.W.findIn K (.ref C) f = some none) (hno2 : PySem.W.findIn K (.ref C) g = some none) (h : spI K C [f, g] vs H Q E) :
    tSeq (tDrop (tVeI K (tCons (tVar 0) tNil))) (tSeq (tOst K f (tVar 0) (tVar 1)) (tOst K g (tVar 0) (tVar 2))) { nx := fun _ H' => Q .non H', rt := Q } (L2.start [("self" : Str), f, g] vs) H := by
  obtain ⟨a, ys, rfl, hl, ha, k⟩ := h
  match ys, hl with
  | [y, z], _ =>
    refine ⟨_, rfl, a, C, [], rfl, by decide, T, ha, y, rfl, _, rfl, a, C, rfl, T, hno, .inl ⟨ha, fun dx hd hne => ?_⟩⟩
    refine ⟨z, rfl, _, rfl, a, C, rfl, T, hno2, .inr ⟨dx, _, upd_same, by rw [upd_ne hne]; exact upd_same, by simp, ?_⟩⟩
    exact k _ dx hd hne (by rw [upd_ne fun z => hne z.symm]; exact upd_same) upd_same fun b hb hb2 => by rw [upd_ne hb2, upd_ne hb, upd_ne hb2]
end
/-- what the text says of an own exception class with fields fs -/
structure ExT (K : PySem.W.Frag) (mg : Str → Option Value) (x : Str) (fs : List Str) : Prop where
  ex : ∃ (C fI : Addr) (fd : FuncData), mg x = some (.ref C) ∧ OexC K C ∧ PySem.W.findIn K (.ref C) "__init__" = some (some (.ref fI)) ∧ PySem.W.typeIn K (.ref fI) = some (.type "function") ∧
    (∀ (P : Program) (w : World) (base : Heap), FnOk P w K mg base (L2.CX P w) 1 fI fd ("self" :: fs) (spI K C fs)) ∧ Binds K fd ("self" :: fs) [] ∧ XfC K C ∧ ∀ f ∈ fs, PySem.W.findIn K (.ref C) f = some none

/-! ### raise -/
def raiseX (x : Str) (fs : List Str) (a : MA) : MX := fun sg h => match a sg h with
  | some (ds, h1) => if ds.length = fs.length ∧ fs.length ≤ 1000 then some (⟨x, (fs.zip ds).reverse⟩, sg, h1) else none
  | none => none
def tRaise (K : PySem.W.Frag) (mg : Str → Option Value) (x : Str) (fs : List Str) (W : WX) (ta : TA) : TS := fun _ σ H => ∀ C, mg x = some (.ref C) → tMkO C (spI K C fs) [] ta σ H fun cls d H' => W cls d σ H'
theorem zip_rev {α β : Type} : ∀ {as : List α} {bs : List β}, as.length = bs.length → (as.zip bs).reverse = as.reverse.zip bs.reverse
  | [], [], _ => rfl
  | a :: as, b :: bs, h => by
    have h' : as.length = bs.length := by simpa using h
    rw [List.zip_cons_cons, List.reverse_cons, zip_rev h', List.reverse_cons, List.reverse_cons, List.zip_append (by simp [h'])]
    rfl
theorem le_xd {K : PySem.W.Frag} {H : Hp} {μ : List Addr} {p : Addr} {o : HO} (hp : H p = none) : Le K H μ (upd H p o) μ := le_new hp
section
variable {K : PySem.W.Frag} {mg : Str → Option Value} {X : Cx} {W : WX} {x : Str} {fs : List Str} {e : Expr} {es : List Expr} {ta : TA} {ma : MA} {p pos pos' : Pos} {k : Nat}
theorem dsx_raise (T : ExT K mg x fs) (hr : RoomG (k + 2) X.A) (ha : DA K X (e :: es) ta ma) (hmg : X.mg = mg := by rfl) (hc : X.calm = true := by rfl) (hg : Gl X x := by rfl) (hdb : (x == ("__debug__" : Str)) = false := by decide)
    (he : starEach (e :: es) X.env = (false, eval e X.env) :: starEach es X.env := by rfl) (hpl : (backTo pos (starEach es X.env)).any (·.1) = false := by rfl) :
    DSX K mg X W (.Raise (some (.Call (.Name x p) (e :: es) [] pos)) none pos') (tRaise K mg x fs W ta) neverM (raiseX x fs ma) := ⟨ha.k, fun tk _ => by
  have hk := ha.k
  subst hk
  subst hmg
  obtain ⟨C, fI, fd, hm, oC, iC, tI, F1, hb, _, _⟩ := T.ex
  exact ⟨fun pins s σ H D I q => (ps_raise hc tk (pmk_oex oC iC tI (F1 _ _ _) (hr.r.mono (by omega)) hb .nil passL hg hm ha.p hdb he hpl)).run pins s σ H D I (q C hm)⟩,
  fun {Φ} σ H μ sg h f h' S rs e E k => (by cases e), by
  intro Φ σ H μ sg h xn sg' h' S rs e kk E C hC
  unfold raiseX at e
  split at e
  · rename_i ds h1 e1
    split at e
    · rename_i hl
      cases e
      refine ha.s σ H μ sg h ds _ S rs e1 _ fun vs H1 μ1 S1 l1 r1 => ⟨by rw [r1.len, hl.1]; exact hl.2, fun a hna => ?_⟩
      refine ⟨a, vs, by rw [List.append_nil], by rw [r1.len, hl.1], upd_same, fun H' dx hd hne ea ed kp => ⟨rfl, dx, _, ea, ed, ?_, ?_⟩⟩
      · rw [upd_ne hne] at hd; exact hd
      · rw [upd_ne hne] at hd
        have eH : upd (del H' a) dx (.xd (fs.zip vs).reverse) = upd H1 dx (.xd (fs.zip vs).reverse) := by
          funext b
          by_cases hb : b = dx
          · rw [hb, upd_same, upd_same]
          · rw [upd_ne hb, upd_ne hb]
            by_cases hba : b = a
            · rw [hba, del_same, hna]
            · rw [del_ne hba, kp b hba hb, upd_ne hba]
        rw [eH]
        have l2 : Le K H1 μ1 (upd H1 dx (.xd (fs.zip vs).reverse)) μ1 := le_xd hd
        refine kk σ _ μ1 _ _ (S1.new hd) (l1.trans l2) (rs.mono (l1.trans l2)) ⟨C, dx, vs.reverse, hC, rfl, rfl, ?_, ?_⟩
        · rw [upd_same]
          congr 2
          show _ = (((fs.zip ds).reverse).map (·.1)).zip vs.reverse
          rw [List.map_reverse, List.map_fst_zip (by omega), zip_rev (by rw [r1.len, hl.1])]
        · show Rps K _ μ1 (((fs.zip ds).reverse).map (·.2)) vs.reverse
          rw [List.map_reverse, List.map_snd_zip (by omega)]
          exact (Rps.mono l2 _ _ r1).rev
    · cases e
  · cases e⟩
end

/-! ### what stands in a suite -/
structure Hx (K : PySem.W.Frag) (mg : Str → Option Value) (H : Hp) (μ : List Addr) (σ : L2.St) (sl : Option Nat) (a : Addr) (xn : Xn) (cls : Value) (d : Option Addr) : Prop where
  r : RX K mg H μ xn cls d
  s : ∀ i, sl = some i → σ[i]? = some (some (.ref a))
theorem Hx.mono {K : PySem.W.Frag} {mg : Str → Option Value} {H H' : Hp} {μ μ' : List Addr} {σ : L2.St} {sl : Option Nat} {a : Addr} {xn : Xn} {cls : Value} {d : Option Addr} (l : Le K H μ H' μ') (x : Hx K mg H μ σ sl a xn cls d) : Hx K mg H' μ' σ sl a xn cls d := ⟨x.r.mono l, x.s⟩
def SEh (K : PySem.W.Frag) (mg : Str → Option Value) (sl : Option Nat) (a : Addr) (xn : Xn) (cls : Value) (d : Option Addr) (t : TE) (m : ME) : Prop :=
  ∀ {Φ : Hp} (σ : L2.St) (H : Hp) (μ : List Addr) (sg : Sg) (h : Hd) (y : D) (h' : Hd), Sm Φ K H μ h → Rs K H μ sg σ → Hx K mg H μ σ sl a xn cls d → m sg h = some (y, h') → ∀ Q : VK, Kn Φ K H μ h' y Q → t σ H Q
def SAh (K : PySem.W.Frag) (mg : Str → Option Value) (sl : Option Nat) (a : Addr) (xn : Xn) (cls : Value) (d : Option Addr) (t : TA) (m : MA) : Prop :=
  ∀ {Φ : Hp} (σ : L2.St) (H : Hp) (μ : List Addr) (sg : Sg) (h : Hd) (ys : List D) (h' : Hd), Sm Φ K H μ h → Rs K H μ sg σ → Hx K mg H μ σ sl a xn cls d → m sg h = some (ys, h') → ∀ Q : List V → Hp → Prop,
    (∀ (vs : List V) (H' : Hp) (μ' : List Addr), Sm Φ K H' μ' h' → Le K H μ H' μ' → Rps K H' μ' ys vs → Q vs H') → t σ H Q
structure DEh (K : PySem.W.Frag) (mg : Str → Option Value) (X : Cx) (sl : Option Nat) (a : Addr) (xn : Xn) (cls : Value) (d : Option Addr) (e : Expr) (t : TE) (m : ME) : Prop where
  k : X.K = K
  p : PE X e t
  s : SEh K mg sl a xn cls d t m
structure DAh (K : PySem.W.Frag) (mg : Str → Option Value) (X : Cx) (sl : Option Nat) (a : Addr) (xn : Xn) (cls : Value) (d : Option Addr) (e : List Expr) (t : TA) (m : MA) : Prop where
  k : X.K = K
  p : PA X e t
  s : SAh K mg sl a xn cls d t m
section
variable {K : PySem.W.Frag} {mg : Str → Option Value} {X : Cx} {sl : Option Nat} {a : Addr} {xn : Xn} {cls : Value} {d : Option Addr} {e e1 e2 : Expr} {es : List Expr} {t u : TE} {m n : ME} {ta : TA} {ma : MA} {pos : Pos}
theorem deh_of (x : DE K X e t m) : DEh K mg X sl a xn cls d e t m := ⟨x.k, x.p, fun {Φ} σ H μ sg h y h' S rs _ q Q k => x.s σ H μ sg h y h' S rs q Q k⟩
theorem dah_nil (hK : X.K = K := by rfl) : DAh K mg X sl a xn cls d [] tNil nilM := ⟨hK, pa_nil, fun {Φ} σ H μ sg h y h' S rs _ q Q k => (da_nil (X := X) hK).s σ H μ sg h y h' S rs q Q k⟩
theorem dah_cons (ha : DEh K mg X sl a xn cls d e t m) (hb : DAh K mg X sl a xn cls d es ta ma) (hs : starEach (e :: es) X.env = (false, eval e X.env) :: starEach es X.env := by rfl) : DAh K mg X sl a xn cls d (e :: es) (tCons t ta) (consM m ma) := ⟨ha.k, pa_cons ha.p hb.p hs, by
  intro Φ σ H μ sg h ds h' S rs hx e Q k
  unfold consM at e
  split at e
  · rename_i x h1 e1
    split at e
    · rename_i xs h2 e2
      cases e
      refine ha.s σ H μ sg h x h1 S rs hx e1 _ fun v H1 μ1 S1 l1 r1 => ?_
      refine hb.s σ H1 μ1 sg h1 xs _ S1 (rs.mono l1) (hx.mono l1) e2 _ fun vs H2 μ2 S2 l2 r2 => ?_
      exact k _ H2 μ2 S2 (l1.trans l2) (Rps.cons (Rp.mono l2 _ _ r1) r2)
    · cases e
  · cases e⟩
theorem deh_tup {x1} (ha : DAh K mg X sl a xn cls d es ta ma) : DEh K mg X sl a xn cls d (.Tuple es x1 pos) (tTup ta) (tupM ma) := ⟨ha.k, pe_tup ha.p, by
  intro Φ σ H μ sg h y h' S rs hx e Q k
  unfold tupM at e
  split at e
  · rename_i xs h1 e1
    split at e
    · rename_i hz
      cases e
      refine ha.s σ H μ sg h xs _ S rs hx e1 _ fun vs H1 μ1 S1 l1 r1 => ⟨by rw [r1.len]; exact ln_of hz, fun p hp => kn_tup S1 r1 (fun v H2 μ2 S2 l2 r2 => k v H2 μ2 S2 (l1.trans l2) r2) p hp⟩
    · cases e
  · cases e⟩
theorem seh_op {r : R2} {g : G2} (hs : SO K r g) (ha : SEh K mg sl a xn cls d t m) (hb : SEh K mg sl a xn cls d u n) : SEh K mg sl a xn cls d (tOp r t u) (opM g m n) := by
  intro Φ σ H μ sg h y h' S rs hx e Q k
  unfold opM at e
  split at e
  · rename_i x h1 e1
    split at e
    · rename_i z h2 e2
      refine ha σ H μ sg h x h1 S rs hx e1 _ fun v H1 μ1 S1 l1 r1 => ?_
      refine hb σ H1 μ1 sg h1 z h2 S1 (rs.mono l1) (hx.mono l1) e2 _ fun w H2 μ2 S2 l2 r2 => ?_
      exact hs H2 μ2 h2 x z v w y h' S2 (Rp.mono l2 _ _ r1) r2 e Q fun u H3 μ3 S3 l3 r3 => k u H3 μ3 S3 ((l1.trans l2).trans l3) r3
    · cases e
  · cases e
theorem deh_cmp {op : CmpOp} {r : R2} {g : G2} (hs : SO K r g) (ho : OpR X (compareOp op) r) (ha : DEh K mg X sl a xn cls d e1 t m) (hb : DEh K mg X sl a xn cls d e2 u n) (hm : lastMarks [op] [e2] = false := by with_unfolding_all rfl) : DEh K mg X sl a xn cls d (.Compare e1 [op] [e2] pos) (tOp r t u) (opM g m n) :=
  ⟨ha.k, pe_cmpR ho ha.p hb.p hm, seh_op hs ha.s hb.s⟩
theorem deh_one {op : BoolOp} (ha : DEh K mg X sl a xn cls d e t m) : DEh K mg X sl a xn cls d (.BoolOp op [e] pos) t m := ⟨ha.k, pe_one ha.p, ha.s⟩
theorem deh_and {rest : List Expr} (ha : DEh K mg X sl a xn cls d e1 t m) (hb : DEh K mg X sl a xn cls d (.BoolOp .And (e2 :: rest) pos) u n) : DEh K mg X sl a xn cls d (.BoolOp .And (e1 :: e2 :: rest) pos) (tAndT K t u) (DL.andM m n) := ⟨ha.k, by
  have hk := ha.k
  subst hk
  exact pe_andT ha.p hb.p, by
  intro Φ σ H μ sg h y h' S rs hx e Q k
  unfold DL.andM at e
  split at e
  · rename_i x h1 e1
    refine ha.s σ H μ sg h x h1 S rs hx e1 _ fun v H1 μ1 S1 l1 r1 => ?_
    split at e
    · rename_i et
      exact ⟨true, tru_of S1 r1 et, iteT (hb.s σ H1 μ1 sg h1 y h' S1 (rs.mono l1) (hx.mono l1) e Q fun u H2 μ2 S2 l2 r2 => k u H2 μ2 S2 (l1.trans l2) r2)⟩
    · rename_i et
      cases e
      exact ⟨false, tru_of S1 r1 et, iteF (k v H1 μ1 S1 l1 r1)⟩
    · cases e
  · cases e⟩
end
/-! ### e.f -/
abbrev XTab := List (Str × List Str)
def ExTab (K : PySem.W.Frag) (mg : Str → Option Value) (T : XTab) : Prop := ∀ p ∈ T, ExT K mg p.1 p.2
def fldX (T : XTab) (xn : Xn) (f : Str) : ME := fun _ h => if (T.any fun p => decide (p.1 = xn.cls) && p.2.contains f) = true then match xn.fs.lookup f with
  | some d => some (d, h)
  | none => none else none
theorem lookup_zip {K : PySem.W.Frag} {H : Hp} {μ : List Addr} {f : Str} {d : D} : ∀ {fs : List (Str × D)} {vs : List V}, fs.lookup f = some d → Rps K H μ (fs.map (·.2)) vs → ∃ v, ((fs.map (·.1)).zip vs).lookup f = some v ∧ Rp K H μ d v
  | [], vs, e, r => by cases e
  | (g, y) :: fs, vs, e, r => by
    obtain ⟨v, vs', rfl, r1, r2⟩ := r.cons'
    by_cases hb : (f == g) = true
    · rw [List.lookup_cons, hb] at e
      cases e
      exact ⟨v, by rw [List.map_cons, List.zip_cons_cons, List.lookup_cons, hb], r1⟩
    · have hb' : (f == g) = false := by simpa using hb
      rw [List.lookup_cons, hb'] at e
      obtain ⟨w, q1, q2⟩ := lookup_zip e r2
      exact ⟨w, by rw [List.map_cons, List.zip_cons_cons, List.lookup_cons, hb']; exact q1, q2⟩
def tFld (K : PySem.W.Frag) (a : Addr) (cls : Value) (d : Option Addr) (f : Str) (te : TE) : TE := fun σ H Q => ∃ C, cls = .ref C ∧ XfC K C ∧ PySem.W.findIn K (.ref C) f = some none ∧ tXf a cls d C f te σ H Q
section
variable {K : PySem.W.Frag} {mg : Str → Option Value} {X : Cx} {i : Nat} {a : Addr} {oe : Obj} {xn : Xn} {cls : Value} {d : Option Addr} {pn : List (Addr × Obj)} {f n : Str} {p pos : Pos} {T : XTab}
theorem deh_fld (i : Nat) (tb : ExTab K mg T) (hz : Zc cls d oe) (hf : ∃ vs, oe.data = .fields vs) (hN : X.N[i]? = some n := by rfl) (hV : Vis X.env.scope n := by exact .inl rfl) (hK : X.K = K := by rfl) (hd : (n == ("__debug__" : Str)) = false := by decide) (hcd : (n == ("__classdict__" : Str)) = false := by decide)
    (hb : attributeBase (.Name n p) f X.env (eval (.Name n p) X.env) = eval (.Name n p) X.env := by rfl) :
    DEh K mg (X.suite a ((a, oe) :: pn)) (some i) a xn cls d (.Attribute (.Name n p) f pos) (tFld K a cls d f (tVar i)) (fldX T xn f) := ⟨hK, by
  have hk := hK
  subst hk
  exact ⟨fun pins s σ H Q I ⟨C, ec, xc, hno, q⟩ => (pe_xf xc hno hz hf (pe_var (X := X.suite a ((a, oe) :: pn)) hN hV (hd := hd) (hcd := hcd)) hb).run pins s σ H Q I q⟩, by
  intro Φ σ H μ sg h y h' S rs hx e Q k
  unfold fldX at e
  split at e
  · rename_i hin
    split at e
    · rename_i dd q
      cases e
      obtain ⟨C, dx, vs, h1, h2, h3, h4, h5⟩ := hx.r
      obtain ⟨v, q1, q2⟩ := lookup_zip q h5
      obtain ⟨pr, hpr, hc⟩ := List.any_eq_true.mp hin
      obtain ⟨c1, c2⟩ := Bool.and_eq_true_iff.mp hc
      obtain ⟨C', fI, fd, m1, _, _, _, _, _, xc, hno⟩ := (tb pr hpr).ex
      rw [of_decide_eq_true c1, h1] at m1
      cases m1
      exact ⟨C, h2, xc, hno f (by simpa using c2), .ref a, hx.s i rfl, rfl, h2, dx, _, v, h3, h4, q1, k v H μ S Le.refl q2⟩
    · cases e
  · cases e⟩
end
end DL

/-! DM14: repr; suites with built-ins; try. -/
namespace DL
open PySem L2 PySem.Spec PyProof.Rows

/-! ### repr -/
def rRepr (K : PySem.W.Frag) : List V → Hp → VK → Prop := fun vs H Q => ∃ (v : V), vs = [v] ∧
  ((∃ d, Dp K H v d ∧ d.showable = true ∧ d.hasDict = false ∧ d.depth ≤ 64 ∧ d.shown.length ≤ sizeLine ∧ Q (.str d.shown) H) ∨
    ∃ a, v = .ref a ∧ H a = some (.dK []) ∧ Q (.str (PyData.dict []).shown) H)
section
variable {K : PySem.W.Frag} {X : Cx}
theorem call_reprU (hg : X.A.guards = some []) (hu : X.A.units + 100 < cLine) (hK : X.K = K := by rfl) : CallR X (.builtin "repr") (rRepr K) := by
  subst hK
  intro pins s σ H xs us Q I r h
  obtain ⟨v, rfl, ⟨d, hd, hs, hn, hdp, hl, q⟩ | ⟨a, rfl, ha, q⟩⟩ := h
  · obtain ⟨u, rfl, r1⟩ := vals1 r
    obtain ⟨as, rd⟩ := Dp.reads I d v u hd r1
    cases rd with
    | none => exact PySem.P.repr_of_none ⟨.str _, H, I.tok _, ⟨_, rfl⟩, q⟩
    | bool b => exact PySem.P.repr_of_bool ⟨.str _, H, I.tok _, ⟨_, rfl⟩, q⟩
    | int i t => exact PySem.P.repr_of_int (by simpa [PyData.showable] using hs) ⟨.str _, H, I.tok _, ⟨_, rfl⟩, q⟩
    | str x t => exact PySem.P.repr_of_str ⟨.str _, H, I.tok _, ⟨_, rfl⟩, q⟩ (by simpa [PyData.shown] using hl)
    | list h1 h2 h3 h4 => exact repr_of_reads' (.list h1 h2 h3 h4) hs (fun z => by rw [hn] at z; cases z) hg (by omega) (fun _ _ z => z) (fun h' u tk kp => ⟨.str _, H, I.kept (t' := tk) kp, ⟨_, rfl⟩, q⟩) hl
    | tuple h1 h2 h3 h4 => exact repr_of_reads' (.tuple h1 h2 h3 h4) hs (fun z => by rw [hn] at z; cases z) hg (by omega) (fun _ _ z => z) (fun h' u tk kp => ⟨.str _, H, I.kept (t' := tk) kp, ⟨_, rfl⟩, q⟩) hl
    | dict h1 h2 h3 h4 h5 => simp [PyData.hasDict] at hn
  · obtain ⟨u, rfl, r1⟩ := vals1 r
    obtain rfl : u = Value.ref a := r1
    obtain ⟨_, hm, vs, kv, o, es, ep, ho, hx, hdt, _, hp, _⟩ := I.hok a _ ha
    have e0 : vs = [] := by cases kv; rfl
    subst e0
    have e1 : es.toList = [] := by
      generalize es.toList = l at hp ⊢
      cases hp
      rfl
    have rd : Reads s.heap (.ref a) (.dict []) (a :: [] ++ []) := .dict (n := ep) ho hx.1 hdt (by rw [e1]; exact .nil) (by rw [e1]; exact .nil)
    have hdp : PyData.depth (.dict []) ≤ 2 := by decide
    refine repr_of_reads' rd rfl (fun _ hm' => ?_) hg (by omega) (fun _ _ z => z) (fun h' u tk kp => ⟨.str _, H, I.kept (t' := tk) kp, ⟨_, rfl⟩, q⟩) (by rw [sizeLine_eq]; decide +kernel)
    have : sysModules = a := by simpa using hm'
    rw [← this] at hm
    simp at hm
def reprD : GC := fun xs h => match xs with
  | [x] => match datD h x with
    | some p => if p.showable = true ∧ p.hasDict = false ∧ p.depth ≤ 64 ∧ p.shown.length ≤ LN then some (.str p.shown, h) else none
    | none => match x with
      | .at n => match h[n]? with
        | some (.dct []) => some (.str (PyData.dict []).shown, h)
        | _ => none
      | _ => none
  | _ => none
theorem sc_repr : SC K (rRepr K) reprD := by
  intro Φ H μ h xs vs d h' S r e Q k
  unfold reprD at e
  split at e
  · obtain ⟨v, rfl, r1⟩ := rps1 r
    split at e
    · rename_i p q
      split at e
      · rename_i hc
        cases e
        exact ⟨v, rfl, .inl ⟨p, dat_of S r1 q, hc.1, hc.2.1, hc.2.2.1, ln_of hc.2.2.2, k _ H μ S Le.refl rp_str⟩⟩
      · cases e
    · split at e
      · split at e
        · rename_i q
          cases e
          obtain ⟨a, ea, rfl⟩ := rp_at' r1
          obtain ⟨kw, hk, rk⟩ := S.dct q ea
          rw [rk.nil'] at hk
          exact ⟨_, rfl, .inr ⟨a, rfl, hk, k _ H μ S Le.refl rp_str⟩⟩
        · cases e
      · cases e
  · cases e
end

/-! ### built-ins in a suite -/
section
variable {K : PySem.W.Frag} {mg : Str → Option Value} {X : Cx} {sl : Option Nat} {a : Addr} {xn : Xn} {cls : Value} {d : Option Addr} {e : Expr} {es : List Expr} {t u : TE} {m n : ME} {ta : TA} {ma : MA} {pos p : Pos} {r : List V → Hp → VK → Prop} {g : GC}
theorem deh_callB {x : Str} {id : String} (hs : SC K r g) (hc : CallR X (.builtin id) r) (hm : X.mg x = none) (ha : DAh K mg X sl a xn cls d (e :: es) ta ma) (hv : bootBuiltins x = some (.builtin id) := by decide +kernel) (hg : Gl X x := by rfl) (hn : x ≠ "__name__" := by decide) (hdb : (x == ("__debug__" : Str)) = false := by decide)
    (he : starEach (e :: es) X.env = (false, eval e X.env) :: starEach es X.env := by rfl) (hpl : (backTo pos (starEach es X.env)).any (·.1) = false := by rfl) : DEh K mg X sl a xn cls d (.Call (.Name x p) (e :: es) [] pos) (tCB r ta) (cbM g ma) := ⟨ha.k, pe_callB hc hg hm hv ha.p hn hdb he hpl, by
  intro Φ σ H μ sg h y h' S rs hx e Q k
  unfold cbM at e
  split at e
  · rename_i xs h1 e1
    exact ha.s σ H μ sg h xs h1 S rs hx e1 _ fun vs H1 μ1 S1 l1 r1 => hs H1 μ1 h1 xs vs y h' S1 r1 e Q fun v H2 μ2 S2 l2 r2 => k v H2 μ2 S2 (l1.trans l2) r2
  · cases e⟩
end

/-! ### try -/
structure Hn where
  cls : Str
  sl : Option Nat
  to : Option Nat
  me : Xn → ME
def setI (i : Option Nat) (sg : Sg) (d : Option D) : Sg := match i with
  | some i => sg.set i d
  | none => sg
def okI (i : Option Nat) (sg : Sg) : Bool := match i with
  | some i => decide (i < sg.length)
  | none => true
def handM (q : Hn) (xn : Xn) (sg : Sg) (h : Hd) : Option (Fl × Hd) := if okI q.sl sg = true then match q.me xn (setI q.sl sg none) h with
  | some (d, h2) => match q.to with
    | none => some (.rt d, h2)
    | some j => some (.nx (setI q.sl ((setI q.sl sg none).set j (some d)) none), h2)
  | none => none else none
def handsM (sub : Str → Str → Bool) : List Hn → Xn → Sg → Hd → Option (Fl × Hd)
  | [], _, _, _ => none
  | q :: r, xn, sg, h => if sub xn.cls q.cls = true then handM q xn sg h else handsM sub r xn sg h
def handsX (sub : Str → Str → Bool) : List Hn → Xn → Bool
  | [], _ => true
  | q :: r, xn => if sub xn.cls q.cls = true then false else handsX sub r xn
def tryM (sub : Str → Str → Bool) (L : List Str) (hs : List Hn) (m : MS) (x : MX) : MS := fun sg h => match x sg h with
  | some (xn, sg1, h1) => if L.contains xn.cls = true then handsM sub hs xn sg1 h1 else none
  | none => m sg h
def tryX (sub : Str → Str → Bool) (L : List Str) (hs : List Hn) (x : MX) : MX := fun sg h => match x sg h with
  | some (xn, sg1, h1) => if L.contains xn.cls = true ∧ handsX sub hs xn = true then some (xn, sg1, h1) else none
  | none => none
theorem rs_putI {K : PySem.W.Frag} {H : Hp} {μ : List Addr} {sg : Sg} {σ : L2.St} (i : Option Nat) (o : Option V) (r : Rs K H μ sg σ) : Rs K H μ (setI i sg none) (putI i σ o) := by
  cases i with
  | none => exact r
  | some i =>
    refine ⟨by show (List.set _ _ _).length = (List.set _ _ _).length; rw [List.length_set, List.length_set, r.1], fun j e q => ?_⟩
    show ∃ v, (List.set σ i o)[j]? = _ ∧ _
    have q' : (List.set sg i none)[j]? = some (some e) := q
    by_cases hj : j = i
    · subst hj
      rw [List.getElem?_set] at q'
      simp at q'
    · rw [List.getElem?_set_ne (fun z => hj z.symm)] at q' ⊢
      exact r.2 j e q'
/-- one suite: return e, or n = e -/
def toS (to : Option Nat) (te : TE) : TS := match to with
  | none => tRet te
  | some j => tAsg te (gName j)
structure HnD (K : PySem.W.Frag) (mg : Str → Option Value) (sub : Str → Str → Bool) (L : List Str) (q : Hn) (r : Hs) (te : Addr → Value → Option Addr → TE) : Prop where
  c : ∃ C, mg q.cls = some (.ref C) ∧ r.c = .ref C ∧ ∀ x ∈ L, ∀ Cx, mg x = some (.ref Cx) → PySem.W.exmOne K (.ref Cx) (.ref C) = some (sub x q.cls)
  i : r.i = q.sl
  t : ∀ a cls d, r.ts a cls d = toS q.to (te a cls d)
  s : ∀ a xn cls d, SEh K mg q.sl a xn cls d (te a cls d) (q.me xn)
inductive HnDs (K : PySem.W.Frag) (mg : Str → Option Value) (sub : Str → Str → Bool) (L : List Str) : List Hn → List Hs → Prop
  | nil : HnDs K mg sub L [] []
  | cons {q : Hn} {r : Hs} {te : Addr → Value → Option Addr → TE} {qs : List Hn} {rs : List Hs} : HnD K mg sub L q r te → HnDs K mg sub L qs rs → HnDs K mg sub L (q :: qs) (r :: rs)
section
variable {K : PySem.W.Frag} {mg : Str → Option Value} {sub : Str → Str → Bool} {L : List Str} {W : WX} {Φ : Hp}
theorem hands_ok {qs : List Hn} {rs : List Hs} (hd : HnDs K mg sub L qs rs) {H : Hp} {μ : List Addr} {sg : Sg} {h : Hd} {σ : L2.St} {xn : Xn} {cls : Value} {d : Option Addr} {f : Fl} {h' : Hd} {E : Ends} (S : Sm Φ K H μ h) (rsg : Rs K H μ sg σ)
    (hx : RX K mg H μ xn cls d) (hL : xn.cls ∈ L) (e : handsM sub qs xn sg h = some (f, h')) (k : Ek Φ K H μ h' f E) : wHs K W E rs cls d σ H := by
  induction hd with
  | nil => cases e
  | @cons q r te qs rs hq _ ih =>
    obtain ⟨C, hC, hr, hsub⟩ := hq.c
    obtain ⟨Cx, dx, vs, h1, h2, h3, h4, h5⟩ := id hx
    refine ⟨sub xn.cls q.cls, by rw [hr, h2]; exact hsub _ hL Cx h1, fun hb a na => ?_, fun hb => ?_⟩
    · unfold handsM at e
      rw [if_pos hb] at e
      unfold handM at e
      rw [hq.t, hq.i]
      split at e
      · rename_i hok
        have hsl : ∀ i, q.sl = some i → i < σ.length := fun i hi => by
          rw [hi] at hok
          rw [← rsg.1]
          exact of_decide_eq_true hok
        split at e
        · rename_i y h2' e1
          have hxx : Hx K mg H μ (putI q.sl σ (some (.ref a))) q.sl a xn cls d := ⟨hx, fun i hi => by
            rw [hi]
            show (List.set σ i _)[i]? = _
            rw [List.getElem?_set_self (hsl i hi)]⟩
          have rs1 : Rs K H μ (setI q.sl sg none) (putI q.sl σ (some (.ref a))) := rs_putI _ _ rsg
          unfold toS
          split at e
          · rename_i hto
            cases e
            rw [hto]
            exact hq.s a xn cls d _ H μ _ h _ _ S rs1 hxx e1 _ fun v H1 μ1 S1 l1 r1 => k v H1 μ1 S1 l1 r1
          · rename_i j hto
            cases e
            rw [hto]
            exact hq.s a xn cls d _ H μ _ h _ _ S rs1 hxx e1 _ fun v H1 μ1 S1 l1 r1 => k _ H1 μ1 S1 l1 (rs_putI q.sl none ((rs1.mono l1).put j r1))
        · cases e
      · cases e
    · unfold handsM at e
      rw [if_neg (by rw [hb]; exact Bool.false_ne_true)] at e
      exact ih e
end
section
variable {K : PySem.W.Frag} {mg : Str → Option Value} {sub : Str → Str → Bool} {L : List Str} {W : WX} {Φ : Hp}
theorem handsX_ok {qs : List Hn} {rs : List Hs} (hd : HnDs K mg sub L qs rs) {H : Hp} {μ : List Addr} {σ : L2.St} {xn : Xn} {cls : Value} {d : Option Addr} {E : Ends}
    (hx : RX K mg H μ xn cls d) (hL : xn.cls ∈ L) (e : handsX sub qs xn = true) (k : W cls d σ H) : wHs K W E rs cls d σ H := by
  induction hd with
  | nil => exact k
  | @cons q r te qs rs hq _ ih =>
    obtain ⟨C, hC, hr, hsub⟩ := hq.c
    obtain ⟨Cx, dx, vs, h1, h2, h3, h4, h5⟩ := id hx
    refine ⟨sub xn.cls q.cls, by rw [hr, h2]; exact hsub _ hL Cx h1, fun hb a na => ?_, fun hb => ?_⟩
    · unfold handsX at e
      rw [if_pos hb] at e
      cases e
    · unfold handsX at e
      rw [if_neg (by rw [hb]; exact Bool.false_ne_true)] at e
      exact ih e
theorem Ek.le' {K : PySem.W.Frag} {H H1 : Hp} {μ μ1 : List Addr} {h' : Hd} {f : Fl} {E : Ends} (k : Ek Φ K H μ h' f E) (l : Le K H μ H1 μ1) : Ek Φ K H1 μ1 h' f E := k.le l
end
section
variable {K : PySem.W.Frag} {mg : Str → Option Value} {X : Cx} {W : WX} {sub : Str → Str → Bool} {L : List Str} {body : List Stmt} {h₀ : ExceptHandler} {hds : List ExceptHandler} {qs : List Hn} {l : List Hs} {pos : Pos} {tb : WX → TS} {m : MS} {x : MX}
/-- what the text says of a clause -/
inductive HnOk (K : PySem.W.Frag) (mg : Str → Option Value) (X : Cx) (sub : Str → Str → Bool) (L : List Str) : List ExceptHandler → List Hn → List Hs → Prop
  | nil : HnOk K mg X sub L [] [] []
  | ret {x : Str} {C : Addr} {np pos' p : Pos} {e : Expr} {te : Addr → Value → Option Addr → TE} {me : Xn → ME} {hds : List ExceptHandler} {qs : List Hn} {l : List Hs} (hm : mg x = some (.ref C)) (hg : Gl X x) (hdb : (x == ("__debug__" : Str)) = false)
      (hx : ∀ r ∈ L, ∀ Cx, mg r = some (.ref Cx) → PySem.W.exmOne K (.ref Cx) (.ref C) = some (sub r x))
      (hsu : ∀ (a : Addr) (oe : Obj) (cls : Value) (d : Option Addr) (pn : List (Addr × Obj)) (xn : Xn), Zc cls d oe → (∃ vs, oe.data = .fields vs) → DEh K mg (X.suite a ((a, oe) :: pn)) none a xn cls d e (te a cls d) (me xn))
      (r : HnOk K mg X sub L hds qs l) : HnOk K mg X sub L (.ExceptHandler (some (.Name x np)) none [.Return (some e) p] pos' :: hds) (⟨x, none, none, me⟩ :: qs) (⟨.ref C, none, fun a cls d => toS none (te a cls d)⟩ :: l)
  | retA {x n : Str} {C : Addr} {i : Nat} {np pos' p : Pos} {e : Expr} {te : Addr → Value → Option Addr → TE} {me : Xn → ME} {hds : List ExceptHandler} {qs : List Hn} {l : List Hs} (hm : mg x = some (.ref C)) (hg : Gl X x) (hdb : (x == ("__debug__" : Str)) = false)
      (hx : ∀ r ∈ L, ∀ Cx, mg r = some (.ref Cx) → PySem.W.exmOne K (.ref Cx) (.ref C) = some (sub r x)) (hi : X.N[i]? = some n) (hln : X.env.kindOf n = some .local)
      (hsu : ∀ (a : Addr) (oe : Obj) (cls : Value) (d : Option Addr) (pn : List (Addr × Obj)) (xn : Xn), Zc cls d oe → (∃ vs, oe.data = .fields vs) → DEh K mg (X.suite a ((a, oe) :: pn)) (some i) a xn cls d e (te a cls d) (me xn))
      (r : HnOk K mg X sub L hds qs l) : HnOk K mg X sub L (.ExceptHandler (some (.Name x np)) (some n) [.Return (some e) p] pos' :: hds) (⟨x, some i, none, me⟩ :: qs) (⟨.ref C, some i, fun a cls d => toS none (te a cls d)⟩ :: l)
  | set {x : Str} {C : Addr} {j : Nat} {np pos' p : Pos} {e : Expr} {st : Stmt} {te : Addr → Value → Option Addr → TE} {me : Xn → ME} {hds : List ExceptHandler} {qs : List Hn} {l : List Hs} (hm : mg x = some (.ref C)) (hg : Gl X x) (hdb : (x == ("__debug__" : Str)) = false)
      (hx : ∀ r ∈ L, ∀ Cx, mg r = some (.ref Cx) → PySem.W.exmOne K (.ref Cx) (.ref C) = some (sub r x))
      (hst : ∀ (a : Addr) (pn : List (Addr × Obj)) (t : TE), PE (X.suite a pn) e t → PS (X.suite a pn) st (tAsg t (gName j)))
      (hsu : ∀ (a : Addr) (oe : Obj) (cls : Value) (d : Option Addr) (pn : List (Addr × Obj)) (xn : Xn), Zc cls d oe → (∃ vs, oe.data = .fields vs) → DEh K mg (X.suite a ((a, oe) :: pn)) none a xn cls d e (te a cls d) (me xn))
      (r : HnOk K mg X sub L hds qs l) : HnOk K mg X sub L (.ExceptHandler (some (.Name x np)) none [st] pos' :: hds) (⟨x, none, some j, me⟩ :: qs) (⟨.ref C, none, fun a cls d => toS (some j) (te a cls d)⟩ :: l)
  | setA {x n : Str} {C : Addr} {i j : Nat} {np pos' p : Pos} {e : Expr} {st : Stmt} {te : Addr → Value → Option Addr → TE} {me : Xn → ME} {hds : List ExceptHandler} {qs : List Hn} {l : List Hs} (hm : mg x = some (.ref C)) (hg : Gl X x) (hdb : (x == ("__debug__" : Str)) = false)
      (hx : ∀ r ∈ L, ∀ Cx, mg r = some (.ref Cx) → PySem.W.exmOne K (.ref Cx) (.ref C) = some (sub r x)) (hi : X.N[i]? = some n) (hln : X.env.kindOf n = some .local)
      (hst : ∀ (a : Addr) (pn : List (Addr × Obj)) (t : TE), PE (X.suite a pn) e t → PS (X.suite a pn) st (tAsg t (gName j)))
      (hsu : ∀ (a : Addr) (oe : Obj) (cls : Value) (d : Option Addr) (pn : List (Addr × Obj)) (xn : Xn), Zc cls d oe → (∃ vs, oe.data = .fields vs) → DEh K mg (X.suite a ((a, oe) :: pn)) (some i) a xn cls d e (te a cls d) (me xn))
      (r : HnOk K mg X sub L hds qs l) : HnOk K mg X sub L (.ExceptHandler (some (.Name x np)) (some n) [st] pos' :: hds) (⟨x, some i, some j, me⟩ :: qs) (⟨.ref C, some i, fun a cls d => toS (some j) (te a cls d)⟩ :: l)
theorem HnOk.hs (h : HnOk K X.mg X sub L hds qs l) : HsOk X hds l := by
  induction h with
  | nil => exact .nil
  | ret hm hg hdb hx hsu r ih => exact .cons ⟨hg, hdb, .inl hm⟩ (fun a oe cls d pn hz hf => pss_one (ps_ret (hsu a oe cls d pn ⟨("" : Str), []⟩ hz hf).p)) ih
  | retA hm hg hdb hx hi hln hsu r ih => exact .consA ⟨hg, hdb, .inl hm⟩ hi hln (fun a oe cls d pn hz hf => pss_one (ps_ret (hsu a oe cls d pn ⟨("" : Str), []⟩ hz hf).p)) ih
  | set hm hg hdb hx hst hsu r ih => exact .cons ⟨hg, hdb, .inl hm⟩ (fun a oe cls d pn hz hf => pss_one (hst _ _ _ (hsu a oe cls d pn ⟨("" : Str), []⟩ hz hf).p)) ih
  | setA hm hg hdb hx hi hln hst hsu r ih => exact .consA ⟨hg, hdb, .inl hm⟩ hi hln (fun a oe cls d pn hz hf => pss_one (hst _ _ _ (hsu a oe cls d pn ⟨("" : Str), []⟩ hz hf).p)) ih
def oeOf (cls : Value) (d : Option Addr) : Obj := { cls := cls, dict := d, data := .fields #[] }
theorem HnOk.ds (h : HnOk K X.mg X sub L hds qs l) : HnDs K X.mg sub L qs l := by
  induction h with
  | nil => exact .nil
  | ret hm hg hdb hx hsu r ih => exact .cons ⟨⟨_, hm, rfl, hx⟩, rfl, fun _ _ _ => rfl, fun a xn cls d => (hsu a (oeOf cls d) cls d [] xn ⟨rfl, rfl⟩ ⟨_, rfl⟩).s⟩ ih
  | retA hm hg hdb hx hi hln hsu r ih => exact .cons ⟨⟨_, hm, rfl, hx⟩, rfl, fun _ _ _ => rfl, fun a xn cls d => (hsu a (oeOf cls d) cls d [] xn ⟨rfl, rfl⟩ ⟨_, rfl⟩).s⟩ ih
  | set hm hg hdb hx hst hsu r ih => exact .cons ⟨⟨_, hm, rfl, hx⟩, rfl, fun _ _ _ => rfl, fun a xn cls d => (hsu a (oeOf cls d) cls d [] xn ⟨rfl, rfl⟩ ⟨_, rfl⟩).s⟩ ih
  | setA hm hg hdb hx hi hln hst hsu r ih => exact .cons ⟨⟨_, hm, rfl, hx⟩, rfl, fun _ _ _ => rfl, fun a xn cls d => (hsu a (oeOf cls d) cls d [] xn ⟨rfl, rfl⟩ ⟨_, rfl⟩).s⟩ ih
/-- try: body / except ..: .. -/
theorem dsx_try (hN : X.N.Nodup) (hb : ∀ (W' : WX) (pn : List (Addr × Obj)) (xe : Value → Shared → Prop), DSsX K mg (X.tr pn xe) W' body (tb W') m x)
    (hh : HnOk K mg X sub L (h₀ :: hds) qs l) (hs : X.stack = X.env :: X.outer := by rfl) (hf : X.env.frame = some X.env.locals := by rfl) (hK : X.K = K := by rfl) (hmg : X.mg = mg := by rfl) :
    DSX K mg X W (.Try body (h₀ :: hds) [] [] pos) (fun D σ H => tb (wHs K W D l) D σ H) (tryM sub L qs m x) (tryX sub L qs x) := ⟨hK, fun tk _ => by
  have hk := hK
  subst hk
  subst hmg
  exact ps_try_hs hs hf hN tk (fun W' pn xe tk' po => (hb W' pn xe).p tk' po) hh.hs, by
  have hk := hK
  subst hk
  subst hmg
  intro Φ σ H μ sg h f h' S rs e E k
  have B := hb (wHs X.K W E l) [] fun _ _ => False
  unfold tryM at e
  split at e
  · rename_i xn sg1 h1 e1
    split at e
    · rename_i hL
      refine B.x σ H μ sg h xn sg1 h1 S rs e1 (fun σ1 H1 μ1 cls d S1 l1 rs1 rx => ?_) E
      exact hands_ok hh.ds S1 rs1 rx (by simpa using hL) e (k.le l1)
    · cases e
  · exact B.s σ H μ sg h f h' S rs e E k, by
  have hk := hK
  subst hk
  subst hmg
  intro Φ σ H μ sg h xn sg' h' S rs e k E
  have B := hb (wHs X.K W E l) [] fun _ _ => False
  unfold tryX at e
  split at e
  · rename_i xn1 sg1 h1 e1
    split at e
    · rename_i hL
      cases e
      refine B.x σ H μ sg h xn sg' h' S rs e1 (fun σ1 H1 μ1 cls d S1 l1 rs1 rx => ?_) E
      exact handsX_ok hh.ds rx (by simpa using hL.1) hL.2 (k σ1 H1 μ1 cls d S1 l1 rs1 rx)
    · cases e
  · cases e⟩
end
end DL

/-! DM15: a def whose arguments hold no object's number: its run is told from no objects at all, its new objects stand behind those that are there. -/
namespace DL
open PySem L2 PySem.Spec PyProof.Rows
mutual
def shD (n : Nat) : D → D
  | .at k => .at (n + k)
  | .tup xs => .tup (shDs n xs)
  | .rol xs => .rol (shDs n xs)
  | .non => .non
  | .bl b => .bl b
  | .int i => .int i
  | .str s => .str s
  | .ty s => .ty s
  | .ad a => .ad a
def shDs (n : Nat) : List D → List D
  | [] => []
  | d :: ds => shD n d :: shDs n ds
end
mutual
def cloD : D → Bool
  | .at _ => false
  | .tup xs => cloDs xs
  | .rol xs => cloDs xs
  | .non => true
  | .bl _ => true
  | .int _ => true
  | .str _ => true
  | .ty _ => true
  | .ad _ => true
def cloDs : List D → Bool
  | [] => true
  | d :: ds => cloD d && cloDs ds
end
def shO (n : Nat) : O → O
  | .lst xs => .lst (shDs n xs)
  | .dct kvs => .dct (kvs.map fun kv => (kv.1, shD n kv.2))
def shH (n : Nat) (h : Hd) : Hd := h.map (shO n)
def shX (n : Nat) (x : Xn) : Xn := ⟨x.cls, x.fs.map fun p => (p.1, shD n p.2)⟩
mutual
theorem shD_clo (n : Nat) : ∀ d : D, cloD d = true → shD n d = d
  | .at _, h => by simp [cloD] at h
  | .tup xs, h => by simp only [cloD] at h; simp only [shD, shDs_clo n xs h]
  | .rol xs, h => by simp only [cloD] at h; simp only [shD, shDs_clo n xs h]
  | .non, _ => rfl
  | .bl _, _ => rfl
  | .int _, _ => rfl
  | .str _, _ => rfl
  | .ty _, _ => rfl
  | .ad _, _ => rfl
theorem shDs_clo (n : Nat) : ∀ ds : List D, cloDs ds = true → shDs n ds = ds
  | [], _ => rfl
  | d :: ds, h => by
    simp only [cloDs, Bool.and_eq_true] at h
    simp only [shDs, shD_clo n d h.1, shDs_clo n ds h.2]
end
theorem shDs_map (n : Nat) : ∀ ds : List D, shDs n ds = ds.map (shD n)
  | [] => rfl
  | d :: ds => by simp only [shDs, List.map_cons, shDs_map n ds]
section
variable {K : PySem.W.Frag} {H : Hp} {μ μ1 : List Addr}
mutual
theorem rp_clo : ∀ (d : D) (v : V), cloD d = true → Rp K H μ d v → Rp K H μ1 d v
  | .at _, _, h, _ => by simp [cloD] at h
  | .tup xs, v, h, r => by
    unfold Rp at *
    obtain ⟨p, vs, a, b, c⟩ := r
    exact ⟨p, vs, a, b, rps_clo xs vs (by simpa only [cloD] using h) c⟩
  | .rol xs, v, h, r => by
    unfold Rp at *
    obtain ⟨p, vs, a, b, c⟩ := r
    exact ⟨p, vs, a, b, rps_clo xs vs (by simpa only [cloD] using h) c⟩
  | .non, _, _, r => by unfold Rp at *; exact r
  | .bl _, _, _, r => by unfold Rp at *; exact r
  | .int _, _, _, r => by unfold Rp at *; exact r
  | .str _, _, _, r => by unfold Rp at *; exact r
  | .ty _, _, _, r => by unfold Rp at *; exact r
  | .ad _, _, _, r => by unfold Rp at *; exact r
theorem rps_clo : ∀ (ds : List D) (vs : List V), cloDs ds = true → Rps K H μ ds vs → Rps K H μ1 ds vs
  | [], _, _, r => by unfold Rps at *; exact r
  | d :: ds, vs, h, r => by
    simp only [cloDs, Bool.and_eq_true] at h
    obtain ⟨v, vs', rfl, a, b⟩ := r.cons'
    exact Rps.cons (rp_clo d v h.1 a) (rps_clo ds vs' h.2 b)
end
mutual
theorem rp_sh : ∀ (d : D) (v : V), Rp K H μ1 d v → Rp K H (μ ++ μ1) (shD μ.length d) v
  | .at k, v, r => by
    unfold Rp at r
    obtain ⟨a, ea, rfl⟩ := r
    simp only [shD]
    unfold Rp
    exact ⟨a, by rw [List.getElem?_append_right (by omega), show μ.length + k - μ.length = k by omega]; exact ea, rfl⟩
  | .tup xs, v, r => by
    simp only [shD]
    unfold Rp at *
    obtain ⟨p, vs, a, b, c⟩ := r
    exact ⟨p, vs, a, b, rps_sh xs vs c⟩
  | .rol xs, v, r => by
    simp only [shD]
    unfold Rp at *
    obtain ⟨p, vs, a, b, c⟩ := r
    exact ⟨p, vs, a, b, rps_sh xs vs c⟩
  | .non, _, r => by simp only [shD]; unfold Rp at *; exact r
  | .bl _, _, r => by simp only [shD]; unfold Rp at *; exact r
  | .int _, _, r => by simp only [shD]; unfold Rp at *; exact r
  | .str _, _, r => by simp only [shD]; unfold Rp at *; exact r
  | .ty _, _, r => by simp only [shD]; unfold Rp at *; exact r
  | .ad _, _, r => by simp only [shD]; unfold Rp at *; exact r
theorem rps_sh : ∀ (ds : List D) (vs : List V), Rps K H μ1 ds vs → Rps K H (μ ++ μ1) (shDs μ.length ds) vs
  | [], _, r => by simp only [shDs]; unfold Rps at *; exact r
  | d :: ds, vs, r => by
    obtain ⟨v, vs', rfl, a, b⟩ := r.cons'
    simp only [shDs]
    exact Rps.cons (rp_sh d v a) (rps_sh ds vs' b)
end
theorem ok_sh {a : Addr} : ∀ {o : O}, Ok K H μ1 a o → Ok K H (μ ++ μ1) a (shO μ.length o)
  | .lst xs, ⟨vs, h, r⟩ => ⟨vs, h, rps_sh xs vs r⟩
  | .dct kvs, ⟨kw, h, k, r⟩ => by
    refine ⟨kw, h, ?_, ?_⟩
    · rw [k]
      simp [shO]
    · have := rps_sh (μ := μ) _ _ r
      rw [shDs_map] at this
      simpa [shO, Function.comp_def] using this
/-- all that is there is put aside -/
theorem sm_hide {Φ : Hp} {h : Hd} (S : Sm Φ K H μ h) : ∃ Φ' : Hp, Sm Φ' K H [] [] ∧ ∀ (H' : Hp) (μ1 : List Addr) (h1 : Hd), Sm Φ' K H' μ1 h1 → Le K H [] H' μ1 → Sm Φ K H' (μ ++ μ1) (h ++ shH h.length h1) ∧ Le K H μ H' (μ ++ μ1) := by
  classical
  refine ⟨fun a => if a ∈ μ then H a else Φ a, ⟨rfl, fun n m a e => by simp at e, fun n o e => by simp at e, fun a o e => ?_⟩, fun H' μ1 h1 S1 l1 => ?_⟩
  · refine ⟨?_, by simp⟩
    by_cases ha : a ∈ μ
    · rw [if_pos ha] at e; exact e
    · rw [if_neg ha] at e; exact (S.fr a o e).1
  have kp : ∀ a, a ∈ μ → (∃ u, H a = some u ∧ H' a = some u) ∧ a ∉ μ1 := fun a ha => by
    obtain ⟨n, hn⟩ := List.mem_iff_getElem?.mp ha
    obtain ⟨u, hu, _⟩ := S.has hn
    obtain ⟨q1, q2⟩ := S1.fr a u (by rw [if_pos ha]; exact hu)
    exact ⟨⟨u, hu, q1⟩, q2⟩
  have l : Le K H μ H' (μ ++ μ1) := ⟨⟨μ1, rfl⟩, l1.tup, l1.frz, l1.xdt⟩
  refine ⟨⟨by simp [shH, S.len, S1.len], fun n m a e1 e2 => ?_, fun n o e => ?_, fun a o e => ?_⟩, l⟩
  · rw [List.getElem?_append] at e1 e2
    split at e1 <;> split at e2
    · exact S.nd n m a e1 e2
    · exact absurd (List.mem_of_getElem? e2) (kp a (List.mem_of_getElem? e1)).2
    · exact absurd (List.mem_of_getElem? e1) (kp a (List.mem_of_getElem? e2)).2
    · have := S1.nd _ _ a e1 e2
      omega
  · rw [List.getElem?_append] at e
    split at e
    · obtain ⟨a, ea, k⟩ := S.ob n o e
      obtain ⟨⟨u, h1', h2'⟩, _⟩ := kp a (List.mem_of_getElem? ea)
      exact ⟨a, by rw [List.getElem?_append_left (List.getElem?_eq_some_iff.mp ea).1]; exact ea, k.mono l (by rw [h1', h2'])⟩
    · rename_i hn
      unfold shH at e
      rw [List.getElem?_map] at e
      obtain ⟨o1, e1, rfl⟩ := Option.map_eq_some_iff.mp e
      obtain ⟨a, ea, k⟩ := S1.ob _ _ e1
      refine ⟨a, ?_, ?_⟩
      · rw [List.getElem?_append_right (by rw [S.len]; omega), S.len]
        exact ea
      · have := ok_sh (μ := μ) k
        rw [S.len] at this
        exact this
  · obtain ⟨q1, q2⟩ := S.fr a o e
    obtain ⟨q3, q4⟩ := S1.fr a o (by rw [if_neg q2]; exact e)
    exact ⟨q3, fun z => (List.mem_append.mp z).elim q2 q4⟩
end
def frM (m : GC) : GC := fun xs h => if cloDs xs = true then match m xs [] with
  | some (d, h1) => some (shD h.length d, h ++ shH h.length h1)
  | none => none else none
def frX (x : GX) : GX := fun xs h => if cloDs xs = true then match x xs [] with
  | some (xn, h1) => some (shX h.length xn, h ++ shH h.length h1)
  | none => none else none
section
variable {P : Program} {w : World} {K : PySem.W.Frag} {mg : Str → Option Value} {base : Heap}
theorem rx_sh {H : Hp} {μ μ1 : List Addr} {x : Xn} {cls : Value} {d : Option Addr} (r : RX K mg H μ1 x cls d) : RX K mg H (μ ++ μ1) (shX μ.length x) cls d := by
  obtain ⟨C, dx, vs, h1, h2, h3, h4, h5⟩ := r
  refine ⟨C, dx, vs, h1, h2, h3, ?_, ?_⟩
  · rw [h4]
    simp [shX, Function.comp_def]
  · have := rps_sh (μ := μ) _ _ h5
    rw [shDs_map] at this
    simpa [shX, Function.comp_def] using this
theorem sp_fr {n : Nat} {m : GC} {x : GX} {vs : List V} {H : Hp} {Q : VK} {E : XK} (h : spX K mg n (frM m) (frX x) vs H Q E) : spX K mg n m x vs H Q E := by
  obtain ⟨Φ, μ, ds, h0, S, r, hl, q⟩ := h
  obtain ⟨Φ', S', up⟩ := sm_hide S
  rcases q with ⟨d, h', e, k⟩ | ⟨xn, h', e, k⟩
  · unfold frM at e
    split at e
    · rename_i hc
      split at e
      · rename_i d1 h1 e1
        cases e
        refine ⟨Φ', [], ds, [], S', rps_clo _ _ hc r, hl, .inl ⟨d1, h1, e1, fun v H1 μ1 S1 l1 r1 => ?_⟩⟩
        obtain ⟨S2, l2⟩ := up H1 μ1 h1 S1 l1
        refine k v H1 (μ ++ μ1) S2 l2 ?_
        have := rp_sh (μ := μ) _ _ r1
        rw [S.len] at this
        exact this
      · cases e
    · cases e
  · unfold frX at e
    split at e
    · rename_i hc
      split at e
      · rename_i d1 h1 e1
        cases e
        refine ⟨Φ', [], ds, [], S', rps_clo _ _ hc r, hl, .inr ⟨d1, h1, e1, fun H1 μ1 cls d S1 l1 r1 => ?_⟩⟩
        obtain ⟨S2, l2⟩ := up H1 μ1 h1 S1 l1
        refine k H1 (μ ++ μ1) cls d S2 l2 ?_
        have := rx_sh (μ := μ) r1
        rw [S.len] at this
        exact this
      · cases e
    · cases e
theorem CalM.fr {k n : Nat} {x : Str} {m : GC} {xg : GX} {dd : List D} (c : CalM P w K mg base k x n m xg dd) : CalM P w K mg base k x n (frM m) (frX xg) dd := by
  obtain ⟨f, fd, ps, ds, dvs, F, r⟩ := c.ex
  exact ⟨f, fd, ps, ds, dvs, ⟨fun vs H Q E h => F.len vs H Q E (sp_fr h), fun A outer s H args us vs Q E h1 h2 h3 h4 h5 => F.run A outer s H args us vs Q E h1 h2 h3 h4 (sp_fr h5)⟩, r⟩
end
end DL

/-! DM16: isinstance(e, C) in a suite. -/
namespace PySem.W
open PySem PySem.Spec PySem.Calls PyProof.Rows
section
variable {prog : Program} {w : World} {A : Around} {E : Value → Shared → Prop} {s : Shared} {K : Frag} {x D : Addr} {ox : Obj} {od : Option Obj}
theorem findObj_dataG {C : Addr} {name : Str} {a g : Value} (hc : (clsIn K C).isSome = true) (ha : findIn K (.ref C) name = some (some a)) (hg : specialIn K a "__get__" = some (some g)) (ht : takesIn K a = some true) : findObj K C od name = some (.bind g a) := by
  obtain ⟨cd, hc⟩ := Option.isSome_iff_exists.mp hc
  unfold findObj
  rw [hc, Option.bind_some, ha, Option.bind_some]
  simp [hg, ht]
/-- as kin_classE, of an exception that has a dict -/
theorem kin_classG {Q : Option Value → Shared → Prop} (hga : findIn K (.ref D) "__getattribute__" = some (some (.builtin "BaseException.__getattribute__"))) (hgt : findIn K (.ref D) "__getattr__" = some none) (hsub : subIn K (.ref D) (.type "BaseException") = some true)
    (hdct : hasDictIn K D = true) (ha : findIn K (.ref D) "__class__" = some (some (.builtin "object.__class__")))
    (hn : specialIn K (.builtin "object.__class__") "__get__" = some (some (.builtin "getset_descriptor.__get__"))) (htk : takesIn K (.builtin "object.__class__") = some true) (hm : mroIn K D (.type "object") = some true)
    (X : K.In s.heap) (I : InstAt s.heap x ox D od) (h : Q (some (.ref D)) { s with toks := s.toks + 1 }) : wpAny (model prog w) A (getAttr? (.ref x) "__class__") Q E s := by
  have hf : findObj K D od "__class__" = some (.bind (.builtin "getset_descriptor.__get__") (.builtin "object.__class__")) := findObj_dataG (by obtain ⟨cd, hc, _⟩ := any_some hdct; rw [hc]; rfl) ha hn htk
  obtain ⟨hp, g, d, t, os⟩ := s
  have L0 := I.type (M := model prog w)
  have L1 := looks_findIn (M := model prog w) X hga
  have L2 := looks_findIn (M := model prog w) X hgt
  have L3 := looks_find (M := model prog w) X I hf
  have sub : Looks (model prog w) hp (isInstance (.ref x) (.type "BaseException")) true := L0.andThen (looks_subIn X hsub)
  have hx0 : (false && onTheHeap (Value.builtin "BaseException.__getattribute__")) = false := rfl
  have hx2 : (Value.builtin "BaseException.__getattribute__" == Value.builtin "object.__getattribute__") = false := by decide +kernel
  have hx1 : (onTheHeap (Value.ref D) && Value.builtin "BaseException.__getattribute__" == Value.builtin "object.__getattribute__") = false := by rw [hx2]; rfl
  unfold getAttr? getAttrBy? getAttrBy
  refine wpAny_bind (wpAny_mkText (wpAny_bind (wpAny_attempt (wpAny_holding (wpAny_bind (L0.at (wpAny_bind (L1.at ?_))))))))
  show wpAny _ _ (if (onTheHeap (Value.ref D) && Value.builtin "BaseException.__getattribute__" == Value.builtin "object.__getattribute__") = true then _ else _) _ _ _
  rw [hx1, if_neg Bool.false_ne_true]
  unfold getAttrByItsOwn hookBefore
  refine wpAny_bind ?_
  rw [if_pos (show onTheHeap (Value.ref D) = true from rfl)]
  refine L2.at ?_
  refine wpAny_bind (wpAny_attempt (wpAny_holding ?_))
  unfold callGetattribute
  rw [hx0, if_neg Bool.false_ne_true]
  unfold boundAndCalled
  rw [PySem.F.excAttr_ValueError.ga.bind (.ref x)]
  refine wpAny_bind (wpAny_pure ?_)
  show wpAny _ _ (call (.builtin "BaseException.__getattribute__") [.ref x, .str "__class__" t]) _ _ _
  refine wpAny_call (codeAny_call_builtin PySem.F.excAttr_ValueError.ga.plain PySem.F.entry_bexc_ga ?_)
  refine @check_slot (model prog w) _ _ ⟨hp, g, d, t + 1, os⟩ "BaseException.__getattribute__" "BaseException" "__getattribute__" (.ref x) [.str "__class__" t] [] _ (by decide +kernel) (by decide +kernel) sub (PySem.F.args_bexc_ga (.ref x) (.str "__class__" t)) ?_
  unfold Builtin.«object.__getattribute__»
  refine wpAny_bind (wpAny_of_eq (a := ((Value.ref x : Value), [Value.str "__class__" t])) (by first | rfl | (simp only [slotArgs]; rfl)) ?_)
  refine wpAny_bind (wpAny_pure (wpAny_bind (L0.at (wpAny_bind (L3.at ?_)))))
  show wpAny _ _ (holding [Value.builtin "object.__class__"] (call (.builtin "getset_descriptor.__get__") [.builtin "object.__class__", .ref x, .ref D]) >>= ret) _ _ _
  refine wpAny_bind (wpAny_holding (wpAny_call (class_get (s := ⟨hp, g, d, t + 1, os⟩) (ox := ox) (od := od) X I hm ?_)))
  refine wpAny_pure ?_
  show wpAny _ _ (handedOut (.ref D)) _ _ _
  rw [handedOut_of (v := .ref D) rfl]
  first
    | exact wpAny_pure (wpAny_pure h)
    | exact wpAny_pure h
    | exact wpAny_pure (wpAny_bind (wpAny_pure (wpAny_pure h)))
/-- as kitx_exc -/
theorem kitxG (hga : findIn K (.ref D) "__getattribute__" = some (some (.builtin "BaseException.__getattribute__"))) (hgt : findIn K (.ref D) "__getattr__" = some none) (hsub : subIn K (.ref D) (.type "BaseException") = some true) (hdct : hasDictIn K D = true) (ha : findIn K (.ref D) "__class__" = some (some (.builtin "object.__class__")))
    (hn : specialIn K (.builtin "object.__class__") "__get__" = some (some (.builtin "getset_descriptor.__get__"))) (htk : takesIn K (.builtin "object.__class__") = some true) (hm : mroIn K D (.type "object") = some true) :
    KitX K (.ref x) (.ref D) (fun h => ∃ od, InstAt h x ox D od) where
  ty := fun _ _ _ I => by obtain ⟨od, I⟩ := I; exact I.type
  it := fun _ _ X _ => by
    obtain ⟨cdD, hcD, _⟩ := any_some hdct
    unfold clsIn at hcD
    split at hcD
    · rename_i c' d' cd' sl' ho
      intro A' Q' E' s' k q
      unfold isType loadHead
      exact wpAny_bind (wpAny_loadPart (k _ _ (X _ _ ho)) (wpAny_pure q))
    · cases hcD
  ne := fun h tp dd its n sl X htp => by
    obtain ⟨cdD, hcD, _⟩ := any_some hdct
    refine Bool.eq_false_iff.mpr fun q => ?_
    have e : D = tp := Value.ref.inj (beq_iff_eq.mp q)
    subst e
    unfold clsIn at hcD
    split at hcD
    · rename_i c' d' cd' sl' ho
      have z := (X _ _ ho).symm.trans htp
      cases z
    · cases hcD
  ca := fun X I k => by
    obtain ⟨od, I⟩ := I
    exact kin_classG hga hgt hsub hdct ha hn htk hm X I k
end
end PySem.W
namespace DL
open PySem L2 PySem.Spec PyProof.Rows
/-- isinstance(e, c) -/
def tIsE (K : PySem.W.Frag) (a : Addr) (cls : Value) (d : Option Addr) (c : Addr) (te : TE) : TE := fun σ H Q => te σ H fun x H1 => ∃ (D dd : Addr) (fs : List (Str × V)) (b : Bool), x = .ref a ∧ cls = .ref D ∧ d = some dd ∧ H1 dd = some (.xd fs) ∧ ExcC K D ∧ PySem.W.kitOne K (.ref D) (.ref c) = some b ∧ Q (.bl b) H1
/-- what the text says, so that isinstance asks the instances of x rightly, for the class y -/
structure IsT (K : PySem.W.Frag) (mg : Str → Option Value) (sub : Str → Str → Bool) (L : List Str) (y : Str) : Prop where
  ex : ∃ c, mg y = some (.ref c) ∧ ∀ x ∈ L, ∀ D, mg x = some (.ref D) → ExcC K D ∧ PySem.W.kitOne K (.ref D) (.ref c) = some (sub x y)
def isxM (sub : Str → Str → Bool) (L : List Str) (xn : Xn) (y : Str) : ME := fun _ h => if L.contains xn.cls = true then some (.bl (sub xn.cls y), h) else none
def tIsX (K : PySem.W.Frag) (mg : Str → Option Value) (a : Addr) (cls : Value) (d : Option Addr) (y : Str) (te : TE) : TE := fun σ H Q => ∀ c, mg y = some (.ref c) → tIsE K a cls d c te σ H Q
section
variable {K : PySem.W.Frag} {mg : Str → Option Value} {X : Cx} {a : Addr} {oe : Obj} {xn : Xn} {cls : Value} {d : Option Addr} {pn : List (Addr × Obj)} {n y : Str} {p p1 p2 pos : Pos} {sub : Str → Str → Bool} {L : List Str}
theorem deh_isE (i : Nat) (T : IsT K mg sub L y) (hz : Zc cls d oe) (hf : ∃ vs, oe.data = .fields vs) (hm : mg "isinstance" = none) (hN : X.N[i]? = some n := by rfl) (hV : Vis X.env.scope n := by exact .inl rfl) (hg : Gl X y := by rfl) (hg2 : Gl X "isinstance" := by rfl) (hK : X.K = K := by rfl) (hmg : X.mg = mg := by rfl)
    (hd : (n == ("__debug__" : Str)) = false := by decide) (hcd : (n == ("__classdict__" : Str)) = false := by decide) (hdy : (y == ("__debug__" : Str)) = false := by decide)
    (he : starEach [.Name n p1, .Name y p2] X.env = (false, eval (.Name n p1) X.env) :: starEach [.Name y p2] X.env := by rfl) (he2 : starEach [.Name y p2] X.env = (false, eval (.Name y p2) X.env) :: starEach [] X.env := by rfl)
    (hpl : (backTo pos (starEach [.Name y p2] X.env)).any (·.1) = false := by rfl) :
    DEh K mg (X.suite a ((a, oe) :: pn)) (some i) a xn cls d (.Call (.Name "isinstance" p) [.Name n p1, .Name y p2] [] pos) (tIsX K mg a cls d y (tVar i)) (isxM sub L xn y) := ⟨hK, by
  have hk := hK
  subst hk
  subst hmg
  obtain ⟨c, hc, _⟩ := T.ex
  refine ⟨fun pins s σ H Q I h => ?_⟩
  have h := h c hc
  have hcall : CallR (X.suite a ((a, oe) :: pn)) (.builtin "isinstance") (fun xs H Q => ∃ (D dd : Addr) (fs : List (Str × V)) (b : Bool), xs = [.ref a, .ref c] ∧ cls = .ref D ∧ d = some dd ∧ H dd = some (.xd fs) ∧ ExcC X.K D ∧ PySem.W.kitOne X.K (.ref D) (.ref c) = some b ∧ Q (.bl b) H) := by
    intro pins s σ H xs us Q I r h
    obtain ⟨D, dd, fs, b, rfl, hD, hdd, hxd, C, e, q⟩ := h
    cases r with
    | cons rx rr =>
      cases rr with
      | cons rt rr =>
        cases rr
        cases rx
        cases rt
        obtain ⟨hget, _⟩ := I.pin (a, oe) (List.mem_append.mpr (.inl List.mem_cons_self))
        obtain ⟨vs, hv⟩ := hf
        have hx : ObjOk X.prog X.w H s.heap dd (.xd fs) := I.hok dd _ hxd
        obtain ⟨mA, hns, _⟩ := hx
        obtain ⟨od, ho, _⟩ := lookIn_ns hns
        have J : PySem.W.InstAt s.heap a oe D (some od) := ⟨hget, by rw [hz.1, hD], by unfold PySem.W.notCls; rw [hv] <;> rfl, by rw [hz.2, hdd]; exact ho⟩
        exact PySem.W.kia_one (PySem.W.kitxG C.hg C.hk C.hs C.hd C.ha C.hn C.ht C.hm) I.kIn ⟨_, J⟩ e (fun z => nomatch z) fun tk => ⟨.bl b, H, I.kept (t' := tk) fun _ _ z => z, rfl, q⟩
  obtain ⟨v, hv, D, dd, fs, b, rfl, h2, h3, h4, h5, h6, h7⟩ := h
  exact (pe_callB (X := X.suite a ((a, oe) :: pn)) hcall hg2 hm (by decide +kernel) (pa_cons (pe_var (X := X.suite a ((a, oe) :: pn)) hN hV hd hcd) (pa_cons (pe_glob (X := X.suite a ((a, oe) :: pn)) (v := .ref c) hg hc rfl hdy) pa_nil he2) he) (he := he) (hpl := hpl)).run pins s σ H Q I
    ⟨.ref a, hv, D, dd, fs, b, rfl, h2, h3, h4, h5, h6, h7⟩, by
  intro Φ σ H μ sg h y' h' S rs hx e Q k c hc
  unfold isxM at e
  split at e
  · rename_i hL
    cases e
    obtain ⟨c', hc', hT⟩ := T.ex
    rw [hc] at hc'
    cases hc'
    obtain ⟨C, dx, vs, h1, h2, h3, h4, h5⟩ := hx.r
    obtain ⟨t1, t2⟩ := hT xn.cls (by simpa using hL) C h1
    exact ⟨.ref a, hx.s i rfl, C, dx, _, _, rfl, h2, h3, h4, t1, t2, k _ H μ S Le.refl rp_bl⟩
  · cases e⟩
end
end DL

/-! DM17: where nothing is raised; small words for what gen2.py prints. -/
namespace DL
open PySem L2 PySem.Spec PyProof.Rows
theorem hu100 {A : Around} {k : Nat} (hr : RoomG k A) : A.units + 100 < cLine := by have := hr.r.un; omega
def adr (mg : Str → Option Value) (x : Str) : Addr := match mg x with
  | some (.ref C) => C
  | _ => 0
theorem adr_of {mg : Str → Option Value} {x : Str} {C : Addr} (h : mg x = some (.ref C)) : adr mg x = C := by unfold adr; rw [h]
def clsBody : Stmt → List Stmt
  | .ClassDef (body := b) .. => b
  | _ => []
section
variable {K : PySem.W.Frag} {mg : Str → Option Value} {X : Cx} {W : WX} {pos : Pos} {st : Stmt} {rest sts : List Stmt} {t u : TS} {m n : MS} {x y : MX} {c : Expr} {tc : TT} {mc : MT}
theorem DSsX.no (a : DSsX K mg X W sts t m x) : DSsX K mg X W sts t m noX := ⟨a.k, a.p, a.s, xst_no⟩
theorem DSX.no (a : DSX K mg X W st t m x) : DSX K mg X W st t m noX := ⟨a.k, a.p, a.s, xst_no⟩
theorem dssx_cons0 (a : DSX K mg X W st t m x) (b : DSsX K mg X W rest u n y) : DSsX K mg X W (st :: rest) (tSeq t u) (seqM m n) noX := (dssx_cons a b).no
theorem dsx_if0 {p q : List Stmt} (hc : DT K X c tc mc) (a : DSsX K mg X W p t m x) (b : DSsX K mg X W q u n y) : DSX K mg X W (.If c p q pos) (tIfS tc t u) (ifSM mc m n) noX := (dsx_if hc a b).no
theorem dsx_while0 {body : List Stmt} {tb : TS} {mb : MS} {xb : MX} (N : Nat) (hc : DT K X c tc mc) (hb : DSsX K mg X W body tb mb xb) : DSX K mg X W (.While c body [] pos) (tWhile tc tb) (whileM mc mb N) noX := (dsx_while N hc hb).no
theorem dsx_for0 {tg it : Expr} {ti : TI} {mi : MI} {gt : TG} {mg' : MG} {body : List Stmt} {tb : TS} {mb : MS} {xb : MX} (N : Nat) (hi : DI K X tg it ti mi) (hg : DG K X tg gt mg') (hb : DSsX K mg X W body tb mb xb) (hs : ∀ x, foldedSetIterable it X.env x = pure x := by intro _; rfl) (hc : X.calm = true := by rfl) :
    DSX K mg X W (.For tg it body [] pos) (tFor ti gt tb) (forSM mi mg' mb N) noX := (dsx_for N hi hg hb hs hc).no
end
end DL

/-! DM18: n = [.. for ..]. -/
namespace DL
open PySem L2 PySem.Spec PyProof.Rows
section
variable {K : PySem.W.Frag} {X : Cx} {pos spos py : Pos} {tg it elt : Expr} {ifs : List Expr} {ti : TI} {mi : MI} {gt : TG} {mg : MG} {tt : TT} {mt : MT} {te : TE} {me : ME} {scope : Scope} {own : List (Str × Nat)} {n : Str}
theorem ds_setLc (i N : Nat) (hN : X.N.Nodup) (hi : DI K X tg it ti mi) (ok : BlkOk X.N X.env.scope scope own) (ho : Only (own.map (·.2)) gt)
    (hg : ∀ (s : Shared) (H : Hp) (C : Addr) (cl : List (Str × Addr)) (fp : List Addr), DG K (X.blk s H scope (compEnvC scope cl C X.env) fp) tg gt mg)
    (ht : ∀ (s : Shared) (H : Hp) (C : Addr) (cl : List (Str × Addr)) (fp : List Addr), DTs K (X.blk s H scope (compEnvC scope cl C X.env) fp) ifs tt mt)
    (he : ∀ (s : Shared) (H : Hp) (C : Addr) (cl : List (Str × Addr)) (fp : List Addr), DE K (X.blk s H scope (compEnvC scope cl C X.env) fp) elt te me)
    (ha : (scope.names.any fun (m, k) => m == n && (k == .local || k == .cell)) = false) (hy : X.N[i]? = some n := by rfl) (hyl : X.env.scope.names.lookup n = some .local := by rfl) (hk : X.env.scope.kind = .function := by rfl) (hl : (py.line == pos.line) = true := by rfl)
    (hs : ∀ x, foldedSetIterable it X.env x = pure x := by intro _; rfl) (hc : X.calm = true := by rfl) :
    DS K X (.Assign [.Name n py] (.ListComp elt [⟨tg, it, ifs, 0⟩] scope pos) spos) (tAsg (tLc ti gt tt te (own.map (·.2))) (gName i)) (asgM (lcM mi mg mt me (own.map (·.2)) N) (nameG i)) :=
  ⟨hi.k, ps_setLc hc hN hy hyl (sw_true hk hyl hl ha) hi.p ok (fun s H C cl fp => (hg s H C cl fp).p) (fun s H C cl fp => (ht s H C cl fp).p) (fun s H C cl fp => (he s H C cl fp).p) hs, ss_asg (de_lc (pos := pos) N hN hi ok ho hg ht he hs hc).s (sg_name i)⟩
end
/-! ### the law's promise: no exception -/
def spN (K : PySem.W.Frag) (n : Nat) (m : GC) : Sp := fun vs H Q _ => ∃ (Φ : Hp) (μ : List Addr) (ds : List D) (h : Hd) (d : D) (h' : Hd), Sm Φ K H μ h ∧ Rps K H μ ds vs ∧ ds.length = n ∧ m ds h = some (d, h') ∧ Kn Φ K H μ h' d Q
theorem FnG.toN {P : Program} {w : World} {K : PySem.W.Frag} {mg : Str → Option Value} {base : Heap} {CX : CXT} {k n : Nat} {f : Addr} {fd : FuncData} {ps : List Str} {m : GC} {x : GX} (F : FnG P w K mg base CX k f fd ps (spX K mg n m x)) : FnG P w K mg base CX k f fd ps (spN K n m) := by
  have key : ∀ vs H Q E, spN K n m vs H Q E → spX K mg n m x vs H Q E := fun vs H Q E ⟨Φ, μ, ds, h, d, h', S, r, hl, e, k⟩ => ⟨Φ, μ, ds, h, S, r, hl, .inl ⟨d, h', e, k⟩⟩
  exact ⟨fun vs H Q E h => F.len vs H Q E (key _ _ _ _ h), fun A outer s H args us vs Q E h1 h2 h3 h4 h5 => F.run A outer s H args us vs Q E h1 h2 h3 h4 (key _ _ _ _ h5)⟩
theorem law_endN {K : PySem.W.Frag} {m : GC} {H : Hp} {a : Addr} {ns : List Int} (hm : ∃ h', m [.rol (ns.map D.int)] [] = some (.bl true, h')) (hO : L2.Only H) (hS : SqL K H a (ns.map V.int)) :
    spN K 1 m [.ref a] H (fun v _ => v = .bl true) fun _ _ _ => False := by
  obtain ⟨Φ, μ, ds, h, S, r, hl, ⟨d, h', e, k⟩ | ⟨xn, h', e, _⟩⟩ := law_end (mg := fun _ => none) (x := noGX) hm hO hS
  · exact ⟨Φ, μ, ds, h, d, h', S, r, hl, e, k⟩
  · cases e
/-- isinstance of classes of the text, by what is below what -/
theorem kit_ref {K : PySem.W.Frag} {D C : Addr} {b : Bool} (hdct : PySem.W.hasDictIn K C = true) (ht : PySem.W.typeIn K (.ref C) = some (.type "type")) (hs : PySem.W.subIn K (.ref C) (.ref C) = some true) (h4 : PySem.W.subIn K (.ref D) (.ref C) = some b) : PySem.W.kitOne K (.ref D) (.ref C) = some b := by
  obtain ⟨cd, hc, _⟩ := PySem.W.any_some hdct
  have e2 : ((PySem.W.clsIn K C).isSome && PySem.W.typeIn K (.ref C) == some (.type "type")) = true := by rw [hc, ht] <;> rfl
  unfold PySem.W.kitOne
  by_cases h : D = C
  · subst h
    rw [hs] at h4
    cases h4
    rw [if_pos (by simp)]
  · rw [if_neg (by simp; exact h)]
    show (if ((PySem.W.clsIn K C).isSome && PySem.W.typeIn K (.ref C) == some (.type "type")) = true then PySem.W.subIn K (.ref D) (.ref C) else none) = some b
    rw [if_pos e2]
    exact h4
end DL

namespace K42
open PySem L2 DL
def topS (i : Nat) : Stmt := PySem.Challenge.pw_hornhall_k42_whole_laws_of_arithmetic.main.body.getD i (.Pass ⟨0, 0, 0, 0⟩)
structure Zs (mg : Str → Option Value) : Prop where
  «abs» : mg "abs" = none
  «all» : mg "all" = none
  «bool» : mg "bool" = none
  «int» : mg "int" = none
  «isinstance» : mg "isinstance" = none
  «len» : mg "len" = none
  «max» : mg "max" = none
  «min» : mg "min" = none
  «ord» : mg "ord" = none
  «range» : mg "range" = none
  «repr» : mg "repr" = none
  «reversed» : mg "reversed" = none
  «str» : mg "str" = none
  «tuple» : mg "tuple" = none
abbrev k_FAR_SHIFT : D := .int 2000
abbrev k_MOST_ARGUMENTS : D := .int 8
abbrev k_MOST_SHIFT : D := .int 1000
abbrev k_MOST_SIGNS : D := .int 40
abbrev k_ONE : D := .tup [.str "+", .str "-", .str "abs", .str "sign", .str "\\", .str "msb"]
abbrev k_TOO_GREAT : D := .int 1000000000000000000000000000000000000000000000000000000000000000000000000000000000000000000000000000000000000000000000000000000000000000000000000000000000000000000000000000000000000000000000000000000000000000000000000000000000000000000000000000000000000000000000000000000000000000000000000000000000000
abbrev k_TWO : D := .tup [.str "+", .str "-", .str "*", .str "min", .str "max", .str "gcd", .str "/\\", .str "\\/", .str "xor", .str "//", .str "div", .str "mod", .str "rem", .str "<<", .str ">>", .str "**", .str "^"]
structure Ys (K : PySem.W.Frag) (mg : Str → Option Value) : Prop where
  g_FAR_SHIFT : Kst K mg "FAR_SHIFT" k_FAR_SHIFT
  g_MOST_ARGUMENTS : Kst K mg "MOST_ARGUMENTS" k_MOST_ARGUMENTS
  g_MOST_SHIFT : Kst K mg "MOST_SHIFT" k_MOST_SHIFT
  g_MOST_SIGNS : Kst K mg "MOST_SIGNS" k_MOST_SIGNS
  g_ONE : Kst K mg "ONE" k_ONE
  g_TOO_GREAT : Kst K mg "TOO_GREAT" k_TOO_GREAT
  g_TWO : Kst K mg "TWO" k_TWO
/-! ### own exceptions -/
abbrev LX : List Str := ["BadTerm"]
abbrev TX : XTab := [("BadTerm", ["term"])]
def subX (a b : Str) : Bool := ([("BadTerm", "BadTerm"), ("BadTerm", "HornError")] : List (Str × Str)).contains (a, b)
abbrev si_BadTerm : Stmt := (clsBody (topS 2)).getD 0 (.Pass ⟨0, 0, 0, 0⟩)
theorem sci_BadTerm : FnScope ["self", "term"] ["self", "term"] (defScope si_BadTerm) := ⟨rfl, rfl, rfl, by decide +kernel, rfl, by decide +kernel, by decide +kernel⟩
theorem i_BadTerm {P : Program} {w : World} {K : PySem.W.Frag} {mg : Str → Option Value} {base : Heap} {C fI : Addr} {fd : FuncData} (b : BasC K mg "HornError") (T : OexC K C) (n0 : PySem.W.findIn K (.ref C) "term" = some none) (F : Fun K "__init__" "BadTerm.__init__" si_BadTerm fI fd) : FnOk P w K mg base (L2.CX P w) 1 fI fd ["self", "term"] (spI K C ["term"]) :=
  F.okX sci_BadTerm (fun vs H Q E h => spI_len h) fun cdv A outer s H vs Q E hr h => ⟨_, pss_cons (ps_expr (pe_binit b rfl (pa_cons (pv 0) pa_nil))) (pss_one (ps_ost (pv 0) (pv 1))), ini1 T n0 h⟩
structure Qs (K : PySem.W.Frag) (mg : Str → Option Value) : Prop where
  t_BadTerm : ExT K mg "BadTerm" ["term"]
  tab : ExTab K mg TX
  m_BadTerm : mg "BadTerm" = some (.ref (adr mg "BadTerm"))
  e_BadTerm : ∀ r ∈ LX, ∀ Cx, mg r = some (.ref Cx) → PySem.W.exmOne K (.ref Cx) (.ref (adr mg "BadTerm")) = some (subX r "BadTerm")
  i_HornError : IsT K mg subX LX "HornError"
abbrev s_is_int : Stmt := topS 7
abbrev N_is_int : List Str := ["thing"]
abbrev P_is_int : List Str := ["thing"]
theorem sc_is_int : FnScope N_is_int P_is_int (defScope s_is_int) := ⟨rfl, rfl, rfl, by decide +kernel, rfl, by decide +kernel, by decide +kernel⟩
abbrev s_is_variable : Stmt := topS 8
abbrev N_is_variable : List Str := ["thing"]
abbrev P_is_variable : List Str := ["thing"]
theorem sc_is_variable : FnScope N_is_variable P_is_variable (defScope s_is_variable) := ⟨rfl, rfl, rfl, by decide +kernel, rfl, by decide +kernel, by decide +kernel⟩
abbrev s_is_any_number : Stmt := topS 9
abbrev N_is_any_number : List Str := ["thing"]
abbrev P_is_any_number : List Str := ["thing"]
theorem sc_is_any_number : FnScope N_is_any_number P_is_any_number (defScope s_is_any_number) := ⟨rfl, rfl, rfl, by decide +kernel, rfl, by decide +kernel, by decide +kernel⟩
abbrev s_is_any_atom : Stmt := topS 10
abbrev N_is_any_atom : List Str := ["thing", "sign"]
abbrev P_is_any_atom : List Str := ["thing"]
theorem sc_is_any_atom : FnScope N_is_any_atom P_is_any_atom (defScope s_is_any_atom) := ⟨rfl, rfl, rfl, by decide +kernel, rfl, by decide +kernel, by decide +kernel⟩
abbrev s_is_compound : Stmt := topS 11
abbrev N_is_compound : List Str := ["term"]
abbrev P_is_compound : List Str := ["term"]
theorem sc_is_compound : FnScope N_is_compound P_is_compound (defScope s_is_compound) := ⟨rfl, rfl, rfl, by decide +kernel, rfl, by decide +kernel, by decide +kernel⟩
abbrev s_is_term : Stmt := topS 12
abbrev N_is_term : List Str := ["thing", "waiting", "part"]
abbrev P_is_term : List Str := ["thing"]
theorem sc_is_term : FnScope N_is_term P_is_term (defScope s_is_term) := ⟨rfl, rfl, rfl, by decide +kernel, rfl, by decide +kernel, by decide +kernel⟩
abbrev s_check_terms : Stmt := topS 13
abbrev N_check_terms : List Str := ["things", "thing"]
abbrev P_check_terms : List Str := ["things"]
theorem sc_check_terms : FnScope N_check_terms P_check_terms (defScope s_check_terms) := ⟨rfl, rfl, rfl, by decide +kernel, rfl, by decide +kernel, by decide +kernel⟩
abbrev s_with_one : Stmt := topS 19
abbrev N_with_one : List Str := ["name", "x"]
abbrev P_with_one : List Str := ["name", "x"]
theorem sc_with_one : FnScope N_with_one P_with_one (defScope s_with_one) := ⟨rfl, rfl, rfl, by decide +kernel, rfl, by decide +kernel, by decide +kernel⟩
abbrev s_divisor : Stmt := topS 20
abbrev N_divisor : List Str := ["x", "y"]
abbrev P_divisor : List Str := ["x", "y"]
theorem sc_divisor : FnScope N_divisor P_divisor (defScope s_divisor) := ⟨rfl, rfl, rfl, by decide +kernel, rfl, by decide +kernel, by decide +kernel⟩
abbrev s_divided : Stmt := topS 21
abbrev N_divided : List Str := ["name", "x", "y", "towards_nought"]
abbrev P_divided : List Str := ["name", "x", "y"]
theorem sc_divided : FnScope N_divided P_divided (defScope s_divided) := ⟨rfl, rfl, rfl, by decide +kernel, rfl, by decide +kernel, by decide +kernel⟩
abbrev s_power : Stmt := topS 22
abbrev N_power : List Str := ["x", "y", "found", "turn"]
abbrev P_power : List Str := ["x", "y"]
theorem sc_power : FnScope N_power P_power (defScope s_power) := ⟨rfl, rfl, rfl, by decide +kernel, rfl, by decide +kernel, by decide +kernel⟩
abbrev s_with_two : Stmt := topS 23
abbrev N_with_two : List Str := ["name", "x", "y"]
abbrev P_with_two : List Str := ["name", "x", "y"]
theorem sc_with_two : FnScope N_with_two P_with_two (defScope s_with_two) := ⟨rfl, rfl, rfl, by decide +kernel, rfl, by decide +kernel, by decide +kernel⟩
abbrev s_fault_of : Stmt := topS 24
abbrev N_fault_of : List Str := ["name", "values", "x", "y"]
abbrev P_fault_of : List Str := ["name", "values"]
theorem sc_fault_of : FnScope N_fault_of P_fault_of (defScope s_fault_of) := ⟨rfl, rfl, rfl, by decide +kernel, rfl, by decide +kernel, by decide +kernel⟩
abbrev s_is_known : Stmt := topS 25
abbrev N_is_known : List Str := ["name", "many"]
abbrev P_is_known : List Str := ["name", "many"]
theorem sc_is_known : FnScope N_is_known P_is_known (defScope s_is_known) := ⟨rfl, rfl, rfl, by decide +kernel, rfl, by decide +kernel, by decide +kernel⟩
abbrev s_first_fault : Stmt := topS 26
abbrev N_first_fault : List Str := ["term", "many"]
abbrev P_first_fault : List Str := ["term"]
theorem sc_first_fault : FnScope N_first_fault P_first_fault (defScope s_first_fault) := ⟨rfl, rfl, rfl, by decide +kernel, rfl, by decide +kernel, by decide +kernel⟩
abbrev s_value_of : Stmt := topS 27
abbrev N_value_of : List Str := ["term", "done", "waiting", "part", "is_ready", "fault", "many", "values", "value", "argument"]
abbrev P_value_of : List Str := ["term"]
theorem sc_value_of : FnScope N_value_of P_value_of (defScope s_value_of) := ⟨rfl, rfl, rfl, by decide +kernel, rfl, by decide +kernel, by decide +kernel⟩
abbrev s_reckoned : Stmt := topS 28
abbrev N_reckoned : List Str := ["term"]
abbrev P_reckoned : List Str := ["term"]
theorem sc_reckoned : FnScope N_reckoned P_reckoned (defScope s_reckoned) := ⟨rfl, rfl, rfl, by decide +kernel, rfl, by decide +kernel, by decide +kernel⟩
abbrev s__law_source_of : Stmt := topS 30
abbrev N__law_source_of : List Str := ["cell"]
abbrev P__law_source_of : List Str := ["cell"]
theorem sc__law_source_of : FnScope N__law_source_of P__law_source_of (defScope s__law_source_of) := ⟨rfl, rfl, rfl, by decide +kernel, rfl, by decide +kernel, by decide +kernel⟩
abbrev s__law_next : Stmt := topS 31
abbrev N__law_next : List Str := ["source", "many", "found", "prime", "number"]
abbrev P__law_next : List Str := ["source", "many"]
theorem sc__law_next : FnScope N__law_next P__law_next (defScope s__law_next) := ⟨rfl, rfl, rfl, by decide +kernel, rfl, by decide +kernel, by decide +kernel⟩
abbrev s__law_one : Stmt := topS 32
abbrev N__law_one : List Str := ["source", "some"]
abbrev P__law_one : List Str := ["source", "some"]
theorem sc__law_one : FnScope N__law_one P__law_one (defScope s__law_one) := ⟨rfl, rfl, rfl, by decide +kernel, rfl, by decide +kernel, by decide +kernel⟩
abbrev s__law_top : Stmt := topS 33
abbrev N__law_top : List Str := ["part"]
abbrev P__law_top : List Str := []
theorem sc__law_top : FnScope N__law_top P__law_top (defScope s__law_top) := ⟨rfl, rfl, rfl, by decide +kernel, rfl, by decide +kernel, by decide +kernel⟩
abbrev s__law_of : Stmt := topS 34
abbrev N__law_of : List Str := ["name", "x", "y", "got"]
abbrev P__law_of : List Str := ["name", "x", "y"]
theorem sc__law_of : FnScope N__law_of P__law_of (defScope s__law_of) := ⟨rfl, rfl, rfl, by decide +kernel, rfl, by decide +kernel, by decide +kernel⟩
abbrev s__law_number : Stmt := topS 35
abbrev N__law_number : List Str := ["source", "most"]
abbrev P__law_number : List Str := ["source"]
theorem sc__law_number : FnScope N__law_number P__law_number (defScope s__law_number) := ⟨rfl, rfl, rfl, by decide +kernel, rfl, by decide +kernel, by decide +kernel⟩
abbrev s__law_divisions_right : Stmt := topS 36
abbrev N__law_divisions_right : List Str := ["x", "y", "told", "near", "down", "after", "left", "name"]
abbrev P__law_divisions_right : List Str := ["x", "y"]
theorem sc__law_divisions_right : FnScope N__law_divisions_right P__law_divisions_right (defScope s__law_divisions_right) := ⟨rfl, rfl, rfl, by decide +kernel, rfl, by decide +kernel, by decide +kernel⟩
abbrev s__law_bits_right : Stmt := topS 37
abbrev N__law_bits_right : List Str := ["x", "y", "both", "some", "unlike"]
abbrev P__law_bits_right : List Str := ["x", "y"]
theorem sc__law_bits_right : FnScope N__law_bits_right P__law_bits_right (defScope s__law_bits_right) := ⟨rfl, rfl, rfl, by decide +kernel, rfl, by decide +kernel, by decide +kernel⟩
abbrev s__law_gcd_right : Stmt := topS 38
abbrev N__law_gcd_right : List Str := ["x", "y", "more", "found"]
abbrev P__law_gcd_right : List Str := ["x", "y", "more"]
theorem sc__law_gcd_right : FnScope N__law_gcd_right P__law_gcd_right (defScope s__law_gcd_right) := ⟨rfl, rfl, rfl, by decide +kernel, rfl, by decide +kernel, by decide +kernel⟩
abbrev s__law_shifts_right : Stmt := topS 39
abbrev N__law_shifts_right : List Str := ["x", "many", "more", "high", "base", "whole"]
abbrev P__law_shifts_right : List Str := ["x", "many", "more"]
theorem sc__law_shifts_right : FnScope N__law_shifts_right P__law_shifts_right (defScope s__law_shifts_right) := ⟨rfl, rfl, rfl, by decide +kernel, rfl, by decide +kernel, by decide +kernel⟩
abbrev s__law_brink_right : Stmt := topS 40
abbrev N__law_brink_right : List Str := ["source", "top", "sign", "last", "great", "some", "due", "one"]
abbrev P__law_brink_right : List Str := ["source"]
theorem sc__law_brink_right : FnScope N__law_brink_right P__law_brink_right (defScope s__law_brink_right) := ⟨rfl, rfl, rfl, by decide +kernel, rfl, by decide +kernel, by decide +kernel⟩
abbrev s__law_refused : Stmt := topS 41
abbrev N__law_refused : List Str := ["thing", "e"]
abbrev P__law_refused : List Str := ["thing"]
theorem sc__law_refused : FnScope N__law_refused P__law_refused (defScope s__law_refused) := ⟨rfl, rfl, rfl, by decide +kernel, rfl, by decide +kernel, by decide +kernel⟩
abbrev s_law : Stmt := topS 42
abbrev N_law : List Str := ["script", "cell", "source", "x", "y", "more", "high", "odd"]
abbrev P_law : List Str := ["script"]
theorem sc_law : FnScope N_law P_law (defScope s_law) := ⟨rfl, rfl, rfl, by decide +kernel, rfl, by decide +kernel, by decide +kernel⟩
/-! ### the mirrors -/
section
def m_is_int (NF RD : Nat) : GC := bodyM 1 (retM (andM (cbM isiD (consM (varM 0) (consM (cM (.ty "int")) nilM))) (notM (cbM isiD (consM (varM 0) (consM (cM (.ty "bool")) nilM))))))
def m_is_variable (NF RD : Nat) : GC := bodyM 1 (retM (andM (cbM isiD (consM (varM 0) (consM (cM (.ty "tuple")) nilM))) (andM (opM eqD (cbM lenD (consM (varM 0) nilM)) (cM (.int 1))) (andM (callM 1 (m_is_int NF RD) [] (consM (opM subsD (varM 0) (cM (.int 0))) nilM)) (opM geD (opM subsD (varM 0) (cM (.int 0))) (cM (.int 0)))))))
def m_is_any_number (NF RD : Nat) : GC := bodyM 1 (retM (andM (callM 1 (m_is_int NF RD) [] (consM (varM 0) nilM)) (opM ltD (cbM absD (consM (varM 0) nilM)) (cM k_TOO_GREAT))))
def E_is_any_atom_0 (NF RD : Nat) : ME := (andM (chainM leD leD (cM (.str " ")) (varM 1) (cM (.str "~"))) (opM neD (cbM ordD (consM (varM 1) nilM)) (cM (.int 37))))
def m_is_any_atom (NF RD : Nat) : GC := bodyM 2 (seqM (ifSM (torM (tnotM (truM (cbM isiD (consM (varM 0) (consM (cM (.ty "str")) nilM))))) (testM (opM gtD (cbM lenD (consM (varM 0) nilM)) (cM k_MOST_SIGNS)))) (retM (cM (.bl false))) passM) (retM (cbM allD (consM (lcM (seqI (varM 0)) (nameG 1) yesM (E_is_any_atom_0 NF RD) [1] NF) nilM))))
def m_is_compound (NF RD : Nat) : GC := bodyM 1 (retM (andM (cbM isiD (consM (varM 0) (consM (cM (.ty "tuple")) nilM))) (opM gtD (cbM lenD (consM (varM 0) nilM)) (cM (.int 1)))))
def C_is_term_0 (NF RD : Nat) : MT := (testM (opM neD (varM 1) (lstM nilM)))
def B_is_term_1 (NF RD : Nat) : MS := (seqM (asgM (bmM "list" popD (varM 1) nilM) (nameG 2)) (ifSM (truM (callM 1 (m_is_compound NF RD) [] (consM (varM 2) nilM))) (seqM (ifSM (torM (testM (opM gtD (cbM lenD (consM (varM 2) nilM)) (opM addD (cM k_MOST_ARGUMENTS) (cM (.int 1))))) (tnotM (truM (callM 1 (m_is_any_atom NF RD) [] (consM (opM subsD (varM 2) (cM (.int 0))) nilM))))) (retM (cM (.bl false))) passM) (exprM (bmM "list" extendD (varM 1) (consM (slM (varM 2) (partM (cM (.int 1))) noM) nilM)))) (ifSM (tandM (tnotM (truM (callM 1 (m_is_variable NF RD) [] (consM (varM 2) nilM)))) (tandM (tnotM (truM (callM 1 (m_is_any_number NF RD) [] (consM (varM 2) nilM)))) (tnotM (truM (callM 1 (m_is_any_atom NF RD) [] (consM (varM 2) nilM)))))) (retM (cM (.bl false))) passM)))
def m_is_term (NF RD : Nat) : GC := bodyM 3 (seqM (asgM (lstM (consM (varM 0) nilM)) (nameG 1)) (seqM (whileM (C_is_term_0 NF RD) (B_is_term_1 NF RD) NF) (retM (cM (.bl true)))))
def B_check_terms_0 (NF RD : Nat) : MS := (ifSM (tnotM (truM (callM 1 (m_is_term NF RD) [] (consM (varM 1) nilM)))) neverM passM)
def X_check_terms_1 (NF RD : Nat) : MX := (ifX (tnotM (truM (callM 1 (m_is_term NF RD) [] (consM (varM 1) nilM)))) (raiseX "BadTerm" ["term"] (consM (varM 1) nilM)) noX)
def m_check_terms (NF RD : Nat) : GC := bodyM 2 (forSM (seqI (varM 0)) (nameG 1) (B_check_terms_0 NF RD) NF)
def x_check_terms (NF RD : Nat) : GX := bodyX 2 (forSX (seqI (varM 0)) (nameG 1) (B_check_terms_0 NF RD) (X_check_terms_1 NF RD) NF)
def m_with_one (NF RD : Nat) : GC := bodyM 2 (seqM (ifSM (testM (opM (inD false) (varM 0) (tupM (consM (cM (.str "+")) (consM (cM (.str "-")) nilM))))) (retM (ifM (testM (opM eqD (varM 0) (cM (.str "+")))) (varM 1) (negM (varM 1)))) passM) (seqM (ifSM (testM (opM eqD (varM 0) (cM (.str "abs")))) (retM (cbM absD (consM (varM 1) nilM))) passM) (seqM (ifSM (testM (opM eqD (varM 0) (cM (.str "sign")))) (retM (opM subD (cbM intD (consM (opM gtD (varM 1) (cM (.int 0))) nilM)) (cbM intD (consM (opM ltD (varM 1) (cM (.int 0))) nilM)))) passM) (retM (ifM (testM (opM eqD (varM 0) (cM (.str "msb")))) (opM subD (bitsM (varM 1)) (cM (.int 1))) (opM subD (negM (varM 1)) (cM (.int 1))))))))
def C_divisor_0 (NF RD : Nat) : MT := (testM (opM gtD (varM 1) (cM (.int 0))))
def B_divisor_1 (NF RD : Nat) : MS := (parM 0 1 (consM (varM 1) (consM (opM modZD (varM 0) (varM 1)) nilM)))
def m_divisor (NF RD : Nat) : GC := bodyM 2 (seqM (parM 0 1 (consM (cbM absD (consM (varM 0) nilM)) (consM (cbM absD (consM (varM 1) nilM)) nilM))) (seqM (whileM (C_divisor_0 NF RD) (B_divisor_1 NF RD) NF) (retM (varM 0))))
def m_divided (NF RD : Nat) : GC := bodyM 4 (seqM (asgM (opM fdivZD (cbM absD (consM (varM 1) nilM)) (cbM absD (consM (varM 2) nilM))) (nameG 3)) (seqM (ifSM (testM (opM neD (opM ltD (varM 1) (cM (.int 0))) (opM ltD (varM 2) (cM (.int 0))))) (asgM (negM (varM 3)) (nameG 3)) passM) (seqM (ifSM (testM (opM eqD (varM 0) (cM (.str "//")))) (retM (varM 3)) passM) (seqM (ifSM (testM (opM eqD (varM 0) (cM (.str "rem")))) (retM (opM subD (varM 1) (opM mulD (varM 2) (varM 3)))) passM) (retM (ifM (testM (opM eqD (varM 0) (cM (.str "div")))) (opM fdivZD (varM 1) (varM 2)) (opM modZD (varM 1) (varM 2))))))))
def B_power_0 (NF RD : Nat) : MS := (seqM (asgM (opM mulD (varM 2) (varM 0)) (nameG 2)) (ifSM (testM (opM geD (cbM absD (consM (varM 2) nilM)) (cM k_TOO_GREAT))) (retM (cM k_TOO_GREAT)) passM))
def m_power (NF RD : Nat) : GC := bodyM 4 (seqM (ifSM (testM (opM (inD false) (varM 0) (tupM (consM (cM (.int 0)) (consM (cM (.int 1)) nilM))))) (retM (cbM intD (consM (orM (opM eqD (varM 0) (cM (.int 1))) (opM eqD (varM 1) (cM (.int 0)))) nilM))) passM) (seqM (ifSM (testM (opM eqD (varM 0) (negM (cM (.int 1))))) (retM (opM subD (cM (.int 1)) (opM mulD (cM (.int 2)) (opM modD (varM 1) (cM (.int 2)))))) passM) (seqM (asgM (cM (.int 1)) (nameG 2)) (seqM (forSM (rngI (consM (cbM minD (consM (varM 1) (consM (cM k_MOST_SHIFT) nilM))) nilM)) (nameG 3) (B_power_0 NF RD) NF) (retM (varM 2))))))
def m_with_two (NF RD : Nat) : GC := bodyM 3 (seqM (ifSM (testM (opM (inD false) (varM 0) (tupM (consM (cM (.str "+")) (consM (cM (.str "-")) nilM))))) (retM (ifM (testM (opM eqD (varM 0) (cM (.str "+")))) (opM addD (varM 1) (varM 2)) (opM subD (varM 1) (varM 2)))) passM) (seqM (ifSM (testM (opM eqD (varM 0) (cM (.str "*")))) (retM (opM mulD (varM 1) (varM 2))) passM) (seqM (ifSM (testM (opM (inD false) (varM 0) (tupM (consM (cM (.str "min")) (consM (cM (.str "max")) nilM))))) (retM (ifM (testM (opM eqD (varM 0) (cM (.str "min")))) (cbM minD (consM (varM 1) (consM (varM 2) nilM))) (cbM maxD (consM (varM 1) (consM (varM 2) nilM))))) passM) (seqM (ifSM (testM (opM eqD (varM 0) (cM (.str "gcd")))) (retM (callM 2 (m_divisor NF RD) [] (consM (varM 1) (consM (varM 2) nilM)))) passM) (seqM (ifSM (testM (opM (inD false) (varM 0) (tupM (consM (cM (.str "/\\")) (consM (cM (.str "\\/")) nilM))))) (retM (ifM (testM (opM eqD (varM 0) (cM (.str "/\\")))) (opM andBD (varM 1) (varM 2)) (opM orBD (varM 1) (varM 2)))) passM) (seqM (ifSM (testM (opM eqD (varM 0) (cM (.str "xor")))) (retM (opM xorBD (varM 1) (varM 2))) passM) (seqM (ifSM (testM (opM eqD (varM 0) (cM (.str "<<")))) (retM (ifM (tandM (testM (opM neD (varM 1) (cM (.int 0)))) (testM (opM gtD (varM 2) (cM k_MOST_SHIFT)))) (cM k_TOO_GREAT) (opM shlD (varM 1) (cbM minD (consM (varM 2) (consM (cM k_MOST_SHIFT) nilM)))))) passM) (seqM (ifSM (testM (opM eqD (varM 0) (cM (.str ">>")))) (retM (opM shrD (varM 1) (cbM minD (consM (varM 2) (consM (cM k_FAR_SHIFT) nilM))))) passM) (seqM (ifSM (testM (opM (inD false) (varM 0) (tupM (consM (cM (.str "**")) (consM (cM (.str "^")) nilM))))) (retM (ifM (testM (opM geD (varM 2) (cM (.int 0)))) (callM 2 (m_power NF RD) [] (consM (varM 1) (consM (varM 2) nilM))) (callM 2 (m_power NF RD) [] (consM (varM 1) (consM (negM (varM 2)) nilM))))) passM) (retM (callM 3 (m_divided NF RD) [] (consM (varM 0) (consM (varM 1) (consM (varM 2) nilM))))))))))))))
def m_fault_of (NF RD : Nat) : GC := bodyM 4 (seqM (ifSM (testM (opM eqD (varM 0) (cM (.str "msb")))) (retM (ifM (testM (opM ltD (opM subsD (varM 1) (cM (.int 0))) (cM (.int 1)))) (tupM (consM (cM (.str "type_error")) (consM (cM (.str "not_less_than_one")) (consM (opM subsD (varM 1) (cM (.int 0))) nilM)))) (cM .non))) passM) (seqM (ifSM (testM (opM eqD (cbM lenD (consM (varM 1) nilM)) (cM (.int 1)))) (retM (cM .non)) passM) (seqM (asgM (varM 1) (uplG 2 (consG (nameG 2) (consG (nameG 3) nilG)))) (seqM (ifSM (tandM (testM (opM (inD false) (varM 0) (tupM (consM (cM (.str "//")) (consM (cM (.str "div")) (consM (cM (.str "mod")) (consM (cM (.str "rem")) nilM))))))) (testM (opM eqD (varM 3) (cM (.int 0))))) (retM (tupM (consM (cM (.str "evaluation_error")) (consM (cM (.str "zero_divisor")) nilM)))) passM) (seqM (ifSM (tandM (testM (opM (inD false) (varM 0) (tupM (consM (cM (.str "<<")) (consM (cM (.str ">>")) nilM))))) (testM (opM ltD (varM 3) (cM (.int 0))))) (retM (tupM (consM (cM (.str "domain_error")) (consM (cM (.str "not_less_than_zero")) (consM (varM 3) nilM))))) passM) (seqM (ifSM (tandM (testM (opM (inD false) (varM 0) (tupM (consM (cM (.str "**")) (consM (cM (.str "^")) nilM))))) (tandM (testM (opM ltD (varM 3) (cM (.int 0)))) (testM (opM (inD true) (varM 2) (tupM (consM (cM (.int 1)) (consM (negM (cM (.int 1))) nilM))))))) (retM (ifM (testM (opM eqD (varM 2) (cM (.int 0)))) (tupM (consM (cM (.str "evaluation_error")) (consM (cM (.str "zero_divisor")) nilM))) (tupM (consM (cM (.str "type_error")) (consM (cM (.str "float")) (consM (varM 2) nilM)))))) passM) (retM (cM .non))))))))
def m_is_known (NF RD : Nat) : GC := bodyM 2 (retM (orM (andM (opM eqD (varM 1) (cM (.int 1))) (opM (inD false) (varM 0) (cM k_ONE))) (andM (opM eqD (varM 1) (cM (.int 2))) (opM (inD false) (varM 0) (cM k_TWO)))))
def m_first_fault (NF RD : Nat) : GC := bodyM 2 (seqM (ifSM (truM (callM 1 (m_is_variable NF RD) [] (consM (varM 0) nilM))) (retM (cM (.str "instantiation_error"))) passM) (seqM (ifSM (truM (callM 1 (m_is_int NF RD) [] (consM (varM 0) nilM))) (retM (cM .non)) passM) (seqM (ifSM (truM (cbM isiD (consM (varM 0) (consM (cM (.ty "str")) nilM)))) (retM (tupM (consM (cM (.str "type_error")) (consM (cM (.str "evaluable")) (consM (tupM (consM (cM (.str "/")) (consM (varM 0) (consM (cM (.int 0)) nilM)))) nilM))))) passM) (seqM (asgM (opM subD (cbM lenD (consM (varM 0) nilM)) (cM (.int 1))) (nameG 1)) (retM (ifM (truM (callM 2 (m_is_known NF RD) [] (consM (opM subsD (varM 0) (cM (.int 0))) (consM (varM 1) nilM)))) (cM .non) (tupM (consM (cM (.str "type_error")) (consM (cM (.str "evaluable")) (consM (tupM (consM (cM (.str "/")) (consM (opM subsD (varM 0) (cM (.int 0))) (consM (varM 1) nilM)))) nilM))))))))))
def E_value_of_0 (NF RD : Nat) : ME := (tupM (consM (varM 9) (consM (cM (.bl false)) nilM)))
def C_value_of_1 (NF RD : Nat) : MT := (testM (opM neD (varM 2) (lstM nilM)))
def B_value_of_2 (NF RD : Nat) : MS := (seqM (asgM (bmM "list" popD (varM 2) nilM) (tupG 2 (consG (nameG 3) (consG (nameG 4) nilG)))) (seqM (asgM (ifM (truM (varM 4)) (cM .non) (callM 1 (m_first_fault NF RD) [] (consM (varM 3) nilM))) (nameG 5)) (seqM (ifSM (truM (varM 4)) (seqM (asgM (opM subD (cbM lenD (consM (varM 3) nilM)) (cM (.int 1))) (nameG 6)) (seqM (parM 7 1 (consM (slM (varM 1) (partM (negM (varM 6))) noM) (consM (slM (varM 1) noM (partM (negM (varM 6)))) nilM))) (seqM (asgM (callM 2 (m_fault_of NF RD) [] (consM (opM subsD (varM 3) (cM (.int 0))) (consM (varM 7) nilM))) (nameG 5)) (ifSM (testM (opM isD (varM 5) (cM .non))) (seqM (asgM (ifM (testM (opM eqD (varM 6) (cM (.int 1)))) (callM 2 (m_with_one NF RD) [] (consM (opM subsD (varM 3) (cM (.int 0))) (consM (opM subsD (varM 7) (cM (.int 0))) nilM))) (callM 3 (m_with_two NF RD) [] (consM (opM subsD (varM 3) (cM (.int 0))) (consM (opM subsD (varM 7) (cM (.int 0))) (consM (opM subsD (varM 7) (cM (.int 1))) nilM))))) (nameG 8)) (seqM (asgM (ifM (testM (opM geD (cbM absD (consM (varM 8) nilM)) (cM k_TOO_GREAT))) (tupM (consM (cM (.str "resource_error")) (consM (cM (.str "integer")) nilM))) (cM .non)) (nameG 5)) (exprM (bmM "list" appendD (varM 1) (consM (varM 8) nilM))))) passM)))) (ifSM (tandM (testM (opM isD (varM 5) (cM .non))) (truM (callM 1 (m_is_int NF RD) [] (consM (varM 3) nilM)))) (exprM (bmM "list" appendD (varM 1) (consM (varM 3) nilM))) (ifSM (testM (opM isD (varM 5) (cM .non))) (seqM (exprM (bmM "list" appendD (varM 2) (consM (tupM (consM (varM 3) (consM (cM (.bl true)) nilM))) nilM))) (exprM (bmM "list" extendD (varM 2) (consM (lcM (revI (slM (varM 3) (partM (cM (.int 1))) noM)) (nameG 9) yesM (E_value_of_0 NF RD) [9] NF) nilM)))) passM))) (ifSM (testM (opM isntD (varM 5) (cM .non))) (retM (tupM (consM (cM (.str "error")) (consM (varM 5) nilM)))) passM))))
def m_value_of (NF RD : Nat) : GC := bodyM 10 (seqM (parM 1 2 (consM (lstM nilM) (consM (lstM (consM (tupM (consM (varM 0) (consM (cM (.bl false)) nilM))) nilM)) nilM))) (seqM (whileM (C_value_of_1 NF RD) (B_value_of_2 NF RD) NF) (retM (tupM (consM (cM (.str "value")) (consM (opM subsD (varM 1) (cM (.int 0))) nilM))))))
def m_reckoned (NF RD : Nat) : GC := bodyM 1 (seqM (exprM (callM 1 (m_check_terms NF RD) [] (consM (lstM (consM (varM 0) nilM)) nilM))) (retM (callM 1 (m_value_of NF RD) [] (consM (varM 0) nilM))))
def x_reckoned (NF RD : Nat) : GX := bodyX 1 (seqX (callX 1 (x_check_terms NF RD) [] (consM (lstM (consM (varM 0) nilM)) nilM)) (exprM (callM 1 (m_check_terms NF RD) [] (consM (lstM (consM (varM 0) nilM)) nilM))) noX)
def m__law_source_of (NF RD : Nat) : GC := bodyM 1 (seqM (asgM (ifM (testM (opM geD (varM 0) (cM (.int 0)))) (varM 0) (opM subD (opM subD (cM (.int 0)) (opM mulD (cM (.int 3)) (varM 0))) (cM (.int 1)))) (nameG 0)) (retM (lstM (consM (opM mulD (varM 0) (cbM intD (consM (opM geD (varM 0) (opM powD (cM (.int 10)) (cM (.int 18)))) nilM))) (consM (opM modD (cbM intD (consM (varM 0) nilM)) (cM (.int 2147483647))) (consM (cM (.int 0)) nilM))))))
def m__law_next (NF RD : Nat) : GC := bodyM 5 (seqM (ifSM (testM (opM gtD (opM subsD (varM 0) (cM (.int 0))) (cM (.int 0)))) (seqM (asgM (opM modZD (cbM intD (consM (opM subsD (varM 0) (cM (.int 0))) nilM)) (varM 1)) (nameG 2)) (seqM (setD (varM 0) (cM (.int 0)) (opM fdivZD (opM subsD (varM 0) (cM (.int 0))) (varM 1))) (retM (varM 2)))) passM) (seqM (setD (varM 0) (cM (.int 2)) (opM addD (opM subsD (varM 0) (cM (.int 2))) (cM (.int 1)))) (seqM (asgM (cM (.int 2147483647)) (nameG 3)) (seqM (asgM (opM modZD (cbM intD (consM (opM addD (opM addD (opM subsD (varM 0) (cM (.int 1))) (opM mulD (cM (.int 104729)) (opM subsD (varM 0) (cM (.int 2))))) (cM (.int 7919))) nilM)) (varM 3)) (nameG 4)) (seqM (asgM (opM modZD (cbM intD (consM (opM mulD (varM 4) (cM (.int 48271))) nilM)) (varM 3)) (nameG 4)) (seqM (asgM (opM modZD (cbM intD (consM (opM mulD (varM 4) (opM addD (opM fdivD (varM 4) (cM (.int 1009))) (cM (.int 69621)))) nilM)) (varM 3)) (nameG 4)) (seqM (asgM (opM modD (cbM intD (consM (opM mulD (varM 4) (opM addD (opM fdivD (varM 4) (cM (.int 2003))) (cM (.int 40692)))) nilM)) (cM (.int 2147483399))) (nameG 4)) (retM (opM modZD (cbM intD (consM (opM fdivD (varM 4) (cM (.int 7))) nilM)) (varM 1))))))))))
def m__law_one (NF RD : Nat) : GC := bodyM 2 (retM (opM subsD (varM 1) (callM 2 (m__law_next NF RD) [] (consM (varM 0) (consM (cbM lenD (consM (varM 1) nilM)) nilM)))))
def m__law_top (NF RD : Nat) : GC := bodyM 1 (seqM (asgM (opM powD (cM (.int 10)) (cM (.int 60))) (nameG 0)) (retM (opM mulD (opM mulD (opM mulD (opM mulD (varM 0) (varM 0)) (varM 0)) (varM 0)) (varM 0))))
def m__law_of (NF RD : Nat) : GC := bodyM 4 (seqM (asgM (callM 1 (frM (m_reckoned NF RD)) [] (consM (tupM (consM (varM 0) (consM (varM 1) (consM (varM 2) nilM)))) nilM)) (nameG 3)) (retM (ifM (testM (opM eqD (opM subsD (varM 3) (cM (.int 0))) (cM (.str "value")))) (opM subsD (varM 3) (cM (.int 1))) (cM .non))))
def m__law_number (NF RD : Nat) : GC := bodyM 2 (seqM (asgM (callM 2 (m__law_one NF RD) [] (consM (varM 0) (consM (lstM (consM (cM (.int 4)) (consM (cM (.int 100)) (consM (opM powD (cM (.int 10)) (cM (.int 10))) (consM (opM mulD (opM powD (cM (.int 10)) (cM (.int 50))) (opM powD (cM (.int 10)) (cM (.int 50)))) nilM))))) nilM))) (nameG 1)) (retM (opM mulD (callM 2 (m__law_next NF RD) [] (consM (varM 0) (consM (varM 1) nilM))) (callM 2 (m__law_one NF RD) [] (consM (varM 0) (consM (lstM (consM (cM (.int 1)) (consM (opM subD (cM (.int 0)) (cM (.int 1))) nilM))) nilM))))))
def E__law_divisions_right_0 (NF RD : Nat) : ME := (callM 1 (frM (m_reckoned NF RD)) [] (consM (tupM (consM (varM 7) (consM (varM 0) (consM (varM 1) nilM)))) nilM))
def m__law_divisions_right (NF RD : Nat) : GC := bodyM 8 (seqM (ifSM (testM (opM eqD (varM 1) (cM (.int 0)))) (seqM (asgM (lcM (seqI (tupM (consM (cM (.str "//")) (consM (cM (.str "div")) (consM (cM (.str "mod")) (consM (cM (.str "rem")) nilM)))))) (nameG 7) yesM (E__law_divisions_right_0 NF RD) [7] NF) (nameG 2)) (retM (opM eqD (varM 2) (opM mulD (lstM (consM (tupM (consM (cM (.str "error")) (consM (tupM (consM (cM (.str "evaluation_error")) (consM (cM (.str "zero_divisor")) nilM))) nilM))) nilM)) (cM (.int 4)))))) passM) (seqM (parM 3 4 (consM (callM 3 (frM (m__law_of NF RD)) [] (consM (cM (.str "//")) (consM (varM 0) (consM (varM 1) nilM)))) (consM (callM 3 (frM (m__law_of NF RD)) [] (consM (cM (.str "div")) (consM (varM 0) (consM (varM 1) nilM)))) nilM))) (seqM (parM 5 6 (consM (callM 3 (frM (m__law_of NF RD)) [] (consM (cM (.str "mod")) (consM (varM 0) (consM (varM 1) nilM)))) (consM (callM 3 (frM (m__law_of NF RD)) [] (consM (cM (.str "rem")) (consM (varM 0) (consM (varM 1) nilM)))) nilM))) (seqM (ifSM (torM (testM (opM neD (opM addD (opM mulD (varM 3) (varM 1)) (varM 6)) (varM 0))) (testM (opM neD (opM addD (opM mulD (varM 4) (varM 1)) (varM 5)) (varM 0)))) (retM (cM (.bl false))) passM) (seqM (ifSM (torM (testM (opM geD (cbM absD (consM (varM 6) nilM)) (cbM absD (consM (varM 1) nilM)))) (testM (opM geD (cbM absD (consM (varM 5) nilM)) (cbM absD (consM (varM 1) nilM))))) (retM (cM (.bl false))) passM) (seqM (ifSM (torM (tandM (testM (opM neD (varM 5) (cM (.int 0)))) (testM (opM neD (opM gtD (varM 5) (cM (.int 0))) (opM gtD (varM 1) (cM (.int 0)))))) (tandM (testM (opM neD (varM 6) (cM (.int 0)))) (testM (opM neD (opM gtD (varM 6) (cM (.int 0))) (opM gtD (varM 0) (cM (.int 0))))))) (retM (cM (.bl false))) passM) (retM (opM eqD (opM subD (varM 3) (varM 4)) (cbM intD (consM (opM neD (varM 6) (varM 5)) nilM))))))))))
def m__law_bits_right (NF RD : Nat) : GC := bodyM 5 (seqM (par3M 2 3 4 (consM (callM 3 (frM (m__law_of NF RD)) [] (consM (cM (.str "/\\")) (consM (varM 0) (consM (varM 1) nilM)))) (consM (callM 3 (frM (m__law_of NF RD)) [] (consM (cM (.str "\\/")) (consM (varM 0) (consM (varM 1) nilM)))) (consM (callM 3 (frM (m__law_of NF RD)) [] (consM (cM (.str "xor")) (consM (varM 0) (consM (varM 1) nilM)))) nilM)))) (seqM (ifSM (torM (testM (opM neD (opM addD (varM 2) (varM 3)) (opM addD (varM 0) (varM 1)))) (testM (opM neD (opM subD (varM 3) (varM 2)) (varM 4)))) (retM (cM (.bl false))) passM) (seqM (ifSM (testM (opM neD (callM 3 (frM (m__law_of NF RD)) [] (consM (cM (.str "xor")) (consM (varM 4) (consM (varM 1) nilM)))) (varM 0))) (retM (cM (.bl false))) passM) (retM (opM eqD (callM 1 (frM (m_reckoned NF RD)) [] (consM (tupM (consM (cM (.str "\\")) (consM (tupM (consM (cM (.str "/\\")) (consM (varM 0) (consM (varM 1) nilM)))) nilM))) nilM)) (callM 1 (frM (m_reckoned NF RD)) [] (consM (tupM (consM (cM (.str "\\/")) (consM (tupM (consM (cM (.str "\\")) (consM (varM 0) nilM))) (consM (tupM (consM (cM (.str "\\")) (consM (varM 1) nilM))) nilM)))) nilM)))))))
def m__law_gcd_right (NF RD : Nat) : GC := bodyM 4 (seqM (asgM (callM 3 (frM (m__law_of NF RD)) [] (consM (cM (.str "gcd")) (consM (varM 0) (consM (varM 1) nilM)))) (nameG 3)) (seqM (ifSM (torM (testM (opM ltD (varM 3) (cM (.int 0)))) (tandM (testM (opM eqD (varM 3) (cM (.int 0)))) (testM (opM neD (tupM (consM (varM 0) (consM (varM 1) nilM))) (tupM (consM (cM (.int 0)) (consM (cM (.int 0)) nilM))))))) (retM (cM (.bl false))) passM) (seqM (ifSM (tandM (testM (opM gtD (varM 3) (cM (.int 0)))) (torM (testM (opM neD (opM modZD (cbM intD (consM (varM 0) nilM)) (varM 3)) (cM (.int 0)))) (testM (opM neD (opM modZD (cbM intD (consM (varM 1) nilM)) (varM 3)) (cM (.int 0)))))) (retM (cM (.bl false))) passM) (retM (andM (opM eqD (callM 3 (frM (m__law_of NF RD)) [] (consM (cM (.str "gcd")) (consM (opM mulD (varM 0) (varM 2)) (consM (opM mulD (varM 1) (varM 2)) nilM)))) (opM mulD (varM 3) (cbM absD (consM (varM 2) nilM)))) (opM eqD (callM 3 (frM (m__law_of NF RD)) [] (consM (cM (.str "gcd")) (consM (varM 1) (consM (opM addD (varM 0) (opM mulD (varM 2) (varM 1))) nilM)))) (varM 3)))))))
def m__law_shifts_right (NF RD : Nat) : GC := bodyM 6 (seqM (asgM (callM 3 (frM (m__law_of NF RD)) [] (consM (cM (.str "<<")) (consM (varM 0) (consM (varM 1) nilM)))) (nameG 3)) (seqM (ifSM (torM (testM (opM neD (varM 3) (opM mulD (varM 0) (opM shlD (cM (.int 1)) (varM 1))))) (testM (opM neD (callM 3 (frM (m__law_of NF RD)) [] (consM (cM (.str ">>")) (consM (varM 3) (consM (varM 1) nilM)))) (varM 0)))) (retM (cM (.bl false))) passM) (seqM (ifSM (testM (opM neD (callM 3 (frM (m__law_of NF RD)) [] (consM (cM (.str ">>")) (consM (varM 0) (consM (varM 1) nilM)))) (opM fdivZD (varM 0) (opM shlD (cM (.int 1)) (varM 1))))) (retM (cM (.bl false))) passM) (seqM (asgM (callM 3 (frM (m__law_of NF RD)) [] (consM (cM (.str "min")) (consM (callM 3 (frM (m__law_of NF RD)) [] (consM (cM (.str "max")) (consM (varM 0) (consM (opM subD (cM (.int 0)) (cM (.int 9))) nilM)))) (consM (cM (.int 9)) nilM)))) (nameG 4)) (seqM (asgM (callM 3 (frM (m__law_of NF RD)) [] (consM (cM (.str "**")) (consM (varM 4) (consM (opM addD (varM 1) (varM 2)) nilM)))) (nameG 5)) (seqM (ifSM (testM (opM neD (opM mulD (callM 3 (frM (m__law_of NF RD)) [] (consM (cM (.str "**")) (consM (varM 4) (consM (varM 1) nilM)))) (callM 3 (frM (m__law_of NF RD)) [] (consM (cM (.str "^")) (consM (varM 4) (consM (varM 2) nilM))))) (varM 5))) (retM (cM (.bl false))) passM) (retM (andM (opM eqD (callM 3 (frM (m__law_of NF RD)) [] (consM (cM (.str ">>")) (consM (varM 0) (consM (opM powD (cM (.int 10)) (cM (.int 30))) nilM)))) (opM subD (cM (.int 0)) (cbM intD (consM (opM ltD (varM 0) (cM (.int 0))) nilM)))) (opM eqD (callM 3 (frM (m__law_of NF RD)) [] (consM (cM (.str "**")) (consM (opM subD (cM (.int 0)) (cM (.int 1))) (consM (opM addD (opM powD (cM (.int 10)) (cM (.int 40))) (cM (.int 1))) nilM)))) (opM subD (cM (.int 0)) (cM (.int 1))))))))))))
def E__law_brink_right_0 (NF RD : Nat) : ME := (callM 1 (frM (m_reckoned NF RD)) [] (consM (varM 7) nilM))
def E__law_brink_right_1 (NF RD : Nat) : ME := (tupM (consM (cM (.str "value")) (consM (varM 7) nilM)))
def E__law_brink_right_2 (NF RD : Nat) : ME := (callM 1 (frM (m_reckoned NF RD)) [] (consM (varM 7) nilM))
def m__law_brink_right (NF RD : Nat) : GC := bodyM 8 (seqM (parM 1 2 (consM (callM 0 (frM (m__law_top NF RD)) [] nilM) (consM (callM 2 (m__law_one NF RD) [] (consM (varM 0) (consM (lstM (consM (cM (.int 1)) (consM (opM subD (cM (.int 0)) (cM (.int 1))) nilM))) nilM))) nilM))) (seqM (parM 3 4 (consM (opM subD (varM 1) (cM (.int 1))) (consM (tupM (consM (cM (.str "error")) (consM (tupM (consM (cM (.str "resource_error")) (consM (cM (.str "integer")) nilM))) nilM))) nilM))) (seqM (asgM (lstM (consM (tupM (consM (cM (.str "+")) (consM (opM mulD (varM 2) (varM 3)) (consM (varM 2) nilM)))) (consM (tupM (consM (cM (.str "-")) (consM (opM mulD (varM 2) (varM 3)) (consM (opM subD (cM (.int 0)) (varM 2)) nilM)))) (consM (tupM (consM (cM (.str "*")) (consM (opM mulD (varM 2) (opM fdivD (varM 1) (cM (.int 10)))) (consM (cM (.int 10)) nilM)))) (consM (tupM (consM (cM (.str "**")) (consM (cM (.int 10)) (consM (cM (.int 300)) nilM)))) nilM))))) (nameG 5)) (seqM (asgM (opM addD (varM 5) (lstM (consM (tupM (consM (cM (.str "<<")) (consM (varM 2) (consM (cM (.int 997)) nilM)))) (consM (tupM (consM (cM (.str "<<")) (consM (varM 2) (consM (opM fdivD (varM 1) (cM (.int 1000))) nilM)))) (consM (tupM (consM (cM (.str "^")) (consM (opM mulD (varM 2) (cM (.int 7))) (consM (opM fdivD (varM 1) (cM (.int 10))) nilM)))) nilM))))) (nameG 5)) (seqM (asgM (opM addD (varM 5) (lstM (consM (tupM (consM (cM (.str "*")) (consM (varM 3) (consM (varM 3) nilM)))) (consM (tupM (consM (cM (.str "**")) (consM (cM (.int 2)) (consM (cM (.int 997)) nilM)))) nilM)))) (nameG 5)) (seqM (ifSM (torM (testM (opM neD (lcM (seqI (varM 5)) (nameG 7) yesM (E__law_brink_right_2 NF RD) [7] NF) (opM mulD (lstM (consM (varM 4) nilM)) (cbM lenD (consM (varM 5) nilM))))) (testM (opM neD (callM 1 (frM (m_reckoned NF RD)) [] (consM (tupM (consM (cM (.str "-")) (consM (tupM (consM (cM (.str "+")) (consM (varM 3) (consM (cM (.int 1)) nilM)))) (consM (cM (.int 5)) nilM)))) nilM)) (varM 4)))) (retM (cM (.bl false))) passM) (seqM (asgM (lstM (consM (tupM (consM (cM (.str "+")) (consM (opM mulD (varM 2) (varM 3)) (consM (cM (.int 0)) nilM)))) (consM (tupM (consM (cM (.str "*")) (consM (opM mulD (varM 2) (opM fdivD (varM 1) (cM (.int 10)))) (consM (cM (.int 9)) nilM)))) (consM (tupM (consM (cM (.str "<<")) (consM (varM 2) (consM (cM (.int 996)) nilM)))) (consM (tupM (consM (cM (.str "**")) (consM (cM (.int 2)) (consM (cM (.int 996)) nilM)))) nilM))))) (nameG 5)) (seqM (asgM (opM addD (varM 5) (lstM (consM (tupM (consM (cM (.str "-")) (consM (varM 3) nilM))) (consM (tupM (consM (cM (.str "\\")) (consM (opM subD (cM (.int 0)) (varM 3)) nilM))) nilM)))) (nameG 5)) (seqM (asgM (lstM (consM (opM mulD (varM 2) (varM 3)) (consM (opM mulD (opM mulD (varM 2) (cM (.int 9))) (opM fdivD (varM 1) (cM (.int 10)))) (consM (opM mulD (varM 2) (opM shlD (cM (.int 1)) (cM (.int 996)))) (consM (opM shlD (cM (.int 1)) (cM (.int 996))) (consM (opM subD (cM (.int 0)) (varM 3)) (consM (opM subD (varM 3) (cM (.int 1))) nilM))))))) (nameG 6)) (retM (opM eqD (lcM (seqI (varM 5)) (nameG 7) yesM (E__law_brink_right_0 NF RD) [7] NF) (lcM (seqI (varM 6)) (nameG 7) yesM (E__law_brink_right_1 NF RD) [7] NF))))))))))))
def m__law_refused (NF RD : Nat) : GC := bodyM 2 (seqM (tryM subX LX [⟨"BadTerm", some 1, none, fun xn => (andM (opM eqD (cbM reprD (consM (fldX TX xn "term") nilM)) (cbM reprD (consM (varM 0) nilM))) (isxM subX LX xn "HornError"))⟩] (exprM (callM 1 (m_reckoned NF RD) [] (consM (varM 0) nilM))) (callX 1 (x_reckoned NF RD) [] (consM (varM 0) nilM))) (retM (cM (.bl false))))
def B_law_0 (NF RD : Nat) : MS := (ifSM (tnotM (truM (callM 1 (m__law_refused NF RD) [] (consM (varM 7) nilM)))) (retM (cM (.bl false))) passM)
def B_law_1 (NF RD : Nat) : MS := (seqM (asgM (callM 1 (m__law_source_of NF RD) [] (consM (varM 1) nilM)) (nameG 2)) (seqM (par3M 3 4 5 (consM (callM 1 (m__law_number NF RD) [] (consM (varM 2) nilM)) (consM (callM 1 (m__law_number NF RD) [] (consM (varM 2) nilM)) (consM (callM 2 (m__law_one NF RD) [] (consM (varM 2) (consM (lstM (consM (cM (.int 1)) (consM (cM (.int 2)) (consM (opM subD (cM (.int 0)) (cM (.int 3))) (consM (cM (.int 60)) nilM))))) nilM))) nilM)))) (seqM (ifSM (torM (tnotM (truM (callM 2 (frM (m__law_divisions_right NF RD)) [] (consM (varM 3) (consM (varM 4) nilM))))) (torM (tnotM (truM (callM 2 (frM (m__law_bits_right NF RD)) [] (consM (varM 3) (consM (varM 4) nilM))))) (tnotM (truM (callM 3 (frM (m__law_gcd_right NF RD)) [] (consM (varM 3) (consM (varM 4) (consM (varM 5) nilM)))))))) (retM (cM (.bl false))) passM) (seqM (ifSM (torM (tnotM (truM (callM 3 (frM (m__law_shifts_right NF RD)) [] (consM (varM 3) (consM (callM 2 (m__law_next NF RD) [] (consM (varM 2) (consM (cM (.int 70)) nilM))) (consM (callM 2 (m__law_next NF RD) [] (consM (varM 2) (consM (cM (.int 70)) nilM))) nilM)))))) (tnotM (truM (callM 1 (m__law_brink_right NF RD) [] (consM (varM 2) nilM))))) (retM (cM (.bl false))) passM) (seqM (ifSM (torM (testM (opM neD (callM 1 (frM (m_reckoned NF RD)) [] (consM (tupM (consM (cM (.str "sign")) (consM (varM 3) nilM))) nilM)) (tupM (consM (cM (.str "value")) (consM (opM subD (cbM intD (consM (opM gtD (varM 3) (cM (.int 0))) nilM)) (cbM intD (consM (opM ltD (varM 3) (cM (.int 0))) nilM))) nilM))))) (testM (opM neD (callM 1 (frM (m_reckoned NF RD)) [] (consM (tupM (consM (cM (.str "abs")) (consM (varM 3) nilM))) nilM)) (tupM (consM (cM (.str "value")) (consM (cbM absD (consM (varM 3) nilM)) nilM)))))) (retM (cM (.bl false))) passM) (seqM (asgM (opM subsD (callM 1 (frM (m_reckoned NF RD)) [] (consM (tupM (consM (cM (.str "msb")) (consM (varM 3) nilM))) nilM)) (cM (.int 1))) (nameG 6)) (ifSM (tandM (testM (opM gtD (varM 3) (cM (.int 0)))) (tnotM (testM (chainM leD ltD (opM shlD (cM (.int 1)) (varM 6)) (varM 3) (opM shlD (cM (.int 2)) (varM 6)))))) (retM (cM (.bl false))) passM)))))))
def m_law (NF RD : Nat) : GC := bodyM 8 (seqM (forSM (seqI (slM (opM addD (varM 0) (lstM (consM (cM (.int 0)) nilM))) noM (partM (cM (.int 5))))) (nameG 1) (B_law_1 NF RD) NF) (seqM (forSM (seqI (tupM (consM (cM .non) (consM (cM (.bl true)) (consM (lstM (consM (cM (.int 1)) nilM)) (consM dnewM (consM (tupM nilM) (consM (tupM (consM (cM (.str "+")) (consM (cM (.int 1)) (consM (cM .non) nilM)))) (consM (tupM (consM (cM (.str "+")) (consM (cM (.bl true)) (consM (cM (.int 1)) nilM)))) (consM (tupM (consM (opM subD (cM (.int 0)) (cM (.int 1))) nilM)) (consM (opM addD (tupM (consM (cM (.str "f")) nilM)) (opM mulD (tupM (consM (cM (.int 1)) nilM)) (cM (.int 9)))) (consM (tupM (consM (cM (.int 5)) (consM (cM (.int 1)) nilM))) (consM (opM mulD (cM (.str "a")) (cM (.int 41))) nilM))))))))))))) (nameG 7) (B_law_0 NF RD) NF) (retM (cM (.bl true)))))
end
/-! ### each def keeps its mirror -/
section
variable {P : Program} {w : World} {K : PySem.W.Frag} {mg : Str → Option Value} {base : Heap} (NF RD : Nat)
theorem c_is_int {L : Nat} (g : Got K mg "is_int" s_is_int P_is_int) (z : Zs mg) (y : Ys K mg) (q : Qs K mg) : CalM P w K mg base (L + 1) "is_int" 1 (m_is_int NF RD) noGX [] := by
  have nd := sc_is_int.nd
  refine Got.cal (ps := P_is_int) (N := N_is_int) (ms := (retM (andM (cbM isiD (consM (varM 0) (consM (cM (.ty "int")) nilM))) (notM (cbM isiD (consM (varM 0) (consM (cM (.ty "bool")) nilM))))))) (xs := noX) g sc_is_int fun f cdv A outer s H E hr => ?_
  exact ⟨_, (dssx_one (DS.x (ds_ret (de_and (de_callB sc_isi call_isiU z.«isinstance» (da_cons (de_var 0) (da_cons (de_ty z.«int») da_nil))) (de_one (de_not (de_callB sc_isi call_isiU z.«isinstance» (da_cons (de_var 0) (da_cons (de_ty z.«bool») da_nil)))))))))⟩
theorem c_is_variable {L : Nat} (g : Got K mg "is_variable" s_is_variable P_is_variable) (z : Zs mg) (y : Ys K mg) (q : Qs K mg) (c_is_int : CalM P w K mg base L "is_int" 1 (m_is_int NF RD) noGX []) : CalM P w K mg base (L + 1) "is_variable" 1 (m_is_variable NF RD) noGX [] := by
  have nd := sc_is_variable.nd
  refine Got.cal (ps := P_is_variable) (N := N_is_variable) (ms := (retM (andM (cbM isiD (consM (varM 0) (consM (cM (.ty "tuple")) nilM))) (andM (opM eqD (cbM lenD (consM (varM 0) nilM)) (cM (.int 1))) (andM (callM 1 (m_is_int NF RD) [] (consM (opM subsD (varM 0) (cM (.int 0))) nilM)) (opM geD (opM subsD (varM 0) (cM (.int 0))) (cM (.int 0)))))))) (xs := noX) g sc_is_variable fun f cdv A outer s H E hr => ?_
  exact ⟨_, (dssx_one (DS.x (ds_ret (de_and (de_callB sc_isi call_isiU z.«isinstance» (da_cons (de_var 0) (da_cons (de_ty z.«tuple») da_nil))) (de_and (de_cmp so_eq (op_eqU (hu64 hr)) (de_callB sc_len call_lenU z.«len» (da_cons (de_var 0) da_nil)) de_int) (de_and (de_call c_is_int hr (da_cons (de_sub (de_var 0) de_int (hu1 hr)) da_nil) (by omega)) (de_one (de_cmp so_ge op_geU (de_sub (de_var 0) de_int (hu1 hr)) de_int))))))))⟩
theorem c_is_any_number {L : Nat} (g : Got K mg "is_any_number" s_is_any_number P_is_any_number) (z : Zs mg) (y : Ys K mg) (q : Qs K mg) (c_is_int : CalM P w K mg base L "is_int" 1 (m_is_int NF RD) noGX []) : CalM P w K mg base (L + 1) "is_any_number" 1 (m_is_any_number NF RD) noGX [] := by
  have nd := sc_is_any_number.nd
  refine Got.cal (ps := P_is_any_number) (N := N_is_any_number) (ms := (retM (andM (callM 1 (m_is_int NF RD) [] (consM (varM 0) nilM)) (opM ltD (cbM absD (consM (varM 0) nilM)) (cM k_TOO_GREAT))))) (xs := noX) g sc_is_any_number fun f cdv A outer s H E hr => ?_
  exact ⟨_, (dssx_one (DS.x (ds_ret (de_and (de_call c_is_int hr (da_cons (de_var 0) da_nil) (by omega)) (de_one (de_cmp so_lt op_ltU (de_callB sc_abs call_abs z.«abs» (da_cons (de_var 0) da_nil)) y.g_TOO_GREAT.de))))))⟩
theorem c_is_any_atom {L : Nat} (g : Got K mg "is_any_atom" s_is_any_atom P_is_any_atom) (z : Zs mg) (y : Ys K mg) (q : Qs K mg) : CalM P w K mg base (L + 1) "is_any_atom" 1 (m_is_any_atom NF RD) noGX [] := by
  have nd := sc_is_any_atom.nd
  refine Got.cal (ps := P_is_any_atom) (N := N_is_any_atom) (ms := (seqM (ifSM (torM (tnotM (truM (cbM isiD (consM (varM 0) (consM (cM (.ty "str")) nilM))))) (testM (opM gtD (cbM lenD (consM (varM 0) nilM)) (cM k_MOST_SIGNS)))) (retM (cM (.bl false))) passM) (retM (cbM allD (consM (lcM (seqI (varM 0)) (nameG 1) yesM (E_is_any_atom_0 NF RD) [1] NF) nilM))))) (xs := noX) g sc_is_any_atom fun f cdv A outer s H E hr => ?_
  exact ⟨_, (dssx_cons0 (dsx_if0 (dt_w (dw_or (dt_not (dt_tru (de_callB sc_isi call_isiU z.«isinstance» (da_cons (de_var 0) (da_cons (de_ty z.«str») da_nil))))) (dw_or1 (dt_cmp so_gt op_gtU (de_callB sc_len call_lenU z.«len» (da_cons (de_var 0) da_nil)) y.g_MOST_SIGNS.de)))) (dssx_one (DS.x (ds_ret de_bl))) dssx_nil) (dssx_one (DS.x (ds_ret (de_callB sc_all call_allU z.«all» (da_cons (de_lc (own := [("sign", 1)]) NF nd (di_seq (de_var 0)) (blkOk_by (N := N_is_any_atom) (sc := (defScope s_is_any_atom)) (by decide +kernel)) (only_name (by decide)) (fun _ _ _ _ _ => (dg_name 1 nd)) (fun _ _ _ _ _ => dts_nil) (fun _ _ _ _ _ => (de_and (de_chain so_le op_leU so_le op_leU de_str (de_var 1) de_str) (de_one (de_cmp so_ne (op_neU (hu64 hr)) (de_callB sc_ord call_ord z.«ord» (da_cons (de_var 1) da_nil)) de_int))))) da_nil))))))⟩
theorem c_is_compound {L : Nat} (g : Got K mg "is_compound" s_is_compound P_is_compound) (z : Zs mg) (y : Ys K mg) (q : Qs K mg) : CalM P w K mg base (L + 1) "is_compound" 1 (m_is_compound NF RD) noGX [] := by
  have nd := sc_is_compound.nd
  refine Got.cal (ps := P_is_compound) (N := N_is_compound) (ms := (retM (andM (cbM isiD (consM (varM 0) (consM (cM (.ty "tuple")) nilM))) (opM gtD (cbM lenD (consM (varM 0) nilM)) (cM (.int 1)))))) (xs := noX) g sc_is_compound fun f cdv A outer s H E hr => ?_
  exact ⟨_, (dssx_one (DS.x (ds_ret (de_and (de_callB sc_isi call_isiU z.«isinstance» (da_cons (de_var 0) (da_cons (de_ty z.«tuple») da_nil))) (de_one (de_cmp so_gt op_gtU (de_callB sc_len call_lenU z.«len» (da_cons (de_var 0) da_nil)) de_int))))))⟩
theorem c_is_term {L : Nat} (g : Got K mg "is_term" s_is_term P_is_term) (z : Zs mg) (y : Ys K mg) (q : Qs K mg) (c_is_compound : CalM P w K mg base L "is_compound" 1 (m_is_compound NF RD) noGX []) (c_is_any_atom : CalM P w K mg base L "is_any_atom" 1 (m_is_any_atom NF RD) noGX []) (c_is_variable : CalM P w K mg base L "is_variable" 1 (m_is_variable NF RD) noGX []) (c_is_any_number : CalM P w K mg base L "is_any_number" 1 (m_is_any_number NF RD) noGX []) : CalM P w K mg base (L + 1) "is_term" 1 (m_is_term NF RD) noGX [] := by
  have nd := sc_is_term.nd
  refine Got.cal (ps := P_is_term) (N := N_is_term) (ms := (seqM (asgM (lstM (consM (varM 0) nilM)) (nameG 1)) (seqM (whileM (C_is_term_0 NF RD) (B_is_term_1 NF RD) NF) (retM (cM (.bl true)))))) (xs := noX) g sc_is_term fun f cdv A outer s H E hr => ?_
  exact ⟨_, (dssx_cons0 (DS.x (ds_set 1 (de_lst (da_cons (de_var 0) da_nil)) nd)) (dssx_cons0 (dsx_while0 NF (dt_cmp so_ne (op_neU (hu64 hr)) (de_var 1) (de_lst da_nil)) (dssx_cons0 (DS.x (ds_set 2 (de_bm0 sm_pop PySem.F.plainAttrs_list PySem.F.slot_list_pop PySem.F.type_list_pop mt_pop (de_var 1)) nd)) (dssx_one (dsx_if0 (dt_tru (de_call c_is_compound hr (da_cons (de_var 2) da_nil) (by omega))) (dssx_cons0 (dsx_if0 (dt_w (dw_or (dt_cmp so_gt op_gtU (de_callB sc_len call_lenU z.«len» (da_cons (de_var 2) da_nil)) (de_op so_add op_addU y.g_MOST_ARGUMENTS.de de_int)) (dw_or1 (dt_not (dt_tru (de_call c_is_any_atom hr (da_cons (de_sub (de_var 2) de_int (hu1 hr)) da_nil) (by omega))))))) (dssx_one (DS.x (ds_ret de_bl))) dssx_nil) (dssx_one (DS.x (ds_expr (de_bm sm_extend PySem.F.plainAttrs_list PySem.F.slot_list_extend PySem.F.type_list_extend mt_extU (de_var 1) (da_cons (de_slice (de_var 2) (do_some de_int) do_none) da_nil)))))) (dssx_one (dsx_if0 (dt_w (dw_and (dt_not (dt_tru (de_call c_is_variable hr (da_cons (de_var 2) da_nil) (by omega)))) (dw_and (dt_not (dt_tru (de_call c_is_any_number hr (da_cons (de_var 2) da_nil) (by omega)))) (dw_and1 (dt_not (dt_tru (de_call c_is_any_atom hr (da_cons (de_var 2) da_nil) (by omega)))))))) (dssx_one (DS.x (ds_ret de_bl))) dssx_nil)))))) (dssx_one (DS.x (ds_ret de_bl)))))⟩
theorem c_check_terms {L : Nat} (g : Got K mg "check_terms" s_check_terms P_check_terms) (z : Zs mg) (y : Ys K mg) (q : Qs K mg) (c_is_term : CalM P w K mg base (L + 2) "is_term" 1 (m_is_term NF RD) noGX []) : CalM P w K mg base ((L + 2) + 1) "check_terms" 1 (m_check_terms NF RD) (x_check_terms NF RD) [] := by
  have nd := sc_check_terms.nd
  refine Got.cal (ps := P_check_terms) (N := N_check_terms) (ms := (forSM (seqI (varM 0)) (nameG 1) (B_check_terms_0 NF RD) NF)) (xs := (forSX (seqI (varM 0)) (nameG 1) (B_check_terms_0 NF RD) (X_check_terms_1 NF RD) NF)) g sc_check_terms fun f cdv A outer s H E hr => ?_
  exact ⟨_, (dssx_one (dsx_for NF (di_seq (de_var 0)) (dg_name 1 nd) (dssx_one (dsx_if (dt_not (dt_tru (de_call c_is_term hr (da_cons (de_var 1) da_nil) (by omega)))) (dssx_one (dsx_raise q.t_BadTerm hr (da_cons (de_var 1) da_nil))) dssx_nil))))⟩
theorem c_with_one {L : Nat} (g : Got K mg "with_one" s_with_one P_with_one) (z : Zs mg) (y : Ys K mg) (q : Qs K mg) : CalM P w K mg base (L + 1) "with_one" 2 (m_with_one NF RD) noGX [] := by
  have nd := sc_with_one.nd
  refine Got.cal (ps := P_with_one) (N := N_with_one) (ms := (seqM (ifSM (testM (opM (inD false) (varM 0) (tupM (consM (cM (.str "+")) (consM (cM (.str "-")) nilM))))) (retM (ifM (testM (opM eqD (varM 0) (cM (.str "+")))) (varM 1) (negM (varM 1)))) passM) (seqM (ifSM (testM (opM eqD (varM 0) (cM (.str "abs")))) (retM (cbM absD (consM (varM 1) nilM))) passM) (seqM (ifSM (testM (opM eqD (varM 0) (cM (.str "sign")))) (retM (opM subD (cbM intD (consM (opM gtD (varM 1) (cM (.int 0))) nilM)) (cbM intD (consM (opM ltD (varM 1) (cM (.int 0))) nilM)))) passM) (retM (ifM (testM (opM eqD (varM 0) (cM (.str "msb")))) (opM subD (bitsM (varM 1)) (cM (.int 1))) (opM subD (negM (varM 1)) (cM (.int 1))))))))) (xs := noX) g sc_with_one fun f cdv A outer s H E hr => ?_
  exact ⟨_, (dssx_cons0 (dsx_if0 (dt_cmp (so_in false) op_inU (de_var 0) (de_tup (da_cons de_str (da_cons de_str da_nil)))) (dssx_one (DS.x (ds_ret (de_if (dt_cmp so_eq (op_eqU (hu64 hr)) (de_var 0) de_str) (de_var 1) (de_neg (de_var 1)))))) dssx_nil) (dssx_cons0 (dsx_if0 (dt_cmp so_eq (op_eqU (hu64 hr)) (de_var 0) de_str) (dssx_one (DS.x (ds_ret (de_callB sc_abs call_abs z.«abs» (da_cons (de_var 1) da_nil))))) dssx_nil) (dssx_cons0 (dsx_if0 (dt_cmp so_eq (op_eqU (hu64 hr)) (de_var 0) de_str) (dssx_one (DS.x (ds_ret (de_op so_sub op_sub (de_callTy sc_int call_int1 z.«int» (da_cons (de_cmp so_gt op_gtU (de_var 1) de_int) da_nil)) (de_callTy sc_int call_int1 z.«int» (da_cons (de_cmp so_lt op_ltU (de_var 1) de_int) da_nil)))))) dssx_nil) (dssx_one (DS.x (ds_ret (de_if (dt_cmp so_eq (op_eqU (hu64 hr)) (de_var 0) de_str) (de_op so_sub op_sub (de_bits (de_var 1)) de_int) (de_op so_sub op_sub (de_neg (de_var 1)) de_int))))))))⟩
theorem c_divisor {L : Nat} (g : Got K mg "divisor" s_divisor P_divisor) (z : Zs mg) (y : Ys K mg) (q : Qs K mg) : CalM P w K mg base (L + 1) "divisor" 2 (m_divisor NF RD) noGX [] := by
  have nd := sc_divisor.nd
  refine Got.cal (ps := P_divisor) (N := N_divisor) (ms := (seqM (parM 0 1 (consM (cbM absD (consM (varM 0) nilM)) (consM (cbM absD (consM (varM 1) nilM)) nilM))) (seqM (whileM (C_divisor_0 NF RD) (B_divisor_1 NF RD) NF) (retM (varM 0))))) (xs := noX) g sc_divisor fun f cdv A outer s H E hr => ?_
  exact ⟨_, (dssx_cons0 (DS.x (ds_par 0 1 (da_cons (de_callB sc_abs call_abs z.«abs» (da_cons (de_var 0) da_nil)) (da_cons (de_callB sc_abs call_abs z.«abs» (da_cons (de_var 1) da_nil)) da_nil)) nd)) (dssx_cons0 (dsx_while0 NF (dt_cmp so_gt op_gtU (de_var 1) de_int) (dssx_one (DS.x (ds_par 0 1 (da_cons (de_var 1) (da_cons (de_op so_modZ op_modN (de_var 0) (de_var 1)) da_nil)) nd)))) (dssx_one (DS.x (ds_ret (de_var 0))))))⟩
theorem c_divided {L : Nat} (g : Got K mg "divided" s_divided P_divided) (z : Zs mg) (y : Ys K mg) (q : Qs K mg) : CalM P w K mg base (L + 1) "divided" 3 (m_divided NF RD) noGX [] := by
  have nd := sc_divided.nd
  refine Got.cal (ps := P_divided) (N := N_divided) (ms := (seqM (asgM (opM fdivZD (cbM absD (consM (varM 1) nilM)) (cbM absD (consM (varM 2) nilM))) (nameG 3)) (seqM (ifSM (testM (opM neD (opM ltD (varM 1) (cM (.int 0))) (opM ltD (varM 2) (cM (.int 0))))) (asgM (negM (varM 3)) (nameG 3)) passM) (seqM (ifSM (testM (opM eqD (varM 0) (cM (.str "//")))) (retM (varM 3)) passM) (seqM (ifSM (testM (opM eqD (varM 0) (cM (.str "rem")))) (retM (opM subD (varM 1) (opM mulD (varM 2) (varM 3)))) passM) (retM (ifM (testM (opM eqD (varM 0) (cM (.str "div")))) (opM fdivZD (varM 1) (varM 2)) (opM modZD (varM 1) (varM 2))))))))) (xs := noX) g sc_divided fun f cdv A outer s H E hr => ?_
  exact ⟨_, (dssx_cons0 (DS.x (ds_set 3 (de_op so_fdivZ op_fdivZ (de_callB sc_abs call_abs z.«abs» (da_cons (de_var 1) da_nil)) (de_callB sc_abs call_abs z.«abs» (da_cons (de_var 2) da_nil))) nd)) (dssx_cons0 (dsx_if0 (dt_cmp so_ne (op_neU (hu64 hr)) (de_cmp so_lt op_ltU (de_var 1) de_int) (de_cmp so_lt op_ltU (de_var 2) de_int)) (dssx_one (DS.x (ds_set 3 (de_neg (de_var 3)) nd))) dssx_nil) (dssx_cons0 (dsx_if0 (dt_cmp so_eq (op_eqU (hu64 hr)) (de_var 0) de_str) (dssx_one (DS.x (ds_ret (de_var 3)))) dssx_nil) (dssx_cons0 (dsx_if0 (dt_cmp so_eq (op_eqU (hu64 hr)) (de_var 0) de_str) (dssx_one (DS.x (ds_ret (de_op so_sub op_sub (de_var 1) (de_op so_mul op_mulU (de_var 2) (de_var 3)))))) dssx_nil) (dssx_one (DS.x (ds_ret (de_if (dt_cmp so_eq (op_eqU (hu64 hr)) (de_var 0) de_str) (de_op so_fdivZ op_fdivZ (de_var 1) (de_var 2)) (de_op so_modZ op_modN (de_var 1) (de_var 2))))))))))⟩
theorem c_power {L : Nat} (g : Got K mg "power" s_power P_power) (z : Zs mg) (y : Ys K mg) (q : Qs K mg) : CalM P w K mg base (L + 1) "power" 2 (m_power NF RD) noGX [] := by
  have nd := sc_power.nd
  refine Got.cal (ps := P_power) (N := N_power) (ms := (seqM (ifSM (testM (opM (inD false) (varM 0) (tupM (consM (cM (.int 0)) (consM (cM (.int 1)) nilM))))) (retM (cbM intD (consM (orM (opM eqD (varM 0) (cM (.int 1))) (opM eqD (varM 1) (cM (.int 0)))) nilM))) passM) (seqM (ifSM (testM (opM eqD (varM 0) (negM (cM (.int 1))))) (retM (opM subD (cM (.int 1)) (opM mulD (cM (.int 2)) (opM modD (varM 1) (cM (.int 2)))))) passM) (seqM (asgM (cM (.int 1)) (nameG 2)) (seqM (forSM (rngI (consM (cbM minD (consM (varM 1) (consM (cM k_MOST_SHIFT) nilM))) nilM)) (nameG 3) (B_power_0 NF RD) NF) (retM (varM 2))))))) (xs := noX) g sc_power fun f cdv A outer s H E hr => ?_
  exact ⟨_, (dssx_cons0 (dsx_if0 (dt_cmp (so_in false) op_inU (de_var 0) (de_tup (da_cons de_int (da_cons de_int da_nil)))) (dssx_one (DS.x (ds_ret (de_callTy sc_int call_int1 z.«int» (da_cons (de_or (de_cmp so_eq (op_eqU (hu64 hr)) (de_var 0) de_int) (de_one (de_cmp so_eq (op_eqU (hu64 hr)) (de_var 1) de_int))) da_nil))))) dssx_nil) (dssx_cons0 (dsx_if0 (dt_cmp so_eq (op_eqU (hu64 hr)) (de_var 0) (de_neg de_int)) (dssx_one (DS.x (ds_ret (de_op so_sub op_sub de_int (de_op so_mul op_mulU de_int (de_op so_mod op_mod (de_var 1) de_int)))))) dssx_nil) (dssx_cons0 (DS.x (ds_set 2 de_int nd)) (dssx_cons0 (dsx_for0 NF (di_range1 (da_cons (de_callB sc_min (call_min2 rfl) z.«min» (da_cons (de_var 1) (da_cons y.g_MOST_SHIFT.de da_nil))) da_nil) z.«range») (dg_name 3 nd) (dssx_cons0 (DS.x (ds_set 2 (de_op so_mul op_mulU (de_var 2) (de_var 0)) nd)) (dssx_one (dsx_if0 (dt_cmp so_ge op_geU (de_callB sc_abs call_abs z.«abs» (da_cons (de_var 2) da_nil)) y.g_TOO_GREAT.de) (dssx_one (DS.x (ds_ret y.g_TOO_GREAT.de))) dssx_nil)))) (dssx_one (DS.x (ds_ret (de_var 2))))))))⟩
theorem c_with_two {L : Nat} (g : Got K mg "with_two" s_with_two P_with_two) (z : Zs mg) (y : Ys K mg) (q : Qs K mg) (c_divided : CalM P w K mg base L "divided" 3 (m_divided NF RD) noGX []) (c_divisor : CalM P w K mg base L "divisor" 2 (m_divisor NF RD) noGX []) (c_power : CalM P w K mg base L "power" 2 (m_power NF RD) noGX []) : CalM P w K mg base (L + 1) "with_two" 3 (m_with_two NF RD) noGX [] := by
  have nd := sc_with_two.nd
  refine Got.cal (ps := P_with_two) (N := N_with_two) (ms := (seqM (ifSM (testM (opM (inD false) (varM 0) (tupM (consM (cM (.str "+")) (consM (cM (.str "-")) nilM))))) (retM (ifM (testM (opM eqD (varM 0) (cM (.str "+")))) (opM addD (varM 1) (varM 2)) (opM subD (varM 1) (varM 2)))) passM) (seqM (ifSM (testM (opM eqD (varM 0) (cM (.str "*")))) (retM (opM mulD (varM 1) (varM 2))) passM) (seqM (ifSM (testM (opM (inD false) (varM 0) (tupM (consM (cM (.str "min")) (consM (cM (.str "max")) nilM))))) (retM (ifM (testM (opM eqD (varM 0) (cM (.str "min")))) (cbM minD (consM (varM 1) (consM (varM 2) nilM))) (cbM maxD (consM (varM 1) (consM (varM 2) nilM))))) passM) (seqM (ifSM (testM (opM eqD (varM 0) (cM (.str "gcd")))) (retM (callM 2 (m_divisor NF RD) [] (consM (varM 1) (consM (varM 2) nilM)))) passM) (seqM (ifSM (testM (opM (inD false) (varM 0) (tupM (consM (cM (.str "/\\")) (consM (cM (.str "\\/")) nilM))))) (retM (ifM (testM (opM eqD (varM 0) (cM (.str "/\\")))) (opM andBD (varM 1) (varM 2)) (opM orBD (varM 1) (varM 2)))) passM) (seqM (ifSM (testM (opM eqD (varM 0) (cM (.str "xor")))) (retM (opM xorBD (varM 1) (varM 2))) passM) (seqM (ifSM (testM (opM eqD (varM 0) (cM (.str "<<")))) (retM (ifM (tandM (testM (opM neD (varM 1) (cM (.int 0)))) (testM (opM gtD (varM 2) (cM k_MOST_SHIFT)))) (cM k_TOO_GREAT) (opM shlD (varM 1) (cbM minD (consM (varM 2) (consM (cM k_MOST_SHIFT) nilM)))))) passM) (seqM (ifSM (testM (opM eqD (varM 0) (cM (.str ">>")))) (retM (opM shrD (varM 1) (cbM minD (consM (varM 2) (consM (cM k_FAR_SHIFT) nilM))))) passM) (seqM (ifSM (testM (opM (inD false) (varM 0) (tupM (consM (cM (.str "**")) (consM (cM (.str "^")) nilM))))) (retM (ifM (testM (opM geD (varM 2) (cM (.int 0)))) (callM 2 (m_power NF RD) [] (consM (varM 1) (consM (varM 2) nilM))) (callM 2 (m_power NF RD) [] (consM (varM 1) (consM (negM (varM 2)) nilM))))) passM) (retM (callM 3 (m_divided NF RD) [] (consM (varM 0) (consM (varM 1) (consM (varM 2) nilM))))))))))))))) (xs := noX) g sc_with_two fun f cdv A outer s H E hr => ?_
  exact ⟨_, (dssx_cons0 (dsx_if0 (dt_cmp (so_in false) op_inU (de_var 0) (de_tup (da_cons de_str (da_cons de_str da_nil)))) (dssx_one (DS.x (ds_ret (de_if (dt_cmp so_eq (op_eqU (hu64 hr)) (de_var 0) de_str) (de_op so_add op_addU (de_var 1) (de_var 2)) (de_op so_sub op_sub (de_var 1) (de_var 2)))))) dssx_nil) (dssx_cons0 (dsx_if0 (dt_cmp so_eq (op_eqU (hu64 hr)) (de_var 0) de_str) (dssx_one (DS.x (ds_ret (de_op so_mul op_mulU (de_var 1) (de_var 2))))) dssx_nil) (dssx_cons0 (dsx_if0 (dt_cmp (so_in false) op_inU (de_var 0) (de_tup (da_cons de_str (da_cons de_str da_nil)))) (dssx_one (DS.x (ds_ret (de_if (dt_cmp so_eq (op_eqU (hu64 hr)) (de_var 0) de_str) (de_callB sc_min (call_min2 rfl) z.«min» (da_cons (de_var 1) (da_cons (de_var 2) da_nil))) (de_callB sc_max call_maxU z.«max» (da_cons (de_var 1) (da_cons (de_var 2) da_nil))))))) dssx_nil) (dssx_cons0 (dsx_if0 (dt_cmp so_eq (op_eqU (hu64 hr)) (de_var 0) de_str) (dssx_one (DS.x (ds_ret (de_call c_divisor hr (da_cons (de_var 1) (da_cons (de_var 2) da_nil)) (by omega))))) dssx_nil) (dssx_cons0 (dsx_if0 (dt_cmp (so_in false) op_inU (de_var 0) (de_tup (da_cons de_str (da_cons de_str da_nil)))) (dssx_one (DS.x (ds_ret (de_if (dt_cmp so_eq (op_eqU (hu64 hr)) (de_var 0) de_str) (de_op (so_bit Builtin.bitAnd) op_and (de_var 1) (de_var 2)) (de_op (so_bit Builtin.bitOr) op_or (de_var 1) (de_var 2)))))) dssx_nil) (dssx_cons0 (dsx_if0 (dt_cmp so_eq (op_eqU (hu64 hr)) (de_var 0) de_str) (dssx_one (DS.x (ds_ret (de_op (so_bit Builtin.bitXor) op_xor (de_var 1) (de_var 2))))) dssx_nil) (dssx_cons0 (dsx_if0 (dt_cmp so_eq (op_eqU (hu64 hr)) (de_var 0) de_str) (dssx_one (DS.x (ds_ret (de_if (dt_w (dw_and (dt_cmp so_ne (op_neU (hu64 hr)) (de_var 1) de_int) (dw_and1 (dt_cmp so_gt op_gtU (de_var 2) y.g_MOST_SHIFT.de)))) y.g_TOO_GREAT.de (de_op so_shl op_shlW (de_var 1) (de_callB sc_min (call_min2 rfl) z.«min» (da_cons (de_var 2) (da_cons y.g_MOST_SHIFT.de da_nil)))))))) dssx_nil) (dssx_cons0 (dsx_if0 (dt_cmp so_eq (op_eqU (hu64 hr)) (de_var 0) de_str) (dssx_one (DS.x (ds_ret (de_op so_shr op_shr (de_var 1) (de_callB sc_min (call_min2 rfl) z.«min» (da_cons (de_var 2) (da_cons y.g_FAR_SHIFT.de da_nil))))))) dssx_nil) (dssx_cons0 (dsx_if0 (dt_cmp (so_in false) op_inU (de_var 0) (de_tup (da_cons de_str (da_cons de_str da_nil)))) (dssx_one (DS.x (ds_ret (de_if (dt_cmp so_ge op_geU (de_var 2) de_int) (de_call c_power hr (da_cons (de_var 1) (da_cons (de_var 2) da_nil)) (by omega)) (de_call c_power hr (da_cons (de_var 1) (da_cons (de_neg (de_var 2)) da_nil)) (by omega)))))) dssx_nil) (dssx_one (DS.x (ds_ret (de_call c_divided hr (da_cons (de_var 0) (da_cons (de_var 1) (da_cons (de_var 2) da_nil))) (by omega))))))))))))))⟩
theorem c_fault_of {L : Nat} (g : Got K mg "fault_of" s_fault_of P_fault_of) (z : Zs mg) (y : Ys K mg) (q : Qs K mg) : CalM P w K mg base (L + 1) "fault_of" 2 (m_fault_of NF RD) noGX [] := by
  have nd := sc_fault_of.nd
  refine Got.cal (ps := P_fault_of) (N := N_fault_of) (ms := (seqM (ifSM (testM (opM eqD (varM 0) (cM (.str "msb")))) (retM (ifM (testM (opM ltD (opM subsD (varM 1) (cM (.int 0))) (cM (.int 1)))) (tupM (consM (cM (.str "type_error")) (consM (cM (.str "not_less_than_one")) (consM (opM subsD (varM 1) (cM (.int 0))) nilM)))) (cM .non))) passM) (seqM (ifSM (testM (opM eqD (cbM lenD (consM (varM 1) nilM)) (cM (.int 1)))) (retM (cM .non)) passM) (seqM (asgM (varM 1) (uplG 2 (consG (nameG 2) (consG (nameG 3) nilG)))) (seqM (ifSM (tandM (testM (opM (inD false) (varM 0) (tupM (consM (cM (.str "//")) (consM (cM (.str "div")) (consM (cM (.str "mod")) (consM (cM (.str "rem")) nilM))))))) (testM (opM eqD (varM 3) (cM (.int 0))))) (retM (tupM (consM (cM (.str "evaluation_error")) (consM (cM (.str "zero_divisor")) nilM)))) passM) (seqM (ifSM (tandM (testM (opM (inD false) (varM 0) (tupM (consM (cM (.str "<<")) (consM (cM (.str ">>")) nilM))))) (testM (opM ltD (varM 3) (cM (.int 0))))) (retM (tupM (consM (cM (.str "domain_error")) (consM (cM (.str "not_less_than_zero")) (consM (varM 3) nilM))))) passM) (seqM (ifSM (tandM (testM (opM (inD false) (varM 0) (tupM (consM (cM (.str "**")) (consM (cM (.str "^")) nilM))))) (tandM (testM (opM ltD (varM 3) (cM (.int 0)))) (testM (opM (inD true) (varM 2) (tupM (consM (cM (.int 1)) (consM (negM (cM (.int 1))) nilM))))))) (retM (ifM (testM (opM eqD (varM 2) (cM (.int 0)))) (tupM (consM (cM (.str "evaluation_error")) (consM (cM (.str "zero_divisor")) nilM))) (tupM (consM (cM (.str "type_error")) (consM (cM (.str "float")) (consM (varM 2) nilM)))))) passM) (retM (cM .non))))))))) (xs := noX) g sc_fault_of fun f cdv A outer s H E hr => ?_
  exact ⟨_, (dssx_cons0 (dsx_if0 (dt_cmp so_eq (op_eqU (hu64 hr)) (de_var 0) de_str) (dssx_one (DS.x (ds_ret (de_if (dt_cmp so_lt op_ltU (de_sub (de_var 1) de_int (hu1 hr)) de_int) (de_tup (da_cons de_str (da_cons de_str (da_cons (de_sub (de_var 1) de_int (hu1 hr)) da_nil)))) de_non)))) dssx_nil) (dssx_cons0 (dsx_if0 (dt_cmp so_eq (op_eqU (hu64 hr)) (de_callB sc_len call_lenU z.«len» (da_cons (de_var 1) da_nil)) de_int) (dssx_one (DS.x (ds_ret de_non))) dssx_nil) (dssx_cons0 (DS.x (ds_asg (de_var 1) (dg_upl (n := 2) (dgs_cons (dg_name 2 nd) (dgs_cons (dg_name 3 nd) dgs_nil))))) (dssx_cons0 (dsx_if0 (dt_w (dw_and (dt_cmp (so_in false) op_inU (de_var 0) (de_tup (da_cons de_str (da_cons de_str (da_cons de_str (da_cons de_str da_nil)))))) (dw_and1 (dt_cmp so_eq (op_eqU (hu64 hr)) (de_var 3) de_int)))) (dssx_one (DS.x (ds_ret (de_tup (da_cons de_str (da_cons de_str da_nil)))))) dssx_nil) (dssx_cons0 (dsx_if0 (dt_w (dw_and (dt_cmp (so_in false) op_inU (de_var 0) (de_tup (da_cons de_str (da_cons de_str da_nil)))) (dw_and1 (dt_cmp so_lt op_ltU (de_var 3) de_int)))) (dssx_one (DS.x (ds_ret (de_tup (da_cons de_str (da_cons de_str (da_cons (de_var 3) da_nil))))))) dssx_nil) (dssx_cons0 (dsx_if0 (dt_w (dw_and (dt_cmp (so_in false) op_inU (de_var 0) (de_tup (da_cons de_str (da_cons de_str da_nil)))) (dw_and (dt_cmp so_lt op_ltU (de_var 3) de_int) (dw_and1 (dt_cmp (so_in true) op_niU (de_var 2) (de_tup (da_cons de_int (da_cons (de_neg de_int) da_nil)))))))) (dssx_one (DS.x (ds_ret (de_if (dt_cmp so_eq (op_eqU (hu64 hr)) (de_var 2) de_int) (de_tup (da_cons de_str (da_cons de_str da_nil))) (de_tup (da_cons de_str (da_cons de_str (da_cons (de_var 2) da_nil)))))))) dssx_nil) (dssx_one (DS.x (ds_ret de_non)))))))))⟩
theorem c_is_known {L : Nat} (g : Got K mg "is_known" s_is_known P_is_known) (z : Zs mg) (y : Ys K mg) (q : Qs K mg) : CalM P w K mg base (L + 1) "is_known" 2 (m_is_known NF RD) noGX [] := by
  have nd := sc_is_known.nd
  refine Got.cal (ps := P_is_known) (N := N_is_known) (ms := (retM (orM (andM (opM eqD (varM 1) (cM (.int 1))) (opM (inD false) (varM 0) (cM k_ONE))) (andM (opM eqD (varM 1) (cM (.int 2))) (opM (inD false) (varM 0) (cM k_TWO)))))) (xs := noX) g sc_is_known fun f cdv A outer s H E hr => ?_
  exact ⟨_, (dssx_one (DS.x (ds_ret (de_or (de_and (de_cmp so_eq (op_eqU (hu64 hr)) (de_var 1) de_int) (de_one (de_cmp (so_in false) op_inU (de_var 0) y.g_ONE.de))) (de_one (de_and (de_cmp so_eq (op_eqU (hu64 hr)) (de_var 1) de_int) (de_one (de_cmp (so_in false) op_inU (de_var 0) y.g_TWO.de))))))))⟩
theorem c_first_fault {L : Nat} (g : Got K mg "first_fault" s_first_fault P_first_fault) (z : Zs mg) (y : Ys K mg) (q : Qs K mg) (c_is_variable : CalM P w K mg base L "is_variable" 1 (m_is_variable NF RD) noGX []) (c_is_int : CalM P w K mg base L "is_int" 1 (m_is_int NF RD) noGX []) (c_is_known : CalM P w K mg base L "is_known" 2 (m_is_known NF RD) noGX []) : CalM P w K mg base (L + 1) "first_fault" 1 (m_first_fault NF RD) noGX [] := by
  have nd := sc_first_fault.nd
  refine Got.cal (ps := P_first_fault) (N := N_first_fault) (ms := (seqM (ifSM (truM (callM 1 (m_is_variable NF RD) [] (consM (varM 0) nilM))) (retM (cM (.str "instantiation_error"))) passM) (seqM (ifSM (truM (callM 1 (m_is_int NF RD) [] (consM (varM 0) nilM))) (retM (cM .non)) passM) (seqM (ifSM (truM (cbM isiD (consM (varM 0) (consM (cM (.ty "str")) nilM)))) (retM (tupM (consM (cM (.str "type_error")) (consM (cM (.str "evaluable")) (consM (tupM (consM (cM (.str "/")) (consM (varM 0) (consM (cM (.int 0)) nilM)))) nilM))))) passM) (seqM (asgM (opM subD (cbM lenD (consM (varM 0) nilM)) (cM (.int 1))) (nameG 1)) (retM (ifM (truM (callM 2 (m_is_known NF RD) [] (consM (opM subsD (varM 0) (cM (.int 0))) (consM (varM 1) nilM)))) (cM .non) (tupM (consM (cM (.str "type_error")) (consM (cM (.str "evaluable")) (consM (tupM (consM (cM (.str "/")) (consM (opM subsD (varM 0) (cM (.int 0))) (consM (varM 1) nilM)))) nilM))))))))))) (xs := noX) g sc_first_fault fun f cdv A outer s H E hr => ?_
  exact ⟨_, (dssx_cons0 (dsx_if0 (dt_tru (de_call c_is_variable hr (da_cons (de_var 0) da_nil) (by omega))) (dssx_one (DS.x (ds_ret de_str))) dssx_nil) (dssx_cons0 (dsx_if0 (dt_tru (de_call c_is_int hr (da_cons (de_var 0) da_nil) (by omega))) (dssx_one (DS.x (ds_ret de_non))) dssx_nil) (dssx_cons0 (dsx_if0 (dt_tru (de_callB sc_isi call_isiU z.«isinstance» (da_cons (de_var 0) (da_cons (de_ty z.«str») da_nil)))) (dssx_one (DS.x (ds_ret (de_tup (da_cons de_str (da_cons de_str (da_cons (de_tup (da_cons de_str (da_cons (de_var 0) (da_cons de_int da_nil)))) da_nil))))))) dssx_nil) (dssx_cons0 (DS.x (ds_set 1 (de_op so_sub op_sub (de_callB sc_len call_lenU z.«len» (da_cons (de_var 0) da_nil)) de_int) nd)) (dssx_one (DS.x (ds_ret (de_if (dt_tru (de_call c_is_known hr (da_cons (de_sub (de_var 0) de_int (hu1 hr)) (da_cons (de_var 1) da_nil)) (by omega))) de_non (de_tup (da_cons de_str (da_cons de_str (da_cons (de_tup (da_cons de_str (da_cons (de_sub (de_var 0) de_int (hu1 hr)) (da_cons (de_var 1) da_nil)))) da_nil))))))))))))⟩
theorem c_value_of {L : Nat} (g : Got K mg "value_of" s_value_of P_value_of) (z : Zs mg) (y : Ys K mg) (q : Qs K mg) (c_first_fault : CalM P w K mg base L "first_fault" 1 (m_first_fault NF RD) noGX []) (c_fault_of : CalM P w K mg base L "fault_of" 2 (m_fault_of NF RD) noGX []) (c_is_int : CalM P w K mg base L "is_int" 1 (m_is_int NF RD) noGX []) (c_with_one : CalM P w K mg base L "with_one" 2 (m_with_one NF RD) noGX []) (c_with_two : CalM P w K mg base L "with_two" 3 (m_with_two NF RD) noGX []) : CalM P w K mg base (L + 1) "value_of" 1 (m_value_of NF RD) noGX [] := by
  have nd := sc_value_of.nd
  refine Got.cal (ps := P_value_of) (N := N_value_of) (ms := (seqM (parM 1 2 (consM (lstM nilM) (consM (lstM (consM (tupM (consM (varM 0) (consM (cM (.bl false)) nilM))) nilM)) nilM))) (seqM (whileM (C_value_of_1 NF RD) (B_value_of_2 NF RD) NF) (retM (tupM (consM (cM (.str "value")) (consM (opM subsD (varM 1) (cM (.int 0))) nilM))))))) (xs := noX) g sc_value_of fun f cdv A outer s H E hr => ?_
  exact ⟨_, (dssx_cons0 (DS.x (ds_par 1 2 (da_cons (de_lst da_nil) (da_cons (de_lst (da_cons (de_tup (da_cons (de_var 0) (da_cons de_bl da_nil))) da_nil)) da_nil)) nd)) (dssx_cons0 (dsx_while0 NF (dt_cmp so_ne (op_neU (hu64 hr)) (de_var 2) (de_lst da_nil)) (dssx_cons0 (DS.x (ds_asg (de_bm0 sm_pop PySem.F.plainAttrs_list PySem.F.slot_list_pop PySem.F.type_list_pop mt_pop (de_var 2)) (dg_tup (n := 2) (dgs_cons (dg_name 3 nd) (dgs_cons (dg_name 4 nd) dgs_nil))))) (dssx_cons0 (DS.x (ds_set 5 (de_if (dt_tru (de_var 4)) de_non (de_call c_first_fault hr (da_cons (de_var 3) da_nil) (by omega))) nd)) (dssx_cons0 (dsx_if0 (dt_tru (de_var 4)) (dssx_cons0 (DS.x (ds_set 6 (de_op so_sub op_sub (de_callB sc_len call_lenU z.«len» (da_cons (de_var 3) da_nil)) de_int) nd)) (dssx_cons0 (DS.x (ds_par 7 1 (da_cons (de_slice (de_var 1) (do_some (de_neg (de_var 6))) do_none) (da_cons (de_slice (de_var 1) do_none (do_some (de_neg (de_var 6)))) da_nil)) nd)) (dssx_cons0 (DS.x (ds_set 5 (de_call c_fault_of hr (da_cons (de_sub (de_var 3) de_int (hu1 hr)) (da_cons (de_var 7) da_nil)) (by omega)) nd)) (dssx_one (dsx_if0 (dt_cmp so_is op_is0 (de_var 5) de_non) (dssx_cons0 (DS.x (ds_set 8 (de_if (dt_cmp so_eq (op_eqU (hu64 hr)) (de_var 6) de_int) (de_call c_with_one hr (da_cons (de_sub (de_var 3) de_int (hu1 hr)) (da_cons (de_sub (de_var 7) de_int (hu1 hr)) da_nil)) (by omega)) (de_call c_with_two hr (da_cons (de_sub (de_var 3) de_int (hu1 hr)) (da_cons (de_sub (de_var 7) de_int (hu1 hr)) (da_cons (de_sub (de_var 7) de_int (hu1 hr)) da_nil))) (by omega))) nd)) (dssx_cons0 (DS.x (ds_set 5 (de_if (dt_cmp so_ge op_geU (de_callB sc_abs call_abs z.«abs» (da_cons (de_var 8) da_nil)) y.g_TOO_GREAT.de) (de_tup (da_cons de_str (da_cons de_str da_nil))) de_non) nd)) (dssx_one (DS.x (ds_expr (de_bm sm_append PySem.F.plainAttrs_list PySem.F.slot_list_append PySem.F.type_list_append mt_append (de_var 1) (da_cons (de_var 8) da_nil))))))) dssx_nil))))) (dssx_one (dsx_if0 (dt_w (dw_and (dt_cmp so_is op_is0 (de_var 5) de_non) (dw_and1 (dt_tru (de_call c_is_int hr (da_cons (de_var 3) da_nil) (by omega)))))) (dssx_one (DS.x (ds_expr (de_bm sm_append PySem.F.plainAttrs_list PySem.F.slot_list_append PySem.F.type_list_append mt_append (de_var 1) (da_cons (de_var 3) da_nil))))) (dssx_one (dsx_if0 (dt_cmp so_is op_is0 (de_var 5) de_non) (dssx_cons0 (DS.x (ds_expr (de_bm sm_append PySem.F.plainAttrs_list PySem.F.slot_list_append PySem.F.type_list_append mt_append (de_var 2) (da_cons (de_tup (da_cons (de_var 3) (da_cons de_bl da_nil))) da_nil)))) (dssx_one (DS.x (ds_expr (de_bm sm_extend PySem.F.plainAttrs_list PySem.F.slot_list_extend PySem.F.type_list_extend mt_extU (de_var 2) (da_cons (de_lc (own := [("argument", 9)]) NF nd (di_rev (de_slice (de_var 3) (do_some de_int) do_none) z.«reversed») (blkOk_by (N := N_value_of) (sc := (defScope s_value_of)) (by decide +kernel)) (only_name (by decide)) (fun _ _ _ _ _ => (dg_name 9 nd)) (fun _ _ _ _ _ => dts_nil) (fun _ _ _ _ _ => (de_tup (da_cons (de_var 9) (da_cons de_bl da_nil))))) da_nil)))))) dssx_nil))))) (dssx_one (dsx_if0 (dt_cmp so_isnt op_isnt0 (de_var 5) de_non) (dssx_one (DS.x (ds_ret (de_tup (da_cons de_str (da_cons (de_var 5) da_nil)))))) dssx_nil)))))) (dssx_one (DS.x (ds_ret (de_tup (da_cons de_str (da_cons (de_sub (de_var 1) de_int (hu1 hr)) da_nil))))))))⟩
theorem c_reckoned {L : Nat} (g : Got K mg "reckoned" s_reckoned P_reckoned) (z : Zs mg) (y : Ys K mg) (q : Qs K mg) (c_check_terms : CalM P w K mg base L "check_terms" 1 (m_check_terms NF RD) (x_check_terms NF RD) []) (c_value_of : CalM P w K mg base L "value_of" 1 (m_value_of NF RD) noGX []) : CalM P w K mg base (L + 1) "reckoned" 1 (m_reckoned NF RD) (x_reckoned NF RD) [] := by
  have nd := sc_reckoned.nd
  refine Got.cal (ps := P_reckoned) (N := N_reckoned) (ms := (seqM (exprM (callM 1 (m_check_terms NF RD) [] (consM (lstM (consM (varM 0) nilM)) nilM))) (retM (callM 1 (m_value_of NF RD) [] (consM (varM 0) nilM))))) (xs := (seqX (callX 1 (x_check_terms NF RD) [] (consM (lstM (consM (varM 0) nilM)) nilM)) (exprM (callM 1 (m_check_terms NF RD) [] (consM (lstM (consM (varM 0) nilM)) nilM))) noX)) g sc_reckoned fun f cdv A outer s H E hr => ?_
  exact ⟨_, (dssx_cons (dsx_expr (dx_call c_check_terms hr (da_cons (de_lst (da_cons (de_var 0) da_nil)) da_nil) (by omega))) (dssx_one (DS.x (ds_ret (de_call c_value_of hr (da_cons (de_var 0) da_nil) (by omega))))))⟩
theorem c__law_source_of {L : Nat} (g : Got K mg "_law_source_of" s__law_source_of P__law_source_of) (z : Zs mg) (y : Ys K mg) (q : Qs K mg) : CalM P w K mg base (L + 1) "_law_source_of" 1 (m__law_source_of NF RD) noGX [] := by
  have nd := sc__law_source_of.nd
  refine Got.cal (ps := P__law_source_of) (N := N__law_source_of) (ms := (seqM (asgM (ifM (testM (opM geD (varM 0) (cM (.int 0)))) (varM 0) (opM subD (opM subD (cM (.int 0)) (opM mulD (cM (.int 3)) (varM 0))) (cM (.int 1)))) (nameG 0)) (retM (lstM (consM (opM mulD (varM 0) (cbM intD (consM (opM geD (varM 0) (opM powD (cM (.int 10)) (cM (.int 18)))) nilM))) (consM (opM modD (cbM intD (consM (varM 0) nilM)) (cM (.int 2147483647))) (consM (cM (.int 0)) nilM))))))) (xs := noX) g sc__law_source_of fun f cdv A outer s H E hr => ?_
  exact ⟨_, (dssx_cons0 (DS.x (ds_set 0 (de_if (dt_cmp so_ge op_geU (de_var 0) de_int) (de_var 0) (de_op so_sub op_sub (de_op so_sub op_sub de_int (de_op so_mul op_mulU de_int (de_var 0))) de_int)) nd)) (dssx_one (DS.x (ds_ret (de_lst (da_cons (de_op so_mul op_mulU (de_var 0) (de_callTy sc_int call_int1 z.«int» (da_cons (de_cmp so_ge op_geU (de_var 0) (de_op so_pow op_powW de_int de_int)) da_nil))) (da_cons (de_op so_mod op_mod (de_callTy sc_int call_int1 z.«int» (da_cons (de_var 0) da_nil)) de_int) (da_cons de_int da_nil))))))))⟩
theorem c__law_next {L : Nat} (g : Got K mg "_law_next" s__law_next P__law_next) (z : Zs mg) (y : Ys K mg) (q : Qs K mg) : CalM P w K mg base (L + 1) "_law_next" 2 (m__law_next NF RD) noGX [] := by
  have nd := sc__law_next.nd
  refine Got.cal (ps := P__law_next) (N := N__law_next) (ms := (seqM (ifSM (testM (opM gtD (opM subsD (varM 0) (cM (.int 0))) (cM (.int 0)))) (seqM (asgM (opM modZD (cbM intD (consM (opM subsD (varM 0) (cM (.int 0))) nilM)) (varM 1)) (nameG 2)) (seqM (setD (varM 0) (cM (.int 0)) (opM fdivZD (opM subsD (varM 0) (cM (.int 0))) (varM 1))) (retM (varM 2)))) passM) (seqM (setD (varM 0) (cM (.int 2)) (opM addD (opM subsD (varM 0) (cM (.int 2))) (cM (.int 1)))) (seqM (asgM (cM (.int 2147483647)) (nameG 3)) (seqM (asgM (opM modZD (cbM intD (consM (opM addD (opM addD (opM subsD (varM 0) (cM (.int 1))) (opM mulD (cM (.int 104729)) (opM subsD (varM 0) (cM (.int 2))))) (cM (.int 7919))) nilM)) (varM 3)) (nameG 4)) (seqM (asgM (opM modZD (cbM intD (consM (opM mulD (varM 4) (cM (.int 48271))) nilM)) (varM 3)) (nameG 4)) (seqM (asgM (opM modZD (cbM intD (consM (opM mulD (varM 4) (opM addD (opM fdivD (varM 4) (cM (.int 1009))) (cM (.int 69621)))) nilM)) (varM 3)) (nameG 4)) (seqM (asgM (opM modD (cbM intD (consM (opM mulD (varM 4) (opM addD (opM fdivD (varM 4) (cM (.int 2003))) (cM (.int 40692)))) nilM)) (cM (.int 2147483399))) (nameG 4)) (retM (opM modZD (cbM intD (consM (opM fdivD (varM 4) (cM (.int 7))) nilM)) (varM 1))))))))))) (xs := noX) g sc__law_next fun f cdv A outer s H E hr => ?_
  exact ⟨_, (dssx_cons0 (dsx_if0 (dt_cmp so_gt op_gtU (de_sub (de_var 0) de_int (hu1 hr)) de_int) (dssx_cons0 (DS.x (ds_set 2 (de_op so_modZ op_modN (de_callTy sc_int call_int1 z.«int» (da_cons (de_sub (de_var 0) de_int (hu1 hr)) da_nil)) (de_var 1)) nd)) (dssx_cons0 (DS.x (ds_put (de_var 0) de_int (de_op so_fdivZ op_fdivZ (de_sub (de_var 0) de_int (hu1 hr)) (de_var 1)) (hu1 hr))) (dssx_one (DS.x (ds_ret (de_var 2)))))) dssx_nil) (dssx_cons0 (DS.x (ds_put (de_var 0) de_int (de_op so_add op_addU (de_sub (de_var 0) de_int (hu1 hr)) de_int) (hu1 hr))) (dssx_cons0 (DS.x (ds_set 3 de_int nd)) (dssx_cons0 (DS.x (ds_set 4 (de_op so_modZ op_modN (de_callTy sc_int call_int1 z.«int» (da_cons (de_op so_add op_addU (de_op so_add op_addU (de_sub (de_var 0) de_int (hu1 hr)) (de_op so_mul op_mulU de_int (de_sub (de_var 0) de_int (hu1 hr)))) de_int) da_nil)) (de_var 3)) nd)) (dssx_cons0 (DS.x (ds_set 4 (de_op so_modZ op_modN (de_callTy sc_int call_int1 z.«int» (da_cons (de_op so_mul op_mulU (de_var 4) de_int) da_nil)) (de_var 3)) nd)) (dssx_cons0 (DS.x (ds_set 4 (de_op so_modZ op_modN (de_callTy sc_int call_int1 z.«int» (da_cons (de_op so_mul op_mulU (de_var 4) (de_op so_add op_addU (de_op so_fdiv op_fdivW (de_var 4) de_int) de_int)) da_nil)) (de_var 3)) nd)) (dssx_cons0 (DS.x (ds_set 4 (de_op so_mod op_mod (de_callTy sc_int call_int1 z.«int» (da_cons (de_op so_mul op_mulU (de_var 4) (de_op so_add op_addU (de_op so_fdiv op_fdivW (de_var 4) de_int) de_int)) da_nil)) de_int) nd)) (dssx_one (DS.x (ds_ret (de_op so_modZ op_modN (de_callTy sc_int call_int1 z.«int» (da_cons (de_op so_fdiv op_fdivW (de_var 4) de_int) da_nil)) (de_var 1))))))))))))⟩
theorem c__law_one {L : Nat} (g : Got K mg "_law_one" s__law_one P__law_one) (z : Zs mg) (y : Ys K mg) (q : Qs K mg) (c__law_next : CalM P w K mg base L "_law_next" 2 (m__law_next NF RD) noGX []) : CalM P w K mg base (L + 1) "_law_one" 2 (m__law_one NF RD) noGX [] := by
  have nd := sc__law_one.nd
  refine Got.cal (ps := P__law_one) (N := N__law_one) (ms := (retM (opM subsD (varM 1) (callM 2 (m__law_next NF RD) [] (consM (varM 0) (consM (cbM lenD (consM (varM 1) nilM)) nilM)))))) (xs := noX) g sc__law_one fun f cdv A outer s H E hr => ?_
  exact ⟨_, (dssx_one (DS.x (ds_ret (de_sub (de_var 1) (de_call c__law_next hr (da_cons (de_var 0) (da_cons (de_callB sc_len call_lenU z.«len» (da_cons (de_var 1) da_nil)) da_nil)) (by omega)) (hu1 hr)))))⟩
theorem c__law_top {L : Nat} (g : Got K mg "_law_top" s__law_top P__law_top) (z : Zs mg) (y : Ys K mg) (q : Qs K mg) : CalM P w K mg base (L + 1) "_law_top" 0 (m__law_top NF RD) noGX [] := by
  have nd := sc__law_top.nd
  refine Got.cal (ps := P__law_top) (N := N__law_top) (ms := (seqM (asgM (opM powD (cM (.int 10)) (cM (.int 60))) (nameG 0)) (retM (opM mulD (opM mulD (opM mulD (opM mulD (varM 0) (varM 0)) (varM 0)) (varM 0)) (varM 0))))) (xs := noX) g sc__law_top fun f cdv A outer s H E hr => ?_
  exact ⟨_, (dssx_cons0 (DS.x (ds_set 0 (de_op so_pow op_powW de_int de_int) nd)) (dssx_one (DS.x (ds_ret (de_op so_mul op_mulU (de_op so_mul op_mulU (de_op so_mul op_mulU (de_op so_mul op_mulU (de_var 0) (de_var 0)) (de_var 0)) (de_var 0)) (de_var 0))))))⟩
theorem c__law_of {L : Nat} (g : Got K mg "_law_of" s__law_of P__law_of) (z : Zs mg) (y : Ys K mg) (q : Qs K mg) (c_reckoned : CalM P w K mg base L "reckoned" 1 (m_reckoned NF RD) (x_reckoned NF RD) []) : CalM P w K mg base (L + 1) "_law_of" 3 (m__law_of NF RD) noGX [] := by
  have nd := sc__law_of.nd
  refine Got.cal (ps := P__law_of) (N := N__law_of) (ms := (seqM (asgM (callM 1 (frM (m_reckoned NF RD)) [] (consM (tupM (consM (varM 0) (consM (varM 1) (consM (varM 2) nilM)))) nilM)) (nameG 3)) (retM (ifM (testM (opM eqD (opM subsD (varM 3) (cM (.int 0))) (cM (.str "value")))) (opM subsD (varM 3) (cM (.int 1))) (cM .non))))) (xs := noX) g sc__law_of fun f cdv A outer s H E hr => ?_
  exact ⟨_, (DSsX.no (dssx_cons (dsx_set 3 (dx_call c_reckoned.fr hr (da_cons (de_tup (da_cons (de_var 0) (da_cons (de_var 1) (da_cons (de_var 2) da_nil)))) da_nil) (by omega)) nd) (dssx_one (DS.x (ds_ret (de_if (dt_cmp so_eq (op_eqU (hu64 hr)) (de_sub (de_var 3) de_int (hu1 hr)) de_str) (de_sub (de_var 3) de_int (hu1 hr)) de_non))))))⟩
theorem c__law_number {L : Nat} (g : Got K mg "_law_number" s__law_number P__law_number) (z : Zs mg) (y : Ys K mg) (q : Qs K mg) (c__law_one : CalM P w K mg base L "_law_one" 2 (m__law_one NF RD) noGX []) (c__law_next : CalM P w K mg base L "_law_next" 2 (m__law_next NF RD) noGX []) : CalM P w K mg base (L + 1) "_law_number" 1 (m__law_number NF RD) noGX [] := by
  have nd := sc__law_number.nd
  refine Got.cal (ps := P__law_number) (N := N__law_number) (ms := (seqM (asgM (callM 2 (m__law_one NF RD) [] (consM (varM 0) (consM (lstM (consM (cM (.int 4)) (consM (cM (.int 100)) (consM (opM powD (cM (.int 10)) (cM (.int 10))) (consM (opM mulD (opM powD (cM (.int 10)) (cM (.int 50))) (opM powD (cM (.int 10)) (cM (.int 50)))) nilM))))) nilM))) (nameG 1)) (retM (opM mulD (callM 2 (m__law_next NF RD) [] (consM (varM 0) (consM (varM 1) nilM))) (callM 2 (m__law_one NF RD) [] (consM (varM 0) (consM (lstM (consM (cM (.int 1)) (consM (opM subD (cM (.int 0)) (cM (.int 1))) nilM))) nilM))))))) (xs := noX) g sc__law_number fun f cdv A outer s H E hr => ?_
  exact ⟨_, (dssx_cons0 (DS.x (ds_set 1 (de_call c__law_one hr (da_cons (de_var 0) (da_cons (de_lst (da_cons de_int (da_cons de_int (da_cons (de_op so_pow op_powW de_int de_int) (da_cons (de_op so_mul op_mulU (de_op so_pow op_powW de_int de_int) (de_op so_pow op_powW de_int de_int)) da_nil))))) da_nil)) (by omega)) nd)) (dssx_one (DS.x (ds_ret (de_op so_mul op_mulU (de_call c__law_next hr (da_cons (de_var 0) (da_cons (de_var 1) da_nil)) (by omega)) (de_call c__law_one hr (da_cons (de_var 0) (da_cons (de_lst (da_cons de_int (da_cons (de_op so_sub op_sub de_int de_int) da_nil))) da_nil)) (by omega)))))))⟩
theorem c__law_divisions_right {L : Nat} (g : Got K mg "_law_divisions_right" s__law_divisions_right P__law_divisions_right) (z : Zs mg) (y : Ys K mg) (q : Qs K mg) (c__law_of : CalM P w K mg base L "_law_of" 3 (m__law_of NF RD) noGX []) (c_reckoned : CalM P w K mg base L "reckoned" 1 (m_reckoned NF RD) (x_reckoned NF RD) []) : CalM P w K mg base (L + 1) "_law_divisions_right" 2 (m__law_divisions_right NF RD) noGX [] := by
  have nd := sc__law_divisions_right.nd
  refine Got.cal (ps := P__law_divisions_right) (N := N__law_divisions_right) (ms := (seqM (ifSM (testM (opM eqD (varM 1) (cM (.int 0)))) (seqM (asgM (lcM (seqI (tupM (consM (cM (.str "//")) (consM (cM (.str "div")) (consM (cM (.str "mod")) (consM (cM (.str "rem")) nilM)))))) (nameG 7) yesM (E__law_divisions_right_0 NF RD) [7] NF) (nameG 2)) (retM (opM eqD (varM 2) (opM mulD (lstM (consM (tupM (consM (cM (.str "error")) (consM (tupM (consM (cM (.str "evaluation_error")) (consM (cM (.str "zero_divisor")) nilM))) nilM))) nilM)) (cM (.int 4)))))) passM) (seqM (parM 3 4 (consM (callM 3 (frM (m__law_of NF RD)) [] (consM (cM (.str "//")) (consM (varM 0) (consM (varM 1) nilM)))) (consM (callM 3 (frM (m__law_of NF RD)) [] (consM (cM (.str "div")) (consM (varM 0) (consM (varM 1) nilM)))) nilM))) (seqM (parM 5 6 (consM (callM 3 (frM (m__law_of NF RD)) [] (consM (cM (.str "mod")) (consM (varM 0) (consM (varM 1) nilM)))) (consM (callM 3 (frM (m__law_of NF RD)) [] (consM (cM (.str "rem")) (consM (varM 0) (consM (varM 1) nilM)))) nilM))) (seqM (ifSM (torM (testM (opM neD (opM addD (opM mulD (varM 3) (varM 1)) (varM 6)) (varM 0))) (testM (opM neD (opM addD (opM mulD (varM 4) (varM 1)) (varM 5)) (varM 0)))) (retM (cM (.bl false))) passM) (seqM (ifSM (torM (testM (opM geD (cbM absD (consM (varM 6) nilM)) (cbM absD (consM (varM 1) nilM)))) (testM (opM geD (cbM absD (consM (varM 5) nilM)) (cbM absD (consM (varM 1) nilM))))) (retM (cM (.bl false))) passM) (seqM (ifSM (torM (tandM (testM (opM neD (varM 5) (cM (.int 0)))) (testM (opM neD (opM gtD (varM 5) (cM (.int 0))) (opM gtD (varM 1) (cM (.int 0)))))) (tandM (testM (opM neD (varM 6) (cM (.int 0)))) (testM (opM neD (opM gtD (varM 6) (cM (.int 0))) (opM gtD (varM 0) (cM (.int 0))))))) (retM (cM (.bl false))) passM) (retM (opM eqD (opM subD (varM 3) (varM 4)) (cbM intD (consM (opM neD (varM 6) (varM 5)) nilM))))))))))) (xs := noX) g sc__law_divisions_right fun f cdv A outer s H E hr => ?_
  exact ⟨_, (dssx_cons0 (dsx_if0 (dt_cmp so_eq (op_eqU (hu64 hr)) (de_var 1) de_int) (dssx_cons0 (DS.x (ds_setLc (own := [("name", 7)]) 2 NF nd (di_seq (de_tup (da_cons de_str (da_cons de_str (da_cons de_str (da_cons de_str da_nil)))))) (blkOk_by (N := N__law_divisions_right) (sc := (defScope s__law_divisions_right)) (by decide +kernel)) (only_name (by decide)) (fun _ _ _ _ _ => (dg_name 7 nd)) (fun _ _ _ _ _ => dts_nil) (fun _ _ _ _ _ => (de_call c_reckoned.fr hr (da_cons (de_tup (da_cons (de_var 7) (da_cons (de_var 0) (da_cons (de_var 1) da_nil)))) da_nil) (by omega))) (by decide +kernel))) (dssx_one (DS.x (ds_ret (de_cmp so_eq (op_eqU (hu64 hr)) (de_var 2) (de_op so_mul op_mulU (de_lst (da_cons (de_tup (da_cons de_str (da_cons (de_tup (da_cons de_str (da_cons de_str da_nil))) da_nil))) da_nil)) de_int)))))) dssx_nil) (dssx_cons0 (DS.x (ds_par 3 4 (da_cons (de_call c__law_of.fr hr (da_cons de_str (da_cons (de_var 0) (da_cons (de_var 1) da_nil))) (by omega)) (da_cons (de_call c__law_of.fr hr (da_cons de_str (da_cons (de_var 0) (da_cons (de_var 1) da_nil))) (by omega)) da_nil)) nd)) (dssx_cons0 (DS.x (ds_par 5 6 (da_cons (de_call c__law_of.fr hr (da_cons de_str (da_cons (de_var 0) (da_cons (de_var 1) da_nil))) (by omega)) (da_cons (de_call c__law_of.fr hr (da_cons de_str (da_cons (de_var 0) (da_cons (de_var 1) da_nil))) (by omega)) da_nil)) nd)) (dssx_cons0 (dsx_if0 (dt_w (dw_or (dt_cmp so_ne (op_neU (hu64 hr)) (de_op so_add op_addU (de_op so_mul op_mulU (de_var 3) (de_var 1)) (de_var 6)) (de_var 0)) (dw_or1 (dt_cmp so_ne (op_neU (hu64 hr)) (de_op so_add op_addU (de_op so_mul op_mulU (de_var 4) (de_var 1)) (de_var 5)) (de_var 0))))) (dssx_one (DS.x (ds_ret de_bl))) dssx_nil) (dssx_cons0 (dsx_if0 (dt_w (dw_or (dt_cmp so_ge op_geU (de_callB sc_abs call_abs z.«abs» (da_cons (de_var 6) da_nil)) (de_callB sc_abs call_abs z.«abs» (da_cons (de_var 1) da_nil))) (dw_or1 (dt_cmp so_ge op_geU (de_callB sc_abs call_abs z.«abs» (da_cons (de_var 5) da_nil)) (de_callB sc_abs call_abs z.«abs» (da_cons (de_var 1) da_nil)))))) (dssx_one (DS.x (ds_ret de_bl))) dssx_nil) (dssx_cons0 (dsx_if0 (dt_w (dw_or (dt_w (dw_and (dt_cmp so_ne (op_neU (hu64 hr)) (de_var 5) de_int) (dw_and1 (dt_cmp so_ne (op_neU (hu64 hr)) (de_cmp so_gt op_gtU (de_var 5) de_int) (de_cmp so_gt op_gtU (de_var 1) de_int))))) (dw_or1 (dt_w (dw_and (dt_cmp so_ne (op_neU (hu64 hr)) (de_var 6) de_int) (dw_and1 (dt_cmp so_ne (op_neU (hu64 hr)) (de_cmp so_gt op_gtU (de_var 6) de_int) (de_cmp so_gt op_gtU (de_var 0) de_int)))))))) (dssx_one (DS.x (ds_ret de_bl))) dssx_nil) (dssx_one (DS.x (ds_ret (de_cmp so_eq (op_eqU (hu64 hr)) (de_op so_sub op_sub (de_var 3) (de_var 4)) (de_callTy sc_int call_int1 z.«int» (da_cons (de_cmp so_ne (op_neU (hu64 hr)) (de_var 6) (de_var 5)) da_nil))))))))))))⟩
theorem c__law_bits_right {L : Nat} (g : Got K mg "_law_bits_right" s__law_bits_right P__law_bits_right) (z : Zs mg) (y : Ys K mg) (q : Qs K mg) (c__law_of : CalM P w K mg base L "_law_of" 3 (m__law_of NF RD) noGX []) (c_reckoned : CalM P w K mg base L "reckoned" 1 (m_reckoned NF RD) (x_reckoned NF RD) []) : CalM P w K mg base (L + 1) "_law_bits_right" 2 (m__law_bits_right NF RD) noGX [] := by
  have nd := sc__law_bits_right.nd
  refine Got.cal (ps := P__law_bits_right) (N := N__law_bits_right) (ms := (seqM (par3M 2 3 4 (consM (callM 3 (frM (m__law_of NF RD)) [] (consM (cM (.str "/\\")) (consM (varM 0) (consM (varM 1) nilM)))) (consM (callM 3 (frM (m__law_of NF RD)) [] (consM (cM (.str "\\/")) (consM (varM 0) (consM (varM 1) nilM)))) (consM (callM 3 (frM (m__law_of NF RD)) [] (consM (cM (.str "xor")) (consM (varM 0) (consM (varM 1) nilM)))) nilM)))) (seqM (ifSM (torM (testM (opM neD (opM addD (varM 2) (varM 3)) (opM addD (varM 0) (varM 1)))) (testM (opM neD (opM subD (varM 3) (varM 2)) (varM 4)))) (retM (cM (.bl false))) passM) (seqM (ifSM (testM (opM neD (callM 3 (frM (m__law_of NF RD)) [] (consM (cM (.str "xor")) (consM (varM 4) (consM (varM 1) nilM)))) (varM 0))) (retM (cM (.bl false))) passM) (retM (opM eqD (callM 1 (frM (m_reckoned NF RD)) [] (consM (tupM (consM (cM (.str "\\")) (consM (tupM (consM (cM (.str "/\\")) (consM (varM 0) (consM (varM 1) nilM)))) nilM))) nilM)) (callM 1 (frM (m_reckoned NF RD)) [] (consM (tupM (consM (cM (.str "\\/")) (consM (tupM (consM (cM (.str "\\")) (consM (varM 0) nilM))) (consM (tupM (consM (cM (.str "\\")) (consM (varM 1) nilM))) nilM)))) nilM)))))))) (xs := noX) g sc__law_bits_right fun f cdv A outer s H E hr => ?_
  exact ⟨_, (dssx_cons0 (DS.x (ds_par3 2 3 4 (da_cons (de_call c__law_of.fr hr (da_cons de_str (da_cons (de_var 0) (da_cons (de_var 1) da_nil))) (by omega)) (da_cons (de_call c__law_of.fr hr (da_cons de_str (da_cons (de_var 0) (da_cons (de_var 1) da_nil))) (by omega)) (da_cons (de_call c__law_of.fr hr (da_cons de_str (da_cons (de_var 0) (da_cons (de_var 1) da_nil))) (by omega)) da_nil))) nd)) (dssx_cons0 (dsx_if0 (dt_w (dw_or (dt_cmp so_ne (op_neU (hu64 hr)) (de_op so_add op_addU (de_var 2) (de_var 3)) (de_op so_add op_addU (de_var 0) (de_var 1))) (dw_or1 (dt_cmp so_ne (op_neU (hu64 hr)) (de_op so_sub op_sub (de_var 3) (de_var 2)) (de_var 4))))) (dssx_one (DS.x (ds_ret de_bl))) dssx_nil) (dssx_cons0 (dsx_if0 (dt_cmp so_ne (op_neU (hu64 hr)) (de_call c__law_of.fr hr (da_cons de_str (da_cons (de_var 4) (da_cons (de_var 1) da_nil))) (by omega)) (de_var 0)) (dssx_one (DS.x (ds_ret de_bl))) dssx_nil) (dssx_one (DS.x (ds_ret (de_cmp so_eq (op_eqU (hu64 hr)) (de_call c_reckoned.fr hr (da_cons (de_tup (da_cons de_str (da_cons (de_tup (da_cons de_str (da_cons (de_var 0) (da_cons (de_var 1) da_nil)))) da_nil))) da_nil) (by omega)) (de_call c_reckoned.fr hr (da_cons (de_tup (da_cons de_str (da_cons (de_tup (da_cons de_str (da_cons (de_var 0) da_nil))) (da_cons (de_tup (da_cons de_str (da_cons (de_var 1) da_nil))) da_nil)))) da_nil) (by omega)))))))))⟩
theorem c__law_gcd_right {L : Nat} (g : Got K mg "_law_gcd_right" s__law_gcd_right P__law_gcd_right) (z : Zs mg) (y : Ys K mg) (q : Qs K mg) (c__law_of : CalM P w K mg base L "_law_of" 3 (m__law_of NF RD) noGX []) : CalM P w K mg base (L + 1) "_law_gcd_right" 3 (m__law_gcd_right NF RD) noGX [] := by
  have nd := sc__law_gcd_right.nd
  refine Got.cal (ps := P__law_gcd_right) (N := N__law_gcd_right) (ms := (seqM (asgM (callM 3 (frM (m__law_of NF RD)) [] (consM (cM (.str "gcd")) (consM (varM 0) (consM (varM 1) nilM)))) (nameG 3)) (seqM (ifSM (torM (testM (opM ltD (varM 3) (cM (.int 0)))) (tandM (testM (opM eqD (varM 3) (cM (.int 0)))) (testM (opM neD (tupM (consM (varM 0) (consM (varM 1) nilM))) (tupM (consM (cM (.int 0)) (consM (cM (.int 0)) nilM))))))) (retM (cM (.bl false))) passM) (seqM (ifSM (tandM (testM (opM gtD (varM 3) (cM (.int 0)))) (torM (testM (opM neD (opM modZD (cbM intD (consM (varM 0) nilM)) (varM 3)) (cM (.int 0)))) (testM (opM neD (opM modZD (cbM intD (consM (varM 1) nilM)) (varM 3)) (cM (.int 0)))))) (retM (cM (.bl false))) passM) (retM (andM (opM eqD (callM 3 (frM (m__law_of NF RD)) [] (consM (cM (.str "gcd")) (consM (opM mulD (varM 0) (varM 2)) (consM (opM mulD (varM 1) (varM 2)) nilM)))) (opM mulD (varM 3) (cbM absD (consM (varM 2) nilM)))) (opM eqD (callM 3 (frM (m__law_of NF RD)) [] (consM (cM (.str "gcd")) (consM (varM 1) (consM (opM addD (varM 0) (opM mulD (varM 2) (varM 1))) nilM)))) (varM 3)))))))) (xs := noX) g sc__law_gcd_right fun f cdv A outer s H E hr => ?_
  exact ⟨_, (dssx_cons0 (DS.x (ds_set 3 (de_call c__law_of.fr hr (da_cons de_str (da_cons (de_var 0) (da_cons (de_var 1) da_nil))) (by omega)) nd)) (dssx_cons0 (dsx_if0 (dt_w (dw_or (dt_cmp so_lt op_ltU (de_var 3) de_int) (dw_or1 (dt_w (dw_and (dt_cmp so_eq (op_eqU (hu64 hr)) (de_var 3) de_int) (dw_and1 (dt_cmp so_ne (op_neU (hu64 hr)) (de_tup (da_cons (de_var 0) (da_cons (de_var 1) da_nil))) (de_tup (da_cons de_int (da_cons de_int da_nil)))))))))) (dssx_one (DS.x (ds_ret de_bl))) dssx_nil) (dssx_cons0 (dsx_if0 (dt_w (dw_and (dt_cmp so_gt op_gtU (de_var 3) de_int) (dw_and1 (dt_w (dw_or (dt_cmp so_ne (op_neU (hu64 hr)) (de_op so_modZ op_modN (de_callTy sc_int call_int1 z.«int» (da_cons (de_var 0) da_nil)) (de_var 3)) de_int) (dw_or1 (dt_cmp so_ne (op_neU (hu64 hr)) (de_op so_modZ op_modN (de_callTy sc_int call_int1 z.«int» (da_cons (de_var 1) da_nil)) (de_var 3)) de_int))))))) (dssx_one (DS.x (ds_ret de_bl))) dssx_nil) (dssx_one (DS.x (ds_ret (de_and (de_cmp so_eq (op_eqU (hu64 hr)) (de_call c__law_of.fr hr (da_cons de_str (da_cons (de_op so_mul op_mulU (de_var 0) (de_var 2)) (da_cons (de_op so_mul op_mulU (de_var 1) (de_var 2)) da_nil))) (by omega)) (de_op so_mul op_mulU (de_var 3) (de_callB sc_abs call_abs z.«abs» (da_cons (de_var 2) da_nil)))) (de_one (de_cmp so_eq (op_eqU (hu64 hr)) (de_call c__law_of.fr hr (da_cons de_str (da_cons (de_var 1) (da_cons (de_op so_add op_addU (de_var 0) (de_op so_mul op_mulU (de_var 2) (de_var 1))) da_nil))) (by omega)) (de_var 3))))))))))⟩
theorem c__law_shifts_right {L : Nat} (g : Got K mg "_law_shifts_right" s__law_shifts_right P__law_shifts_right) (z : Zs mg) (y : Ys K mg) (q : Qs K mg) (c__law_of : CalM P w K mg base L "_law_of" 3 (m__law_of NF RD) noGX []) : CalM P w K mg base (L + 1) "_law_shifts_right" 3 (m__law_shifts_right NF RD) noGX [] := by
  have nd := sc__law_shifts_right.nd
  refine Got.cal (ps := P__law_shifts_right) (N := N__law_shifts_right) (ms := (seqM (asgM (callM 3 (frM (m__law_of NF RD)) [] (consM (cM (.str "<<")) (consM (varM 0) (consM (varM 1) nilM)))) (nameG 3)) (seqM (ifSM (torM (testM (opM neD (varM 3) (opM mulD (varM 0) (opM shlD (cM (.int 1)) (varM 1))))) (testM (opM neD (callM 3 (frM (m__law_of NF RD)) [] (consM (cM (.str ">>")) (consM (varM 3) (consM (varM 1) nilM)))) (varM 0)))) (retM (cM (.bl false))) passM) (seqM (ifSM (testM (opM neD (callM 3 (frM (m__law_of NF RD)) [] (consM (cM (.str ">>")) (consM (varM 0) (consM (varM 1) nilM)))) (opM fdivZD (varM 0) (opM shlD (cM (.int 1)) (varM 1))))) (retM (cM (.bl false))) passM) (seqM (asgM (callM 3 (frM (m__law_of NF RD)) [] (consM (cM (.str "min")) (consM (callM 3 (frM (m__law_of NF RD)) [] (consM (cM (.str "max")) (consM (varM 0) (consM (opM subD (cM (.int 0)) (cM (.int 9))) nilM)))) (consM (cM (.int 9)) nilM)))) (nameG 4)) (seqM (asgM (callM 3 (frM (m__law_of NF RD)) [] (consM (cM (.str "**")) (consM (varM 4) (consM (opM addD (varM 1) (varM 2)) nilM)))) (nameG 5)) (seqM (ifSM (testM (opM neD (opM mulD (callM 3 (frM (m__law_of NF RD)) [] (consM (cM (.str "**")) (consM (varM 4) (consM (varM 1) nilM)))) (callM 3 (frM (m__law_of NF RD)) [] (consM (cM (.str "^")) (consM (varM 4) (consM (varM 2) nilM))))) (varM 5))) (retM (cM (.bl false))) passM) (retM (andM (opM eqD (callM 3 (frM (m__law_of NF RD)) [] (consM (cM (.str ">>")) (consM (varM 0) (consM (opM powD (cM (.int 10)) (cM (.int 30))) nilM)))) (opM subD (cM (.int 0)) (cbM intD (consM (opM ltD (varM 0) (cM (.int 0))) nilM)))) (opM eqD (callM 3 (frM (m__law_of NF RD)) [] (consM (cM (.str "**")) (consM (opM subD (cM (.int 0)) (cM (.int 1))) (consM (opM addD (opM powD (cM (.int 10)) (cM (.int 40))) (cM (.int 1))) nilM)))) (opM subD (cM (.int 0)) (cM (.int 1))))))))))))) (xs := noX) g sc__law_shifts_right fun f cdv A outer s H E hr => ?_
  exact ⟨_, (dssx_cons0 (DS.x (ds_set 3 (de_call c__law_of.fr hr (da_cons de_str (da_cons (de_var 0) (da_cons (de_var 1) da_nil))) (by omega)) nd)) (dssx_cons0 (dsx_if0 (dt_w (dw_or (dt_cmp so_ne (op_neU (hu64 hr)) (de_var 3) (de_op so_mul op_mulU (de_var 0) (de_op so_shl op_shlW de_int (de_var 1)))) (dw_or1 (dt_cmp so_ne (op_neU (hu64 hr)) (de_call c__law_of.fr hr (da_cons de_str (da_cons (de_var 3) (da_cons (de_var 1) da_nil))) (by omega)) (de_var 0))))) (dssx_one (DS.x (ds_ret de_bl))) dssx_nil) (dssx_cons0 (dsx_if0 (dt_cmp so_ne (op_neU (hu64 hr)) (de_call c__law_of.fr hr (da_cons de_str (da_cons (de_var 0) (da_cons (de_var 1) da_nil))) (by omega)) (de_op so_fdivZ op_fdivZ (de_var 0) (de_op so_shl op_shlW de_int (de_var 1)))) (dssx_one (DS.x (ds_ret de_bl))) dssx_nil) (dssx_cons0 (DS.x (ds_set 4 (de_call c__law_of.fr hr (da_cons de_str (da_cons (de_call c__law_of.fr hr (da_cons de_str (da_cons (de_var 0) (da_cons (de_op so_sub op_sub de_int de_int) da_nil))) (by omega)) (da_cons de_int da_nil))) (by omega)) nd)) (dssx_cons0 (DS.x (ds_set 5 (de_call c__law_of.fr hr (da_cons de_str (da_cons (de_var 4) (da_cons (de_op so_add op_addU (de_var 1) (de_var 2)) da_nil))) (by omega)) nd)) (dssx_cons0 (dsx_if0 (dt_cmp so_ne (op_neU (hu64 hr)) (de_op so_mul op_mulU (de_call c__law_of.fr hr (da_cons de_str (da_cons (de_var 4) (da_cons (de_var 1) da_nil))) (by omega)) (de_call c__law_of.fr hr (da_cons de_str (da_cons (de_var 4) (da_cons (de_var 2) da_nil))) (by omega))) (de_var 5)) (dssx_one (DS.x (ds_ret de_bl))) dssx_nil) (dssx_one (DS.x (ds_ret (de_and (de_cmp so_eq (op_eqU (hu64 hr)) (de_call c__law_of.fr hr (da_cons de_str (da_cons (de_var 0) (da_cons (de_op so_pow op_powW de_int de_int) da_nil))) (by omega)) (de_op so_sub op_sub de_int (de_callTy sc_int call_int1 z.«int» (da_cons (de_cmp so_lt op_ltU (de_var 0) de_int) da_nil)))) (de_one (de_cmp so_eq (op_eqU (hu64 hr)) (de_call c__law_of.fr hr (da_cons de_str (da_cons (de_op so_sub op_sub de_int de_int) (da_cons (de_op so_add op_addU (de_op so_pow op_powW de_int de_int) de_int) da_nil))) (by omega)) (de_op so_sub op_sub de_int de_int)))))))))))))⟩
theorem c__law_brink_right {L : Nat} (g : Got K mg "_law_brink_right" s__law_brink_right P__law_brink_right) (z : Zs mg) (y : Ys K mg) (q : Qs K mg) (c__law_top : CalM P w K mg base L "_law_top" 0 (m__law_top NF RD) noGX []) (c__law_one : CalM P w K mg base L "_law_one" 2 (m__law_one NF RD) noGX []) (c_reckoned : CalM P w K mg base L "reckoned" 1 (m_reckoned NF RD) (x_reckoned NF RD) []) : CalM P w K mg base (L + 1) "_law_brink_right" 1 (m__law_brink_right NF RD) noGX [] := by
  have nd := sc__law_brink_right.nd
  refine Got.cal (ps := P__law_brink_right) (N := N__law_brink_right) (ms := (seqM (parM 1 2 (consM (callM 0 (frM (m__law_top NF RD)) [] nilM) (consM (callM 2 (m__law_one NF RD) [] (consM (varM 0) (consM (lstM (consM (cM (.int 1)) (consM (opM subD (cM (.int 0)) (cM (.int 1))) nilM))) nilM))) nilM))) (seqM (parM 3 4 (consM (opM subD (varM 1) (cM (.int 1))) (consM (tupM (consM (cM (.str "error")) (consM (tupM (consM (cM (.str "resource_error")) (consM (cM (.str "integer")) nilM))) nilM))) nilM))) (seqM (asgM (lstM (consM (tupM (consM (cM (.str "+")) (consM (opM mulD (varM 2) (varM 3)) (consM (varM 2) nilM)))) (consM (tupM (consM (cM (.str "-")) (consM (opM mulD (varM 2) (varM 3)) (consM (opM subD (cM (.int 0)) (varM 2)) nilM)))) (consM (tupM (consM (cM (.str "*")) (consM (opM mulD (varM 2) (opM fdivD (varM 1) (cM (.int 10)))) (consM (cM (.int 10)) nilM)))) (consM (tupM (consM (cM (.str "**")) (consM (cM (.int 10)) (consM (cM (.int 300)) nilM)))) nilM))))) (nameG 5)) (seqM (asgM (opM addD (varM 5) (lstM (consM (tupM (consM (cM (.str "<<")) (consM (varM 2) (consM (cM (.int 997)) nilM)))) (consM (tupM (consM (cM (.str "<<")) (consM (varM 2) (consM (opM fdivD (varM 1) (cM (.int 1000))) nilM)))) (consM (tupM (consM (cM (.str "^")) (consM (opM mulD (varM 2) (cM (.int 7))) (consM (opM fdivD (varM 1) (cM (.int 10))) nilM)))) nilM))))) (nameG 5)) (seqM (asgM (opM addD (varM 5) (lstM (consM (tupM (consM (cM (.str "*")) (consM (varM 3) (consM (varM 3) nilM)))) (consM (tupM (consM (cM (.str "**")) (consM (cM (.int 2)) (consM (cM (.int 997)) nilM)))) nilM)))) (nameG 5)) (seqM (ifSM (torM (testM (opM neD (lcM (seqI (varM 5)) (nameG 7) yesM (E__law_brink_right_2 NF RD) [7] NF) (opM mulD (lstM (consM (varM 4) nilM)) (cbM lenD (consM (varM 5) nilM))))) (testM (opM neD (callM 1 (frM (m_reckoned NF RD)) [] (consM (tupM (consM (cM (.str "-")) (consM (tupM (consM (cM (.str "+")) (consM (varM 3) (consM (cM (.int 1)) nilM)))) (consM (cM (.int 5)) nilM)))) nilM)) (varM 4)))) (retM (cM (.bl false))) passM) (seqM (asgM (lstM (consM (tupM (consM (cM (.str "+")) (consM (opM mulD (varM 2) (varM 3)) (consM (cM (.int 0)) nilM)))) (consM (tupM (consM (cM (.str "*")) (consM (opM mulD (varM 2) (opM fdivD (varM 1) (cM (.int 10)))) (consM (cM (.int 9)) nilM)))) (consM (tupM (consM (cM (.str "<<")) (consM (varM 2) (consM (cM (.int 996)) nilM)))) (consM (tupM (consM (cM (.str "**")) (consM (cM (.int 2)) (consM (cM (.int 996)) nilM)))) nilM))))) (nameG 5)) (seqM (asgM (opM addD (varM 5) (lstM (consM (tupM (consM (cM (.str "-")) (consM (varM 3) nilM))) (consM (tupM (consM (cM (.str "\\")) (consM (opM subD (cM (.int 0)) (varM 3)) nilM))) nilM)))) (nameG 5)) (seqM (asgM (lstM (consM (opM mulD (varM 2) (varM 3)) (consM (opM mulD (opM mulD (varM 2) (cM (.int 9))) (opM fdivD (varM 1) (cM (.int 10)))) (consM (opM mulD (varM 2) (opM shlD (cM (.int 1)) (cM (.int 996)))) (consM (opM shlD (cM (.int 1)) (cM (.int 996))) (consM (opM subD (cM (.int 0)) (varM 3)) (consM (opM subD (varM 3) (cM (.int 1))) nilM))))))) (nameG 6)) (retM (opM eqD (lcM (seqI (varM 5)) (nameG 7) yesM (E__law_brink_right_0 NF RD) [7] NF) (lcM (seqI (varM 6)) (nameG 7) yesM (E__law_brink_right_1 NF RD) [7] NF))))))))))))) (xs := noX) g sc__law_brink_right fun f cdv A outer s H E hr => ?_
  exact ⟨_, (dssx_cons0 (DS.x (ds_par 1 2 (da_cons (de_call0 c__law_top.fr hr (by omega)) (da_cons (de_call c__law_one hr (da_cons (de_var 0) (da_cons (de_lst (da_cons de_int (da_cons (de_op so_sub op_sub de_int de_int) da_nil))) da_nil)) (by omega)) da_nil)) nd)) (dssx_cons0 (DS.x (ds_par 3 4 (da_cons (de_op so_sub op_sub (de_var 1) de_int) (da_cons (de_tup (da_cons de_str (da_cons (de_tup (da_cons de_str (da_cons de_str da_nil))) da_nil))) da_nil)) nd)) (dssx_cons0 (DS.x (ds_set 5 (de_lst (da_cons (de_tup (da_cons de_str (da_cons (de_op so_mul op_mulU (de_var 2) (de_var 3)) (da_cons (de_var 2) da_nil)))) (da_cons (de_tup (da_cons de_str (da_cons (de_op so_mul op_mulU (de_var 2) (de_var 3)) (da_cons (de_op so_sub op_sub de_int (de_var 2)) da_nil)))) (da_cons (de_tup (da_cons de_str (da_cons (de_op so_mul op_mulU (de_var 2) (de_op so_fdiv op_fdivW (de_var 1) de_int)) (da_cons de_int da_nil)))) (da_cons (de_tup (da_cons de_str (da_cons de_int (da_cons de_int da_nil)))) da_nil))))) nd)) (dssx_cons0 (DS.x (ds_set 5 (de_op so_add op_addU (de_var 5) (de_lst (da_cons (de_tup (da_cons de_str (da_cons (de_var 2) (da_cons de_int da_nil)))) (da_cons (de_tup (da_cons de_str (da_cons (de_var 2) (da_cons (de_op so_fdiv op_fdivW (de_var 1) de_int) da_nil)))) (da_cons (de_tup (da_cons de_str (da_cons (de_op so_mul op_mulU (de_var 2) de_int) (da_cons (de_op so_fdiv op_fdivW (de_var 1) de_int) da_nil)))) da_nil))))) nd)) (dssx_cons0 (DS.x (ds_set 5 (de_op so_add op_addU (de_var 5) (de_lst (da_cons (de_tup (da_cons de_str (da_cons (de_var 3) (da_cons (de_var 3) da_nil)))) (da_cons (de_tup (da_cons de_str (da_cons de_int (da_cons de_int da_nil)))) da_nil)))) nd)) (dssx_cons0 (dsx_if0 (dt_w (dw_or (dt_cmp so_ne (op_neU (hu64 hr)) (de_lc (own := [("one", 7)]) NF nd (di_seq (de_var 5)) (blkOk_by (N := N__law_brink_right) (sc := (defScope s__law_brink_right)) (by decide +kernel)) (only_name (by decide)) (fun _ _ _ _ _ => (dg_name 7 nd)) (fun _ _ _ _ _ => dts_nil) (fun _ _ _ _ _ => (de_call c_reckoned.fr hr (da_cons (de_var 7) da_nil) (by omega)))) (de_op so_mul op_mulU (de_lst (da_cons (de_var 4) da_nil)) (de_callB sc_len call_lenU z.«len» (da_cons (de_var 5) da_nil)))) (dw_or1 (dt_cmp so_ne (op_neU (hu64 hr)) (de_call c_reckoned.fr hr (da_cons (de_tup (da_cons de_str (da_cons (de_tup (da_cons de_str (da_cons (de_var 3) (da_cons de_int da_nil)))) (da_cons de_int da_nil)))) da_nil) (by omega)) (de_var 4))))) (dssx_one (DS.x (ds_ret de_bl))) dssx_nil) (dssx_cons0 (DS.x (ds_set 5 (de_lst (da_cons (de_tup (da_cons de_str (da_cons (de_op so_mul op_mulU (de_var 2) (de_var 3)) (da_cons de_int da_nil)))) (da_cons (de_tup (da_cons de_str (da_cons (de_op so_mul op_mulU (de_var 2) (de_op so_fdiv op_fdivW (de_var 1) de_int)) (da_cons de_int da_nil)))) (da_cons (de_tup (da_cons de_str (da_cons (de_var 2) (da_cons de_int da_nil)))) (da_cons (de_tup (da_cons de_str (da_cons de_int (da_cons de_int da_nil)))) da_nil))))) nd)) (dssx_cons0 (DS.x (ds_set 5 (de_op so_add op_addU (de_var 5) (de_lst (da_cons (de_tup (da_cons de_str (da_cons (de_var 3) da_nil))) (da_cons (de_tup (da_cons de_str (da_cons (de_op so_sub op_sub de_int (de_var 3)) da_nil))) da_nil)))) nd)) (dssx_cons0 (DS.x (ds_set 6 (de_lst (da_cons (de_op so_mul op_mulU (de_var 2) (de_var 3)) (da_cons (de_op so_mul op_mulU (de_op so_mul op_mulU (de_var 2) de_int) (de_op so_fdiv op_fdivW (de_var 1) de_int)) (da_cons (de_op so_mul op_mulU (de_var 2) (de_op so_shl op_shlW de_int de_int)) (da_cons (de_op so_shl op_shlW de_int de_int) (da_cons (de_op so_sub op_sub de_int (de_var 3)) (da_cons (de_op so_sub op_sub (de_var 3) de_int) da_nil))))))) nd)) (dssx_one (DS.x (ds_ret (de_cmp so_eq (op_eqU (hu64 hr)) (de_lc (own := [("one", 7)]) NF nd (di_seq (de_var 5)) (blkOk_by (N := N__law_brink_right) (sc := (defScope s__law_brink_right)) (by decide +kernel)) (only_name (by decide)) (fun _ _ _ _ _ => (dg_name 7 nd)) (fun _ _ _ _ _ => dts_nil) (fun _ _ _ _ _ => (de_call c_reckoned.fr hr (da_cons (de_var 7) da_nil) (by omega)))) (de_lc (own := [("one", 7)]) NF nd (di_seq (de_var 6)) (blkOk_by (N := N__law_brink_right) (sc := (defScope s__law_brink_right)) (by decide +kernel)) (only_name (by decide)) (fun _ _ _ _ _ => (dg_name 7 nd)) (fun _ _ _ _ _ => dts_nil) (fun _ _ _ _ _ => (de_tup (da_cons de_str (da_cons (de_var 7) da_nil))))))))))))))))))⟩
theorem c__law_refused {L : Nat} (g : Got K mg "_law_refused" s__law_refused P__law_refused) (z : Zs mg) (y : Ys K mg) (q : Qs K mg) (c_reckoned : CalM P w K mg base L "reckoned" 1 (m_reckoned NF RD) (x_reckoned NF RD) []) : CalM P w K mg base (L + 1) "_law_refused" 1 (m__law_refused NF RD) noGX [] := by
  have nd := sc__law_refused.nd
  refine Got.cal (ps := P__law_refused) (N := N__law_refused) (ms := (seqM (tryM subX LX [⟨"BadTerm", some 1, none, fun xn => (andM (opM eqD (cbM reprD (consM (fldX TX xn "term") nilM)) (cbM reprD (consM (varM 0) nilM))) (isxM subX LX xn "HornError"))⟩] (exprM (callM 1 (m_reckoned NF RD) [] (consM (varM 0) nilM))) (callX 1 (x_reckoned NF RD) [] (consM (varM 0) nilM))) (retM (cM (.bl false))))) (xs := noX) g sc__law_refused fun f cdv A outer s H E hr => ?_
  exact ⟨_, (DSsX.no (dssx_cons (dsx_try nd (fun W pn xe => (dssx_one (dsx_expr (dx_call c_reckoned hr (da_cons (de_var 0) da_nil) (by omega))))) (.retA q.m_BadTerm rfl (by decide) q.e_BadTerm rfl rfl (fun a oe cls d pn xn hz hf => (deh_and (deh_cmp so_eq (op_eqU (hu64 hr :)) (deh_callB sc_repr (call_reprU (hr.g :) (hu100 hr :)) z.«repr» (dah_cons (deh_fld 1 q.tab hz hf) dah_nil)) (deh_of (de_callB sc_repr (call_reprU (hr.g :) (hu100 hr :)) z.«repr» (da_cons (de_var 0) da_nil)))) (deh_one (deh_isE 1 q.i_HornError hz hf z.«isinstance»)))) .nil)) (dssx_one (DS.x (ds_ret de_bl)))))⟩
theorem ok_law {L : Nat} {f : Addr} {fd : FuncData} (F : Fun K "law" "law" s_law f fd) (z : Zs mg) (y : Ys K mg) (q : Qs K mg) (c__law_source_of : CalM P w K mg base L "_law_source_of" 1 (m__law_source_of NF RD) noGX []) (c__law_number : CalM P w K mg base L "_law_number" 1 (m__law_number NF RD) noGX []) (c__law_one : CalM P w K mg base L "_law_one" 2 (m__law_one NF RD) noGX []) (c_reckoned : CalM P w K mg base L "reckoned" 1 (m_reckoned NF RD) (x_reckoned NF RD) []) (c__law_refused : CalM P w K mg base L "_law_refused" 1 (m__law_refused NF RD) noGX []) (c__law_divisions_right : CalM P w K mg base L "_law_divisions_right" 2 (m__law_divisions_right NF RD) noGX []) (c__law_bits_right : CalM P w K mg base L "_law_bits_right" 2 (m__law_bits_right NF RD) noGX []) (c__law_gcd_right : CalM P w K mg base L "_law_gcd_right" 3 (m__law_gcd_right NF RD) noGX []) (c__law_shifts_right : CalM P w K mg base L "_law_shifts_right" 3 (m__law_shifts_right NF RD) noGX []) (c__law_brink_right : CalM P w K mg base L "_law_brink_right" 1 (m__law_brink_right NF RD) noGX []) (c__law_next : CalM P w K mg base L "_law_next" 2 (m__law_next NF RD) noGX []) : FnG P w K mg base (L2.CX P w) (L + 1) f fd ["script"] (spX K mg 1 (m_law NF RD) noGX) := by
  have nd := sc_law.nd
  refine fn_M (ps := P_law) (N := N_law) (ms := (seqM (forSM (seqI (slM (opM addD (varM 0) (lstM (consM (cM (.int 0)) nilM))) noM (partM (cM (.int 5))))) (nameG 1) (B_law_1 NF RD) NF) (seqM (forSM (seqI (tupM (consM (cM .non) (consM (cM (.bl true)) (consM (lstM (consM (cM (.int 1)) nilM)) (consM dnewM (consM (tupM nilM) (consM (tupM (consM (cM (.str "+")) (consM (cM (.int 1)) (consM (cM .non) nilM)))) (consM (tupM (consM (cM (.str "+")) (consM (cM (.bl true)) (consM (cM (.int 1)) nilM)))) (consM (tupM (consM (opM subD (cM (.int 0)) (cM (.int 1))) nilM)) (consM (opM addD (tupM (consM (cM (.str "f")) nilM)) (opM mulD (tupM (consM (cM (.int 1)) nilM)) (cM (.int 9)))) (consM (tupM (consM (cM (.int 5)) (consM (cM (.int 1)) nilM))) (consM (opM mulD (cM (.str "a")) (cM (.int 41))) nilM))))))))))))) (nameG 7) (B_law_0 NF RD) NF) (retM (cM (.bl true)))))) (xs := noX) F sc_law fun cdv A outer s H E hr => ?_
  exact ⟨_, (dssx_cons0 (dsx_for0 NF (di_seq (de_slice (de_op so_add op_addU (de_var 0) (de_lst (da_cons de_int da_nil))) do_none (do_some de_int))) (dg_name 1 nd) (dssx_cons0 (DS.x (ds_set 2 (de_call c__law_source_of hr (da_cons (de_var 1) da_nil) (by omega)) nd)) (dssx_cons0 (DS.x (ds_par3 3 4 5 (da_cons (de_call c__law_number hr (da_cons (de_var 2) da_nil) (by omega)) (da_cons (de_call c__law_number hr (da_cons (de_var 2) da_nil) (by omega)) (da_cons (de_call c__law_one hr (da_cons (de_var 2) (da_cons (de_lst (da_cons de_int (da_cons de_int (da_cons (de_op so_sub op_sub de_int de_int) (da_cons de_int da_nil))))) da_nil)) (by omega)) da_nil))) nd)) (dssx_cons0 (dsx_if0 (dt_w (dw_or (dt_not (dt_tru (de_call c__law_divisions_right.fr hr (da_cons (de_var 3) (da_cons (de_var 4) da_nil)) (by omega)))) (dw_or (dt_not (dt_tru (de_call c__law_bits_right.fr hr (da_cons (de_var 3) (da_cons (de_var 4) da_nil)) (by omega)))) (dw_or1 (dt_not (dt_tru (de_call c__law_gcd_right.fr hr (da_cons (de_var 3) (da_cons (de_var 4) (da_cons (de_var 5) da_nil))) (by omega)))))))) (dssx_one (DS.x (ds_ret de_bl))) dssx_nil) (dssx_cons0 (dsx_if0 (dt_w (dw_or (dt_not (dt_tru (de_call c__law_shifts_right.fr hr (da_cons (de_var 3) (da_cons (de_call c__law_next hr (da_cons (de_var 2) (da_cons de_int da_nil)) (by omega)) (da_cons (de_call c__law_next hr (da_cons (de_var 2) (da_cons de_int da_nil)) (by omega)) da_nil))) (by omega)))) (dw_or1 (dt_not (dt_tru (de_call c__law_brink_right hr (da_cons (de_var 2) da_nil) (by omega))))))) (dssx_one (DS.x (ds_ret de_bl))) dssx_nil) (dssx_cons0 (dsx_if0 (dt_w (dw_or (dt_cmp so_ne (op_neU (hu64 hr)) (de_call c_reckoned.fr hr (da_cons (de_tup (da_cons de_str (da_cons (de_var 3) da_nil))) da_nil) (by omega)) (de_tup (da_cons de_str (da_cons (de_op so_sub op_sub (de_callTy sc_int call_int1 z.«int» (da_cons (de_cmp so_gt op_gtU (de_var 3) de_int) da_nil)) (de_callTy sc_int call_int1 z.«int» (da_cons (de_cmp so_lt op_ltU (de_var 3) de_int) da_nil))) da_nil)))) (dw_or1 (dt_cmp so_ne (op_neU (hu64 hr)) (de_call c_reckoned.fr hr (da_cons (de_tup (da_cons de_str (da_cons (de_var 3) da_nil))) da_nil) (by omega)) (de_tup (da_cons de_str (da_cons (de_callB sc_abs call_abs z.«abs» (da_cons (de_var 3) da_nil)) da_nil))))))) (dssx_one (DS.x (ds_ret de_bl))) dssx_nil) (dssx_cons0 (DS.x (ds_set 6 (de_sub (de_call c_reckoned.fr hr (da_cons (de_tup (da_cons de_str (da_cons (de_var 3) da_nil))) da_nil) (by omega)) de_int (hu1 hr)) nd)) (dssx_one (dsx_if0 (dt_w (dw_and (dt_cmp so_gt op_gtU (de_var 3) de_int) (dw_and1 (dt_not (dt_chain so_le op_leU so_lt op_ltU (de_op so_shl op_shlW de_int (de_var 6)) (de_var 3) (de_op so_shl op_shlW de_int (de_var 6))))))) (dssx_one (DS.x (ds_ret de_bl))) dssx_nil))))))))) (dssx_cons0 (dsx_for0 NF (di_seq (de_tup (da_cons de_non (da_cons de_bl (da_cons (de_lst (da_cons de_int da_nil)) (da_cons de_dnew (da_cons (de_tup da_nil) (da_cons (de_tup (da_cons de_str (da_cons de_int (da_cons de_non da_nil)))) (da_cons (de_tup (da_cons de_str (da_cons de_bl (da_cons de_int da_nil)))) (da_cons (de_tup (da_cons (de_op so_sub op_sub de_int de_int) da_nil)) (da_cons (de_op so_add op_addU (de_tup (da_cons de_str da_nil)) (de_op so_mul op_mulU (de_tup (da_cons de_int da_nil)) de_int)) (da_cons (de_tup (da_cons de_int (da_cons de_int da_nil))) (da_cons (de_op so_mul op_mulU de_str de_int) da_nil))))))))))))) (dg_name 7 nd) (dssx_one (dsx_if0 (dt_not (dt_tru (de_call c__law_refused hr (da_cons (de_var 7) da_nil) (by omega)))) (dssx_one (DS.x (ds_ret de_bl))) dssx_nil))) (dssx_one (DS.x (ds_ret de_bl)))))⟩
end

/-! ### bits -/
def sumB (b : Int → Int → Int) (x y : Int) : Nat → Int
  | 0 => 0
  | n + 1 => sumB b x y n + b (x / 2 ^ n % 2) (y / 2 ^ n % 2) * 2 ^ n
theorem two_pos (n : Nat) : (0 : Int) < 2 ^ n := Int.pow_pos (by decide)
theorem div_two (x : Int) (n : Nat) : x / 2 ^ n / 2 = x / 2 ^ (n + 1) := by
  rw [Int.ediv_ediv_of_nonneg (Int.le_of_lt (two_pos n)), ← Int.pow_succ]
theorem sum_bits {f b : Int → Int → Int} (hf : ∀ x y, f x y = 2 * f (x / 2) (y / 2) + b (x % 2) (y % 2)) (x y : Int) : ∀ n, f x y = sumB b x y n + 2 ^ n * f (x / 2 ^ n) (y / 2 ^ n)
  | 0 => by simp [sumB]
  | n + 1 => by
    rw [sum_bits hf x y n, hf (x / 2 ^ n) (y / 2 ^ n), div_two, div_two, sumB, Int.mul_add, Int.pow_succ, Int.mul_comm (2 ^ n) (b _ _), ← Int.mul_assoc]
    omega
def bAnd (x y : Int) : Int := x * y
def bOr (x y : Int) : Int := if y > x then y else x
def bXor (x y : Int) : Int := if (!decide (x = y)) = true then 1 else 0
theorem and_half (x y : Int) : Builtin.bitAnd x y = 2 * Builtin.bitAnd (x / 2) (y / 2) + bAnd (x % 2) (y % 2) := by
  rw [PySem.W.kbt_halves x y]
  congr 1
  unfold bAnd
  rcases Int.emod_two_eq x with h | h <;> rcases Int.emod_two_eq y with h' | h' <;> rw [h, h'] <;> simp
theorem or_half (x y : Int) : Builtin.bitOr x y = 2 * Builtin.bitOr (x / 2) (y / 2) + bOr (x % 2) (y % 2) := by
  rw [PyProof.Rows.bitOr_and, PyProof.Rows.bitOr_and, and_half x y]
  unfold bOr bAnd
  rcases Int.emod_two_eq x with h | h <;> rcases Int.emod_two_eq y with h' | h' <;> rw [h, h'] <;> simp <;> omega
theorem xor_half (x y : Int) : Builtin.bitXor x y = 2 * Builtin.bitXor (x / 2) (y / 2) + bXor (x % 2) (y % 2) := by
  rw [PyProof.Rows.bitXor_and, PyProof.Rows.bitXor_and, and_half x y]
  unfold bXor bAnd
  rcases Int.emod_two_eq x with h | h <;> rcases Int.emod_two_eq y with h' | h' <;> rw [h, h'] <;> simp <;> omega
theorem top_div {x : Int} {n : Nat} (h1 : -2 ^ n ≤ x) (h2 : x < 2 ^ n) : x / 2 ^ n = if x < 0 then -1 else 0 := by
  split
  · rename_i h
    exact ((Int.ediv_emod_unique (two_pos n)).mpr ⟨show (x + 2 ^ n) + 2 ^ n * (-1) = x by omega, by omega, by omega⟩).1
  · rename_i h
    exact Int.ediv_eq_zero_of_lt (by omega) h2
theorem and_top (p q : Bool) : Builtin.bitAnd (if p = true then -1 else 0) (if q = true then -1 else 0) = if (p && q) = true then -1 else 0 := by cases p <;> cases q <;> decide +kernel
theorem or_top (p q : Bool) : Builtin.bitOr (if p = true then -1 else 0) (if q = true then -1 else 0) = if (p || q) = true then -1 else 0 := by cases p <;> cases q <;> decide +kernel
theorem xor_top (p q : Bool) : Builtin.bitXor (if p = true then -1 else 0) (if q = true then -1 else 0) = if (!decide (p = q)) = true then -1 else 0 := by cases p <;> cases q <;> decide +kernel
theorem bits_law {f b : Int → Int → Int} {t : Bool → Bool → Bool} (hf : ∀ x y, f x y = 2 * f (x / 2) (y / 2) + b (x % 2) (y % 2)) (ht : ∀ p q : Bool, f (if p = true then -1 else 0) (if q = true then -1 else 0) = if t p q = true then -1 else 0)
    {x y : Int} {n : Nat} (h1 : -2 ^ n ≤ x) (h2 : x < 2 ^ n) (h3 : -2 ^ n ≤ y) (h4 : y < 2 ^ n) : (if t (decide (x < 0)) (decide (y < 0)) = true then sumB b x y n - 2 ^ n else sumB b x y n) = f x y := by
  rw [sum_bits hf x y n, top_div h1 h2, top_div h3 h4]
  have := ht (decide (x < 0)) (decide (y < 0))
  simp only [decide_eq_true_eq] at this
  rw [this]
  split <;> omega
/-! ### the great common divisor -/
def eu : Nat → Int × Int → Int × Int
  | 0, p => p
  | k + 1, p => if 0 < p.2 then eu k (p.2, p.1 % p.2) else p
theorem eu_stop {p : Int × Int} (h : ¬ 0 < p.2) : ∀ k, eu k p = p
  | 0 => rfl
  | k + 1 => by rw [eu, if_neg h]
theorem eu_add : ∀ (k m : Nat) (p : Int × Int), eu (k + m) p = eu m (eu k p)
  | 0, m, p => by rw [Nat.zero_add]; rfl
  | k + 1, m, p => by
    by_cases h : 0 < p.2
    · rw [show k + 1 + m = (k + m) + 1 by omega, eu, if_pos h, eu_add k m, eu, if_pos h]
    · rw [eu_stop h, eu_stop h, eu_stop h]
theorem eu_end : ∀ (n : Nat) (p : Int × Int), p.2 < 2 ^ n → ¬ 0 < (eu (2 * n) p).2
  | 0, p, h => by
    show ¬ 0 < p.2
    simp at h
    omega
  | n + 1, p, h => by
    by_cases h0 : 0 < p.2
    · have hr0 : 0 ≤ p.1 % p.2 := Int.emod_nonneg _ (by omega)
      have hr1 : p.1 % p.2 < p.2 := Int.emod_lt_of_pos _ h0
      rw [show 2 * (n + 1) = 2 * n + 1 + 1 by omega, eu, if_pos h0]
      by_cases h1 : 0 < p.1 % p.2
      · rw [eu, if_pos h1]
        refine eu_end n _ ?_
        show p.2 % (p.1 % p.2) < 2 ^ n
        generalize p.1 % p.2 = r at hr0 hr1 h1
        generalize p.2 = b at h h0 hr1
        have e := Int.emod_add_mul_ediv b r
        have m1 := Int.emod_lt_of_pos b h1
        have q1 : 1 ≤ b / r := by
          have := (Int.le_ediv_iff_mul_le h1).mpr (show 1 * r ≤ b by omega)
          exact this
        have q2 : r * 1 ≤ r * (b / r) := Int.mul_le_mul_of_nonneg_left q1 (by omega)
        rw [Int.pow_succ] at h
        omega
      · rw [eu_stop (p := (p.2, p.1 % p.2)) (by simpa using h1)]
        exact h1
    · rw [eu_stop h0]
      exact h0
theorem eu_same {k m : Nat} {p : Int × Int} (h1 : ¬ 0 < (eu k p).2) (h2 : ¬ 0 < (eu m p).2) : eu k p = eu m p := by
  rcases Nat.le_total k m with h | h
  · obtain ⟨d, rfl⟩ := Nat.exists_eq_add_of_le h
    rw [eu_add, eu_stop h1]
  · obtain ⟨d, rfl⟩ := Nat.exists_eq_add_of_le h
    rw [eu_add, eu_stop h2]
theorem eu_pos : ∀ (k : Nat) (p : Int × Int), 0 ≤ p.1 → 0 ≤ p.2 → 0 ≤ (eu k p).1 ∧ 0 ≤ (eu k p).2 ∧ (eu k p).2 ≤ p.2
  | 0, p, h1, h2 => ⟨h1, h2, Int.le_refl _⟩
  | k + 1, p, h1, h2 => by
    rw [eu]
    split
    · rename_i h
      obtain ⟨a, b, c⟩ := eu_pos k (p.2, p.1 % p.2) h2 (Int.emod_nonneg _ (by omega))
      have := Int.emod_lt_of_pos p.1 h
      exact ⟨a, b, by simp only at c; omega⟩
    · exact ⟨h1, h2, Int.le_refl _⟩
theorem eu_le : ∀ (k : Nat) (p : Int × Int) (M : Int), 0 ≤ p.1 → 0 ≤ p.2 → p.1 ≤ M → p.2 ≤ M → (eu k p).1 ≤ M
  | 0, p, M, h1, h2, h3, h4 => h3
  | k + 1, p, M, h1, h2, h3, h4 => by
    rw [eu]
    split
    · rename_i h
      have := Int.emod_lt_of_pos p.1 h
      exact eu_le k _ M h2 (Int.emod_nonneg _ (by omega)) h4 (by simp only; omega)
    · exact h3
/-! ### division -/
theorem neg_div (a b : Int) (ha : 0 ≤ a) (hb : 0 < b) : (-a) / b = if a % b = 0 then -(a / b) else -(a / b) - 1 := by
  have e := Int.emod_add_mul_ediv a b
  have m0 := Int.emod_nonneg a (show b ≠ 0 by omega)
  have m1 := Int.emod_lt_of_pos a hb
  split
  · rename_i h
    refine ((Int.ediv_emod_unique hb).mpr ⟨show 0 + b * (-(a / b)) = -a by rw [Int.mul_neg]; omega, by omega, hb⟩).1
  · rename_i h
    refine ((Int.ediv_emod_unique hb).mpr ⟨show (b - a % b) + b * (-(a / b) - 1) = -a by rw [Int.mul_sub, Int.mul_neg]; omega, by omega, by omega⟩).1
/-- towards nought, as the program has it -/
def tdv (x y : Int) : Int := if (!decide (decide (x < 0) = decide (y < 0))) = true then -((if x < 0 then -x else x) / (if y < 0 then -y else y)) else (if x < 0 then -x else x) / (if y < 0 then -y else y)
def near (x y : Int) : Int := x.fdiv y + (if x.fdiv y < 0 ∧ ¬ x.fdiv y * y = x then 1 else 0)
theorem near_pos (a b : Int) (hb : 0 < b) : a / b + (if a / b < 0 ∧ ¬ a / b * b = a then 1 else 0) = if a < 0 then -((-a) / b) else a / b := by
  by_cases h : a < 0
  · have hd : a = -(-a) := by omega
    have nd := neg_div (-a) b (by omega) hb
    rw [← hd] at nd
    have e := Int.emod_add_mul_ediv (-a) b
    have m0 := Int.emod_nonneg (-a) (show b ≠ 0 by omega)
    have m1 := Int.emod_lt_of_pos (-a) hb
    have qn : 0 ≤ (-a) / b := Int.ediv_nonneg (by omega) (by omega)
    rw [if_pos h]
    by_cases hz : (-a) % b = 0
    · rw [if_pos hz] at nd
      rw [nd]
      have hn : ¬ (-(-a / b) < 0 ∧ ¬ -(-a / b) * b = a) := by
        intro h3
        apply h3.2
        rw [Int.neg_mul, Int.mul_comm]
        omega
      rw [if_neg hn]
      omega
    · rw [if_neg hz] at nd
      rw [nd]
      have hp : -(-a / b) - 1 < 0 ∧ ¬ (-(-a / b) - 1) * b = a := by
        refine ⟨by omega, fun h2 => ?_⟩
        rw [Int.sub_mul, Int.neg_mul, Int.mul_comm] at h2
        omega
      rw [if_pos hp]
      omega
  · rw [if_neg h]
    have hn : ¬ (a / b < 0 ∧ ¬ a / b * b = a) := by
      intro h3
      have := Int.ediv_nonneg (show 0 ≤ a by omega) (Int.le_of_lt hb)
      omega
    rw [if_neg hn]
    omega
theorem fdiv_neg_neg (x y : Int) (hy : y < 0) : x.fdiv y = (-x) / (-y) := by
  have e := Int.fmod_add_mul_fdiv x y
  have m1 : x.fmod y ≤ 0 ∧ y < x.fmod y := by
    have h1 := @Int.fmod_eq_emod x y
    have m0 := Int.emod_nonneg x (show y ≠ 0 by omega)
    have m1 := Int.emod_lt x (show y ≠ 0 by omega)
    rw [h1]
    by_cases hd : y ∣ x
    · have : x % y = 0 := Int.emod_eq_zero_of_dvd hd
      rw [if_pos (.inr hd), this]
      omega
    · have : x % y ≠ 0 := fun h => hd (Int.dvd_of_emod_eq_zero h)
      rw [if_neg (by omega)]
      omega
  refine (((Int.ediv_emod_unique (show 0 < -y by omega)).mpr ⟨show (-x.fmod y) + (-y) * (x.fdiv y) = -x by rw [Int.neg_mul]; omega, by omega, by omega⟩).1).symm
theorem near_tdv (x y : Int) (hy : y ≠ 0) : near x y = tdv x y := by
  unfold near tdv
  rcases Int.lt_or_lt_of_ne hy with h | h
  · rw [fdiv_neg_neg x y h]
    have np := near_pos (-x) (-y) (by omega)
    have e1 : ((-x) / (-y) * y = x) ↔ ((-x) / (-y) * (-y) = -x) := by
      rw [Int.mul_neg]
      omega
    simp only [e1]
    rw [np]
    by_cases hx : x < 0
    · simp [hx, h]
      intro h2
      omega
    · by_cases hx0 : x = 0
      · subst hx0
        simp [h]
      · have : -x < 0 := by omega
        simp [hx, h, this]
        intro h2
        omega
  · rw [Int.fdiv_eq_ediv_of_nonneg x (by omega)]
    rw [near_pos x y h]
    have hy' : ¬ y < 0 := by omega
    by_cases hx : x < 0
    · simp [hx, hy']
    · simp [hx, hy']
/-! ### the highest bit -/
theorem range_lt (m : Nat) : ∀ n, ((List.range n).filter fun k => decide (k < m)).length = min n m
  | 0 => by simp
  | n + 1 => by
    rw [List.range_succ, List.filter_append, List.length_append, range_lt m n]
    by_cases h : n < m
    · simp [h]; omega
    · simp [h]; omega
theorem pow_le_iff (x : Int) (hx : 1 ≤ x) (k : Nat) : decide ((1 : Int) * 2 ^ k ≤ x) = decide (k < Builtin.Int.intBits x) := by
  have h : ¬ (Builtin.Int.intBits x ≤ k) ↔ ¬ x.natAbs < 2 ^ k := not_congr PySem.intBits_le_iff
  have e : ((2 ^ k : Nat) : Int) = (2 : Int) ^ k := PySem.W.kbt_cast k
  rw [decide_eq_decide, Int.one_mul, ← e]
  constructor
  · intro h1
    have := h.mpr (by omega)
    omega
  · intro h1
    have := h.mp (by omega)
    omega
/-! ### powers -/
theorem bits_pow (v : Int) : ¬ ((Builtin.Int.intBits v : Nat) : Int) < 1100 → (2 : Int) ^ 1099 ≤ (if v < 0 then -v else v) := by
  intro h
  have h1 : ¬ (Builtin.Int.intBits v ≤ 1099) := by omega
  have h2 : ¬ v.natAbs < 2 ^ 1099 := fun z => h1 (PySem.intBits_le_iff.mpr z)
  have e : ((2 ^ 1099 : Nat) : Int) = (2 : Int) ^ 1099 := PySem.W.kbt_cast 1099
  rw [← e]
  split <;> omega
theorem pow_abs (x : Int) : ∀ k : Nat, (x ^ k).natAbs = x.natAbs ^ k
  | 0 => by simp
  | k + 1 => by rw [Int.pow_succ, Int.natAbs_mul, pow_abs x k, Nat.pow_succ]


/-! ### objects: what a call leaves -/
/-- all stays as it was, new objects may stand behind -/
def Pre (h h' : Hd) : Prop := ∃ g, h' = h ++ g
theorem Pre.refl (h : Hd) : Pre h h := ⟨[], by simp⟩
theorem Pre.trans {a b c : Hd} (x : Pre a b) (y : Pre b c) : Pre a c := by
  obtain ⟨g, rfl⟩ := x
  obtain ⟨g', rfl⟩ := y
  exact ⟨g ++ g', by simp⟩
theorem Pre.app (h g : Hd) : Pre h (h ++ g) := ⟨g, rfl⟩
theorem Pre.app' {h h' : Hd} (x : Pre h h') (g : Hd) : Pre h (h' ++ g) := x.trans (Pre.app _ _)
theorem Pre.set {h h' : Hd} (x : Pre h h') {i : Nat} (hi : h.length ≤ i) (o : O) : Pre h (h'.set i o) := by
  obtain ⟨g, rfl⟩ := x
  exact ⟨g.set (i - h.length) o, by rw [List.set_append_right _ _ hi]⟩
theorem Pre.get {h h' : Hd} (x : Pre h h') {i : Nat} {o : O} (e : h[i]? = some o) : h'[i]? = some o := by
  obtain ⟨g, rfl⟩ := x
  rw [List.getElem?_append_left (List.getElem?_eq_some_iff.mp e).1]
  exact e
theorem Pre.len {h h' : Hd} (x : Pre h h') : h.length ≤ h'.length := by
  obtain ⟨g, rfl⟩ := x
  simp
theorem get_new (h : Hd) (o : O) : (h ++ [o])[h.length]? = some o := by simp
theorem get_set {h : Hd} {i : Nat} {o p : O} (e : h[i]? = some o) : (h.set i p)[i]? = some p := by
  rw [List.getElem?_set_self (List.getElem?_eq_some_iff.mp e).1]
theorem get_ne {h : Hd} {i j : Nat} {p : O} (e : i ≠ j) : (h.set i p)[j]? = h[j]? := List.getElem?_set_ne e
theorem lt_of {h : Hd} {i : Nat} {o : O} (e : h[i]? = some o) : i < h.length := (List.getElem?_eq_some_iff.mp e).1
/-- all but the object w stays as it was -/
structure Fw (w : Nat) (h h' : Hd) : Prop where
  len : h.length ≤ h'.length
  at' : ∀ i, i < h.length → i ≠ w → h'[i]? = h[i]?
theorem Fw.refl (w : Nat) (h : Hd) : Fw w h h := ⟨Nat.le_refl _, fun _ _ _ => rfl⟩
theorem Fw.trans {w : Nat} {a b c : Hd} (x : Fw w a b) (y : Fw w b c) : Fw w a c := ⟨Nat.le_trans x.len y.len, fun i hi hn => (y.at' i (Nat.lt_of_lt_of_le hi x.len) hn).trans (x.at' i hi hn)⟩
theorem Fw.pre {w : Nat} {h h' : Hd} (x : Pre h h') : Fw w h h' := by
  obtain ⟨g, rfl⟩ := x
  exact ⟨by simp, fun i hi _ => List.getElem?_append_left hi⟩
theorem Fw.set {w : Nat} {h : Hd} (o : O) : Fw w h (h.set w o) := ⟨by simp, fun i _ hn => List.getElem?_set_ne (fun z => hn z.symm)⟩
theorem Fw.get {w : Nat} {h h' : Hd} (x : Fw w h h') {i : Nat} {o : O} (e : h[i]? = some o) (hn : i ≠ w) : h'[i]? = some o := (x.at' i (lt_of e) hn).trans e

/-! ### terms -/
def BIG : Int := 1000000000000000000000000000000000000000000000000000000000000000000000000000000000000000000000000000000000000000000000000000000000000000000000000000000000000000000000000000000000000000000000000000000000000000000000000000000000000000000000000000000000000000000000000000000000000000000000000000000000000
def signOk (c : Nat) : Bool := decide (32 ≤ c) && decide (c ≤ 126) && decide (c ≠ 37)
def atomOk (s : Str) : Bool := decide (s.length ≤ 40) && s.cps.toList.all signOk
inductive T : D → Prop where
  | var (n : Int) : 0 ≤ n → T (.tup [.int n])
  | int (i : Int) : (if i < 0 then -i else i) < BIG → T (.int i)
  | str (s : Str) : atomOk s = true → T (.str s)
  | cmp (f : Str) (a : D) (as : List D) : atomOk f = true → as.length < 8 → (∀ x ∈ a :: as, T x) → T (.tup (.str f :: a :: as))
mutual
/-- the parts, from the left, each ahead of its arguments -/
def parts : D → List D
  | .tup xs => .tup xs :: partsT xs
  | .int i => [.int i]
  | .str s => [.str s]
  | .bl b => [.bl b]
  | .non => [.non]
  | .ty s => [.ty s]
  | .rol xs => [.rol xs]
  | .at n => [.at n]
  | .ad n => [.ad n]
def partsT : List D → List D
  | [] => []
  | _ :: ds => partss ds
def partss : List D → List D
  | [] => []
  | d :: ds => parts d ++ partss ds
end
theorem partss_app : ∀ as bs : List D, partss (as ++ bs) = partss as ++ partss bs
  | [], bs => by simp [partss]
  | a :: as, bs => by simp [partss, partss_app as bs]
theorem parts_pos (d : D) : 1 ≤ (parts d).length := by cases d <;> simp [parts]
theorem len_partss : ∀ ds : List D, ds.length ≤ (partss ds).length
  | [] => by simp [partss]
  | d :: ds => by
    have h1 := parts_pos d
    have h2 := len_partss ds
    simp only [partss, List.length_append, List.length_cons]
    omega
def flat : D → Bool
  | .int _ => true
  | .str _ => true
  | .tup _ => true
  | .bl _ => true
  | _ => false
theorem T.flat {d : D} (t : T d) : flat d = true := by cases t <;> rfl
def isInt : D → Bool
  | .int _ => true
  | _ => false
def isCmp : D → Bool
  | .tup xs => decide (1 < (xs.length : Int))
  | _ => false
def isVar : D → Bool
  | .tup [.int n] => decide (0 ≤ n)
  | _ => false
/-! the data of a term -/
mutual
def pd : D → PyData
  | .tup xs => .tuple (pds xs)
  | .int i => .int i
  | .str s => .str s
  | .bl b => .bool b
  | .non => .none
  | .ty s => .none
  | .rol xs => .list (pds xs)
  | .at n => .none
  | .ad n => .none
def pds : List D → List PyData
  | [] => []
  | d :: ds => pd d :: pds ds
end
theorem atom_strOk {s : Str} (h : atomOk s = true) : PyData.strOk s = true := by
  unfold atomOk at h
  unfold PyData.strOk
  have h2 := (Bool.and_eq_true_iff.mp h).2
  rw [Array.all_eq_true_iff_forall_mem]
  intro c hc
  have := List.all_eq_true.mp h2 c (by simpa using hc)
  unfold signOk at this
  simp only [Bool.and_eq_true, decide_eq_true_eq] at this
  exact decide_eq_true (by omega)
theorem toPs_of {r : Nat → Option PyData} : ∀ {ds : List D}, (∀ d ∈ ds, toP r d = some (pd d) ∧ (pd d).canLay0 = true) → toPs r ds = some (pds ds) ∧ PyData.canLayAll0 (pds ds) = true
  | [], _ => ⟨by simp [toPs, pds], by simp [pds, PyData.canLayAll0]⟩
  | d :: ds, h => by
    obtain ⟨h1, h2⟩ := h d List.mem_cons_self
    obtain ⟨h3, h4⟩ := toPs_of (r := r) (ds := ds) fun x hx => h x (List.mem_cons_of_mem _ hx)
    refine ⟨?_, ?_⟩
    · simp only [toPs, h1, h3, pds]
    · simp only [pds, PyData.canLayAll0, h2, h4, Bool.and_self]
theorem T.dat {r : Nat → Option PyData} {d : D} (t : T d) : toP r d = some (pd d) ∧ (pd d).canLay0 = true := by
  induction t with
  | var n h => simp [toP, toPs, pd, pds, PyData.canLay0, PyData.canLayAll0]
  | int i h => simp [toP, pd, PyData.canLay0]
  | str s h => simp [toP, pd, PyData.canLay0, atom_strOk h]
  | cmp f a as hf hl _ ih =>
    obtain ⟨h1, h2⟩ := toPs_of (r := r) ih
    constructor
    · rw [toP, toPs]
      simp only [toP, h1, pd, pds]
    · rw [pd, pds, PyData.canLay0, PyData.canLayAll0]
      simp only [pd, PyData.canLay0, atom_strOk hf, h2, Bool.and_self]
/-- waiting != [] -/
theorem ne_nil {h : Hd} {n m : Nat} {ws : List D} (e : h[n]? = some (.lst ws)) (e2 : h[m]? = some (.lst [])) (ht : ∀ d ∈ ws, toP (rP 2 h) d = some (pd d) ∧ (pd d).canLay0 = true) : neD (.at n) (.at m) h = some (.bl (!ws.isEmpty), h) := by
  obtain ⟨h1, h2⟩ := toPs_of ht
  unfold neD datD
  have a1 : toP (rP 3 h) (.at n) = some (.list (pds ws)) := by
    rw [toP, rP, e]
    simp only [h1]
  have a2 : toP (rP 3 h) (.at m) = some (.list []) := by
    rw [toP, rP, e2]
    simp only [toPs]
  rw [a1, a2]
  simp only
  rw [if_pos ⟨by rw [PyData.canLay0]; exact h2, by simp [PyData.canLay0, PyData.canLayAll0], by
    have : (PyData.list []).depth = 1 := by simp [PyData.depth, PyData.depthAll]
    rw [this]
    omega⟩]
  cases ws with
  | nil => simp [pds, PyData.eqv, PyData.eqvAll]
  | cons d ds => simp [pds, PyData.eqv, PyData.eqvAll]
theorem T.datL {h : Hd} {ws : List D} (ht : ∀ d ∈ ws, T d) : ∀ d ∈ ws, toP (rP 2 h) d = some (pd d) ∧ (pd d).canLay0 = true := fun d hd => (ht d hd).dat

local macro_rules | `(tactic| walk_at "ev") => `(tactic| simp only [bodyM, startD, varM, cM, opM, testM, chainM, nilM, consM, tupM, lstM, DL.andM, DL.orM, DL.notM, truM, tandM, torM, tnotM, ifM, negM,
  addD, subD, mulD, fdivD, modD, powD, ltD, leD, gtD, geD, subsD, seqD, keyD, noM, partM, sliceD, slM, cbM, lenD, absD, intD, isiD, kdD, kb1, kb2, kb3, kb4, kb5, kb6, kb7, kb8, kb9, kb10, kb11, kb12, kb13, kb14, kb15, kb16, eq_ii, ne_ii,
  bmM, isDct, dnewM, nameG, nilG, consG, tupG, passM, brkM, cntM, exprM, retM, asgM, seqM, ifSM, neverM, augM, addID, parM, par3M, callM, truD, k_MOST_ARGUMENTS, k_MOST_SIGNS, k_TOO_GREAT, seqI, backM, backD, tuplD,
  List.map_cons, List.map_nil, List.length_cons, List.length_nil, List.cons_append, List.nil_append, List.append_nil, List.getElem?_cons_zero, List.getElem?_cons_succ, List.getElem?_nil, List.replicate, List.set_cons_zero, List.set_cons_succ,
  if_true, if_false, ↓reduceIte, Bool.false_eq_true, Bool.not_true, Bool.not_false, decide_true, decide_false, Nat.reduceSub, Nat.reduceAdd, Nat.reduceLeDiff, Nat.reduceEqDiff, Int.reduceLT, Int.reduceLE, Nat.zero_le, String.reduceBEq, beq_self_eq_true])
section
variable (NF RD : Nat)
theorem r_is_int (d : D) (h : Hd) (hd : flat d = true) : m_is_int NF RD [d] h = some (.bl (isInt d), h) := by
  unfold m_is_int
  cases d <;> first | (cases hd; done) | (walk_at "ev"; rfl)
theorem r_is_compound (d : D) (h : Hd) (hd : flat d = true) : m_is_compound NF RD [d] h = some (.bl (isCmp d), h) := by
  unfold m_is_compound
  cases d <;> first | (cases hd; done) | (walk_at "ev"; rfl)
theorem r_is_variable {d : D} (h : Hd) (t : T d) : m_is_variable NF RD [d] h = some (.bl (isVar d), h) := by
  unfold m_is_variable
  cases t with
  | var n hn =>
    have hi := r_is_int NF RD (.int n) h rfl
    walk_at "ev"
    simp only [at0, hi, isInt, Int.cast_ofNat_Int, decide_true, isVar, Nat.zero_add]
    rfl
  | int i _ => walk_at "ev"; rfl
  | str s _ => walk_at "ev"; rfl
  | cmp f a as _ _ _ =>
    walk_at "ev"
    have : ¬ (((as.length + 1 + 1 : Nat) : Int) = 1) := by omega
    simp only [this, decide_false]
    rfl
theorem r_is_any_number (d : D) (h : Hd) (hd : flat d = true) : m_is_any_number NF RD [d] h = some (.bl (match d with | .int i => decide ((if i < 0 then -i else i) < BIG) | _ => false), h) := by
  have hi := r_is_int NF RD d h hd
  unfold m_is_any_number
  cases d with
  | int i => walk_at "ev"; simp only [hi, isInt]; rfl
  | str s => walk_at "ev"; simp only [hi, isInt]
  | tup s => walk_at "ev"; simp only [hi, isInt]
  | bl s => walk_at "ev"; simp only [hi, isInt]
  | _ => cases hd
/-- a comprehension over items that are known, whose element changes nothing -/
theorem lc_pure {xs : List D} {i : Nat} {a : ME} {D0 : Nat} {sg0 : Sg} {f : D → D} (ha : ∀ x ∈ xs, ∀ h, a (sg0.set i (some x)) h = some (f x, h)) : ∀ (N k : Nat) (acc : List D) (h : Hd), xs.length - k + 1 ≤ N → acc.length + (xs.length - k) ≤ LN → h[D0]? = some (.lst acc) →
    lcM' (.fix xs) (nameG i) yesM a D0 sg0 N k h = some (h.set D0 (.lst (acc ++ (xs.drop k).map f)))
  | 0, k, acc, h, h1, _, _ => by omega
  | N + 1, k, acc, h, h1, h2, h3 => by
    unfold lcM'
    simp only [Src.nxt]
    cases q : xs[k]? with
    | none =>
      have hk := List.getElem?_eq_none_iff.mp q
      simp only [List.drop_eq_nil_of_le hk, List.map_nil, List.append_nil]
      congr 1
      exact (List.set_getElem_self' h3).symm
    | some x =>
      have hk := (List.getElem?_eq_some_iff.mp q).1
      have hx : x ∈ xs := List.mem_of_getElem? q
      simp only [nameG, yesM, ha x hx, h3]
      rw [if_pos (by omega)]
      rw [lc_pure ha N (k + 1) (acc ++ [f x]) _ (by omega) (by simp; omega) (get_set h3)]
      rw [List.set_set]
      have : xs.drop k = x :: xs.drop (k + 1) := by
        rw [List.drop_eq_getElem_cons hk]
        congr 1
        exact (List.getElem?_eq_some_iff.mp q).2
      rw [this, List.map_cons, List.append_assoc]
      rfl
where
  List.set_getElem_self' {h : Hd} {i : Nat} {o : O} (e : h[i]? = some o) : h.set i o = h := by
    obtain ⟨hi, e⟩ := List.getElem?_eq_some_iff.mp e
    rw [← e]
    exact List.set_getElem_self hi
end
section
variable (NF RD : Nat)
/-! ### atoms -/
def sgD (c : Nat) : D := .str ⟨⟨[c]⟩⟩
theorem ord_sg (c : Nat) (h : Hd) : ordD [sgD c] h = some (.int c, h) := rfl
theorem lt_sg (a c : Nat) : ltS ⟨⟨[a]⟩⟩ ⟨⟨[c]⟩⟩ = decide (a < c) := by
  unfold ltS
  simp only [List.cons_lt_cons_iff, List.not_lt_nil, and_false, or_false]
theorem s_blank : (PySem.Str.ofString " ") = ⟨⟨[32]⟩⟩ := by decide +kernel
theorem s_tilde : (PySem.Str.ofString "~") = ⟨⟨[126]⟩⟩ := by decide +kernel
theorem el_atom (c : Nat) (x : Option D) (h : Hd) : E_is_any_atom_0 NF RD [x, some (sgD c)] h = some (.bl (signOk c), h) := by
  unfold E_is_any_atom_0 sgD
  walk_at "ev"
  rw [s_blank, s_tilde, lt_sg, lt_sg]
  by_cases q : c < 32
  · have q' : ¬ (32 ≤ c) := by omega
    simp [truD, signOk, q, q']
  · have q' : 32 ≤ c := by omega
    by_cases q2 : 126 < c
    · have q2' : ¬ (c ≤ 126) := by omega
      simp [truD, signOk, q, q', q2, q2']
    · have q2' : c ≤ 126 := by omega
      by_cases q3 : c = 37
      · subst q3
        simp [truD, signOk, ordD, ne_ii]
        try rfl
      · have q3' : ¬ ((c : Int) = 37) := by omega
        simp [truD, signOk, q, q', q2, q2', q3, ordD, ne_ii, q3']
theorem bls_all : ∀ l : List Nat, blsD (l.map fun c => D.bl (signOk c)) = some (l.map signOk)
  | [] => rfl
  | c :: l => by
    rw [List.map_cons, blsD, bls_all l]
    rfl
theorem r_is_any_atom (s : Str) (h : Hd) (hN : 50 ≤ NF) (hz : s.length ≤ LN) : ∃ h', m_is_any_atom NF RD [.str s] h = some (.bl (atomOk s), h') ∧ Pre h h' := by
  unfold m_is_any_atom
  · walk_at "ev"
    rw [if_pos hz]
    simp only [Int.ofNat_eq_natCast]
    by_cases hl : s.length ≤ 40
    · have h40 : decide ((40 : Int) < (s.length : Int)) = false := decide_eq_false (by omega)
      simp only [h40]
      unfold lcM
      walk_at "ev"
      have ha : ∀ x ∈ (s.cps.toList.map sgD), ∀ h, E_is_any_atom_0 NF RD ((wipeD [some (D.str s), none] [1]).set 1 (some x)) h = some ((match x with | .str ⟨⟨[c]⟩⟩ => .bl (signOk c) | _ => .non), h) := by
        intro x hx h
        obtain ⟨c, _, rfl⟩ := List.mem_map.mp hx
        exact el_atom NF RD c _ h
      have hlen : s.cps.toList.length = s.length := by simp [Str.length]
      have key := lc_pure ha NF 0 [] (h ++ [O.lst []]) (D0 := h.length) (by rw [List.length_map, hlen]; omega) (by rw [List.length_map, hlen]; simp; omega) (get_new _ _)
      have e0 : (s.cps.toList.map fun c => D.str ⟨⟨[c]⟩⟩) = s.cps.toList.map sgD := rfl
      rw [e0, key]
      simp only [allD, List.drop_zero, List.nil_append, List.map_map]
      rw [get_set (get_new _ _)]
      have e1 : (s.cps.toList.map ((fun x => match x with | .str ⟨⟨[c]⟩⟩ => D.bl (signOk c) | _ => .non) ∘ sgD)) = s.cps.toList.map fun c => D.bl (signOk c) := rfl
      simp only [e1, bls_all]
      refine ⟨_, congrArg some (Prod.ext (congrArg D.bl ?_) rfl), (Pre.app h [.lst []]).set (Nat.le_refl _) _⟩
      unfold atomOk
      rw [decide_eq_true hl, Bool.true_and, List.all_map]
      rfl
    · have h40 : decide ((40 : Int) < (s.length : Int)) = true := decide_eq_true (by omega)
      simp only [h40]
      refine ⟨h, ?_, Pre.refl h⟩
      unfold atomOk
      rw [decide_eq_false hl]
      rfl
end

local macro_rules | `(tactic| walk_at "ev") => `(tactic| simp only [bodyM, startD, varM, cM, opM, testM, chainM, nilM, consM, tupM, lstM, DL.andM, DL.orM, DL.notM, truM, tandM, torM, tnotM, ifM, negM,
  addD, subD, mulD, fdivD, modD, powD, ltD, leD, gtD, geD, subsD, seqD, keyD, noM, partM, sliceD, slM, cbM, lenD, absD, intD, isiD, kdD, kb1, kb2, kb3, kb4, kb5, kb6, kb7, kb8, kb9, kb10, kb11, kb12, kb13, kb14, kb15, kb16, eq_ii, ne_ii,
  bmM, isDct, dnewM, nameG, nilG, consG, tupG, passM, brkM, cntM, exprM, retM, asgM, seqM, ifSM, neverM, augM, addID, parM, par3M, callM, truD, k_MOST_ARGUMENTS, k_MOST_SIGNS, k_TOO_GREAT, seqI, backM, backD, tuplD,
  List.map_cons, List.map_nil, List.length_cons, List.length_nil, List.cons_append, List.nil_append, List.append_nil, List.getElem?_cons_zero, List.getElem?_cons_succ, List.getElem?_nil, List.replicate, List.set_cons_zero, List.set_cons_succ,
  if_true, if_false, ↓reduceIte, Bool.false_eq_true, Bool.not_true, Bool.not_false, decide_true, decide_false, Nat.reduceSub, Nat.reduceAdd, Nat.reduceLeDiff, Nat.reduceEqDiff, Int.reduceLT, Int.reduceLE, Nat.zero_le, String.reduceBEq, beq_self_eq_true])
local macro_rules | `(tactic| walk_at "hp") => `(tactic| first | assumption | exact get_set (by assumption) | exact get_new _ _ | exact (Pre.app _ _).get (by assumption) | exact (Pre.app _ _).get (get_new _ _) | exact get_set (get_new _ _))
local macro_rules | `(tactic| walk_at "wp") => `(tactic| repeat' (first
  | with_reducible refine ev_seq ?_ | with_reducible refine ev_ret ?_ | with_reducible refine ev_asg ?_ | with_reducible refine ev_expr ?_ | with_reducible refine ev_ifS ?_ | with_reducible refine ev_pass ?_ | with_reducible refine ev_cnt ?_ | with_reducible refine ev_brk ?_
  | ((with_reducible apply ev_var); · exact rfl) | with_reducible refine ev_c ?_ | with_reducible refine ev_op ?_ | with_reducible refine ev_chain ?_ | with_reducible refine ev_neg ?_ | with_reducible refine ev_and ?_ | with_reducible refine ev_or ?_ | with_reducible refine ev_not ?_ | with_reducible refine ev_ifE ?_
  | with_reducible refine ev_test ?_ | with_reducible refine ev_tru ?_ | with_reducible refine ev_tand ?_ | with_reducible refine ev_tor ?_ | with_reducible refine ev_tnot ?_ | with_reducible refine ev_yes ?_ | with_reducible refine ev_nil ?_ | with_reducible refine ev_cons ?_
  | with_reducible refine ev_tup ?_ | with_reducible refine ev_lst ?_ | with_reducible refine ev_dnew ?_ | with_reducible refine ev_cb ?_ | with_reducible refine ev_bm ?_ | with_reducible refine ev_no ?_ | with_reducible refine ev_part ?_ | with_reducible refine ev_sl ?_ | with_reducible refine ev_back ?_ | with_reducible refine ev_call ?_
  | with_reducible refine ev_par ?_ | with_reducible refine ev_par3 ?_ | with_reducible refine ev_name ?_ | with_reducible refine ev_nilG ?_ | with_reducible refine ev_consG ?_ | ((with_reducible refine ev_tupG ?_ ?_); · exact rfl) | with_reducible refine ev_body ?_ | with_reducible refine ev_seqI ?_ | with_reducible refine ev_rngI ?_ | with_reducible refine ev_enuI ?_ | with_reducible refine ev_forS ?_
  | with_reducible refine sq_nx ?_ | with_reducible refine sq_rt ?_ | with_reducible refine sq_bk ?_ | with_reducible refine sq_ct ?_ | with_reducible refine bd_nx ?_ | with_reducible refine bd_rt ?_ | with_reducible refine lp_nx ?_ | with_reducible refine lp_ct ?_ | with_reducible refine lp_bk ?_ | with_reducible refine lp_rt ?_
  | with_reducible refine tr_bl ?_ | with_reducible refine tr_int ?_ | with_reducible refine tr_tup ?_ | with_reducible refine tr_non ?_ | with_reducible refine blk ?_ | with_reducible refine itk ?_ | with_reducible refine p2k ?_ | with_reducible refine p3k ?_ | refine m1k ?_
  | ((with_reducible apply kd_lst); · walk_at "hp") | ((with_reducible refine ln_k ?_ ?_); · first | assumption | exact Nat.le_of_ble_eq_true rfl) | ((with_reducible refine cl_k ?_ ?_); · exact rfl)
  | with_reducible refine br_tt ?_ | with_reducible refine br_ff ?_ | ((with_reducible refine br_t ?_ ?_); · assumption) | ((with_reducible refine br_f ?_ ?_); · assumption) | (refine br_tt ?_) | (refine br_ff ?_)
  | ((with_reducible apply lf_isi); (· exact rfl); · first | exact kb1 | exact kb2 | exact kb3 | exact kb4 | exact kb5 | exact kb6 | exact kb7 | exact kb8 | exact kb9 | exact kb10 | exact kb11 | exact kb12 | exact kb13 | exact kb14 | exact kb15 | exact kb16)
  | ((with_reducible apply ev_aug); · exact rfl) | with_reducible refine lf_addIDI ?_ | with_reducible refine lf_addI ?_ | with_reducible refine lf_subI ?_ | with_reducible refine lf_lt ?_ | with_reducible refine lf_le ?_ | with_reducible refine lf_gt ?_ | with_reducible refine lf_ge ?_ | with_reducible refine lf_eqI ?_ | with_reducible refine lf_neI ?_ | with_reducible refine lf_lenT ?_ | with_reducible refine lf_lenR ?_
  | ((with_reducible apply lf_lenL); · walk_at "hp") | ((with_reducible refine lf_lenS ?_ ?_); · assumption) | with_reducible refine lf_abs ?_ | with_reducible refine lf_intI ?_ | with_reducible refine lf_intB ?_ | with_reducible refine lf_max ?_ | with_reducible refine lf_min ?_ | with_reducible refine lf_tuplT ?_ | ((with_reducible apply lf_tuplL); · walk_at "hp")
  | ((with_reducible refine lf_mod ?_ ?_); · first | assumption | decide) | ((with_reducible refine lf_fdiv ?_ ?_); · first | assumption | decide +kernel) | ((with_reducible refine lf_pow ?_ ?_); · first | assumption | decide +kernel) | ((with_reducible refine lf_mulI ?_ ?_); · first | assumption | exact .inr (.inl ⟨by decide, by decide⟩) | exact .inl ⟨by decide, by decide⟩)
  | ((with_reducible apply lf_ix); · exact at0 _ _) | with_reducible refine lf_slT ?_ | with_reducible refine lf_backT0 ?_ | ((with_reducible apply lf_listL); · walk_at "hp") | with_reducible refine sq_fix ?_ | with_reducible refine sq_rol ?_ | ((with_reducible apply sq_obj); · walk_at "hp") | with_reducible refine sq_str ?_))
/-! ### lists that grow and shrink -/
theorem c_wait {i : Nat} {sg : Sg} {h : Hd} {w : Nat} {ws : List D} (e : sg[i]? = some (some (.at w))) (eh : h[w]? = some (.lst ws)) (ht : ∀ d ∈ ws, toP (rP 2 (h ++ [.lst []])) d = some (pd d) ∧ (pd d).canLay0 = true) :
    testM (opM neD (varM i) (lstM nilM)) sg h = some (!ws.isEmpty, h ++ [.lst []]) := by
  have h1 := ne_nil ((Pre.app h [.lst []]).get eh) (get_new h (.lst [])) ht
  unfold testM opM varM lstM nilM
  simp only [e, List.length_nil, Nat.zero_le, if_true, h1]
theorem while_nx {c : MT} {b : MS} {sg sg2 : Sg} {h h1 h2 : Hd} {k : Nat} (hc : c sg h = some (true, h1)) (hb : b sg h1 = some (.nx sg2, h2)) : whileM c b (k + 1) sg h = whileM c b k sg2 h2 := by
  rw [whileM]
  simp only [hc, hb]
theorem while_end {c : MT} {b : MS} {sg : Sg} {h h1 : Hd} {k : Nat} (hc : c sg h = some (false, h1)) : whileM c b (k + 1) sg h = some (.nx sg, h1) := by
  rw [whileM]
  simp only [hc]
theorem snoc_of {α : Type} {ws : List α} (h : ws ≠ []) : ∃ i d, ws = i ++ [d] := ⟨ws.dropLast, ws.getLast h, (List.dropLast_concat_getLast h).symm⟩
/-! ### arguments -/
def args : D → List D
  | .tup (_ :: as) => as
  | _ => []
theorem parts_args {d : D} (t : T d) : parts d = d :: partss (args d) := by
  cases t <;> simp [parts, partsT, args, partss]
theorem T.args {d : D} (t : T d) : ∀ a ∈ args d, T a := by
  cases t with
  | var n h => intro a ha; cases ha
  | int i h => intro a ha; cases ha
  | str s h => intro a ha; cases ha
  | cmp f a as hf hl ht => exact ht
theorem args_few {d : D} (t : T d) : (args d).length ≤ 8 := by
  cases t with
  | var n h => simp [K42.args]
  | int i h => simp [K42.args]
  | str s h => simp [K42.args]
  | cmp f a as hf hl ht => simp [K42.args]; omega
theorem atom_len {s : Str} (h : atomOk s = true) : s.length ≤ 40 := by
  unfold atomOk at h
  simpa using (Bool.and_eq_true_iff.mp h).1
theorem isCmp_cmp (f a : D) (as : List D) : isCmp (.tup (f :: a :: as)) = true := by
  simp only [isCmp, List.length_cons, decide_eq_true_eq]
  omega
theorem cut1 (f : D) (as : List D) : cutD (f :: as) (some 1) none = as := by
  have h1 : HT.sIx (f :: as).length 0 (some 1) = 1 := by
    unfold HT.sIx
    simp
  have h2 : HT.sIx (f :: as).length (f :: as).length none = as.length + 1 := by
    unfold HT.sIx
    simp
  unfold cutD
  rw [h1, h2]
  simp
section
variable (NF RD : Nat)
theorem b_is_term {x : D} {w : Nat} {p : Option D} {h : Hd} {ws : List D} {d : D} (hN : 50 ≤ NF) (e : h[w]? = some (.lst (ws ++ [d]))) (t : T d) (hl : ws.length + 8 ≤ LN) :
    Rt (B_is_term_1 NF RD [some x, some (.at w), p] h) (.nx [some x, some (.at w), some d]) (Pre (h.set w (.lst (ws ++ args d)))) := by
  refine rt_of ?_
  have e2 := get_set (p := .lst ws) e
  unfold B_is_term_1
  walk_at "wp"
  refine lf_pop e ?_
  walk_at "wp"
  refine ev_eq (r_is_compound NF RD d _ t.flat) ?_
  cases t with
  | var n hn =>
    walk_at "wp"
    refine ev_eq (r_is_variable NF RD _ (T.var n hn)) ?_
    walk_at "wp"
    refine br_f (by simp [isVar, hn]) ?_
    walk_at "wp"
    exact ⟨rfl, by simp [args]; exact Pre.refl _⟩
  | int i hi =>
    walk_at "wp"
    refine ev_eq (r_is_variable NF RD _ (T.int i hi)) ?_
    walk_at "wp"
    refine ev_eq (r_is_any_number NF RD _ _ rfl) ?_
    walk_at "wp"
    refine br_f (by simp [hi]) ?_
    walk_at "wp"
    exact ⟨rfl, by simp [args]; exact Pre.refl _⟩
  | str s hs =>
    walk_at "wp"
    refine ev_eq (r_is_variable NF RD _ (T.str s hs)) ?_
    walk_at "wp"
    refine ev_eq (r_is_any_number NF RD _ _ rfl) ?_
    walk_at "wp"
    refine ev_of (r_is_any_atom NF RD s _ hN (Nat.le_trans (atom_len hs) (by decide))) fun h' p => ?_
    walk_at "wp"
    refine br_f (by simp [hs]) ?_
    walk_at "wp"
    exact ⟨rfl, by simp [args]; exact p⟩
  | cmp f a as hf hn ht =>
    refine tr_bl (br_t (isCmp_cmp _ _ _) ?_)
    walk_at "wp"
    refine br_f (by simp only [List.length_cons, decide_eq_false_iff_not]; omega) ?_
    walk_at "wp"
    refine ev_of (r_is_any_atom NF RD f _ hN (Nat.le_trans (atom_len hf) (by decide))) fun h' p => ?_
    walk_at "wp"
    refine br_f (by simp [hf]) ?_
    have e3 := p.get e2
    walk_at "wp"
    refine lf_extendT e3 ?_ ?_
    · rw [cut1]; simp only [List.length_cons]; omega
    rw [cut1]
    refine ⟨rfl, ?_⟩
    obtain ⟨g, rfl⟩ := p
    rw [List.set_append_left _ _ (by simpa using lt_of e), List.set_set]
    exact Pre.app _ _
theorem r_is_term {d : D} {h : Hd} (t : T d) (hN : 50 ≤ NF) (hl : (parts d).length < NF) (hl2 : (parts d).length + 16 ≤ LN) : Rt (m_is_term NF RD [d] h) (.bl true) (Pre h) := by
  refine rt_of ?_
  unfold m_is_term
  walk_at "wp"
  refine ev_while (fun n sg h1 => ∃ ws p, sg = [some d, some (.at h.length), p] ∧ n = (partss ws).length ∧ (∀ x ∈ ws, T x) ∧ h1[h.length]? = some (.lst ws) ∧ Pre h h1 ∧ n ≤ (parts d).length) ?_ NF (parts d).length _ _ ⟨[d], none, rfl, by simp [partss], by simpa using t, get_new _ _, Pre.app _ _, Nat.le_refl _⟩ hl
  rintro n sg h1 ⟨ws, p, rfl, rfl, ht, e, hp, hn⟩
  unfold C_is_term_0
  refine ev_eq (c_wait rfl e (T.datL ht)) ?_
  cases hw : ws.isEmpty with
  | true =>
    walk_at "wp"
    exact ⟨rfl, hp.app' _⟩
  | false =>
    obtain ⟨i, y, rfl⟩ := snoc_of (ws := ws) (by rintro rfl; cases hw)
    have e2 := (Pre.app h1 [.lst []]).get e
    have hl3 := len_partss (i ++ [y])
    have ty := ht y (by simp)
    refine br_tt ?_
    refine ev_of (b_is_term NF RD hN e2 ty (by simp at hl3; omega)) fun h' p' => ?_
    refine lp_nx ⟨_, ?_, i ++ args y, _, rfl, rfl, ?_, p'.get (get_set e2), ((hp.app' _).set (Nat.le_refl _) _).trans p', ?_⟩
    · rw [partss_app, partss_app]
      simp only [partss, parts_args ty, List.length_append, List.length_cons, List.append_nil]
      omega
    · intro z hz
      rcases List.mem_append.mp hz with q | q
      · exact ht z (by simp [q])
      · exact ty.args z q
    · rw [partss_app] at hn ⊢
      simp only [partss, parts_args ty, List.length_append, List.length_cons, List.append_nil] at hn
      simp only [List.length_append]
      omega
end

theorem LN_eq : LN = 16777216 := rfl
/-! ### texts -/
section
variable {h : Hd} {Q : D → Hd → Prop} {a b : Str} {x : D} {xs : List D} {neg : Bool}
theorem eq_ss (ha : PyData.strOk a = true) (hb : PyData.strOk b = true) : eqD (.str a) (.str b) h = some (.bl (decide (a = b)), h) := by
  unfold eqD datD
  simp only [toP, PyData.canLay0, ha, hb, PyData.depth, PyData.eqv, true_and, Nat.min_self, Nat.zero_le, if_true]
  rw [Bool.beq_eq_decide_eq]
theorem lf_eqT (e : (PyData.strOk a && PyData.strOk b && decide (a = b)) = true) (q : Q (.bl true) h) : Ev (eqD (.str a) (.str b) h) Q := by
  simp only [Bool.and_eq_true] at e
  exact ⟨_, _, eq_ss e.1.1 e.1.2, by rw [e.2]; exact q⟩
theorem lf_eqF (e : (PyData.strOk a && PyData.strOk b && !decide (a = b)) = true) (q : Q (.bl false) h) : Ev (eqD (.str a) (.str b) h) Q := by
  simp only [Bool.and_eq_true, Bool.not_eq_true'] at e
  exact ⟨_, _, eq_ss e.1.1 e.1.2, by rw [e.2]; exact q⟩
def inC (neg : Bool) (x : D) (xs : List D) : Option Bool := match flD x, flDs xs with
  | some v, some vs => some (neg ^^ inV v vs)
  | _, _ => none
theorem lf_inC {b : Bool} (e : inC neg x xs = some b) (q : Q (.bl b) h) : Ev (inD neg x (.tup xs) h) Q := by
  unfold inC at e
  refine ⟨_, _, ?_, q⟩
  unfold inD
  try simp only [seqD]
  split at e
  · rename_i v vs e1 e2
    try simp only [e1, e2]
    cases e
    rfl
  · cases e
theorem lf_inT (e : inC neg x xs = some true) (q : Q (.bl true) h) : Ev (inD neg x (.tup xs) h) Q := lf_inC e q
theorem lf_inF (e : inC neg x xs = some false) (q : Q (.bl false) h) : Ev (inD neg x (.tup xs) h) Q := lf_inC e q
theorem lf_isT (e : isNonD x = true) (q : Q (.bl true) h) : Ev (isD x .non h) Q := ⟨_, _, by simp only [isD, e], q⟩
theorem lf_isF (e : isNonD x = false) (q : Q (.bl false) h) : Ev (isD x .non h) Q := ⟨_, _, by simp only [isD, e], q⟩
theorem lf_isntT (e : isNonD x = false) (q : Q (.bl true) h) : Ev (isntD x .non h) Q := ⟨_, _, by simp only [isntD, e]; rfl, q⟩
theorem lf_isntF (e : isNonD x = true) (q : Q (.bl false) h) : Ev (isntD x .non h) Q := ⟨_, _, by simp only [isntD, e]; rfl, q⟩
theorem at1 {α : Type} (x y : α) (xs : List α) : L2.atI (x :: y :: xs) 1 = some y := by
  unfold L2.atI L2.ixN
  have : (1 : Int) < ((x :: y :: xs).length : Int) := by simp only [List.length_cons]; omega
  rw [if_pos (by decide), if_pos this]
  rfl
theorem at2 {α : Type} (x y z : α) (xs : List α) : L2.atI (x :: y :: z :: xs) 2 = some z := by
  unfold L2.atI L2.ixN
  have : (2 : Int) < ((x :: y :: z :: xs).length : Int) := by simp only [List.length_cons]; omega
  rw [if_pos (by decide), if_pos this]
  rfl
end
local macro_rules | `(tactic| walk_at "hp") => `(tactic| first | assumption | exact get_set (by assumption) | exact get_new _ _ | exact (Pre.app _ _).get (by assumption) | exact (Pre.app _ _).get (get_new _ _) | exact get_set (get_new _ _))
local macro_rules | `(tactic| walk_at "w1") => `(tactic| (with_reducible refine sq_str ?_))
local macro_rules | `(tactic| walk_at "w1") => `(tactic| (((with_reducible apply sq_obj); · walk_at "hp")))
local macro_rules | `(tactic| walk_at "w1") => `(tactic| (with_reducible refine sq_rol ?_))
local macro_rules | `(tactic| walk_at "w1") => `(tactic| (with_reducible refine sq_fix ?_))
local macro_rules | `(tactic| walk_at "w1") => `(tactic| (((with_reducible apply lf_listL); · walk_at "hp")))
local macro_rules | `(tactic| walk_at "w1") => `(tactic| (with_reducible refine lf_backT0 ?_))
local macro_rules | `(tactic| walk_at "w1") => `(tactic| (with_reducible refine lf_slT ?_))
local macro_rules | `(tactic| walk_at "w1") => `(tactic| (((with_reducible apply lf_ix); · exact at2 _ _ _ _)))
local macro_rules | `(tactic| walk_at "w1") => `(tactic| (((with_reducible apply lf_ix); · exact at1 _ _ _)))
local macro_rules | `(tactic| walk_at "w1") => `(tactic| (((with_reducible apply lf_ix); · exact at0 _ _)))
local macro_rules | `(tactic| walk_at "w1") => `(tactic| (((with_reducible refine lf_isntF ?_ ?_); · exact rfl)))
local macro_rules | `(tactic| walk_at "w1") => `(tactic| (((with_reducible refine lf_isntT ?_ ?_); · exact rfl)))
local macro_rules | `(tactic| walk_at "w1") => `(tactic| (((with_reducible refine lf_isF ?_ ?_); · exact rfl)))
local macro_rules | `(tactic| walk_at "w1") => `(tactic| (((with_reducible refine lf_isT ?_ ?_); · exact rfl)))
local macro_rules | `(tactic| walk_at "w1") => `(tactic| (with_reducible refine ky_str ?_))
local macro_rules | `(tactic| walk_at "w1") => `(tactic| (with_reducible refine ky_int ?_))
local macro_rules | `(tactic| walk_at "w1") => `(tactic| (with_reducible refine ev_pnil ?_))
local macro_rules | `(tactic| walk_at "w1") => `(tactic| (with_reducible refine ev_pcons ?_))
local macro_rules | `(tactic| walk_at "w1") => `(tactic| (with_reducible refine ev_disp ?_))
local macro_rules | `(tactic| walk_at "w1") => `(tactic| (with_reducible refine rv_tup ?_))
local macro_rules | `(tactic| walk_at "w1") => `(tactic| (with_reducible refine ev_revI ?_))
local macro_rules | `(tactic| walk_at "w1") => `(tactic| (with_reducible refine ev_bits ?_))
local macro_rules | `(tactic| walk_at "w1") => `(tactic| (((with_reducible refine lf_fdivZp ?_ ?_); · assumption)))
local macro_rules | `(tactic| walk_at "w1") => `(tactic| (((with_reducible refine lf_modZp ?_ ?_); · assumption)))
local macro_rules | `(tactic| walk_at "w1") => `(tactic| (with_reducible refine lf_bit ?_))
local macro_rules | `(tactic| walk_at "w1") => `(tactic| (((with_reducible refine lf_inF ?_ ?_); · decide +kernel)))
local macro_rules | `(tactic| walk_at "w1") => `(tactic| (((with_reducible refine lf_inT ?_ ?_); · decide +kernel)))
local macro_rules | `(tactic| walk_at "w1") => `(tactic| (((with_reducible refine lf_eqF ?_ ?_); · decide +kernel)))
local macro_rules | `(tactic| walk_at "w1") => `(tactic| (((with_reducible refine lf_eqT ?_ ?_); · decide +kernel)))
local macro_rules | `(tactic| walk_at "w1") => `(tactic| (((with_reducible refine lf_mulI ?_ ?_); · first | assumption | exact .inr (.inl ⟨by decide, by decide⟩) | exact .inl ⟨by decide, by decide⟩)))
local macro_rules | `(tactic| walk_at "w1") => `(tactic| (((with_reducible refine lf_pow ?_ ?_); · first | assumption | decide +kernel)))
local macro_rules | `(tactic| walk_at "w1") => `(tactic| (((with_reducible refine lf_fdiv ?_ ?_); · first | assumption | decide +kernel)))
local macro_rules | `(tactic| walk_at "w1") => `(tactic| (((with_reducible refine lf_mod ?_ ?_); · first | assumption | decide)))
local macro_rules | `(tactic| walk_at "w1") => `(tactic| (((with_reducible apply lf_tuplL); · walk_at "hp")))
local macro_rules | `(tactic| walk_at "w1") => `(tactic| (with_reducible refine lf_tuplT ?_))
local macro_rules | `(tactic| walk_at "w1") => `(tactic| (with_reducible refine lf_min ?_))
local macro_rules | `(tactic| walk_at "w1") => `(tactic| (with_reducible refine lf_max ?_))
local macro_rules | `(tactic| walk_at "w1") => `(tactic| (with_reducible refine lf_intB ?_))
local macro_rules | `(tactic| walk_at "w1") => `(tactic| (with_reducible refine lf_intI ?_))
local macro_rules | `(tactic| walk_at "w1") => `(tactic| (with_reducible refine lf_abs ?_))
local macro_rules | `(tactic| walk_at "w1") => `(tactic| (((with_reducible refine lf_lenS ?_ ?_); · assumption)))
local macro_rules | `(tactic| walk_at "w1") => `(tactic| (((with_reducible apply lf_lenL); · walk_at "hp")))
local macro_rules | `(tactic| walk_at "w1") => `(tactic| (with_reducible refine lf_lenR ?_))
local macro_rules | `(tactic| walk_at "w1") => `(tactic| (with_reducible refine lf_lenT ?_))
local macro_rules | `(tactic| walk_at "w1") => `(tactic| (with_reducible refine lf_neI ?_))
local macro_rules | `(tactic| walk_at "w1") => `(tactic| (with_reducible refine lf_eqI ?_))
local macro_rules | `(tactic| walk_at "w1") => `(tactic| (with_reducible refine lf_ge ?_))
local macro_rules | `(tactic| walk_at "w1") => `(tactic| (with_reducible refine lf_gt ?_))
local macro_rules | `(tactic| walk_at "w1") => `(tactic| (with_reducible refine lf_le ?_))
local macro_rules | `(tactic| walk_at "w1") => `(tactic| (with_reducible refine lf_lt ?_))
local macro_rules | `(tactic| walk_at "w1") => `(tactic| (with_reducible refine lf_subI ?_))
local macro_rules | `(tactic| walk_at "w1") => `(tactic| (with_reducible refine lf_addI ?_))
local macro_rules | `(tactic| walk_at "w1") => `(tactic| (with_reducible refine lf_addIDI ?_))
local macro_rules | `(tactic| walk_at "w1") => `(tactic| (((with_reducible apply ev_aug); · exact rfl)))
local macro_rules | `(tactic| walk_at "w1") => `(tactic| (((with_reducible apply lf_isi); (· exact rfl); · first | exact kb1 | exact kb2 | exact kb3 | exact kb4 | exact kb5 | exact kb6 | exact kb7 | exact kb8 | exact kb9 | exact kb10 | exact kb11 | exact kb12 | exact kb13 | exact kb14 | exact kb15 | exact kb16)))
local macro_rules | `(tactic| walk_at "w1") => `(tactic| (refine br_ff ?_))
local macro_rules | `(tactic| walk_at "w1") => `(tactic| (refine br_tt ?_))
local macro_rules | `(tactic| walk_at "w1") => `(tactic| (((with_reducible refine br_f ?_ ?_); · assumption)))
local macro_rules | `(tactic| walk_at "w1") => `(tactic| (((with_reducible refine br_t ?_ ?_); · assumption)))
local macro_rules | `(tactic| walk_at "w1") => `(tactic| (with_reducible refine br_ff ?_))
local macro_rules | `(tactic| walk_at "w1") => `(tactic| (with_reducible refine br_tt ?_))
local macro_rules | `(tactic| walk_at "w1") => `(tactic| (((with_reducible refine cl_k ?_ ?_); · exact rfl)))
local macro_rules | `(tactic| walk_at "w1") => `(tactic| (((with_reducible refine ln_k ?_ ?_); · first | assumption | exact Nat.le_of_ble_eq_true rfl)))
local macro_rules | `(tactic| walk_at "w1") => `(tactic| (((with_reducible apply kd_lst); · walk_at "hp")))
local macro_rules | `(tactic| walk_at "w1") => `(tactic| (refine m1k ?_))
local macro_rules | `(tactic| walk_at "w1") => `(tactic| (with_reducible refine p3k ?_))
local macro_rules | `(tactic| walk_at "w1") => `(tactic| (with_reducible refine p2k ?_))
local macro_rules | `(tactic| walk_at "w1") => `(tactic| (with_reducible refine itk ?_))
local macro_rules | `(tactic| walk_at "w1") => `(tactic| (with_reducible refine blk ?_))
local macro_rules | `(tactic| walk_at "w1") => `(tactic| (with_reducible refine tr_non ?_))
local macro_rules | `(tactic| walk_at "w1") => `(tactic| (with_reducible refine tr_tup ?_))
local macro_rules | `(tactic| walk_at "w1") => `(tactic| (with_reducible refine tr_int ?_))
local macro_rules | `(tactic| walk_at "w1") => `(tactic| (with_reducible refine tr_bl ?_))
local macro_rules | `(tactic| walk_at "w1") => `(tactic| (with_reducible refine lp_rt ?_))
local macro_rules | `(tactic| walk_at "w1") => `(tactic| (with_reducible refine lp_bk ?_))
local macro_rules | `(tactic| walk_at "w1") => `(tactic| (with_reducible refine lp_ct ?_))
local macro_rules | `(tactic| walk_at "w1") => `(tactic| (with_reducible refine lp_nx ?_))
local macro_rules | `(tactic| walk_at "w1") => `(tactic| (with_reducible refine bd_rt ?_))
local macro_rules | `(tactic| walk_at "w1") => `(tactic| (with_reducible refine bd_nx ?_))
local macro_rules | `(tactic| walk_at "w1") => `(tactic| (with_reducible refine sq_ct ?_))
local macro_rules | `(tactic| walk_at "w1") => `(tactic| (with_reducible refine sq_bk ?_))
local macro_rules | `(tactic| walk_at "w1") => `(tactic| (with_reducible refine sq_rt ?_))
local macro_rules | `(tactic| walk_at "w1") => `(tactic| (with_reducible refine ev_forS ?_))
local macro_rules | `(tactic| walk_at "w1") => `(tactic| (with_reducible refine ev_enuI ?_))
local macro_rules | `(tactic| walk_at "w1") => `(tactic| (with_reducible refine ev_rngI ?_))
local macro_rules | `(tactic| walk_at "w1") => `(tactic| (with_reducible refine ev_seqI ?_))
local macro_rules | `(tactic| walk_at "w1") => `(tactic| (with_reducible refine ev_body ?_))
local macro_rules | `(tactic| walk_at "w1") => `(tactic| (((with_reducible refine ev_uplT ?_ ?_); · exact rfl)))
local macro_rules | `(tactic| walk_at "w1") => `(tactic| (((with_reducible refine ev_tupG ?_ ?_); · exact rfl)))
local macro_rules | `(tactic| walk_at "w1") => `(tactic| (with_reducible refine ev_consG ?_))
local macro_rules | `(tactic| walk_at "w1") => `(tactic| (with_reducible refine ev_nilG ?_))
local macro_rules | `(tactic| walk_at "w1") => `(tactic| (with_reducible refine ev_name ?_))
local macro_rules | `(tactic| walk_at "w1") => `(tactic| (with_reducible refine ev_par3 ?_))
local macro_rules | `(tactic| walk_at "w1") => `(tactic| (with_reducible refine ev_par ?_))
local macro_rules | `(tactic| walk_at "w1") => `(tactic| (with_reducible refine ev_call ?_))
local macro_rules | `(tactic| walk_at "w1") => `(tactic| (with_reducible refine ev_back ?_))
local macro_rules | `(tactic| walk_at "w1") => `(tactic| (with_reducible refine ev_sl ?_))
local macro_rules | `(tactic| walk_at "w1") => `(tactic| (with_reducible refine ev_part ?_))
local macro_rules | `(tactic| walk_at "w1") => `(tactic| (with_reducible refine ev_no ?_))
local macro_rules | `(tactic| walk_at "w1") => `(tactic| (with_reducible refine ev_bm ?_))
local macro_rules | `(tactic| walk_at "w1") => `(tactic| (with_reducible refine ev_cb ?_))
local macro_rules | `(tactic| walk_at "w1") => `(tactic| (with_reducible refine ev_dnew ?_))
local macro_rules | `(tactic| walk_at "w1") => `(tactic| (with_reducible refine ev_lst ?_))
local macro_rules | `(tactic| walk_at "w1") => `(tactic| (with_reducible refine ev_tup ?_))
local macro_rules | `(tactic| walk_at "w1") => `(tactic| (with_reducible refine ev_cons ?_))
local macro_rules | `(tactic| walk_at "w1") => `(tactic| (with_reducible refine ev_nil ?_))
local macro_rules | `(tactic| walk_at "w1") => `(tactic| (with_reducible refine ev_yes ?_))
local macro_rules | `(tactic| walk_at "w1") => `(tactic| (with_reducible refine ev_tnot ?_))
local macro_rules | `(tactic| walk_at "w1") => `(tactic| (with_reducible refine ev_tor ?_))
local macro_rules | `(tactic| walk_at "w1") => `(tactic| (with_reducible refine ev_tand ?_))
local macro_rules | `(tactic| walk_at "w1") => `(tactic| (with_reducible refine ev_tru ?_))
local macro_rules | `(tactic| walk_at "w1") => `(tactic| (with_reducible refine ev_test ?_))
local macro_rules | `(tactic| walk_at "w1") => `(tactic| (with_reducible refine ev_ifE ?_))
local macro_rules | `(tactic| walk_at "w1") => `(tactic| (with_reducible refine ev_not ?_))
local macro_rules | `(tactic| walk_at "w1") => `(tactic| (with_reducible refine ev_or ?_))
local macro_rules | `(tactic| walk_at "w1") => `(tactic| (with_reducible refine ev_and ?_))
local macro_rules | `(tactic| walk_at "w1") => `(tactic| (with_reducible refine ev_neg ?_))
local macro_rules | `(tactic| walk_at "w1") => `(tactic| (with_reducible refine ev_chain ?_))
local macro_rules | `(tactic| walk_at "w1") => `(tactic| (with_reducible refine ev_op ?_))
local macro_rules | `(tactic| walk_at "w1") => `(tactic| (with_reducible refine ev_c ?_))
local macro_rules | `(tactic| walk_at "w1") => `(tactic| (((with_reducible apply ev_var); · exact rfl)))
local macro_rules | `(tactic| walk_at "w1") => `(tactic| (with_reducible refine ev_brk ?_))
local macro_rules | `(tactic| walk_at "w1") => `(tactic| (with_reducible refine ev_cnt ?_))
local macro_rules | `(tactic| walk_at "w1") => `(tactic| (with_reducible refine ev_pass ?_))
local macro_rules | `(tactic| walk_at "w1") => `(tactic| (with_reducible refine ev_ifS ?_))
local macro_rules | `(tactic| walk_at "w1") => `(tactic| (with_reducible refine ev_expr ?_))
local macro_rules | `(tactic| walk_at "w1") => `(tactic| (with_reducible refine ev_asg ?_))
local macro_rules | `(tactic| walk_at "w1") => `(tactic| (with_reducible refine ev_ret ?_))
local macro_rules | `(tactic| walk_at "w1") => `(tactic| (with_reducible refine ev_seq ?_))
local macro_rules | `(tactic| walk_at "wq") => `(tactic| repeat' (first | walk_at "w1" | fail))
local macro_rules | `(tactic| walk_at "wp") => `(tactic| repeat' (first | walk_at "w1" | with_reducible refine sq_nx ?_ | fail))

/-! ### the operations -/
def nm1 : Nat → Str
  | 0 => "+" | 1 => "-" | 2 => "abs" | 3 => "sign" | 4 => "\\" | _ => "msb"
def nm2 : Nat → Str
  | 0 => "+" | 1 => "-" | 2 => "*" | 3 => "min" | 4 => "max" | 5 => "gcd" | 6 => "/\\" | 7 => "\\/" | 8 => "xor" | 9 => "//" | 10 => "div" | 11 => "mod" | 12 => "rem" | 13 => "<<" | 14 => ">>" | 15 => "**" | _ => "^"
def ab (x : Int) : Int := if x < 0 then -x else x
def pv1 : Nat → Int → Int
  | 0, x => x
  | 1, x => -x
  | 2, x => ab x
  | 3, x => (if decide (0 < x) = true then 1 else 0) - (if decide (x < 0) = true then 1 else 0)
  | 4, x => -x - 1
  | _, x => (Builtin.Int.intBits x : Nat) - 1
def mn (x y : Int) : Int := if y < x then y else x
def pw (x y : Int) : Int := if x = 0 ∨ x = 1 then (if x = 1 ∨ y = 0 then 1 else 0) else if x = -1 then 1 - 2 * (y % 2) else if BIG ≤ ab (x ^ (mn y 1000).toNat) then BIG else x ^ (mn y 1000).toNat
def pv2 : Nat → Int → Int → Int
  | 0, x, y => x + y
  | 1, x, y => x - y
  | 2, x, y => x * y
  | 3, x, y => mn x y
  | 4, x, y => if y > x then y else x
  | 5, x, y => (eu 3000 (ab x, ab y)).1
  | 6, x, y => Builtin.bitAnd x y
  | 7, x, y => Builtin.bitOr x y
  | 8, x, y => Builtin.bitXor x y
  | 9, x, y => tdv x y
  | 10, x, y => x.fdiv y
  | 11, x, y => x.fmod y
  | 12, x, y => x - y * tdv x y
  | 13, x, y => if x ≠ 0 ∧ 1000 < y then BIG else x * 2 ^ (mn y 1000).toNat
  | 14, x, y => x / 2 ^ (mn y 2000).toNat
  | _, x, y => if 0 ≤ y then pw x y else pw x (-y)
theorem ab_of {q : Int} (h0 : 0 ≤ q) (h : q < BIG) : ab q < BIG ∧ ab (-q) < BIG := by
  unfold ab
  constructor <;> split <;> omega
theorem big_2 : BIG < 2 ^ 1000 := by decide +kernel
theorem abs_lt {x : Int} (h : ab x < BIG) : x.natAbs < 2 ^ 1000 := by
  have e : ((2 ^ 1000 : Nat) : Int) = (2 : Int) ^ 1000 := PySem.W.kbt_cast 1000
  have := big_2
  rw [← e] at this
  unfold ab at h
  split at h <;> omega
theorem log_lt {x : Int} (h : ab x < BIG) : x.natAbs.log2 < 1000 := by
  have := abs_lt h
  by_cases h0 : x.natAbs = 0
  · rw [h0]; decide
  · exact (Nat.log2_lt h0).mpr this
theorem bits_lt {x : Int} (h : ab x < BIG) : Builtin.Int.intBits x ≤ 1000 := PySem.intBits_le_iff.mpr (abs_lt h)
section
variable {NF RD : Nat}
theorem r_with_one (k : Nat) (hk : k < 6) (x : Int) (h : Hd) : m_with_one NF RD [.str (nm1 k), .int x] h = some (.int (pv1 k x), h) := by
  have : Ev (m_with_one NF RD [.str (nm1 k), .int x] h) fun r h' => r = .int (pv1 k x) ∧ h' = h := by
    unfold m_with_one
    match k, hk with
    | 0, _ => simp only [nm1]; walk_at "wp"; exact ⟨rfl, rfl⟩
    | 1, _ => simp only [nm1]; walk_at "wp"; exact ⟨rfl, rfl⟩
    | 2, _ => simp only [nm1]; walk_at "wp"; exact ⟨rfl, rfl⟩
    | 3, _ => simp only [nm1]; walk_at "wp"; exact ⟨rfl, rfl⟩
    | 4, _ => simp only [nm1]; walk_at "wp"; exact ⟨rfl, rfl⟩
    | 5, _ => simp only [nm1]; walk_at "wp"; exact ⟨rfl, rfl⟩
  obtain ⟨r, h', e, rfl, rfl⟩ := this
  exact e
theorem r_divisor (x y : Int) (h : Hd) (hN : 3100 ≤ NF) (hy : ab y < BIG) : m_divisor NF RD [.int x, .int y] h = some (.int (eu 3000 (ab x, ab y)).1, h) := by
  have : Ev (m_divisor NF RD [.int x, .int y] h) fun r h' => r = .int (eu 3000 (ab x, ab y)).1 ∧ h' = h := by
    have hab : ∀ z, 0 ≤ ab z := fun z => by unfold ab; split <;> omega
    have hend : ¬ 0 < (eu 3000 (ab x, ab y)).2 := by
      have h1 := eu_end 1000 (ab x, ab y) (Int.lt_trans hy big_2)
      rw [show 3000 = 2 * 1000 + 1000 by omega, eu_add, eu_stop h1]
      exact h1
    unfold m_divisor
    walk_at "wp"
    refine ev_while (fun n sg h1 => h1 = h ∧ n ≤ 3000 ∧ sg = [some (.int (eu (3000 - n) (ab x, ab y)).1), some (.int (eu (3000 - n) (ab x, ab y)).2)]) ?_ NF 3000 _ _ ⟨rfl, Nat.le_refl _, rfl⟩ (by omega)
    rintro n sg h1 ⟨rfl, hn, rfl⟩
    unfold C_divisor_0
    walk_at "wp"
    refine br (fun c => ?_) fun c => ?_
    · have c : 0 < (eu (3000 - n) (ab x, ab y)).2 := by simpa using c
      have hn0 : n ≠ 0 := by rintro rfl; exact hend c
      unfold B_divisor_1
      walk_at "wp"
      have e : eu (3000 - (n - 1)) (ab x, ab y) = ((eu (3000 - n) (ab x, ab y)).2, (eu (3000 - n) (ab x, ab y)).1 % (eu (3000 - n) (ab x, ab y)).2) := by
        rw [show 3000 - (n - 1) = (3000 - n) + 1 by omega, eu_add, eu, if_pos c]
        rfl
      refine ⟨n - 1, by omega, rfl, by omega, ?_⟩
      rw [e]
      rfl
    · have c : ¬ 0 < (eu (3000 - n) (ab x, ab y)).2 := by simpa using c
      walk_at "wp"
      rw [eu_same c hend]
      exact ⟨rfl, rfl⟩
  obtain ⟨r, h', e, rfl, rfl⟩ := this
  exact e
theorem ab_div_lt {x y : Int} (hx : ab x < BIG) (hy : y ≠ 0) : 0 ≤ ab x / ab y ∧ ab x / ab y < BIG := by
  have h0 : 0 ≤ ab x := by unfold ab; split <;> omega
  have h1 : 0 < ab y := by unfold ab; split <;> omega
  have h2 := Int.ediv_nonneg h0 (Int.le_of_lt h1)
  have h3 := Int.ediv_le_self (ab y) h0
  exact ⟨h2, by omega⟩
theorem r_divided (k : Nat) (hk : 9 ≤ k ∧ k ≤ 12) (x y : Int) (h : Hd) (hx : ab x < BIG) (hy : ab y < BIG) (h0 : y ≠ 0) : m_divided NF RD [.str (nm2 k), .int x, .int y] h = some (.int (pv2 k x y), h) := by
  have : Ev (m_divided NF RD [.str (nm2 k), .int x, .int y] h) fun r h' => r = .int (pv2 k x y) ∧ h' = h := by
    have ly := log_lt hy
    have hpos : 0 < (if y < 0 then -y else y) ∧ (if y < 0 then -y else y).natAbs.log2 < 9000 := by
      have e : (if y < 0 then -y else y).natAbs = y.natAbs := by split <;> omega
      rw [e]
      exact ⟨by split <;> omega, by omega⟩
    have hz : y ≠ 0 ∧ y.natAbs.log2 < 9000 := ⟨h0, by omega⟩
    have hd := ab_div_lt hx h0
    have hdl : (ab x / ab y).natAbs.log2 < 1000 := log_lt (ab_of hd.1 hd.2).1
    have hdn : (-(ab x / ab y)).natAbs.log2 < 1000 := log_lt (ab_of hd.1 hd.2).2
    unfold m_divided
    walk_at "wp"
    refine ev_eq (show neD (.bl (decide (x < 0))) (.bl (decide (y < 0))) h = some (.bl (!decide (decide (x < 0) = decide (y < 0))), h) from ?_) ?_
    · unfold neD datD
      simp only [toP, PyData.canLay0, PyData.depth, PyData.eqv, true_and, Nat.min_self, Nat.zero_le, if_true]
      rw [Bool.beq_eq_decide_eq]
    walk_at "wp"
    have fin : ∀ t : Int, t = tdv x y → (t.natAbs.log2 < 1000) → Ev ((seqM (ifSM (testM (opM eqD (varM 0) (cM (.str "//")))) (retM (varM 3)) passM) (seqM (ifSM (testM (opM eqD (varM 0) (cM (.str "rem")))) (retM (opM subD (varM 1) (opM mulD (varM 2) (varM 3)))) passM) (retM (ifM (testM (opM eqD (varM 0) (cM (.str "div")))) (opM fdivZD (varM 1) (varM 2)) (opM modZD (varM 1) (varM 2)))))) [some (.str (nm2 k)), some (.int x), some (.int y), some (.int t)] h) (BdK fun r h' => r = .int (pv2 k x y) ∧ h' = h) := by
      rintro t ht hl
      have hm : (-(2 ^ 64) < y ∧ y < 2 ^ 64) ∨ (-(2 ^ 64) < t ∧ t < 2 ^ 64) ∨ y.natAbs.log2 + t.natAbs.log2 < 1000000 := .inr (.inr (by omega))
      match k, hk with
      | 9, _ => simp only [nm2]; walk_at "wp"; exact ⟨by rw [ht]; rfl, rfl⟩
      | 10, _ => simp only [nm2]; walk_at "wp"; refine lf_fdivZ hz ?_; exact ⟨rfl, rfl⟩
      | 11, _ => simp only [nm2]; walk_at "wp"; refine lf_modZ h0 ?_; exact ⟨rfl, rfl⟩
      | 12, _ => simp only [nm2]; walk_at "wp"; exact ⟨by rw [ht]; rfl, rfl⟩
    refine br (fun c => ?_) fun c => ?_
    · walk_at "wq"
      refine sq_nx ?_
      exact fin _ (if_pos c).symm hdn
    · walk_at "wq"
      refine sq_nx ?_
      exact fin _ (if_neg (by rw [c]; decide)).symm hdl
  obtain ⟨r, h', e, rfl, rfl⟩ := this
  exact e
end


theorem ab_pow (x : Int) (k : Nat) : ab (x ^ k) = (ab x) ^ k := by
  have h : ∀ z : Int, ab z = (z.natAbs : Int) := fun z => by unfold ab; split <;> omega
  rw [h, h, pow_abs, Int.natCast_pow]
theorem ab_nn (z : Int) : 0 ≤ ab z := by unfold ab; split <;> omega
theorem ab_mul (x y : Int) : ab (x * y) = ab x * ab y := by
  have h : ∀ z : Int, ab z = (z.natAbs : Int) := fun z => by unfold ab; split <;> omega
  rw [h, h, h, Int.natAbs_mul, Int.natCast_mul]
theorem pow_up {a : Int} (h : 1 ≤ a) {m n : Nat} (hmn : m ≤ n) : a ^ m ≤ a ^ n := by
  obtain ⟨d, rfl⟩ := Nat.exists_eq_add_of_le hmn
  have hp : ∀ k : Nat, 1 ≤ a ^ k := by
    intro k
    induction k with
    | zero => simp
    | succ k ih =>
      rw [Int.pow_succ]
      have := Int.mul_le_mul ih h (by omega) (by omega)
      omega
  rw [Int.pow_add]
  have := Int.mul_le_mul_of_nonneg_left (hp d) (show 0 ≤ a ^ m by have := hp m; omega)
  omega
section
variable {NF RD : Nat}
theorem lf_inX {x : Int} {zs : List Int} {neg : Bool} {h : Hd} {Q : D → Hd → Prop} (q : Q (.bl (neg ^^ decide (x ∈ zs))) h) : Ev (inD neg (.int x) (.tup (zs.map .int)) h) Q := by
  have fl : ∀ ns : List Int, flDs (ns.map .int) = some (ns.map V.int) := by
    intro ns
    induction ns with
    | nil => rfl
    | cons n ns ih => simp [flDs, flD, ih]
  have iv : inV (.int x) (zs.map V.int) = decide (x ∈ zs) := by
    unfold inV
    rw [List.any_map]
    clear q
    induction zs with
    | nil => simp
    | cons m ns ih =>
      rw [List.any_cons, ih]
      simp only [Function.comp_apply, eqV, List.mem_cons]
      by_cases q : m = x
      · subst q; simp
      · have q' : ¬ x = m := fun e => q e.symm
        simp [q, q']
  exact ⟨_, _, by simp only [inD, seqD, fl, flD, iv], q⟩
theorem r_power (x y : Int) (h : Hd) (hN : 3100 ≤ NF) (hx : ab x < BIG) (hy0 : 0 ≤ y) (hy : ab y < BIG) : m_power NF RD [.int x, .int y] h = some (.int (pw x y), h) := by
  have : Ev (m_power NF RD [.int x, .int y] h) fun r h' => r = .int (pw x y) ∧ h' = h := by
    unfold m_power
    walk_at "wp"
    refine lf_inX (zs := [0, 1]) ?_
    walk_at "wp"
    refine br (fun c => ?_) fun c => ?_
    · have c : x = 0 ∨ x = 1 := by simpa using c
      walk_at "wp"
      refine br (fun c2 => ?_) fun c2 => ?_
      · walk_at "wp"
        refine ⟨?_, rfl⟩
        unfold pw
        have : x = 1 := by simpa using c2
        rw [if_pos c, if_pos (show x = 1 ∨ y = 0 from .inl this)]
        simp [this]
      · walk_at "wp"
        refine ⟨?_, rfl⟩
        unfold pw
        have : ¬ x = 1 := by simpa using c2
        rw [if_pos c]
        simp [this]
    · have c : ¬ (x = 0 ∨ x = 1) := by simpa using c
      walk_at "wp"
      refine br (fun c2 => ?_) fun c2 => ?_
      · have c2 : x = -1 := by simpa using c2
        walk_at "wp"
        refine ⟨?_, rfl⟩
        unfold pw
        rw [if_neg c, if_pos c2]
      · have c2 : ¬ x = -1 := by simpa using c2
        have hx2 : 2 ≤ ab x := by unfold ab; split <;> omega
        walk_at "wp"
        have hm : (if (1000 : Int) < y then (1000 : Int) else y) = mn y 1000 := rfl
        rw [hm]
        have hm0 : 0 ≤ mn y 1000 := by unfold mn; split <;> omega
        have hm1 : mn y 1000 ≤ 1000 := by unfold mn; split <;> omega
        refine ⟨mn y 1000, rfl, by omega, ?_⟩
        refine ev_for (xs := (List.range (mn y 1000).toNat).map fun i => D.int (0 + (i : Nat))) (fun as sg h1 => ∃ p, h1 = h ∧ as.length ≤ (mn y 1000).toNat ∧ ab (x ^ as.length) < BIG ∧ sg = [some (.int x), some (.int y), some (.int (x ^ as.length)), p]) ⟨none, rfl, by simp, by rw [List.length_nil, Int.pow_zero]; decide +kernel, by rw [List.length_nil, Int.pow_zero]; rfl⟩ (by simp; omega) (fun _ _ _ _ => yl_fix) ?_ ?_
        · rintro as z bs sg h1 ex ⟨p, rfl, hl, hb, rfl⟩
          have hal : as.length < (mn y 1000).toNat := by
            have := congrArg List.length ex
            simp at this
            omega
          have l1 := log_lt hb
          have l2 := log_lt hx
          have hmul : (-(2 ^ 64) < x ^ as.length ∧ x ^ as.length < 2 ^ 64) ∨ (-(2 ^ 64) < x ∧ x < 2 ^ 64) ∨ (x ^ as.length).natAbs.log2 + x.natAbs.log2 < 1000000 := .inr (.inr (by omega))
          unfold B_power_0
          walk_at "wp"
          have e1 : x ^ as.length * x = x ^ (as.length + 1) := (Int.pow_succ _ _).symm
          have e2 : (if x ^ as.length * x < 0 then -(x ^ as.length * x) else x ^ as.length * x) = ab (x ^ (as.length + 1)) := by rw [e1]; rfl
          rw [e2]
          refine br (fun c3 => ?_) fun c3 => ?_
          · have c3 : BIG ≤ ab (x ^ (as.length + 1)) := by simpa [BIG] using c3
            walk_at "wp"
            refine ⟨?_, rfl⟩
            unfold pw
            rw [if_neg c, if_neg c2, if_pos]
            · rfl
            · rw [ab_pow] at c3 ⊢
              have := pow_up (a := ab x) (by omega) (show as.length + 1 ≤ (mn y 1000).toNat by omega)
              omega
          · have c3 : ¬ BIG ≤ ab (x ^ (as.length + 1)) := by simpa [BIG] using c3
            walk_at "wp"
            rw [e1]
            exact ⟨_, rfl, by simp; omega, by rw [List.length_append]; show ab (x ^ (as.length + 1)) < BIG; omega, by rw [List.length_append]; rfl⟩
        · rintro sg h1 ⟨p, rfl, hl, hb, rfl⟩
          walk_at "wp"
          refine ⟨?_, rfl⟩
          have hxl : ((List.range (mn y 1000).toNat).map fun i => D.int (0 + (i : Nat))).length = (mn y 1000).toNat := by simp
          rw [hxl] at hb ⊢
          unfold pw
          rw [if_neg c, if_neg c2, if_neg (by omega)]
  obtain ⟨r, h', e, rfl, rfl⟩ := this
  exact e
def f2d (f : Option D) : D := f.getD .non
def pf1 : Nat → Int → Option D
  | 5, x => if x < 1 then some (.tup [.str "type_error", .str "not_less_than_one", .int x]) else none
  | _, _ => none
def fZero : D := .tup [.str "evaluation_error", .str "zero_divisor"]
def pf2 (k : Nat) (x y : Int) : Option D :=
  if 9 ≤ k ∧ k ≤ 12 ∧ y = 0 then some fZero
  else if 13 ≤ k ∧ k ≤ 14 ∧ y < 0 then some (.tup [.str "domain_error", .str "not_less_than_zero", .int y])
  else if 15 ≤ k ∧ y < 0 ∧ ¬ (x = 1 ∨ x = -1) then if x = 0 then some fZero else some (.tup [.str "type_error", .str "float", .int x])
  else none
theorem r_with_two (k : Nat) (hk : k < 17) (x y : Int) (h : Hd) (hN : 3100 ≤ NF) (hx : ab x < BIG) (hy : ab y < BIG) (hf : pf2 k x y = none) : m_with_two NF RD [.str (nm2 k), .int x, .int y] h = some (.int (pv2 k x y), h) := by
  have : Ev (m_with_two NF RD [.str (nm2 k), .int x, .int y] h) fun r h' => r = .int (pv2 k x y) ∧ h' = h := by
    have lx := log_lt hx
    have ly := log_lt hy
    have bx := bits_lt hx
    have hm : (-(2 ^ 64) < x ∧ x < 2 ^ 64) ∨ (-(2 ^ 64) < y ∧ y < 2 ^ 64) ∨ x.natAbs.log2 + y.natAbs.log2 < 1000000 := .inr (.inr (by omega))
    unfold m_with_two
    match k, hk with
    | 0, _ => simp only [nm2]; walk_at "wp"; exact ⟨rfl, rfl⟩
    | 1, _ => simp only [nm2]; walk_at "wp"; exact ⟨rfl, rfl⟩
    | 2, _ => simp only [nm2]; walk_at "wp"; exact ⟨rfl, rfl⟩
    | 3, _ => simp only [nm2]; walk_at "wp"; exact ⟨rfl, rfl⟩
    | 4, _ => simp only [nm2]; walk_at "wp"; exact ⟨rfl, rfl⟩
    | 5, _ => simp only [nm2]; walk_at "wp"; refine ev_eq (r_divisor x y h hN hy) ?_; exact ⟨rfl, rfl⟩
    | 6, _ => simp only [nm2]; walk_at "wp"; exact ⟨rfl, rfl⟩
    | 7, _ => simp only [nm2]; walk_at "wp"; exact ⟨rfl, rfl⟩
    | 8, _ => simp only [nm2]; walk_at "wp"; exact ⟨rfl, rfl⟩
    | 9, _ =>
      have h0 : y ≠ 0 := by rintro rfl; simp [pf2] at hf
      have e := r_divided (NF := NF) (RD := RD) 9 (by omega) x y h hx hy h0
      simp only [nm2] at e ⊢; walk_at "wp"; refine ev_eq e ?_; exact ⟨rfl, rfl⟩
    | 10, _ =>
      have h0 : y ≠ 0 := by rintro rfl; simp [pf2] at hf
      have e := r_divided (NF := NF) (RD := RD) 10 (by omega) x y h hx hy h0
      simp only [nm2] at e ⊢; walk_at "wp"; refine ev_eq e ?_; exact ⟨rfl, rfl⟩
    | 11, _ =>
      have h0 : y ≠ 0 := by rintro rfl; simp [pf2] at hf
      have e := r_divided (NF := NF) (RD := RD) 11 (by omega) x y h hx hy h0
      simp only [nm2] at e ⊢; walk_at "wp"; refine ev_eq e ?_; exact ⟨rfl, rfl⟩
    | 12, _ =>
      have h0 : y ≠ 0 := by rintro rfl; simp [pf2] at hf
      have e := r_divided (NF := NF) (RD := RD) 12 (by omega) x y h hx hy h0
      simp only [nm2] at e ⊢; walk_at "wp"; refine ev_eq e ?_; exact ⟨rfl, rfl⟩
    | 13, _ =>
      have h0 : 0 ≤ y := by
        have : ¬ y < 0 := by intro z; simp [pf2, z] at hf
        omega
      have hm0 : 0 ≤ mn y 1000 ∧ mn y 1000 ≤ 1000 := by unfold mn; split <;> omega
      have tail : ¬ (x ≠ 0 ∧ 1000 < y) → Ev (shlD (.int x) (.int (mn y 1000)) h) fun r h' => r = .int (pv2 13 x y) ∧ h' = h := fun c => by
        refine lf_shl ⟨hm0.1, ?_⟩ ?_
        · have : (2 : Int) ^ 27 = 134217728 := by decide
          omega
        · refine ⟨?_, rfl⟩
          show _ = D.int (if x ≠ 0 ∧ 1000 < y then BIG else x * 2 ^ (mn y 1000).toNat)
          rw [if_neg c]
      simp only [nm2]; walk_at "wp"
      refine br (fun c => ?_) fun c => ?_
      · walk_at "wp"
        refine br (fun c2 => ?_) fun c2 => ?_
        · walk_at "wp"
          refine ⟨?_, rfl⟩
          show _ = D.int (if x ≠ 0 ∧ 1000 < y then BIG else x * 2 ^ (mn y 1000).toNat)
          rw [if_pos ⟨by simpa using c, by simpa using c2⟩]
          rfl
        · walk_at "wp"
          exact tail fun z => by simp at c2; omega
      · walk_at "wp"
        exact tail fun z => by simp at c; exact z.1 c
    | 14, _ =>
      have h0 : 0 ≤ y := by
        have : ¬ y < 0 := by intro z; simp [pf2, z] at hf
        omega
      have hm0 : 0 ≤ mn y 2000 := by unfold mn; split <;> omega
      simp only [nm2]; walk_at "wp"
      refine lf_shr hm0 ?_
      exact ⟨rfl, rfl⟩
    | 15, _ =>
      simp only [nm2]; walk_at "wp"
      refine br (fun c => ?_) fun c => ?_
      · have c : 0 ≤ y := by simpa using c
        walk_at "wp"
        refine ev_eq (r_power x y h hN hx c hy) ?_
        refine ⟨?_, rfl⟩
        show _ = D.int (if 0 ≤ y then pw x y else pw x (-y))
        rw [if_pos c]
      · have c : ¬ 0 ≤ y := by simpa using c
        walk_at "wp"
        refine ev_eq (r_power x (-y) h hN hx (by omega) (by unfold ab at hy ⊢; split <;> omega)) ?_
        refine ⟨?_, rfl⟩
        show _ = D.int (if 0 ≤ y then pw x y else pw x (-y))
        rw [if_neg c]
    | 16, _ =>
      simp only [nm2]; walk_at "wp"
      refine br (fun c => ?_) fun c => ?_
      · have c : 0 ≤ y := by simpa using c
        walk_at "wp"
        refine ev_eq (r_power x y h hN hx c hy) ?_
        refine ⟨?_, rfl⟩
        show _ = D.int (if 0 ≤ y then pw x y else pw x (-y))
        rw [if_pos c]
      · have c : ¬ 0 ≤ y := by simpa using c
        walk_at "wp"
        refine ev_eq (r_power x (-y) h hN hx (by omega) (by unfold ab at hy ⊢; split <;> omega)) ?_
        refine ⟨?_, rfl⟩
        show _ = D.int (if 0 ≤ y then pw x y else pw x (-y))
        rw [if_neg c]
    | n + 17, hk => omega
  obtain ⟨r, h', e, rfl, rfl⟩ := this
  exact e
theorem r_fault_one (k : Nat) (hk : k < 6) (x : Int) (n : Nat) (h : Hd) (e : h[n]? = some (.lst [.int x])) : m_fault_of NF RD [.str (nm1 k), .at n] h = some (f2d (pf1 k x), h) := by
  have : Ev (m_fault_of NF RD [.str (nm1 k), .at n] h) fun r h' => r = f2d (pf1 k x) ∧ h' = h := by
    unfold m_fault_of
    match k, hk with
    | 0, _ => simp only [nm1]; walk_at "wp"; exact ⟨rfl, rfl⟩
    | 1, _ => simp only [nm1]; walk_at "wp"; exact ⟨rfl, rfl⟩
    | 2, _ => simp only [nm1]; walk_at "wp"; exact ⟨rfl, rfl⟩
    | 3, _ => simp only [nm1]; walk_at "wp"; exact ⟨rfl, rfl⟩
    | 4, _ => simp only [nm1]; walk_at "wp"; exact ⟨rfl, rfl⟩
    | 5, _ =>
      simp only [nm1]; walk_at "wp"
      refine lf_ixL e (at0 _ _) ?_
      walk_at "wp"
      refine br (fun c => ?_) fun c => ?_
      · walk_at "wp"
        refine lf_ixL e (at0 _ _) ?_
        walk_at "wp"
        exact ⟨by simp only [pf1]; rw [if_pos (by simpa using c)]; rfl, rfl⟩
      · walk_at "wp"
        exact ⟨by simp only [pf1]; rw [if_neg (by simpa using c)]; rfl, rfl⟩
  obtain ⟨r, h', e, rfl, rfl⟩ := this
  exact e
end


theorem ev_while1 {c : MT} {b : MS} {N : Nat} {sg : Sg} {h : Hd} {Q : Fl → Hd → Prop} (q : Ev (c sg h) fun t h1 => Br t (Ev (b sg h1) (LpK Q fun sg2 h2 => Ev (whileM c b N sg2 h2) Q)) (Q (.nx sg) h1)) : Ev (whileM c b (N + 1) sg h) Q := by
  obtain ⟨t, h1, e1, q1, q2⟩ := q
  cases t with
  | false => exact ⟨_, _, by simp only [whileM, e1], q2 rfl⟩
  | true =>
    obtain ⟨f, h2, e2, q⟩ := q1 rfl
    cases f with
    | nx sg2 =>
      obtain ⟨f3, h3, e3, q3⟩ := q
      exact ⟨_, _, by simp only [whileM, e1, e2, e3], q3⟩
    | ct sg2 =>
      obtain ⟨f3, h3, e3, q3⟩ := q
      exact ⟨_, _, by simp only [whileM, e1, e2, e3], q3⟩
    | bk sg2 => exact ⟨_, _, by simp only [whileM, e1, e2], q⟩
    | rt d => exact ⟨_, _, by simp only [whileM, e1, e2], q⟩
section
variable {NF RD : Nat}
theorem r_fault_two (k : Nat) (hk : k < 17) (x y : Int) (n : Nat) (h : Hd) (e : h[n]? = some (.lst [.int x, .int y])) : m_fault_of NF RD [.str (nm2 k), .at n] h = some (f2d (pf2 k x y), h) := by
  have : Ev (m_fault_of NF RD [.str (nm2 k), .at n] h) fun r h' => r = f2d (pf2 k x y) ∧ h' = h := by
    unfold m_fault_of
    match k, hk with
    | 0, _ =>
      simp only [nm2]; walk_at "wp"; refine ev_uplL e rfl ?_; walk_at "wp"
      exact ⟨by simp [pf2, f2d], rfl⟩
    | 1, _ =>
      simp only [nm2]; walk_at "wp"; refine ev_uplL e rfl ?_; walk_at "wp"
      exact ⟨by simp [pf2, f2d], rfl⟩
    | 2, _ =>
      simp only [nm2]; walk_at "wp"; refine ev_uplL e rfl ?_; walk_at "wp"
      exact ⟨by simp [pf2, f2d], rfl⟩
    | 3, _ =>
      simp only [nm2]; walk_at "wp"; refine ev_uplL e rfl ?_; walk_at "wp"
      exact ⟨by simp [pf2, f2d], rfl⟩
    | 4, _ =>
      simp only [nm2]; walk_at "wp"; refine ev_uplL e rfl ?_; walk_at "wp"
      exact ⟨by simp [pf2, f2d], rfl⟩
    | 5, _ =>
      simp only [nm2]; walk_at "wp"; refine ev_uplL e rfl ?_; walk_at "wp"
      exact ⟨by simp [pf2, f2d], rfl⟩
    | 6, _ =>
      simp only [nm2]; walk_at "wp"; refine ev_uplL e rfl ?_; walk_at "wp"
      exact ⟨by simp [pf2, f2d], rfl⟩
    | 7, _ =>
      simp only [nm2]; walk_at "wp"; refine ev_uplL e rfl ?_; walk_at "wp"
      exact ⟨by simp [pf2, f2d], rfl⟩
    | 8, _ =>
      simp only [nm2]; walk_at "wp"; refine ev_uplL e rfl ?_; walk_at "wp"
      exact ⟨by simp [pf2, f2d], rfl⟩
    | 9, _ =>
      simp only [nm2]; walk_at "wp"; refine ev_uplL e rfl ?_; walk_at "wp"
      refine br (fun c => ?_) fun c => ?_
      · walk_at "wp"
        have c : y = 0 := by simpa using c
        exact ⟨by simp [pf2, f2d, c, fZero], rfl⟩
      · have c : ¬ y = 0 := by simpa using c
        walk_at "wp"
        exact ⟨by simp [pf2, f2d, c], rfl⟩
    | 10, _ =>
      simp only [nm2]; walk_at "wp"; refine ev_uplL e rfl ?_; walk_at "wp"
      refine br (fun c => ?_) fun c => ?_
      · walk_at "wp"
        have c : y = 0 := by simpa using c
        exact ⟨by simp [pf2, f2d, c, fZero], rfl⟩
      · have c : ¬ y = 0 := by simpa using c
        walk_at "wp"
        exact ⟨by simp [pf2, f2d, c], rfl⟩
    | 11, _ =>
      simp only [nm2]; walk_at "wp"; refine ev_uplL e rfl ?_; walk_at "wp"
      refine br (fun c => ?_) fun c => ?_
      · walk_at "wp"
        have c : y = 0 := by simpa using c
        exact ⟨by simp [pf2, f2d, c, fZero], rfl⟩
      · have c : ¬ y = 0 := by simpa using c
        walk_at "wp"
        exact ⟨by simp [pf2, f2d, c], rfl⟩
    | 12, _ =>
      simp only [nm2]; walk_at "wp"; refine ev_uplL e rfl ?_; walk_at "wp"
      refine br (fun c => ?_) fun c => ?_
      · walk_at "wp"
        have c : y = 0 := by simpa using c
        exact ⟨by simp [pf2, f2d, c, fZero], rfl⟩
      · have c : ¬ y = 0 := by simpa using c
        walk_at "wp"
        exact ⟨by simp [pf2, f2d, c], rfl⟩
    | 13, _ =>
      simp only [nm2]; walk_at "wp"; refine ev_uplL e rfl ?_; walk_at "wp"
      refine br (fun c => ?_) fun c => ?_
      · walk_at "wp"
        have c : y < 0 := by simpa using c
        exact ⟨by simp [pf2, f2d, c], rfl⟩
      · have c : ¬ y < 0 := by simpa using c
        walk_at "wp"
        exact ⟨by simp [pf2, f2d, c], rfl⟩
    | 14, _ =>
      simp only [nm2]; walk_at "wp"; refine ev_uplL e rfl ?_; walk_at "wp"
      refine br (fun c => ?_) fun c => ?_
      · walk_at "wp"
        have c : y < 0 := by simpa using c
        exact ⟨by simp [pf2, f2d, c], rfl⟩
      · have c : ¬ y < 0 := by simpa using c
        walk_at "wp"
        exact ⟨by simp [pf2, f2d, c], rfl⟩
    | 15, _ =>
      simp only [nm2]; walk_at "wp"; refine ev_uplL e rfl ?_; walk_at "wp"
      refine br (fun c => ?_) fun c => ?_
      · have c : y < 0 := by simpa using c
        walk_at "wp"
        refine lf_inX (zs := [1, -1]) ?_
        walk_at "wp"
        refine br (fun c2 => ?_) fun c2 => ?_
        · have c2 : ¬ (x = 1 ∨ x = -1) := by simpa using c2
          walk_at "wp"
          refine br (fun c3 => ?_) fun c3 => ?_
          · have c3 : x = 0 := by simpa using c3
            walk_at "wp"
            exact ⟨by simp [pf2, f2d, c, c3, fZero], rfl⟩
          · have c3 : ¬ x = 0 := by simpa using c3
            walk_at "wp"
            refine ⟨?_, rfl⟩
            unfold pf2
            rw [if_neg (by omega), if_neg (by omega), if_pos ⟨by omega, c, c2⟩, if_neg c3]
            rfl
        · have c2 : x = 1 ∨ x = -1 := by simp at c2; omega
          walk_at "wp"
          refine ⟨?_, rfl⟩
          unfold pf2
          rw [if_neg (by omega), if_neg (by omega), if_neg (fun z => z.2.2 c2)]
          rfl
      · have c : ¬ y < 0 := by simpa using c
        walk_at "wp"
        refine ⟨?_, rfl⟩
        unfold pf2
        rw [if_neg (by omega), if_neg (by omega), if_neg (fun z => c z.2.1)]
        rfl
    | 16, _ =>
      simp only [nm2]; walk_at "wp"; refine ev_uplL e rfl ?_; walk_at "wp"
      refine br (fun c => ?_) fun c => ?_
      · have c : y < 0 := by simpa using c
        walk_at "wp"
        refine lf_inX (zs := [1, -1]) ?_
        walk_at "wp"
        refine br (fun c2 => ?_) fun c2 => ?_
        · have c2 : ¬ (x = 1 ∨ x = -1) := by simpa using c2
          walk_at "wp"
          refine br (fun c3 => ?_) fun c3 => ?_
          · have c3 : x = 0 := by simpa using c3
            walk_at "wp"
            exact ⟨by simp [pf2, f2d, c, c3, fZero], rfl⟩
          · have c3 : ¬ x = 0 := by simpa using c3
            walk_at "wp"
            refine ⟨?_, rfl⟩
            unfold pf2
            rw [if_neg (by omega), if_neg (by omega), if_pos ⟨by omega, c, c2⟩, if_neg c3]
            rfl
        · have c2 : x = 1 ∨ x = -1 := by simp at c2; omega
          walk_at "wp"
          refine ⟨?_, rfl⟩
          unfold pf2
          rw [if_neg (by omega), if_neg (by omega), if_neg (fun z => z.2.2 c2)]
          rfl
      · have c : ¬ y < 0 := by simpa using c
        walk_at "wp"
        refine ⟨?_, rfl⟩
        unfold pf2
        rw [if_neg (by omega), if_neg (by omega), if_neg (fun z => c z.2.1)]
        rfl
    | n + 17, hk => omega
  obtain ⟨r, h', e, rfl, rfl⟩ := this
  exact e
theorem r_known1 (k : Nat) (hk : k < 6) (h : Hd) : m_is_known NF RD [.str (nm1 k), .int 1] h = some (.bl true, h) := by
  have : Ev (m_is_known NF RD [.str (nm1 k), .int 1] h) fun r h' => r = .bl true ∧ h' = h := by
    unfold m_is_known
    match k, hk with
    | 0, _ => simp only [nm1]; walk_at "wp"; exact ⟨rfl, rfl⟩
    | 1, _ => simp only [nm1]; walk_at "wp"; exact ⟨rfl, rfl⟩
    | 2, _ => simp only [nm1]; walk_at "wp"; exact ⟨rfl, rfl⟩
    | 3, _ => simp only [nm1]; walk_at "wp"; exact ⟨rfl, rfl⟩
    | 4, _ => simp only [nm1]; walk_at "wp"; exact ⟨rfl, rfl⟩
    | 5, _ => simp only [nm1]; walk_at "wp"; exact ⟨rfl, rfl⟩
    | n + 6, hk => omega
  obtain ⟨r, h', e, rfl, rfl⟩ := this
  exact e
theorem r_known2 (k : Nat) (hk : k < 17) (h : Hd) : m_is_known NF RD [.str (nm2 k), .int 2] h = some (.bl true, h) := by
  have : Ev (m_is_known NF RD [.str (nm2 k), .int 2] h) fun r h' => r = .bl true ∧ h' = h := by
    unfold m_is_known
    match k, hk with
    | 0, _ => simp only [nm2]; walk_at "wp"; exact ⟨rfl, rfl⟩
    | 1, _ => simp only [nm2]; walk_at "wp"; exact ⟨rfl, rfl⟩
    | 2, _ => simp only [nm2]; walk_at "wp"; exact ⟨rfl, rfl⟩
    | 3, _ => simp only [nm2]; walk_at "wp"; exact ⟨rfl, rfl⟩
    | 4, _ => simp only [nm2]; walk_at "wp"; exact ⟨rfl, rfl⟩
    | 5, _ => simp only [nm2]; walk_at "wp"; exact ⟨rfl, rfl⟩
    | 6, _ => simp only [nm2]; walk_at "wp"; exact ⟨rfl, rfl⟩
    | 7, _ => simp only [nm2]; walk_at "wp"; exact ⟨rfl, rfl⟩
    | 8, _ => simp only [nm2]; walk_at "wp"; exact ⟨rfl, rfl⟩
    | 9, _ => simp only [nm2]; walk_at "wp"; exact ⟨rfl, rfl⟩
    | 10, _ => simp only [nm2]; walk_at "wp"; exact ⟨rfl, rfl⟩
    | 11, _ => simp only [nm2]; walk_at "wp"; exact ⟨rfl, rfl⟩
    | 12, _ => simp only [nm2]; walk_at "wp"; exact ⟨rfl, rfl⟩
    | 13, _ => simp only [nm2]; walk_at "wp"; exact ⟨rfl, rfl⟩
    | 14, _ => simp only [nm2]; walk_at "wp"; exact ⟨rfl, rfl⟩
    | 15, _ => simp only [nm2]; walk_at "wp"; exact ⟨rfl, rfl⟩
    | 16, _ => simp only [nm2]; walk_at "wp"; exact ⟨rfl, rfl⟩
    | n + 17, hk => omega
  obtain ⟨r, h', e, rfl, rfl⟩ := this
  exact e
end
/-! ### what no operation is -/
def badT : Nat → D
  | 0 => .tup [.str "f", .int 1]
  | 1 => .tup [.str ".", .int 1, .str "[]"]
  | 2 => .tup [.str "+", .int 1, .int 2, .int 3]
  | 3 => .tup [.str "//", .int 1]
  | 4 => .tup [.str "abs", .int 1, .int 2]
  | _ => .tup [.str "max", .int 1]
def fKnow (s : Str) (n : Int) : D := .tup [.str "type_error", .str "evaluable", .tup [.str "/", .str s, .int n]]
def badF : Nat → D
  | 0 => fKnow "f" 1
  | 1 => fKnow "." 2
  | 2 => fKnow "+" 3
  | 3 => fKnow "//" 1
  | 4 => fKnow "abs" 2
  | _ => fKnow "max" 1
section
variable {NF RD : Nat}
theorem isInt_flat (d : D) (h : Hd) (hd : flat d = true) : m_is_int NF RD [d] h = some (.bl (isInt d), h) := r_is_int NF RD d h hd
theorem r_ff_bad (k : Nat) (hk : k < 6) (h : Hd) : m_first_fault NF RD [badT k] h = some (badF k, h) := by
  have : Ev (m_first_fault NF RD [badT k] h) fun r h' => r = badF k ∧ h' = h := by
    unfold m_first_fault m_is_variable m_is_int m_is_known
    match k, hk with
    | 0, _ => simp only [badT]; walk_at "wp"; exact ⟨rfl, rfl⟩
    | 1, _ => simp only [badT]; walk_at "wp"; exact ⟨rfl, rfl⟩
    | 2, _ => simp only [badT]; walk_at "wp"; exact ⟨rfl, rfl⟩
    | 3, _ => simp only [badT]; walk_at "wp"; exact ⟨rfl, rfl⟩
    | 4, _ => simp only [badT]; walk_at "wp"; exact ⟨rfl, rfl⟩
    | 5, _ => simp only [badT]; walk_at "wp"; exact ⟨rfl, rfl⟩
    | n + 6, hk => omega
  obtain ⟨r, h', e, rfl, rfl⟩ := this
  exact e
theorem r_ff_var (n : Int) (hn : 0 ≤ n) (h : Hd) : m_first_fault NF RD [.tup [.int n]] h = some (.str "instantiation_error", h) := by
  have : Ev (m_first_fault NF RD [.tup [.int n]] h) fun r h' => r = .str "instantiation_error" ∧ h' = h := by
    unfold m_first_fault
    walk_at "wp"
    refine ev_eq (r_is_variable NF RD _ (T.var n hn)) ?_
    refine tr_bl (br_t (by simp [isVar, hn]) ?_)
    walk_at "wp"
    exact ⟨rfl, rfl⟩
  obtain ⟨r, h', e, rfl, rfl⟩ := this
  exact e
theorem r_ff_int (n : Int) (h : Hd) : m_first_fault NF RD [.int n] h = some (.non, h) := by
  have : Ev (m_first_fault NF RD [.int n] h) fun r h' => r = .non ∧ h' = h := by
    unfold m_first_fault m_is_variable m_is_int
    walk_at "wp"
    exact ⟨rfl, rfl⟩
  obtain ⟨r, h', e, rfl, rfl⟩ := this
  exact e
theorem r_ff_str (s : Str) (h : Hd) : m_first_fault NF RD [.str s] h = some (fKnow s 0, h) := by
  have : Ev (m_first_fault NF RD [.str s] h) fun r h' => r = fKnow s 0 ∧ h' = h := by
    unfold m_first_fault m_is_variable m_is_int
    walk_at "wp"
    exact ⟨rfl, rfl⟩
  obtain ⟨r, h', e, rfl, rfl⟩ := this
  exact e
theorem r_ff_un (k : Nat) (hk : k < 6) (x : D) (h : Hd) : m_first_fault NF RD [.tup [.str (nm1 k), x]] h = some (.non, h) := by
  have : Ev (m_first_fault NF RD [.tup [.str (nm1 k), x]] h) fun r h' => r = .non ∧ h' = h := by
    unfold m_first_fault m_is_variable m_is_int
    walk_at "wp"
    refine ev_eq (r_known1 k hk h) ?_
    walk_at "wp"
    exact ⟨rfl, rfl⟩
  obtain ⟨r, h', e, rfl, rfl⟩ := this
  exact e
theorem r_ff_bin (k : Nat) (hk : k < 17) (x y : D) (h : Hd) : m_first_fault NF RD [.tup [.str (nm2 k), x, y]] h = some (.non, h) := by
  have : Ev (m_first_fault NF RD [.tup [.str (nm2 k), x, y]] h) fun r h' => r = .non ∧ h' = h := by
    unfold m_first_fault m_is_variable m_is_int
    walk_at "wp"
    refine ev_eq (r_known2 k hk h) ?_
    walk_at "wp"
    exact ⟨rfl, rfl⟩
  obtain ⟨r, h', e, rfl, rfl⟩ := this
  exact e
end


def enc (x : D × Bool) : D := .tup [x.1, .bl x.2]
def wt : D × Bool → Nat
  | (d, false) => 2 * (parts d).length
  | (_, true) => 1
def wts : List (D × Bool) → Nat
  | [] => 0
  | x :: xs => wt x + wts xs
theorem wts_app : ∀ as bs : List (D × Bool), wts (as ++ bs) = wts as + wts bs
  | [], bs => by simp [wts]
  | a :: as, bs => by simp [wts, wts_app as bs]; omega
theorem wts_false : ∀ as : List D, wts (as.map fun d => (d, false)) = 2 * (partss as).length
  | [] => by simp [wts, partss]
  | a :: as => by simp [wts, partss, wts_false as, wt]; omega
theorem len_wts : ∀ as : List (D × Bool), as.length ≤ wts as
  | [] => by simp [wts]
  | (a, b) :: as => by
    have := len_wts as
    have := parts_pos a
    cases b <;> simp [wts, wt] <;> omega
theorem wts_rev : ∀ as : List (D × Bool), wts as.reverse = wts as
  | [] => rfl
  | a :: as => by
    rw [List.reverse_cons, wts_app, wts_rev as]
    simp [wts]
    omega
theorem enc_dat {r : Nat → Option PyData} {x : D × Bool} (t : T x.1) : toP r (enc x) = some (pd (enc x)) ∧ (pd (enc x)).canLay0 = true := by
  have := t.dat (r := r)
  unfold enc
  constructor
  · simp [toP, toPs, pd, pds, this.1]
  · simp [pd, pds, PyData.canLay0, PyData.canLayAll0, this.2]
theorem cut_last {xs : List D} {m : Nat} (hm : 0 < m) : cutD xs (some (-(m : Int))) none = xs.drop (xs.length - m) := by
  have h1 : HT.sIx xs.length 0 (some (-(m : Int))) = xs.length - m := by
    show (if -(m : Int) < 0 then (-(m : Int) + (xs.length : Int)).toNat else _) = _
    rw [if_pos (by omega)]
    omega
  unfold cutD
  rw [h1, HT.sIx_none]
  rw [List.take_of_length_le (by simp)]
theorem cut_rest {xs : List D} {m : Nat} (hm : 0 < m) : cutD xs none (some (-(m : Int))) = xs.take (xs.length - m) := by
  have h1 : HT.sIx xs.length xs.length (some (-(m : Int))) = xs.length - m := by
    show (if -(m : Int) < 0 then (-(m : Int) + (xs.length : Int)).toNat else _) = _
    rw [if_pos (by omega)]
    omega
  unfold cutD
  rw [h1, HT.sIx_none]
  simp

/-! ### what a term's value is -/
def fBig : D := .tup [.str "resource_error", .str "integer"]
def res (v : Int) : Int ⊕ D := if ab v < BIG then .inl v else .inr fBig
def out1 (k : Nat) (x : Int) : Int ⊕ D := match pf1 k x with
  | some f => .inr f
  | none => res (pv1 k x)
def out2 (k : Nat) (x y : Int) : Int ⊕ D := match pf2 k x y with
  | some f => .inr f
  | none => res (pv2 k x y)
inductive Evs : D → Int ⊕ D → Prop
  | int (i : Int) : ab i < BIG → Evs (.int i) (.inl i)
  | str (s : Str) : atomOk s = true → Evs (.str s) (.inr (fKnow s 0))
  | var (n : Int) : 0 ≤ n → Evs (.tup [.int n]) (.inr (.str "instantiation_error"))
  | bad (k : Nat) : k < 6 → Evs (badT k) (.inr (badF k))
  | un1 (k : Nat) (x f : D) : k < 6 → Evs x (.inr f) → Evs (.tup [.str (nm1 k), x]) (.inr f)
  | un2 (k : Nat) (x : D) (a : Int) : k < 6 → Evs x (.inl a) → Evs (.tup [.str (nm1 k), x]) (out1 k a)
  | bi1 (k : Nat) (x y f : D) (r : Int ⊕ D) : k < 17 → Evs x (.inr f) → Evs y r → Evs (.tup [.str (nm2 k), x, y]) (.inr f)
  | bi2 (k : Nat) (x y f : D) (a : Int) : k < 17 → Evs x (.inl a) → Evs y (.inr f) → Evs (.tup [.str (nm2 k), x, y]) (.inr f)
  | bi3 (k : Nat) (x y : D) (a b : Int) : k < 17 → Evs x (.inl a) → Evs y (.inl b) → Evs (.tup [.str (nm2 k), x, y]) (out2 k a b)
theorem nm1_ok (k : Nat) : atomOk (nm1 k) = true := by
  match k with
  | 0 | 1 | 2 | 3 | 4 => decide +kernel
  | n + 5 => show atomOk "msb" = true; decide +kernel
theorem nm2_ok (k : Nat) : atomOk (nm2 k) = true := by
  match k with
  | 0 | 1 | 2 | 3 | 4 | 5 | 6 | 7 | 8 | 9 | 10 | 11 | 12 | 13 | 14 | 15 => decide +kernel
  | n + 16 => show atomOk "^" = true; decide +kernel
theorem bad_T (k : Nat) (hk : k < 6) : T (badT k) := by
  have i : ∀ n : Int, ab n < BIG → T (.int n) := fun n h => .int n h
  match k, hk with
  | 0, _ => exact .cmp _ _ [] (by decide +kernel) (by decide) (by simpa using i 1 (by decide +kernel))
  | 1, _ => exact .cmp _ _ [_] (by decide +kernel) (by decide) (by simpa using ⟨i 1 (by decide +kernel), .str _ (by decide +kernel)⟩)
  | 2, _ => exact .cmp _ _ [_, _] (by decide +kernel) (by decide) (by simpa using ⟨i 1 (by decide +kernel), i 2 (by decide +kernel), i 3 (by decide +kernel)⟩)
  | 3, _ => exact .cmp _ _ [] (by decide +kernel) (by decide) (by simpa using i 1 (by decide +kernel))
  | 4, _ => exact .cmp _ _ [_] (by decide +kernel) (by decide) (by simpa using ⟨i 1 (by decide +kernel), i 2 (by decide +kernel)⟩)
  | 5, _ => exact .cmp _ _ [] (by decide +kernel) (by decide) (by simpa using i 1 (by decide +kernel))
theorem Evs.T {d : D} {r : Int ⊕ D} (e : Evs d r) : T d := by
  induction e with
  | int i h => exact .int i h
  | str s h => exact .str s h
  | var n h => exact .var n h
  | bad k h => exact bad_T k h
  | un1 k x f h _ ih => exact .cmp _ x [] (nm1_ok k) (by decide) (by simpa using ih)
  | un2 k x a h _ ih => exact .cmp _ x [] (nm1_ok k) (by decide) (by simpa using ih)
  | bi1 k x y f r h _ _ ih1 ih2 => exact .cmp _ x [y] (nm2_ok k) (by simp) (by simpa using ⟨ih1, ih2⟩)
  | bi2 k x y f a h _ _ ih1 ih2 => exact .cmp _ x [y] (nm2_ok k) (by simp) (by simpa using ⟨ih1, ih2⟩)
  | bi3 k x y a b h _ _ ih1 ih2 => exact .cmp _ x [y] (nm2_ok k) (by simp) (by simpa using ⟨ih1, ih2⟩)
theorem res_lt {v a : Int} (h : res v = .inl a) : ab a < BIG := by
  unfold res at h
  split at h
  · cases h; assumption
  · cases h
theorem Evs.lt {d : D} {r : Int ⊕ D} (e : Evs d r) : ∀ a, r = .inl a → ab a < BIG := by
  cases e with
  | int i h => rintro a ⟨⟩; exact h
  | str s h => rintro a ⟨⟩
  | var n h => rintro a ⟨⟩
  | bad k h => rintro a ⟨⟩
  | un1 k x f h _ => rintro a ⟨⟩
  | un2 k x b h _ =>
    intro a e
    unfold out1 at e
    split at e
    · cases e
    · exact res_lt e
  | bi1 k x y f r h _ _ => rintro a ⟨⟩
  | bi2 k x y f a h _ _ => rintro a ⟨⟩
  | bi3 k x y a b h _ _ =>
    intro a e
    unfold out2 at e
    split at e
    · cases e
    · exact res_lt e
/-! ### the machine of the program -/
structure St (d0 : D) (wn : Nat) (h0 : Hd) (ds : List D) (ws : List (D × Bool)) (sg : Sg) (h : Hd) : Prop where
  ex : ∃ dn p3 p4 p5 p6 p7 p8 p9, sg = [some d0, some (.at dn), some (.at wn), p3, p4, p5, p6, p7, p8, p9] ∧ dn ≠ wn ∧ h0.length ≤ dn ∧ h[dn]? = some (.lst ds)
  w : h0.length ≤ wn
  ew : h[wn]? = some (.lst (ws.reverse.map enc))
  p : Pre h0 h
  b : ds.length + wts ws ≤ 10000
  t : ∀ y ∈ ws, T y.1
section
variable {NF RD : Nat} {d0 : D} {wn : Nat} {h0 h : Hd} {ds : List D} {ws : List (D × Bool)} {sg : Sg} {Q : Fl → Hd → Prop} {N : Nat}
/-- one turn: the item is off, and the rest of the body is to be walked -/
theorem turn {d : D} {b : Bool} (S : St d0 wn h0 ds ((d, b) :: ws) sg h)
    (k : ∀ (dn : Nat) (p5 p6 p7 p8 p9 : Option D) (g : Hd), dn ≠ wn → h0.length ≤ dn → g[dn]? = some (.lst ds) → g[wn]? = some (.lst (ws.reverse.map enc)) → Pre h0 g →
      Ev ((seqM (asgM (ifM (truM (varM 4)) (cM .non) (callM 1 (m_first_fault NF RD) [] (consM (varM 3) nilM))) (nameG 5)) (seqM (ifSM (truM (varM 4)) (seqM (asgM (opM subD (cbM lenD (consM (varM 3) nilM)) (cM (.int 1))) (nameG 6)) (seqM (parM 7 1 (consM (slM (varM 1) (partM (negM (varM 6))) noM) (consM (slM (varM 1) noM (partM (negM (varM 6)))) nilM))) (seqM (asgM (callM 2 (m_fault_of NF RD) [] (consM (opM subsD (varM 3) (cM (.int 0))) (consM (varM 7) nilM))) (nameG 5)) (ifSM (testM (opM isD (varM 5) (cM .non))) (seqM (asgM (ifM (testM (opM eqD (varM 6) (cM (.int 1)))) (callM 2 (m_with_one NF RD) [] (consM (opM subsD (varM 3) (cM (.int 0))) (consM (opM subsD (varM 7) (cM (.int 0))) nilM))) (callM 3 (m_with_two NF RD) [] (consM (opM subsD (varM 3) (cM (.int 0))) (consM (opM subsD (varM 7) (cM (.int 0))) (consM (opM subsD (varM 7) (cM (.int 1))) nilM))))) (nameG 8)) (seqM (asgM (ifM (testM (opM geD (cbM absD (consM (varM 8) nilM)) (cM k_TOO_GREAT))) (tupM (consM (cM (.str "resource_error")) (consM (cM (.str "integer")) nilM))) (cM .non)) (nameG 5)) (exprM (bmM "list" appendD (varM 1) (consM (varM 8) nilM))))) passM)))) (ifSM (tandM (testM (opM isD (varM 5) (cM .non))) (truM (callM 1 (m_is_int NF RD) [] (consM (varM 3) nilM)))) (exprM (bmM "list" appendD (varM 1) (consM (varM 3) nilM))) (ifSM (testM (opM isD (varM 5) (cM .non))) (seqM (exprM (bmM "list" appendD (varM 2) (consM (tupM (consM (varM 3) (consM (cM (.bl true)) nilM))) nilM))) (exprM (bmM "list" extendD (varM 2) (consM (lcM (revI (slM (varM 3) (partM (cM (.int 1))) noM)) (nameG 9) yesM (E_value_of_0 NF RD) [9] NF) nilM)))) passM))) (ifSM (testM (opM isntD (varM 5) (cM .non))) (retM (tupM (consM (cM (.str "error")) (consM (varM 5) nilM)))) passM))) [some d0, some (.at dn), some (.at wn), some d, some (.bl b), p5, p6, p7, p8, p9] g)
        (LpK Q fun sg2 h2 => Ev (whileM (C_value_of_1 NF RD) (B_value_of_2 NF RD) N sg2 h2) Q)) :
    Ev (whileM (C_value_of_1 NF RD) (B_value_of_2 NF RD) (N + 1) sg h) Q := by
  obtain ⟨dn, p3, p4, p5, p6, p7, p8, p9, rfl, hdn, hld, e1⟩ := S.ex
  have e2 := S.ew
  refine ev_while1 ?_
  unfold C_value_of_1
  refine ev_eq (c_wait rfl e2 fun y hy => ?_) ?_
  · obtain ⟨z, hz, rfl⟩ := List.mem_map.mp hy
    exact enc_dat (S.t z (by simpa [or_comm] using hz))
  have hne : ((((d, b) :: ws).reverse.map enc).isEmpty) = false := by simp
  rw [hne]
  refine br_tt ?_
  have a1 := (Pre.app h [O.lst []]).get e1
  have a2 := (Pre.app h [O.lst []]).get e2
  have hp := S.p.app' [O.lst []]
  have hw := S.w
  generalize h ++ [O.lst []] = g at a1 a2 hp
  rw [List.reverse_cons, List.map_append] at a2
  replace a2 : g[wn]? = some (.lst (ws.reverse.map enc ++ [.tup [d, .bl b]])) := a2
  unfold B_value_of_2
  refine ev_seq ?_
  walk_at "wq"
  refine lf_pop a2 ?_
  walk_at "wq"
  refine sq_nx ?_
  exact k dn p5 p6 p7 p8 p9 _ hdn hld (by rw [get_ne (by omega)]; exact a1) (get_set a2) (hp.set hw _)
end



theorem pf1_nn {k : Nat} {x : Int} {f : D} (h : pf1 k x = some f) : isNonD f = false := by
  unfold pf1 at h
  split at h
  · split at h
    · cases h; rfl
    · cases h
  · cases h
theorem pf2_nn {k : Nat} {x y : Int} {f : D} (h : pf2 k x y = some f) : isNonD f = false := by
  unfold pf2 at h
  split at h
  · cases h; rfl
  · split at h
    · cases h; rfl
    · split at h
      · split at h
        · cases h; rfl
        · cases h; rfl
      · cases h
theorem take_last (ds xs : List D) : (ds ++ xs).drop ((ds ++ xs).length - xs.length) = xs ∧ (ds ++ xs).take ((ds ++ xs).length - xs.length) = ds := by
  have : (ds ++ xs).length - xs.length = ds.length := by simp
  rw [this]
  exact ⟨List.drop_left, List.take_left⟩
section
variable {NF RD : Nat} {d0 : D} {wn : Nat} {h0 h : Hd} {ds : List D} {ws : List (D × Bool)} {sg : Sg} {Q : Fl → Hd → Prop} {N : Nat}
theorem step_int {v : Int} (S : St d0 wn h0 ds ((.int v, false) :: ws) sg h) (k : ∀ sg' h', St d0 wn h0 (ds ++ [.int v]) ws sg' h' → Ev (whileM (C_value_of_1 NF RD) (B_value_of_2 NF RD) N sg' h') Q) : Ev (whileM (C_value_of_1 NF RD) (B_value_of_2 NF RD) (N + 1) sg h) Q := by
  refine turn S fun dn p5 p6 p7 p8 p9 g hdn hld e1 e2 hp => ?_
  have hb := S.b
  have hLN := LN_eq
  simp only [wts, wt] at hb
  have hpp := parts_pos (.int v)
  walk_at "wp"
  refine ev_eq (r_ff_int v _) ?_
  walk_at "wp"
  refine ev_eq (isInt_flat _ _ rfl) ?_
  walk_at "wp"
  refine lf_append e1 (by omega) ?_
  walk_at "wp"
  exact k _ _ ⟨⟨dn, _, _, _, _, _, _, _, rfl, hdn, hld, get_set e1⟩, S.w, by rw [get_ne hdn]; exact e2, hp.set hld _, by simp; omega, fun y hy => S.t y (List.mem_cons_of_mem _ hy)⟩
theorem step_err {d f : D} (S : St d0 wn h0 ds ((d, false) :: ws) sg h) (hf : ∀ g, m_first_fault NF RD [d] g = some (f, g)) (hn : isNonD f = false) (k : ∀ h', Pre h0 h' → Q (.rt (.tup [.str "error", f])) h') : Ev (whileM (C_value_of_1 NF RD) (B_value_of_2 NF RD) (N + 1) sg h) Q := by
  refine turn S fun dn p5 p6 p7 p8 p9 g hdn hld e1 e2 hp => ?_
  walk_at "wp"
  refine ev_eq (hf _) ?_
  walk_at "wp"
  refine lf_isF hn ?_
  walk_at "wp"
  refine lf_isF hn ?_
  walk_at "wp"
  refine lf_isntT hn ?_
  walk_at "wp"
  exact k _ hp
theorem step_exp {s : Str} {a : D} {as : List D} (S : St d0 wn h0 ds ((.tup (.str s :: a :: as), false) :: ws) sg h) (hNF : 50 ≤ NF) (hf : ∀ g, m_first_fault NF RD [.tup (.str s :: a :: as)] g = some (.non, g))
    (k : ∀ sg' h', St d0 wn h0 ds ((a :: as).map (fun d => (d, false)) ++ (.tup (.str s :: a :: as), true) :: ws) sg' h' → Ev (whileM (C_value_of_1 NF RD) (B_value_of_2 NF RD) N sg' h') Q) : Ev (whileM (C_value_of_1 NF RD) (B_value_of_2 NF RD) (N + 1) sg h) Q := by
  refine turn S fun dn p5 p6 p7 p8 p9 g hdn hld e1 e2 hp => ?_
  have hb := S.b
  have hLN := LN_eq
  have tt := S.t _ List.mem_cons_self
  have hpt := parts_args tt
  have hpl := congrArg List.length hpt
  rw [List.length_cons] at hpl
  simp only [wts, wt, args] at hb hpl
  have hlw := len_wts ws
  have hla := len_partss (a :: as)
  have hfew := args_few tt
  simp only [args] at hfew
  walk_at "wp"
  refine ev_eq (hf _) ?_
  walk_at "wp"
  refine ev_eq (isInt_flat _ _ rfl) ?_
  walk_at "wp"
  refine lf_append e2 (by simp; omega) ?_
  have e3 := get_set (p := .lst (ws.reverse.map enc ++ [.tup [.tup (.str s :: a :: as), .bl true]])) e2
  have hp3 := hp.set (i := wn) S.w (.lst (ws.reverse.map enc ++ [.tup [.tup (.str s :: a :: as), .bl true]]))
  have e4 : (g.set wn (.lst (ws.reverse.map enc ++ [.tup [.tup (.str s :: a :: as), .bl true]])))[dn]? = some (.lst ds) := by rw [get_ne (by omega)]; exact e1
  generalize g.set wn (.lst (ws.reverse.map enc ++ [.tup [.tup (.str s :: a :: as), .bl true]])) = g3 at e3 hp3 e4
  walk_at "wp"
  refine ev_lc ?_
  walk_at "wp"
  rw [cut1]
  refine ⟨(a :: as).reverse, fun cs ys h3 => Pre g3 h3 ∧ ys = cs.map fun d => .tup [d, .bl false], ?_, ?_, ⟨Pre.app _ _, rfl⟩, fun _ _ _ _ _ => yl_fix, ?_, ?_⟩
  · simp only [List.length_reverse]; omega
  · simp only [List.length_reverse]; omega
  · rintro cs z bs ys h3 _ ⟨hp3, rfl⟩ e3
    unfold E_value_of_0
    walk_at "wp"
    exact ⟨e3, hp3.set (Nat.le_refl _) _, by simp⟩
  · rintro zs h3 e5 ⟨hp5, rfl⟩
    walk_at "wp"
    refine lf_extendL (hp5.get e3) e5 ?_ ?_
    · simp at hla hfew ⊢; omega
    walk_at "wp"
    refine k _ _ ⟨⟨dn, _, _, _, _, _, _, _, rfl, hdn, hld, ?_⟩, S.w, ?_, (hp3.trans hp5).set S.w _, ?_, ?_⟩
    · rw [get_ne (by omega)]; exact hp5.get e4
    · rw [get_set (hp5.get e3)]
      congr 2
      simp only [List.reverse_append, List.reverse_cons, List.map_append, List.map_cons, List.map_nil, ← List.map_reverse, List.map_map, List.append_assoc]
      rfl
    · rw [wts_app, wts_false]
      simp only [wts, wt]
      omega
    · intro y hy
      rcases List.mem_append.mp hy with q | q
      · obtain ⟨z, hz, rfl⟩ := List.mem_map.mp q
        exact tt.args z (by simpa [K42.args] using hz)
      · rcases List.mem_cons.mp q with rfl | q
        · exact tt
        · exact S.t y (List.mem_cons_of_mem _ q)
theorem great_t {v : Int} (h : ¬ ab v < BIG) : decide ((1000000000000000000000000000000000000000000000000000000000000000000000000000000000000000000000000000000000000000000000000000000000000000000000000000000000000000000000000000000000000000000000000000000000000000000000000000000000000000000000000000000000000000000000000000000000000000000000000000000000000 : Int) ≤ (if v < 0 then -v else v)) = true := by
  have : BIG ≤ ab v := by omega
  exact decide_eq_true this
theorem great_f {v : Int} (h : ab v < BIG) : decide ((1000000000000000000000000000000000000000000000000000000000000000000000000000000000000000000000000000000000000000000000000000000000000000000000000000000000000000000000000000000000000000000000000000000000000000000000000000000000000000000000000000000000000000000000000000000000000000000000000000000000000 : Int) ≤ (if v < 0 then -v else v)) = false := by
  have : ¬ BIG ≤ ab v := by omega
  exact decide_eq_false this
theorem step_un {i : Nat} (hi : i < 6) {x : D} {a : Int} (S : St d0 wn h0 (ds ++ [.int a]) ((.tup [.str (nm1 i), x], true) :: ws) sg h)
    (k : match out1 i a with
      | .inl v => ∀ sg' h', St d0 wn h0 (ds ++ [.int v]) ws sg' h' → Ev (whileM (C_value_of_1 NF RD) (B_value_of_2 NF RD) N sg' h') Q
      | .inr f => ∀ h', Pre h0 h' → Q (.rt (.tup [.str "error", f])) h') : Ev (whileM (C_value_of_1 NF RD) (B_value_of_2 NF RD) (N + 1) sg h) Q := by
  refine turn S fun dn p5 p6 p7 p8 p9 g hdn hld e1 e2 hp => ?_
  have hb := S.b
  have hLN := LN_eq
  simp only [wts, wt, List.length_append, List.length_cons, List.length_nil] at hb
  obtain ⟨t1, t2⟩ := take_last ds [.int a]
  walk_at "wp"
  have em : (([D.str (nm1 i), x]).length : Int) - 1 = ((1 : Nat) : Int) := by simp
  rw [em]
  walk_at "wp"
  refine lf_slL e1 ?_
  rw [cut_last (by omega), show (1 : Nat) = [D.int a].length from rfl, t1]
  walk_at "wp"
  refine lf_slL ((Pre.app _ _).get e1) ?_
  rw [show (([D.int a].length : Nat) : Int) = ((1 : Nat) : Int) from rfl, cut_rest (by omega), show (1 : Nat) = [D.int a].length from rfl, t2]
  have ev := (Pre.app (g ++ [O.lst [.int a]]) [O.lst ds]).get (get_new g (O.lst [.int a]))
  have ed := get_new (g ++ [O.lst [.int a]]) (O.lst ds)
  have ew := (Pre.app (g ++ [O.lst [.int a]]) [O.lst ds]).get ((Pre.app g [O.lst [.int a]]).get e2)
  have hp2 := (hp.app' [O.lst [.int a]]).app' [O.lst ds]
  have hlw : wn < g.length := lt_of e2
  generalize hd : (g ++ [O.lst [D.int a]]).length = dn2 at ed
  have hd2 : dn2 = g.length + 1 := by rw [← hd]; simp
  generalize g ++ [O.lst [.int a]] ++ [O.lst ds] = g2 at ev ed ew hp2
  walk_at "wp"
  refine ev_eq (r_fault_one i hi a _ _ ev) ?_
  walk_at "wp"
  unfold out1 at k
  cases q : pf1 i a with
  | some f =>
    rw [q] at k
    have hn := pf1_nn q
    show Ev (isD f .non g2) _
    refine lf_isF hn ?_
    walk_at "wp"
    show Ev (isntD f .non g2) _
    refine lf_isntT hn ?_
    walk_at "wp"
    exact k _ hp2
  | none =>
    rw [q] at k
    show Ev (isD .non .non g2) _
    walk_at "wp"
    refine lf_ixL ev (at0 _ _) ?_
    walk_at "wp"
    refine ev_eq (r_with_one i hi a _) ?_
    walk_at "wp"
    simp only [res] at k
    by_cases hg : ab (pv1 i a) < BIG
    · rw [if_pos hg] at k
      refine br_f (great_f hg) ?_
      walk_at "wp"
      refine lf_append ed (by omega) ?_
      walk_at "wp"
      exact k _ _ ⟨⟨dn2, _, _, _, _, _, _, _, rfl, by omega, by have := hp.len; omega, get_set ed⟩, S.w, by rw [get_ne (by omega)]; exact ew, hp2.set (by have := hp.len; omega) _, by simp; omega, fun y hy => S.t y (List.mem_cons_of_mem _ hy)⟩
    · rw [if_neg hg] at k
      refine br_t (great_t hg) ?_
      walk_at "wp"
      refine lf_append ed (by omega) ?_
      walk_at "wp"
      exact k _ (hp2.set (by have := hp.len; omega) _)
theorem step_bin {i : Nat} (hi : i < 17) {x y : D} {a b : Int} (ha : ab a < BIG) (hb' : ab b < BIG) (hNF : 3100 ≤ NF) (S : St d0 wn h0 (ds ++ [.int a, .int b]) ((.tup [.str (nm2 i), x, y], true) :: ws) sg h)
    (k : match out2 i a b with
      | .inl v => ∀ sg' h', St d0 wn h0 (ds ++ [.int v]) ws sg' h' → Ev (whileM (C_value_of_1 NF RD) (B_value_of_2 NF RD) N sg' h') Q
      | .inr f => ∀ h', Pre h0 h' → Q (.rt (.tup [.str "error", f])) h') : Ev (whileM (C_value_of_1 NF RD) (B_value_of_2 NF RD) (N + 1) sg h) Q := by
  refine turn S fun dn p5 p6 p7 p8 p9 g hdn hld e1 e2 hp => ?_
  have hb := S.b
  have hLN := LN_eq
  simp only [wts, wt, List.length_append, List.length_cons, List.length_nil] at hb
  obtain ⟨t1, t2⟩ := take_last ds [.int a, .int b]
  walk_at "wp"
  have em : (([D.str (nm2 i), x, y]).length : Int) - 1 = ((2 : Nat) : Int) := by simp
  rw [em]
  walk_at "wp"
  refine lf_slL e1 ?_
  rw [cut_last (by omega), show (2 : Nat) = [D.int a, D.int b].length from rfl, t1]
  walk_at "wp"
  refine lf_slL ((Pre.app _ _).get e1) ?_
  rw [show (([D.int a, D.int b].length : Nat) : Int) = ((2 : Nat) : Int) from rfl, cut_rest (by omega), show (2 : Nat) = [D.int a, D.int b].length from rfl, t2]
  have ev := (Pre.app (g ++ [O.lst [.int a, .int b]]) [O.lst ds]).get (get_new g (O.lst [.int a, .int b]))
  have ed := get_new (g ++ [O.lst [.int a, .int b]]) (O.lst ds)
  have ew := (Pre.app (g ++ [O.lst [.int a, .int b]]) [O.lst ds]).get ((Pre.app g [O.lst [.int a, .int b]]).get e2)
  have hp2 := (hp.app' [O.lst [.int a, .int b]]).app' [O.lst ds]
  have hlw : wn < g.length := lt_of e2
  generalize hd : (g ++ [O.lst [D.int a, D.int b]]).length = dn2 at ed
  have hd2 : dn2 = g.length + 1 := by rw [← hd]; simp
  generalize g ++ [O.lst [.int a, .int b]] ++ [O.lst ds] = g2 at ev ed ew hp2
  walk_at "wp"
  refine ev_eq (r_fault_two i hi a b _ _ ev) ?_
  walk_at "wp"
  unfold out2 at k
  cases q : pf2 i a b with
  | some f =>
    rw [q] at k
    have hn := pf2_nn q
    show Ev (isD f .non g2) _
    refine lf_isF hn ?_
    walk_at "wp"
    show Ev (isntD f .non g2) _
    refine lf_isntT hn ?_
    walk_at "wp"
    exact k _ hp2
  | none =>
    rw [q] at k
    show Ev (isD .non .non g2) _
    walk_at "wp"
    refine lf_ixL ev (at0 _ _) ?_
    walk_at "wp"
    refine lf_ixL ev (at1 _ _ _) ?_
    walk_at "wp"
    refine ev_eq (r_with_two i hi a b _ hNF ha hb' q) ?_
    walk_at "wp"
    simp only [res] at k
    by_cases hg : ab (pv2 i a b) < BIG
    · rw [if_pos hg] at k
      refine br_f (great_f hg) ?_
      walk_at "wp"
      refine lf_append ed (by omega) ?_
      walk_at "wp"
      exact k _ _ ⟨⟨dn2, _, _, _, _, _, _, _, rfl, by omega, by have := hp.len; omega, get_set ed⟩, S.w, by rw [get_ne (by omega)]; exact ew, hp2.set (by have := hp.len; omega) _, by simp; omega, fun y hy => S.t y (List.mem_cons_of_mem _ hy)⟩
    · rw [if_neg hg] at k
      refine br_t (great_t hg) ?_
      walk_at "wp"
      refine lf_append ed (by omega) ?_
      walk_at "wp"
      exact k _ (hp2.set (by have := hp.len; omega) _)
end


mutual
def dep : D → Nat
  | .tup xs => 1 + depT xs
  | _ => 1
def depT : List D → Nat
  | [] => 0
  | _ :: ds => deps ds
def deps : List D → Nat
  | [] => 0
  | d :: ds => max (dep d) (deps ds)
end
theorem dep_args (d : D) : dep d = 1 + deps (args d) := by
  unfold dep
  cases d with
  | tup xs => cases xs <;> simp [args, depT, deps]
  | _ => simp [args, deps]
theorem dep_pos (d : D) : 1 ≤ dep d := by rw [dep_args]; omega
theorem dep_mem {ds : List D} {x : D} (h : x ∈ ds) : dep x ≤ deps ds := by
  induction ds with
  | nil => cases h
  | cons d ds ih =>
    rw [deps]
    rcases List.mem_cons.mp h with rfl | h
    · omega
    · have := ih h
      omega
/-- what a term must be for the loops to end -/
structure Sz (NF : Nat) (d : D) : Prop where
  t : T d
  f : (parts d).length < NF
  l : (parts d).length + 16 ≤ LN
section
variable {NF RD : Nat}
theorem r_check {d : D} {h : Hd} {n : Nat} (z : Sz NF d) (hN : 50 ≤ NF) (e : h[n]? = some (.lst [d])) : Rt (m_check_terms NF RD [.at n] h) .non (Pre h) := by
  refine rt_of ?_
  unfold m_check_terms
  walk_at "wp"
  refine ev_for (xs := [d]) (fun _ sg h1 => Pre h h1 ∧ ∃ p, sg = [some (.at n), p]) ⟨Pre.refl h, none, rfl⟩ (by simp; omega) (fun as sg h1 i => yl_obj (i.1.get e)) ?_ ?_
  · rintro as x bs sg h1 e2 ⟨hp, p, rfl⟩
    have hx : x = d := by
      have : x ∈ [d] := by rw [e2]; simp
      simpa using this
    subst hx
    unfold B_check_terms_0
    walk_at "wp"
    refine ev_of (r_is_term NF RD z.t hN z.f z.l) fun h2 p2 => ?_
    walk_at "wp"
    exact ⟨hp.trans p2, _, rfl⟩
  · rintro sg h1 ⟨hp, p, rfl⟩
    exact ⟨rfl, hp⟩

def encR : Int ⊕ D → D
  | .inl v => .tup [.str "value", .int v]
  | .inr f => .tup [.str "error", f]
theorem parts_un (s : Str) (x : D) : (parts (.tup [.str s, x])).length = 1 + (parts x).length := by
  simp [parts, partsT, partss]
  omega
theorem parts_bin (s : Str) (x y : D) : (parts (.tup [.str s, x, y])).length = 1 + (parts x).length + (parts y).length := by
  simp [parts, partsT, partss]
  omega
def Aft (NF RD : Nat) (d0 : D) (wn : Nat) (h0 : Hd) (Q : Fl → Hd → Prop) (M : Nat) (ds : List D) (ws : List (D × Bool)) : Int ⊕ D → Prop
  | .inl v => ∀ (N' : Nat) (sg' : Sg) (h' : Hd), M ≤ N' → St d0 wn h0 (ds ++ [.int v]) ws sg' h' → Ev (whileM (C_value_of_1 NF RD) (B_value_of_2 NF RD) N' sg' h') Q
  | .inr f => ∀ h', Pre h0 h' → Q (.rt (.tup [.str "error", f])) h'
theorem r_eval (hNF : 3100 ≤ NF) {d0 : D} {wn : Nat} {h0 : Hd} {Q : Fl → Hd → Prop} {d : D} {r : Int ⊕ D} (e : Evs d r) : ∀ {M N : Nat} {ds : List D} {ws : List (D × Bool)} {sg : Sg} {h : Hd}, St d0 wn h0 ds ((d, false) :: ws) sg h → 2 * (parts d).length + M ≤ N →
    Aft NF RD d0 wn h0 Q M ds ws r → Ev (whileM (C_value_of_1 NF RD) (B_value_of_2 NF RD) N sg h) Q := by
  induction e with
  | int i hi =>
    intro M N ds ws sg h S hN k
    have := parts_pos (.int i)
    obtain ⟨N1, rfl⟩ : ∃ n, N = n + 1 := ⟨N - 1, by omega⟩
    exact step_int S fun sg' h' S' => k N1 sg' h' (by omega) S'
  | str s hs =>
    intro M N ds ws sg h S hN k
    have := parts_pos (.str s)
    obtain ⟨N1, rfl⟩ : ∃ n, N = n + 1 := ⟨N - 1, by omega⟩
    exact step_err S (r_ff_str s) rfl k
  | var n hn =>
    intro M N ds ws sg h S hN k
    have := parts_pos (.tup [.int n])
    obtain ⟨N1, rfl⟩ : ∃ n, N = n + 1 := ⟨N - 1, by omega⟩
    exact step_err S (r_ff_var n hn) rfl k
  | bad i hi =>
    intro M N ds ws sg h S hN k
    have := parts_pos (badT i)
    obtain ⟨N1, rfl⟩ : ∃ n, N = n + 1 := ⟨N - 1, by omega⟩
    refine step_err S (r_ff_bad i hi) ?_ k
    match i, hi with
    | 0, _ | 1, _ | 2, _ | 3, _ | 4, _ | 5, _ => rfl
  | un1 i x f hi _ ih =>
    intro M N ds ws sg h S hN k
    rw [parts_un] at hN
    obtain ⟨N1, rfl⟩ : ∃ n, N = n + 1 := ⟨N - 1, by omega⟩
    refine step_exp (as := []) S (by omega) (r_ff_un i hi x) fun sg' h' S' => ?_
    exact ih (M := M + 1) S' (by omega) k
  | un2 i x a hi _ ih =>
    intro M N ds ws sg h S hN k
    rw [parts_un] at hN
    obtain ⟨N1, rfl⟩ : ∃ n, N = n + 1 := ⟨N - 1, by omega⟩
    refine step_exp (as := []) S (by omega) (r_ff_un i hi x) fun sg' h' S' => ?_
    refine ih (M := M + 1) S' (by omega) fun N2 sg2 h2 hN2 S2 => ?_
    obtain ⟨N3, rfl⟩ : ∃ n, N2 = n + 1 := ⟨N2 - 1, by omega⟩
    refine step_un hi S2 ?_
    cases q : out1 i a with
    | inl v => rw [q] at k; exact fun sg' h' S' => k N3 sg' h' (by omega) S'
    | inr f => rw [q] at k; exact k
  | bi1 i x y f r hi _ _ ih1 ih2 =>
    intro M N ds ws sg h S hN k
    rw [parts_bin] at hN
    obtain ⟨N1, rfl⟩ : ∃ n, N = n + 1 := ⟨N - 1, by omega⟩
    refine step_exp (as := [y]) S (by omega) (r_ff_bin i hi x y) fun sg' h' S' => ?_
    exact ih1 (M := M + 1) S' (by omega) k
  | bi2 i x y f a hi _ _ ih1 ih2 =>
    intro M N ds ws sg h S hN k
    rw [parts_bin] at hN
    obtain ⟨N1, rfl⟩ : ∃ n, N = n + 1 := ⟨N - 1, by omega⟩
    refine step_exp (as := [y]) S (by omega) (r_ff_bin i hi x y) fun sg' h' S' => ?_
    refine ih1 (M := 2 * (parts y).length + M + 1) S' (by omega) fun N2 sg2 h2 hN2 S2 => ?_
    exact ih2 (M := M + 1) S2 (by omega) k
  | bi3 i x y a b hi e1 e2 ih1 ih2 =>
    intro M N ds ws sg h S hN k
    rw [parts_bin] at hN
    obtain ⟨N1, rfl⟩ : ∃ n, N = n + 1 := ⟨N - 1, by omega⟩
    refine step_exp (as := [y]) S (by omega) (r_ff_bin i hi x y) fun sg' h' S' => ?_
    refine ih1 (M := 2 * (parts y).length + M + 1) S' (by omega) fun N2 sg2 h2 hN2 S2 => ?_
    refine ih2 (M := M + 1) S2 (by omega) fun N4 sg4 h4 hN4 S4 => ?_
    obtain ⟨N3, rfl⟩ : ∃ n, N4 = n + 1 := ⟨N4 - 1, by omega⟩
    rw [List.append_assoc] at S4
    refine step_bin hi (e1.lt a rfl) (e2.lt b rfl) hNF S4 ?_
    cases q : out2 i a b with
    | inl v => rw [q] at k; exact fun sg' h' S' => k N3 sg' h' (by omega) S'
    | inr f => rw [q] at k; exact k
theorem r_value_of (hNF : 3100 ≤ NF) {d : D} {r : Int ⊕ D} (e : Evs d r) (hs : (parts d).length ≤ 1000) (h : Hd) : Ev (m_value_of NF RD [d] h) fun r' h' => r' = encR r ∧ Pre h h' := by
  unfold m_value_of
  walk_at "wp"
  have hl1 : (h ++ [O.lst []]).length = h.length + 1 := by simp
  rw [hl1]
  have S0 : St d (h.length + 1) h [] [(d, false)] [some d, some (.at h.length), some (.at (h.length + 1)), none, none, none, none, none, none, none] (h ++ [O.lst []] ++ [O.lst [D.tup [d, D.bl false]]]) :=
    ⟨⟨h.length, none, none, none, none, none, none, none, rfl, by omega, Nat.le_refl _, by simp⟩, by omega, by simp [enc], by simp [Pre], by simp [wts, wt]; omega, by simpa using e.T⟩
  refine r_eval hNF e (M := 1) S0 (by omega) ?_
  cases r with
  | inr f =>
    intro h' hp
    walk_at "wp"
    exact ⟨rfl, hp⟩
  | inl v =>
    intro N' sg' h' hN' S
    obtain ⟨N1, rfl⟩ : ∃ n, N' = n + 1 := ⟨N' - 1, by omega⟩
    obtain ⟨dn, p3, p4, p5, p6, p7, p8, p9, rfl, hdn, hld, e1⟩ := S.ex
    have e2 := S.ew
    refine ev_while1 ?_
    unfold C_value_of_1
    refine ev_eq (c_wait rfl e2 (by simp)) ?_
    refine br_ff ?_
    have e3 := (Pre.app h' [O.lst []]).get e1
    walk_at "wp"
    refine lf_ixL e3 (at0 _ _) ?_
    walk_at "wp"
    exact ⟨rfl, S.p.app' _⟩
theorem r_reckoned (hNF : 3100 ≤ NF) {d : D} {r : Int ⊕ D} (e : Evs d r) (hs : (parts d).length ≤ 1000) (h : Hd) : Ev (m_reckoned NF RD [d] h) fun r' h' => r' = encR r ∧ Pre h h' := by
  have hLN := LN_eq
  unfold m_reckoned
  walk_at "wp"
  refine ev_of (r_check ⟨e.T, by omega, by omega⟩ (by omega) (get_new _ _)) fun h1 p1 => ?_
  walk_at "wp"
  refine (r_value_of hNF e hs _).mono ?_
  rintro r' h2 ⟨rfl, p2⟩
  exact ⟨rfl, ((Pre.app _ _).trans p1).trans p2⟩
end

/-! N42: the laws of arithmetic that law_k42 asks, without a program. -/
theorem half_bounds {x : Int} {n : Nat} (h1 : -2 ^ (n + 1) ≤ x) (h2 : x < 2 ^ (n + 1)) : -2 ^ n ≤ x / 2 ∧ x / 2 < 2 ^ n := by
  rw [Int.pow_succ] at h1 h2
  omega
theorem xor_xor : ∀ (n : Nat) (x y : Int), -2 ^ n ≤ x → x < 2 ^ n → -2 ^ n ≤ y → y < 2 ^ n → Builtin.bitXor (Builtin.bitXor x y) y = x
  | 0, x, y, h1, h2, h3, h4 => by
    have hx : x = -1 ∨ x = 0 := by simp at h1 h2; omega
    have hy : y = -1 ∨ y = 0 := by simp at h3 h4; omega
    rcases hx with rfl | rfl <;> rcases hy with rfl | rfl <;> decide +kernel
  | n + 1, x, y, h1, h2, h3, h4 => by
    obtain ⟨a1, a2⟩ := half_bounds h1 h2
    obtain ⟨b1, b2⟩ := half_bounds h3 h4
    have ih := xor_xor n (x / 2) (y / 2) a1 a2 b1 b2
    have hb : bXor (x % 2) (y % 2) = 0 ∨ bXor (x % 2) (y % 2) = 1 := by unfold bXor; split <;> simp
    have hu := xor_half x y
    have h2' : Builtin.bitXor x y / 2 = Builtin.bitXor (x / 2) (y / 2) := by omega
    have hm : Builtin.bitXor x y % 2 = bXor (x % 2) (y % 2) := by omega
    rw [xor_half (Builtin.bitXor x y) y, h2', hm, ih]
    have : bXor (bXor (x % 2) (y % 2)) (y % 2) = x % 2 := by
      unfold bXor
      rcases Int.emod_two_eq x with h | h <;> rcases Int.emod_two_eq y with h' | h' <;> rw [h, h'] <;> simp
    rw [this]
    omega
theorem de_morgan : ∀ (n : Nat) (x y : Int), -2 ^ n ≤ x → x < 2 ^ n → -2 ^ n ≤ y → y < 2 ^ n → -(Builtin.bitAnd x y) - 1 = Builtin.bitOr (-x - 1) (-y - 1)
  | 0, x, y, h1, h2, h3, h4 => by
    have hx : x = -1 ∨ x = 0 := by simp at h1 h2; omega
    have hy : y = -1 ∨ y = 0 := by simp at h3 h4; omega
    rcases hx with rfl | rfl <;> rcases hy with rfl | rfl <;> decide +kernel
  | n + 1, x, y, h1, h2, h3, h4 => by
    obtain ⟨a1, a2⟩ := half_bounds h1 h2
    obtain ⟨b1, b2⟩ := half_bounds h3 h4
    have ih := de_morgan n (x / 2) (y / 2) a1 a2 b1 b2
    rw [and_half x y, or_half (-x - 1) (-y - 1)]
    have e1 : (-x - 1) / 2 = -(x / 2) - 1 := by omega
    have e2 : (-y - 1) / 2 = -(y / 2) - 1 := by omega
    have e3 : (-x - 1) % 2 = 1 - x % 2 := by omega
    have e4 : (-y - 1) % 2 = 1 - y % 2 := by omega
    rw [e1, e2, ← ih, e3, e4]
    unfold bAnd bOr
    rcases Int.emod_two_eq x with h | h <;> rcases Int.emod_two_eq y with h' | h' <;> rw [h, h'] <;> simp <;> omega
/-- and and or of small ones are small -/
theorem and_small (n : Nat) (x y : Int) (h1 : -2 ^ n ≤ x) (h2 : x < 2 ^ n) (h3 : -2 ^ n ≤ y) (h4 : y < 2 ^ n) : -2 ^ n ≤ Builtin.bitAnd x y ∧ Builtin.bitAnd x y < 2 ^ n := by
  induction n generalizing x y with
  | zero =>
    have hx : x = -1 ∨ x = 0 := by simp at h1 h2; omega
    have hy : y = -1 ∨ y = 0 := by simp at h3 h4; omega
    rcases hx with rfl | rfl <;> rcases hy with rfl | rfl <;> decide +kernel
  | succ n ih =>
    obtain ⟨a1, a2⟩ := half_bounds h1 h2
    obtain ⟨b1, b2⟩ := half_bounds h3 h4
    have := ih _ _ a1 a2 b1 b2
    rw [and_half x y, Int.pow_succ]
    unfold bAnd
    rcases Int.emod_two_eq x with h | h <;> rcases Int.emod_two_eq y with h' | h' <;> rw [h, h'] <;> simp <;> omega
/-! ### division -/
structure Dv (x y near down after left : Int) : Prop where
  n : near * y + left = x
  d : down * y + after = x
  l : ab left < ab y
  a : ab after < ab y
  sa : after ≠ 0 → (0 < after ↔ 0 < y)
  sl : left ≠ 0 → (0 < left ↔ 0 < x)
  nd : near - down = if left = after then 0 else 1
  bn : ab near ≤ ab x
  bd : ab down ≤ ab x + 1
theorem divs (x y : Int) (hy : y ≠ 0) : Dv x y (tdv x y) (x.fdiv y) (x.fmod y) (x - y * tdv x y) := by
  have hm : x.fmod y = x - y * x.fdiv y := Int.fmod_def x y
  rw [← near_tdv x y hy, hm]
  -- down and a remainder with the sign of y
  obtain ⟨m, p, hp, hx, hmr, hdn, hdp⟩ : ∃ m p : Int, p = x.fdiv y * y ∧ x = p + m ∧ (0 < y → 0 ≤ m ∧ m < y) ∧ (x.fdiv y < 0 → (0 < y → p ≤ -y) ∧ (y < 0 → -y ≤ p)) ∧ (0 ≤ x.fdiv y → (0 < y → 0 ≤ p) ∧ (y < 0 → p ≤ 0)) := by
    refine ⟨x.fmod y, x.fdiv y * y, rfl, ?_, fun h => ⟨Int.fmod_nonneg_of_pos x h, Int.fmod_lt_of_pos x h⟩, fun h => ⟨fun h2 => ?_, fun h2 => ?_⟩, fun h => ⟨fun h2 => ?_, fun h2 => ?_⟩⟩
    · rw [hm, Int.mul_comm y]; omega
    · have : (x.fdiv y + 1) * y ≤ 0 := Int.mul_nonpos_of_nonpos_of_nonneg (by omega) (by omega)
      rw [Int.add_mul] at this; omega
    · have : 0 ≤ (x.fdiv y + 1) * y := Int.mul_nonneg_of_nonpos_of_nonpos (by omega) (by omega)
      rw [Int.add_mul] at this; omega
    · exact Int.mul_nonneg h (by omega)
    · exact Int.mul_nonpos_of_nonneg_of_nonpos h (by omega)
  have hmn : y < 0 → y < m ∧ m ≤ 0 := fun h => by
    have e := fdiv_neg_neg x y h
    have e2 := Int.mul_ediv_add_emod (-x) (-y)
    have e3 := Int.emod_nonneg (-x) (show -y ≠ 0 by omega)
    have e4 := Int.emod_lt_of_pos (-x) (show 0 < -y by omega)
    rw [← e] at e2
    have e5 : -y * x.fdiv y = -p := by rw [hp, Int.neg_mul, Int.mul_comm y]
    rw [e5] at e2
    omega
  have hyp : y * x.fdiv y = p := by rw [hp, Int.mul_comm]
  have hab : ab (x.fdiv y) ≤ ab p := by
    rw [hp]
    unfold ab
    have := Int.natAbs_mul (x.fdiv y) y
    have h1 : 1 ≤ y.natAbs := by omega
    have h2 : (x.fdiv y).natAbs * 1 ≤ (x.fdiv y).natAbs * y.natAbs := Nat.mul_le_mul_left _ h1
    (repeat' split) <;> omega
  have hab2 : x.fdiv y < 0 → ab (x.fdiv y + 1) ≤ ab (p + y) := fun h => by
    have e : p + y = (x.fdiv y + 1) * y := by rw [hp, Int.add_mul]; omega
    rw [e]
    unfold ab
    have := Int.natAbs_mul (x.fdiv y + 1) y
    have h1 : 1 ≤ y.natAbs := by omega
    have h2 : (x.fdiv y + 1).natAbs * 1 ≤ (x.fdiv y + 1).natAbs * y.natAbs := Nat.mul_le_mul_left _ h1
    (repeat' split) <;> omega
  have hnear : near x y * y = p + (if x.fdiv y < 0 ∧ ¬ m = 0 then y else 0) := by
    unfold near
    rw [← hp, Int.add_mul, ← hp]
    by_cases c : x.fdiv y < 0 ∧ ¬ m = 0
    · rw [if_pos c, if_pos ⟨c.1, by omega⟩]; omega
    · rw [if_neg c, if_neg (by omega)]; omega
  have hnd : near x y = x.fdiv y + (if x.fdiv y < 0 ∧ ¬ m = 0 then 1 else 0) := by
    unfold near
    rw [← hp]
    by_cases c : x.fdiv y < 0 ∧ ¬ m = 0
    · rw [if_pos c, if_pos ⟨c.1, by omega⟩]
    · rw [if_neg c, if_neg (by omega)]
  have hyn : y * near x y = near x y * y := Int.mul_comm _ _
  rw [hyp, hyn]
  generalize hnq : near x y = q at *
  generalize hdq : x.fdiv y = d at *
  have hdx : ab d ≤ ab x + 1 := by
    unfold ab at *
    (repeat' split) <;> (repeat' split at hab) <;> omega
  have hqx : ab q ≤ ab x := by
    rw [hnd]
    unfold ab at *
    by_cases c : d < 0 ∧ ¬ m = 0
    · rw [if_pos c]
      have := hab2 c.1
      (repeat' split) <;> (repeat' split at this) <;> omega
    · rw [if_neg c]
      (repeat' split) <;> (repeat' split at hab) <;> omega
  rw [hnear]
  refine ⟨by omega, by omega, ?_, ?_, ?_, ?_, ?_, hqx, hdx⟩
  · unfold ab
    (repeat' split) <;> omega
  · unfold ab
    (repeat' split) <;> omega
  · omega
  · split <;> omega
  · rw [hnd]
    by_cases c : d < 0 ∧ ¬ m = 0
    · rw [if_pos c, if_pos c]
      rw [if_neg (by omega)]
      omega
    · rw [if_neg c, if_neg c]
      rw [if_pos (by omega)]
      omega
/-! ### the great common divisor -/
theorem eu_gcd : ∀ (k : Nat) (p : Int × Int), 0 ≤ p.1 → 0 ≤ p.2 → Int.gcd (eu k p).1 (eu k p).2 = Int.gcd p.1 p.2
  | 0, p, _, _ => rfl
  | k + 1, p, h1, h2 => by
    unfold eu
    split
    · rename_i h
      rw [eu_gcd k _ h2 (Int.emod_nonneg _ (by omega))]
      show Int.gcd p.2 (p.1 % p.2) = _
      rw [Int.gcd_comm p.1 p.2]
      have e : p.1 = p.1 % p.2 + p.2 * (p.1 / p.2) := by have := Int.mul_ediv_add_emod p.1 p.2; omega
      conv => rhs; rw [e]
      exact (Int.gcd_add_mul_left_right ..).symm
    · rfl
theorem eu_is {x y : Int} (hx : ab x < BIG) (hy : ab y < BIG) : (eu 3000 (ab x, ab y)).1 = (Int.gcd x y : Int) := by
  have ax : 0 ≤ ab x := by unfold ab; split <;> omega
  have ay : 0 ≤ ab y := by unfold ab; split <;> omega
  have h1 : ab y < 2 ^ 1000 := by have := big_2; omega
  have h2 := eu_end 1000 (ab x, ab y) h1
  have e : eu 3000 (ab x, ab y) = eu 2000 (ab x, ab y) := by
    have := eu_add 2000 1000 (ab x, ab y)
    rw [show (3000 : Nat) = 2000 + 1000 from rfl, this, eu_stop h2]
  obtain ⟨p1, p2, _⟩ := eu_pos 3000 (ab x, ab y) ax ay
  have z : (eu 3000 (ab x, ab y)).2 = 0 := by
    rw [e] at p2 ⊢
    have : ¬ 0 < (eu 2000 (ab x, ab y)).2 := h2
    omega
  have g := eu_gcd 3000 (ab x, ab y) ax ay
  rw [z, Int.gcd_zero_right] at g
  have e1 : Int.gcd (ab x) (ab y) = Int.gcd x y := by
    unfold ab Int.gcd
    congr 1 <;> split <;> omega
  have g' : (eu 3000 (ab x, ab y)).1.natAbs = Int.gcd x y := g.trans e1
  omega


/-! ### calls told from no objects -/
theorem ev_fr {m : GC} {xs : List D} {h : Hd} {Q : D → Hd → Prop} {d : D} {h1 : Hd} (hc : cloDs xs = true) (hm : m xs [] = some (d, h1)) (hd : cloD d = true) (q : ∀ h', Pre h h' → Q d h') : Ev (frM m xs h) Q := by
  refine ⟨d, h ++ shH h.length h1, ?_, q _ (Pre.app _ _)⟩
  unfold frM
  rw [if_pos hc, hm]
  show some (shD _ d, _) = _
  rw [shD_clo _ _ hd]
theorem fr_of {m : GC} {xs : List D} {d : D} (e : Ev (m xs []) fun r _ => r = d) : ∃ h1, m xs [] = some (d, h1) := by
  obtain ⟨r, h1, e1, rfl⟩ := e
  exact ⟨h1, e1⟩
/-- what the program tells is closed -/
theorem enc_clo {r : Int ⊕ D} (h : ∀ f, r = .inr f → cloD f = true) : cloD (encR r) = true := by
  cases r with
  | inl v => simp [encR, cloD, cloDs]
  | inr f => simp [encR, cloD, cloDs, h f rfl]
def fault : Int ⊕ D → Option D
  | .inl _ => none
  | .inr f => some f
theorem res_clo {v : Int} : ∀ f, res v = .inr f → cloD f = true := by
  intro f e
  unfold res at e
  split at e <;> cases e
  rfl
theorem out1_clo {k : Nat} {x : Int} : ∀ f, out1 k x = .inr f → cloD f = true := by
  intro f e
  unfold out1 at e
  split at e
  · rename_i q
    cases e
    unfold pf1 at q
    split at q
    · split at q <;> cases q
      rfl
    · cases q
  · exact res_clo f e
theorem out2_clo {k : Nat} {x y : Int} : ∀ f, out2 k x y = .inr f → cloD f = true := by
  intro f e
  unfold out2 at e
  split at e
  · rename_i q
    cases e
    unfold pf2 at q
    (repeat' split at q) <;> cases q <;> rfl
  · exact res_clo f e
section
variable {NF RD : Nat}
theorem r_told {d : D} {r : Int ⊕ D} {h : Hd} {Q : D → Hd → Prop} (hN : 3100 ≤ NF) (e : Evs d r) (hp : (parts d).length ≤ 1000) (hd : cloD d = true) (hr : ∀ f, r = .inr f → cloD f = true) (q : ∀ h', Pre h h' → Q (encR r) h') : Ev (frM (m_reckoned NF RD) [d] h) Q := by
  obtain ⟨h1, e1⟩ := fr_of ((r_reckoned (NF := NF) (RD := RD) hN e hp []).mono fun r' h' z => z.1)
  exact ev_fr (by simp [cloDs, hd]) e1 (enc_clo hr) q
def ofR : Int ⊕ D → D
  | .inl v => .int v
  | .inr _ => .non
theorem parts2 (s : Str) (x y : Int) : (parts (.tup [.str s, .int x, .int y])).length ≤ 1000 := by simp [parts, partsT, partss]
theorem parts1 (s : Str) (x : Int) : (parts (.tup [.str s, .int x])).length ≤ 1000 := by simp [parts, partsT, partss]
/-- _law_of -/
theorem r_of0 (k : Nat) (hk : k < 17) (x y : Int) (hN : 3100 ≤ NF) (hx : ab x < BIG) (hy : ab y < BIG) : ∃ h1, m__law_of NF RD [.str (nm2 k), .int x, .int y] [] = some (ofR (out2 k x y), h1) := by
  refine fr_of ?_
  have hLN := LN_eq
  unfold m__law_of
  walk_at "wq"
  refine r_told hN (.bi3 k (.int x) (.int y) x y hk (.int x hx) (.int y hy)) (parts2 _ _ _) (by simp [cloD, cloDs]) (fun f => out2_clo f) fun h' _ => ?_
  walk_at "wq"
  refine sq_nx ?_
  cases out2 k x y with
  | inl v =>
    simp only [encR]
    walk_at "wp"
    rfl
  | inr f =>
    simp only [encR]
    walk_at "wp"
    rfl
theorem r_of {k : Nat} {x y v : Int} {h : Hd} {Q : D → Hd → Prop} (hk : k < 17) (hN : 3100 ≤ NF) (hx : ab x < BIG) (hy : ab y < BIG) (hf : pf2 k x y = none) (hv : pv2 k x y = v) (hb : ab v < BIG) (q : ∀ h', Pre h h' → Q (.int v) h') : Ev (frM (m__law_of NF RD) [.str (nm2 k), .int x, .int y] h) Q := by
  obtain ⟨h1, e1⟩ := r_of0 (NF := NF) (RD := RD) k hk x y hN hx hy
  have e : out2 k x y = .inl v := by
    unfold out2
    rw [hf, hv]
    simp only [res]
    rw [if_pos hb]
  rw [e] at e1
  exact ev_fr (by simp [cloDs, cloD]) e1 rfl q
end


theorem lf_eqSame {x y : D} {h : Hd} {Q : D → Hd → Prop} (p : PyData) (e1 : datD h x = some p) (e2 : datD h y = some p) (l : p.canLay0 = true) (dp : p.depth ≤ 64) (q : Q (.bl true) h) : Ev (eqD x y h) Q := by
  refine ⟨_, _, ?_, q⟩
  unfold eqD
  rw [e1, e2]
  simp only
  rw [if_pos ⟨l, l, by omega⟩, PySem.SeqAt.eqv_refl _ l]
theorem lf_neSame {x y : D} {h : Hd} {Q : D → Hd → Prop} (p : PyData) (e1 : datD h x = some p) (e2 : datD h y = some p) (l : p.canLay0 = true) (dp : p.depth ≤ 64) (q : Q (.bl false) h) : Ev (neD x y h) Q := by
  refine ⟨_, _, ?_, q⟩
  unfold neD
  rw [e1, e2]
  simp only
  rw [if_pos ⟨l, l, by omega⟩, PySem.SeqAt.eqv_refl _ l]
  rfl
theorem lf_mulL {a : Nat} {n : Int} {xs : List D} {h : Hd} {Q : D → Hd → Prop} (e : h[a]? = some (.lst xs)) (c : 0 ≤ n ∧ n ≤ 1000000 ∧ xs.length * n.toNat ≤ LN) (q : Q (.at h.length) (h ++ [.lst (List.replicate n.toNat xs).flatten])) : Ev (mulD (.at a) (.int n) h) Q :=
  ⟨_, _, by simp only [mulD, e, if_pos c], q⟩
theorem dat_lst {h : Hd} {n : Nat} {xs : List D} {ps : List PyData} (e : h[n]? = some (.lst xs)) (q : toPs (rP 2 h) xs = some ps) : datD h (.at n) = some (.list ps) := by
  unfold datD toP
  unfold rP
  rw [e]
  simp only [q]
theorem eq_bb (p q : Bool) (h : Hd) : eqD (.bl p) (.bl q) h = some (.bl (decide (p = q)), h) := by
  unfold eqD datD
  cases p <;> cases q <;> rfl
theorem ne_bb (p q : Bool) (h : Hd) : neD (.bl p) (.bl q) h = some (.bl (!decide (p = q)), h) := by
  unfold neD datD
  cases p <;> cases q <;> rfl
theorem lf_neB {p q : Bool} {h : Hd} {Q : D → Hd → Prop} (k : Q (.bl (!decide (p = q))) h) : Ev (neD (.bl p) (.bl q) h) Q := ⟨_, _, ne_bb p q h, k⟩
def LIM : Int := 10 ^ 140
theorem lim_big : LIM + LIM < BIG := by decide +kernel
theorem lim_pos : (1 : Int) < LIM := by decide +kernel
theorem lim_lt {v : Int} (h : ab v ≤ LIM) : ab v < BIG := by
  have := lim_big
  have := lim_pos
  omega
section
variable {NF RD : Nat}
theorem zeroes (hN : 3100 ≤ NF) (x : Int) (hx : ab x < BIG) (h : Hd) (sg : Sg) (s0 : sg[0]? = some (some (.int x))) (s1 : sg[1]? = some (some (.int 0))) (sl : sg.length = 8) {Q : D → Hd → Prop}
    (q : ∀ n h', h'[n]? = some (.lst (List.replicate 4 (.tup [.str "error", fZero]))) → Q (.at n) h') :
    Ev (lcM (seqI (tupM (consM (cM (.str "//")) (consM (cM (.str "div")) (consM (cM (.str "mod")) (consM (cM (.str "rem")) nilM)))))) (nameG 7) yesM (E__law_divisions_right_0 NF RD) [7] NF sg h) Q := by
  have hLN := LN_eq
  refine ev_lc ?_
  walk_at "wq"
  refine ⟨[.str (nm2 9), .str (nm2 10), .str (nm2 11), .str (nm2 12)], fun as ys h' => ys = as.map fun _ => .tup [.str "error", fZero], by simp; omega, by simp; omega, rfl, fun _ _ _ _ _ => yl_fix, ?_, ?_⟩
  · rintro as y bs ys h1 ex rfl e1
    obtain ⟨k, hk, hk9, rfl⟩ : ∃ k, k < 17 ∧ (9 ≤ k ∧ k ≤ 12) ∧ y = .str (nm2 k) := by
      have : y ∈ [D.str (nm2 9), .str (nm2 10), .str (nm2 11), .str (nm2 12)] := by rw [ex]; simp
      simp only [List.mem_cons, List.not_mem_nil, or_false] at this
      rcases this with rfl | rfl | rfl | rfl
      · exact ⟨9, by decide, by decide, rfl⟩
      · exact ⟨10, by decide, by decide, rfl⟩
      · exact ⟨11, by decide, by decide, rfl⟩
      · exact ⟨12, by decide, by decide, rfl⟩
    walk_at "wq"
    unfold E__law_divisions_right_0
    walk_at "wq"
    refine ev_var (d := .str (nm2 k)) ?_ ?_
    · simp [wipeD, sl]
    walk_at "wq"
    refine ev_var (d := .int x) ?_ ?_
    · simp [wipeD]; exact s0
    walk_at "wq"
    refine ev_var (d := .int 0) ?_ ?_
    · simp [wipeD]; exact s1
    walk_at "wq"
    refine r_told (r := out2 k x 0) hN (.bi3 k (.int x) (.int 0) x 0 hk (.int x hx) (.int 0 (by decide +kernel))) (parts2 _ _ _) (by simp [cloD, cloDs]) (fun f => out2_clo f) fun h' hp => ?_
    have e : out2 k x 0 = .inr fZero := by
      unfold out2 pf2
      rw [if_pos ⟨hk9.1, hk9.2, rfl⟩]
    rw [e]
    exact ⟨hp.get e1, by simp [encR]⟩
  · rintro zs h' e1 rfl
    exact q _ _ e1
theorem sgn {i j : Nat} {u v : Int} {sg : Sg} {h : Hd} (e1 : sg[i]? = some (some (.int u))) (e2 : sg[j]? = some (some (.int v))) (c : u ≠ 0 → (0 < u ↔ 0 < v)) :
    Ev (tandM (testM (opM neD (varM i) (cM (.int 0)))) (testM (opM neD (opM gtD (varM i) (cM (.int 0))) (opM gtD (varM j) (cM (.int 0))))) sg h) fun b h' => b = false ∧ h' = h := by
  refine ev_tand (ev_test (ev_op (ev_var e1 (ev_c (lf_neI (blk ?_))))))
  refine br (fun c1 => ?_) fun c1 => ⟨by simpa using c1, rfl⟩
  refine ev_test (ev_op (ev_op (ev_var e1 (ev_c (lf_gt (ev_op (ev_var e2 (ev_c (lf_gt (lf_neB (blk ⟨?_, rfl⟩)))))))))))
  have := c (by simpa using c1)
  simp [this]
theorem r_divisions (hN : 3100 ≤ NF) (x y : Int) (hx : ab x ≤ LIM) (hy : ab y ≤ LIM) : ∃ h1, m__law_divisions_right NF RD [.int x, .int y] [] = some (.bl true, h1) := by
  refine fr_of ?_
  have hLN := LN_eq
  have bx := lim_lt hx
  have by' := lim_lt hy
  unfold m__law_divisions_right
  walk_at "wq"
  refine br (fun c => ?_) fun c => ?_
  · have c : y = 0 := by simpa using c
    subst c
    walk_at "wq"
    refine zeroes hN x bx _ _ rfl rfl rfl fun n h' e1 => ?_
    walk_at "wq"
    refine sq_nx ?_
    walk_at "wq"
    refine lf_mulL (get_new _ _) (by simp; omega) ?_
    walk_at "wq"
    refine lf_eqSame (.list (List.replicate 4 (.tuple [.str "error", .tuple [.str "evaluation_error", .str "zero_divisor"]]))) (dat_lst ((Pre.app _ _).get ((Pre.app _ _).get e1)) ?_) (dat_lst (get_new _ _) ?_) (by decide +kernel) (by decide +kernel) ?_
    · rfl
    · rfl
    walk_at "wq"
    rfl
  · have c : y ≠ 0 := by simpa using c
    obtain ⟨dn, dd, dl, da, dsa, dsl, dnd, dbn, dbd⟩ := divs x y c
    have hf : ∀ k, k < 13 → pf2 k x y = none := fun k hk => by
      unfold pf2
      rw [if_neg (by omega), if_neg (by omega), if_neg (by omega)]
    have l1 := lim_big
    have l2 := lim_pos
    walk_at "wq"
    refine sq_nx ?_
    walk_at "wq"
    refine r_of (k := 9) (v := tdv x y) (by decide) hN bx by' (hf 9 (by decide)) rfl (show ab (tdv x y) < BIG by omega) fun h1 _ => ?_
    walk_at "wq"
    refine r_of (k := 10) (v := x.fdiv y) (by decide) hN bx by' (hf 10 (by decide)) rfl (show ab (x.fdiv y) < BIG by omega) fun h2 _ => ?_
    walk_at "wq"
    refine sq_nx ?_
    walk_at "wq"
    refine r_of (k := 11) (v := x.fmod y) (by decide) hN bx by' (hf 11 (by decide)) rfl (show ab (x.fmod y) < BIG by omega) fun h3 _ => ?_
    walk_at "wq"
    refine r_of (k := 12) (v := x - y * tdv x y) (by decide) hN bx by' (hf 12 (by decide)) rfl (show ab (x - y * tdv x y) < BIG by omega) fun h4 _ => ?_
    walk_at "wq"
    refine sq_nx ?_
    generalize hleft : x - y * tdv x y = left at *
    clear hleft
    generalize tdv x y = near at *
    generalize x.fdiv y = down at *
    generalize x.fmod y = after at *
    have hmul : ∀ u v : Int, ab u ≤ LIM + 1 → ab v ≤ LIM + 1 → (-(2 ^ 64) < u ∧ u < 2 ^ 64) ∨ (-(2 ^ 64) < v ∧ v < 2 ^ 64) ∨ u.natAbs.log2 + v.natAbs.log2 < 1000000 := fun u v hu hv => by
      have := log_lt (x := u) (by omega)
      have := log_lt (x := v) (by omega)
      omega
    walk_at "wq"
    refine lf_mulI (hmul _ _ (by omega) (by omega)) ?_
    walk_at "wq"
    refine br_f (by simp [dn]) ?_
    walk_at "wq"
    refine lf_mulI (hmul _ _ (by omega) (by omega)) ?_
    walk_at "wq"
    refine br_f (by simp [dd]) ?_
    walk_at "wq"
    refine sq_nx ?_
    walk_at "wq"
    refine br_f (by have : ¬ ab y ≤ ab left := by omega
                    exact decide_eq_false this) ?_
    walk_at "wq"
    refine br_f (by have : ¬ ab y ≤ ab after := by omega
                    exact decide_eq_false this) ?_
    walk_at "wq"
    refine sq_nx ?_
    refine ev_seq (ev_ifS (ev_tor ?_))
    refine (sgn (u := after) (v := y) rfl rfl dsa).mono ?_
    rintro _ _ ⟨rfl, rfl⟩
    refine br_ff ?_
    refine (sgn (u := left) (v := x) rfl rfl dsl).mono ?_
    rintro _ _ ⟨rfl, rfl⟩
    refine br_ff ?_
    walk_at "wq"
    refine sq_nx ?_
    walk_at "wq"
    rw [dnd]
    have : (if left = after then (0 : Int) else 1) = if (!decide (left = after)) = true then 1 else 0 := by
      by_cases c : left = after
      · rw [if_pos c, if_neg (by rw [decide_eq_true c]; decide)]
      · rw [if_neg c, if_pos (by rw [decide_eq_false c]; decide)]
    exact congrArg D.bl (decide_eq_true this)
end


theorem lim_pw : LIM < 2 ^ 500 := by decide +kernel
theorem pw_big : (2 : Int) ^ 500 + 2 ^ 500 + 2 ^ 500 + 2 ^ 500 + 2 < BIG := by decide +kernel
theorem lim_in {x : Int} (h : ab x ≤ LIM) : -2 ^ 500 ≤ x ∧ x < 2 ^ 500 := by
  have := lim_pw
  unfold ab at h
  generalize (2 : Int) ^ 500 = P at *
  split at h <;> omega
theorem out2_in {k : Nat} {x y v : Int} (hf : pf2 k x y = none) (hv : pv2 k x y = v) (hb : ab v < BIG) : out2 k x y = .inl v := by
  unfold out2
  rw [hf, hv]
  simp only [res]
  rw [if_pos hb]
theorem out1_in {k : Nat} {x v : Int} (hf : pf1 k x = none) (hv : pv1 k x = v) (hb : ab v < BIG) : out1 k x = .inl v := by
  unfold out1
  rw [hf, hv]
  simp only [res]
  rw [if_pos hb]
theorem ab_le {v P : Int} (h1 : -P ≤ v) (h2 : v ≤ P) : ab v ≤ P := by unfold ab; split <;> omega
theorem lf_eqE {r : Int ⊕ D} {v : Int} {h : Hd} {Q : D → Hd → Prop} (e : r = .inl v) (q : Q (.bl true) h) : Ev (eqD (encR r) (encR (.inl v)) h) Q := by
  subst e
  refine lf_eqSame (.tuple [.str "value", .int v]) rfl rfl (by simp [PyData.canLay0, PyData.canLayAll0, show PyData.strOk "value" = true by decide +kernel]) (by simp [PyData.depth, PyData.depthAll]) q
section
variable {NF RD : Nat}
theorem r_bits (hN : 3100 ≤ NF) (x y : Int) (hx : ab x ≤ LIM) (hy : ab y ≤ LIM) : ∃ h1, m__law_bits_right NF RD [.int x, .int y] [] = some (.bl true, h1) := by
  refine fr_of ?_
  have hLN := LN_eq
  have bx := lim_lt hx
  have by' := lim_lt hy
  obtain ⟨x1, x2⟩ := lim_in hx
  obtain ⟨y1, y2⟩ := lim_in hy
  obtain ⟨a1, a2⟩ := and_small 500 x y x1 x2 y1 y2
  have hdm := de_morgan 500 x y x1 x2 y1 y2
  have hxx := xor_xor 500 x y x1 x2 y1 y2
  have ho := PyProof.Rows.bitOr_and x y
  have hX := PyProof.Rows.bitXor_and x y
  have hpb := pw_big
  have hf : ∀ k (u v : Int), k < 9 → pf2 k u v = none := fun k u v hk => by
    unfold pf2
    rw [if_neg (by omega), if_neg (by omega), if_neg (by omega)]
  generalize hP : (2 : Int) ^ 500 = P at *
  have bA : ab (Builtin.bitAnd x y) < BIG := by have := ab_le (v := Builtin.bitAnd x y) (P := P) (by omega) (by omega); omega
  have bO : ab (Builtin.bitOr x y) < BIG := by have := ab_le (v := Builtin.bitOr x y) (P := P + P + P) (by omega) (by omega); omega
  have bX : ab (Builtin.bitXor x y) < BIG := by have := ab_le (v := Builtin.bitXor x y) (P := P + P + P + P) (by omega) (by omega); omega
  unfold m__law_bits_right
  walk_at "wq"
  refine r_of (k := 6) (v := Builtin.bitAnd x y) (by decide) hN bx by' (hf 6 _ _ (by decide)) rfl bA fun h1 _ => ?_
  walk_at "wq"
  refine r_of (k := 7) (v := Builtin.bitOr x y) (by decide) hN bx by' (hf 7 _ _ (by decide)) rfl bO fun h2 _ => ?_
  walk_at "wq"
  refine r_of (k := 8) (v := Builtin.bitXor x y) (by decide) hN bx by' (hf 8 _ _ (by decide)) rfl bX fun h3 _ => ?_
  walk_at "wq"
  refine sq_nx ?_
  walk_at "wq"
  refine br_f (by simp; omega) ?_
  walk_at "wq"
  refine br_f (by simp; omega) ?_
  walk_at "wq"
  refine sq_nx ?_
  walk_at "wq"
  refine r_of (k := 8) (v := x) (by decide) hN bX by' (hf 8 _ _ (by decide)) hxx bx fun h4 _ => ?_
  walk_at "wq"
  refine br_f (by simp) ?_
  walk_at "wq"
  refine sq_nx ?_
  walk_at "wq"
  have o6 : out2 6 x y = .inl (Builtin.bitAnd x y) := out2_in (hf 6 _ _ (by decide)) rfl bA
  have bN : ab (-(Builtin.bitAnd x y) - 1) < BIG := by have := ab_le (v := -(Builtin.bitAnd x y) - 1) (P := P + 1) (by omega) (by omega); omega
  have o1 : out1 4 (Builtin.bitAnd x y) = .inl (-(Builtin.bitAnd x y) - 1) := out1_in rfl rfl bN
  have e1 : Evs (.tup [.str (nm1 4), .tup [.str (nm2 6), .int x, .int y]]) (.inl (-(Builtin.bitAnd x y) - 1)) := o1 ▸ .un2 4 _ _ (by decide) (o6 ▸ .bi3 6 _ _ x y (by decide) (.int x bx) (.int y by'))
  refine r_told hN e1 (by simp [parts, partsT, partss]) (by simp [cloD, cloDs]) (fun f e => by cases e) fun h5 _ => ?_
  walk_at "wq"
  have bxn : ab (-x - 1) < BIG := by have := ab_le (v := -x - 1) (P := P + 1) (by omega) (by omega); omega
  have byn : ab (-y - 1) < BIG := by have := ab_le (v := -y - 1) (P := P + 1) (by omega) (by omega); omega
  have ox : out1 4 x = .inl (-x - 1) := out1_in rfl rfl bxn
  have oy : out1 4 y = .inl (-y - 1) := out1_in rfl rfl byn
  have o7 : out2 7 (-x - 1) (-y - 1) = .inl (-(Builtin.bitAnd x y) - 1) := out2_in (hf 7 _ _ (by decide)) hdm.symm bN
  have e2 : Evs (.tup [.str (nm2 7), .tup [.str (nm1 4), .int x], .tup [.str (nm1 4), .int y]]) (.inl (-(Builtin.bitAnd x y) - 1)) :=
    o7 ▸ .bi3 7 _ _ (-x - 1) (-y - 1) (by decide) (ox ▸ .un2 4 _ x (by decide) (.int x bx)) (oy ▸ .un2 4 _ y (by decide) (.int y by'))
  refine r_told hN e2 (by simp [parts, partsT, partss]) (by simp [cloD, cloDs]) (fun f e => by cases e) fun h6 _ => ?_
  refine lf_eqE rfl ?_
  walk_at "wq"
  rfl
end


def LIX : Int := 10 ^ 120
theorem lix_lim : LIX * 61 + 100 ≤ LIM := by decide +kernel
theorem lix_pos : (1 : Int) < LIX := by decide +kernel
theorem ab_add (u v : Int) : ab (u + v) ≤ ab u + ab v := by unfold ab; (repeat' split) <;> omega
theorem wide {u v : Int} (hu : ab u < BIG) (hv : ab v < BIG) : (-(2 ^ 64) < u ∧ u < 2 ^ 64) ∨ (-(2 ^ 64) < v ∧ v < 2 ^ 64) ∨ u.natAbs.log2 + v.natAbs.log2 < 1000000 := by
  have := log_lt hu
  have := log_lt hv
  omega
theorem gcd_le {x y M : Int} (hx : ab x ≤ M) (hy : ab y ≤ M) (hb : M < BIG) : (Int.gcd x y : Int) ≤ M := by
  rw [← eu_is (by omega) (by omega)]
  exact eu_le 3000 (ab x, ab y) M (ab_nn x) (ab_nn y) hx hy
section
variable {NF RD : Nat}
theorem r_gcdOf (hN : 3100 ≤ NF) {x y : Int} {h : Hd} {Q : D → Hd → Prop} (hx : ab x ≤ LIM) (hy : ab y ≤ LIM) (q : ∀ h', Pre h h' → Q (.int (Int.gcd x y : Nat)) h') : Ev (frM (m__law_of NF RD) [.str (nm2 5), .int x, .int y] h) Q := by
  have bx := lim_lt hx
  have by' := lim_lt hy
  have l := lim_big
  have l2 := lim_pos
  have g := gcd_le hx hy (by omega)
  have g0 : (0 : Int) ≤ (Int.gcd x y : Nat) := by omega
  refine r_of (k := 5) (v := (Int.gcd x y : Nat)) (by decide) hN bx by' ?_ (eu_is bx by') ?_ q
  · unfold pf2
    rw [if_neg (by omega), if_neg (by omega), if_neg (by omega)]
  · have : ab ((Int.gcd x y : Nat) : Int) ≤ LIM := ab_le (by omega) g
    omega
theorem r_gcd (hN : 3100 ≤ NF) (x y more : Int) (hx : ab x ≤ LIX) (hy : ab y ≤ LIX) (hm : ab more ≤ 60) : ∃ h1, m__law_gcd_right NF RD [.int x, .int y, .int more] [] = some (.bl true, h1) := by
  refine fr_of ?_
  have hLN := LN_eq
  have l1 := lix_lim
  have l2 := lix_pos
  have l3 := lim_big
  have hxl : ab x ≤ LIM := by omega
  have hyl : ab y ≤ LIM := by omega
  have bx := lim_lt hxl
  have by' := lim_lt hyl
  have bm : ab more < BIG := by omega
  have hxm : ab (x * more) ≤ LIM := by
    rw [ab_mul]
    have : ab x * ab more ≤ LIX * 60 := Int.mul_le_mul hx hm (ab_nn _) (by omega)
    omega
  have hym : ab (y * more) ≤ LIM := by
    rw [ab_mul]
    have : ab y * ab more ≤ LIX * 60 := Int.mul_le_mul hy hm (ab_nn _) (by omega)
    omega
  have hs : ab (x + more * y) ≤ LIM := by
    have h1 := ab_add x (more * y)
    have h2 : ab (more * y) ≤ 60 * LIX := by
      rw [ab_mul]
      exact Int.mul_le_mul hm hy (ab_nn _) (by omega)
    omega
  have gl := gcd_le hxl hyl (by omega)
  have d1 : ((Int.gcd x y : Nat) : Int) ∣ x := Int.gcd_dvd_left x y
  have d2 : ((Int.gcd x y : Nat) : Int) ∣ y := Int.gcd_dvd_right x y
  have g1 : ((Int.gcd (x * more) (y * more) : Nat) : Int) = (Int.gcd x y : Nat) * (if more < 0 then -more else more) := by
    rw [Int.gcd_mul_right]
    have : ((more.natAbs : Nat) : Int) = if more < 0 then -more else more := by split <;> omega
    rw [← this]
    exact Int.natCast_mul ..
  have g2 : Int.gcd y (x + more * y) = Int.gcd x y := by rw [Int.gcd_add_mul_right_right, Int.gcd_comm]
  have bg : ab ((Int.gcd x y : Nat) : Int) < BIG := by
    have : ab ((Int.gcd x y : Nat) : Int) ≤ LIM := ab_le (by omega) gl
    omega
  have z : Int.gcd x y = 0 → x = 0 ∧ y = 0 := fun e => Int.gcd_eq_zero_iff.mp e
  unfold m__law_gcd_right
  walk_at "wq"
  refine r_gcdOf hN hxl hyl fun h1 _ => ?_
  walk_at "wq"
  refine sq_nx ?_
  generalize hg : Int.gcd x y = g at *
  have tail : ∀ h2, Ev ((retM (andM (opM eqD (callM 3 (frM (m__law_of NF RD)) [] (consM (cM (.str "gcd")) (consM (opM mulD (varM 0) (varM 2)) (consM (opM mulD (varM 1) (varM 2)) nilM)))) (opM mulD (varM 3) (cbM absD (consM (varM 2) nilM)))) (opM eqD (callM 3 (frM (m__law_of NF RD)) [] (consM (cM (.str "gcd")) (consM (varM 1) (consM (opM addD (varM 0) (opM mulD (varM 2) (varM 1))) nilM)))) (varM 3))))
      [some (.int x), some (.int y), some (.int more), some (.int (g : Int))] h2) (BdK fun r h' => r = .bl true) := by
    intro h2
    walk_at "wq"
    refine lf_mulI (wide bx bm) ?_
    walk_at "wq"
    refine lf_mulI (wide by' bm) ?_
    walk_at "wq"
    refine r_gcdOf hN hxm hym fun h3 _ => ?_
    walk_at "wq"
    refine lf_mulI (wide bg (by show ab (ab more) < BIG; have := ab_nn more; unfold ab at *; (repeat' split) <;> (repeat' split at hm) <;> omega)) ?_
    walk_at "wq"
    refine br_t (decide_eq_true g1) ?_
    walk_at "wq"
    refine lf_mulI (wide bm by') ?_
    walk_at "wq"
    refine r_gcdOf hN hyl hs fun h3 _ => ?_
    walk_at "wq"
    rw [g2]
    simp
  by_cases c0 : g = 0
  · obtain ⟨rfl, rfl⟩ := z c0
    subst c0
    walk_at "wq"
    refine lf_neSame (.tuple [.int 0, .int 0]) rfl rfl rfl (by decide) ?_
    walk_at "wq"
    refine sq_nx ?_
    walk_at "wq"
    exact tail _
  · have gp : (0 : Int) < (g : Int) := by omega
    walk_at "wq"
    refine br_f (decide_eq_false (by omega)) ?_
    walk_at "wq"
    refine sq_nx ?_
    walk_at "wq"
    refine br_t (by simp; omega) ?_
    walk_at "wq"
    refine br_f (by simp [Int.emod_eq_zero_of_dvd d1]) ?_
    walk_at "wq"
    refine br_f (by simp [Int.emod_eq_zero_of_dvd d2]) ?_
    walk_at "wq"
    refine sq_nx ?_
    exact tail _
end

theorem nine : (9 : Int) ^ 138 < LIM := by decide +kernel
theorem lix_sh : LIX * 2 ^ 70 < BIG := by decide +kernel
theorem lix_2k : LIX < 2 ^ 2000 := by decide +kernel
theorem ab_nat (x : Int) : ab x = (x.natAbs : Int) := by unfold ab; split <;> omega
theorem abp9 (b : Int) (hb : ab b ≤ 9) (n : Nat) (hn : n ≤ 138) : ab (b ^ n) ≤ 9 ^ 138 := by
  rw [ab_nat] at *
  rw [Int.natAbs_pow]
  have h1 : b.natAbs ^ n ≤ 9 ^ n := Nat.pow_le_pow_left (by omega) n
  have h2 : 9 ^ n ≤ 9 ^ 138 := Nat.pow_le_pow_right (by omega) hn
  have h3 : b.natAbs ^ n ≤ 9 ^ 138 := Nat.le_trans h1 h2
  have h4 : ((b.natAbs ^ n : Nat) : Int) ≤ ((9 ^ 138 : Nat) : Int) := Int.ofNat_le.mpr h3
  have h5 : ((9 ^ 138 : Nat) : Int) = (9 : Int) ^ 138 := by decide +kernel
  omega
theorem neg_one_pow : ∀ n : Nat, (-1 : Int) ^ n = 1 - 2 * ((n : Int) % 2)
  | 0 => by decide
  | n + 1 => by
    rw [Int.pow_succ, neg_one_pow n]
    omega
theorem pw_is (b : Int) (hb : ab b ≤ 9) (n : Nat) (hn : n ≤ 138) : pw b n = b ^ n := by
  have hp := abp9 b hb n hn
  have := nine
  have := lim_big
  have := lim_pos
  unfold pw
  split
  · rename_i h
    rcases h with rfl | rfl
    · cases n with
      | zero => rfl
      | succ n => rw [if_neg (by omega)]; exact (Int.zero_pow (by omega)).symm
    · rw [if_pos (.inl rfl), Int.one_pow]
  · split
    · rename_i h h1
      subst h1
      exact (neg_one_pow n).symm
    · have e : (mn (n : Int) 1000).toNat = n := by unfold mn; rw [if_neg (by omega)]; omega
      rw [e, if_neg (by omega)]
theorem ab_shl (x : Int) (n : Nat) (hx : ab x ≤ LIX) (hn : n ≤ 70) : ab (x * 2 ^ n) < BIG := by
  rw [ab_mul]
  have h0 : ab ((2 : Int) ^ n) = 2 ^ n := by unfold ab; rw [if_neg (by have := two_pos n; omega)]
  have h1 : (2 : Int) ^ n ≤ 2 ^ 70 := by have := Int.ofNat_le.mpr (Nat.pow_le_pow_right (n := 2) (by decide) hn); rw [PySem.W.kbt_cast, PySem.W.kbt_cast] at this; exact this
  have h2 : ab x * 2 ^ n ≤ LIX * 2 ^ 70 := Int.mul_le_mul hx h1 (by have := two_pos n; omega) (by have := lix_pos; omega)
  have h3 := lix_sh
  rw [h0]
  omega
theorem ab_ediv (x d : Int) (hd : 0 < d) : ab (x / d) ≤ ab x := by
  have e := Int.emod_add_mul_ediv x d
  have m0 := Int.emod_nonneg x (show d ≠ 0 by omega)
  have m1 := Int.emod_lt_of_pos x hd
  generalize x / d = q at *
  generalize x % d = r at *
  by_cases hq : 0 ≤ q
  · have : 1 * q ≤ d * q := Int.mul_le_mul_of_nonneg_right (by omega) hq
    unfold ab
    rw [if_neg (by omega), if_neg (by omega)]
    omega
  · have h1 : d * q ≤ 1 * q := Int.mul_le_mul_of_nonpos_right (by omega) (by omega)
    have h2 : (d - 1) * 1 ≤ (d - 1) * (-q) := Int.mul_le_mul_of_nonneg_left (by omega) (by omega)
    have h3 : (d - 1) * (-q) = q - d * q := by rw [Int.sub_mul, Int.mul_neg, Int.one_mul]; omega
    unfold ab
    rw [if_pos (by omega), if_pos (by omega)]
    omega
def clp (x : Int) : Int := mn (if 0 - 9 > x then 0 - 9 else x) 9
theorem clp_ab (x : Int) : ab (clp x) ≤ 9 := by unfold ab clp mn; (repeat' split) <;> omega

section
variable {NF RD : Nat}
theorem r_shifts (hN : 3100 ≤ NF) (x : Int) (many more : Nat) (hx : ab x ≤ LIX) (hm : many < 70) (hm' : more < 70) : ∃ h1, m__law_shifts_right NF RD [.int x, .int many, .int more] [] = some (.bl true, h1) := by
  refine fr_of ?_
  have hLN := LN_eq
  have l1 := lix_lim
  have l2 := lix_pos
  have l3 := lim_big
  have hxl : ab x ≤ LIM := by omega
  have bx := lim_lt hxl
  have bs := ab_shl x many hx (by omega)
  have b70 : ∀ n : Nat, n < 1000 → ab (n : Int) < BIG := fun n hn => by
    have : (1000 : Int) < BIG := by decide +kernel
    unfold ab; split <;> omega
  have e1 : ∀ n : Nat, n < 140 → (mn (n : Int) 1000).toNat = n := fun n hn => by unfold mn; rw [if_neg (by omega)]; omega
  have e2 : (mn (many : Int) 2000).toNat = many := by unfold mn; rw [if_neg (by omega)]; omega
  have f13 : ∀ k (u : Int) (n : Nat), 13 ≤ k → pf2 k u n = none := fun k u n hk => by
    unfold pf2
    rw [if_neg (by omega), if_neg (by omega), if_neg (by omega)]
  have p2 := two_pos many
  unfold m__law_shifts_right
  walk_at "wq"
  refine r_of (k := 13) (v := x * 2 ^ many) (by decide) hN bx (b70 _ (by omega)) (f13 _ _ _ (by decide)) (by show (if _ then _ else _) = _; rw [if_neg (by omega), e1 _ (by omega)]) bs fun h1 _ => ?_
  walk_at "wq"
  refine sq_nx ?_
  have ib1 : (Builtin.Int.intBits 1 : Int) + (many : Int) ≤ 2 ^ 27 := by
    have : Builtin.Int.intBits 1 = 1 := by decide +kernel
    rw [this]; omega
  have hp70 : ab ((1 : Int) * 2 ^ many) < BIG := ab_shl 1 many (by have : ab 1 = 1 := rfl; omega) (by omega)
  walk_at "wq"
  refine lf_shl ⟨by omega, ib1⟩ ?_
  simp only [Int.toNat_natCast]
  walk_at "wq"
  refine lf_mulI (wide bx hp70) ?_
  walk_at "wq"
  refine br_f (by simp) ?_
  walk_at "wq"
  refine r_of (k := 14) (v := x) (by decide) hN bs (b70 _ (by omega)) (f13 _ _ _ (by decide)) (by show _ / _ = _; rw [e2, Int.mul_ediv_cancel _ (by omega)]) bx fun h2 _ => ?_
  walk_at "wq"
  refine br_f (by simp) ?_
  walk_at "wq"
  refine sq_nx ?_
  walk_at "wq"
  have bd : ab (x / 2 ^ many) < BIG := by
    have := ab_ediv x (2 ^ many) (by omega)
    omega
  refine r_of (k := 14) (v := x / 2 ^ many) (by decide) hN bx (b70 _ (by omega)) (f13 _ _ _ (by decide)) (by show _ / _ = _; rw [e2]) bd fun h3 _ => ?_
  walk_at "wq"
  refine lf_shl ⟨by omega, ib1⟩ ?_
  simp only [Int.toNat_natCast, Int.one_mul] at hp70 ⊢
  walk_at "wq"
  refine lf_fdivZp ⟨p2, by have := log_lt hp70; omega⟩ ?_
  walk_at "wq"
  refine br_f (by simp) ?_
  walk_at "wq"
  refine sq_nx ?_
  walk_at "wq"
  have c9 : ∀ n : Nat, n ≤ 138 → ab (clp x ^ n) < BIG := fun n hn => by
    have := abp9 (clp x) (clp_ab x) n hn
    have := nine
    omega
  have cb : ab (clp x) < BIG := by have := clp_ab x; omega
  have c15 : ∀ n : Nat, n ≤ 138 → (if (0 : Int) ≤ n then pw (clp x) n else pw (clp x) (-n)) = clp x ^ n := fun n hn => by
    rw [if_pos (by omega)]
    exact pw_is _ (clp_ab x) n hn
  refine r_of (k := 4) (y := 0 - 9) (v := if 0 - 9 > x then 0 - 9 else x) (by decide) hN bx (by decide +kernel) rfl rfl (by split <;> first | exact bx | decide +kernel) fun h4 _ => ?_
  walk_at "wq"
  refine r_of (k := 3) (v := clp x) (by decide) hN (by split <;> first | exact bx | decide +kernel) (by decide +kernel) rfl rfl cb fun h4 _ => ?_
  walk_at "wq"
  refine sq_nx ?_
  walk_at "wq"
  have hsum : (many : Int) + (more : Int) = ((many + more : Nat) : Int) := (Int.natCast_add ..).symm
  rw [hsum]
  refine r_of (k := 15) (v := clp x ^ (many + more)) (by decide) hN cb (b70 _ (by omega)) (f13 _ _ _ (by decide)) (c15 _ (by omega)) (c9 _ (by omega)) fun h5 _ => ?_
  walk_at "wq"
  refine sq_nx ?_
  walk_at "wq"
  refine r_of (k := 15) (v := clp x ^ many) (by decide) hN cb (b70 _ (by omega)) (f13 _ _ _ (by decide)) (c15 _ (by omega)) (c9 _ (by omega)) fun h5 _ => ?_
  walk_at "wq"
  refine r_of (k := 16) (v := clp x ^ more) (by decide) hN cb (b70 _ (by omega)) (f13 _ _ _ (by decide)) (c15 _ (by omega)) (c9 _ (by omega)) fun h5 _ => ?_
  walk_at "wq"
  refine lf_mulI (wide (c9 _ (by omega)) (c9 _ (by omega))) ?_
  walk_at "wq"
  refine br_f (by simp [Int.pow_add]) ?_
  walk_at "wq"
  refine sq_nx ?_
  walk_at "wq"
  have hfar : x / 2 ^ (mn (10 ^ 30) 2000).toNat = if x < 0 then -1 else 0 := by
    have : (mn (10 ^ 30) 2000).toNat = 2000 := by decide +kernel
    rw [this]
    have h2k := lix_2k
    refine top_div ?_ ?_ <;> (unfold ab at hx; generalize (2 : Int) ^ 2000 = P at *; split at hx <;> omega)
  refine r_of (k := 14) (y := 10 ^ Int.toNat 30) (v := if x < 0 then -1 else 0) (by decide) hN bx (by decide +kernel) (by unfold pf2; rw [if_neg (by decide), if_neg (by decide +kernel), if_neg (by omega)]) hfar (by split <;> decide +kernel) fun h6 _ => ?_
  walk_at "wq"
  refine br_t ?_ ?_
  · by_cases c : x < 0 <;> simp [c]
  walk_at "wq"
  refine r_of (k := 15) (x := 0 - 1) (y := 10 ^ Int.toNat 40 + 1) (v := -1) (by decide) hN (by decide +kernel) (by decide +kernel) (by unfold pf2; rw [if_neg (by decide), if_neg (by decide), if_neg (by decide +kernel)]) (by decide +kernel) (by decide +kernel) fun h7 _ => ?_
  walk_at "wq"
  rfl
end


/-! ### the well -/
theorem Fw.set' {w : Nat} {h h' : Hd} (x : Fw w h h') {i : Nat} (hi : h.length ≤ i) (o : O) : Fw w h (h'.set i o) := ⟨by simpa using x.len, fun j hj hn => by rw [get_ne (by omega)]; exact x.at' j hj hn⟩
theorem Fw.setw {w : Nat} {h h' : Hd} (x : Fw w h h') (o : O) : Fw w h (h'.set w o) := ⟨by simpa using x.len, fun j hj hn => by rw [get_ne (by omega)]; exact x.at' j hj hn⟩
theorem Fw.app {w : Nat} {h h' : Hd} (x : Fw w h h') (g : Hd) : Fw w h (h' ++ g) := x.trans (Fw.pre (Pre.app _ _))
def Wl (w : Nat) (h : Hd) : Prop := ∃ a b c : Int, h[w]? = some (.lst [.int a, .int b, .int c])
theorem Wl.pre {w : Nat} {h h' : Hd} (x : Wl w h) (p : Pre h h') : Wl w h' := by
  obtain ⟨a, b, c, e⟩ := x
  exact ⟨a, b, c, p.get e⟩
theorem Wl.lt {w : Nat} {h : Hd} (x : Wl w h) : w < h.length := by
  obtain ⟨a, b, c, e⟩ := x
  exact lt_of e
theorem Wl.ne {w i : Nat} {h : Hd} (x : Wl w h) (hi : i ≠ w) (o : O) : Wl w (h.set i o) := by
  obtain ⟨a, b, c, e⟩ := x
  exact ⟨a, b, c, by rw [get_ne hi]; exact e⟩
theorem at_nat {α : Type} {xs : List α} {i : Int} (h0 : 0 ≤ i) (h1 : i < xs.length) : ∃ x ∈ xs, atI xs i = some x := by
  have hl : i.toNat < xs.length := by omega
  refine ⟨xs[i.toNat], List.getElem_mem hl, ?_⟩
  unfold atI ixN
  rw [if_pos h0, if_pos h1]
  simp [hl]

section
variable {NF RD : Nat}
theorem r_next {w : Nat} {many : Int} {h : Hd} (hw : Wl w h) (hm : 0 < many) (hm2 : many.natAbs.log2 < 9000) : Ev (m__law_next NF RD [.at w, .int many] h) fun r h' => ∃ i, r = .int i ∧ 0 ≤ i ∧ i < many ∧ Fw w h h' ∧ Wl w h' := by
  obtain ⟨a, b, c, e⟩ := hw
  have hmm : 0 < many ∧ many.natAbs.log2 < 9000 := ⟨hm, hm2⟩
  have hp : (0 : Int) < 2147483647 := by decide
  unfold m__law_next
  walk_at "wp"
  refine lf_ixL e rfl ?_
  walk_at "wp"
  refine br (fun c1 => ?_) fun c1 => ?_
  · walk_at "wp"
    refine lf_ixL e rfl ?_
    walk_at "wp"
    refine ev_setL ?_
    walk_at "wp"
    refine lf_ixL e rfl ?_
    walk_at "wp"
    refine ⟨w, _, 0, 0, rfl, e, rfl, rfl, ?_⟩
    walk_at "wp"
    exact ⟨_, rfl, Int.emod_nonneg _ (by omega), Int.emod_lt_of_pos _ hm, Fw.set _, _, _, _, get_set e⟩
  · walk_at "wp"
    refine ev_setL ?_
    walk_at "wp"
    refine lf_ixL e rfl ?_
    walk_at "wp"
    refine ⟨w, _, 2, 2, rfl, e, rfl, rfl, ?_⟩
    have e2 := get_set (p := .lst ([D.int a, D.int b, D.int c].set 2 (D.int (c + 1)))) e
    walk_at "wp"
    refine lf_ixL e2 rfl ?_
    walk_at "wp"
    refine lf_ixL e2 rfl ?_
    walk_at "wp"
    generalize hx : (b + 104729 * (c + 1) + 7919) % 2147483647 * 48271 % 2147483647 = x
    have hx0 : 0 ≤ x ∧ x < 2147483647 := by rw [← hx]; exact ⟨Int.emod_nonneg _ (by decide), Int.emod_lt_of_pos _ (by decide)⟩
    refine lf_mulI (.inl ⟨by omega, by omega⟩) ?_
    walk_at "wp"
    generalize hy : x * (x / 1009 + 69621) % 2147483647 = y
    have hy0 : 0 ≤ y ∧ y < 2147483647 := by rw [← hy]; exact ⟨Int.emod_nonneg _ (by decide), Int.emod_lt_of_pos _ (by decide)⟩
    refine lf_mulI (.inl ⟨by omega, by omega⟩) ?_
    walk_at "wp"
    exact ⟨_, rfl, Int.emod_nonneg _ (by omega), Int.emod_lt_of_pos _ hm, Fw.set _, _, _, _, e2⟩
theorem r_one {w l : Nat} {xs : List D} {h : Hd} (hw : Wl w h) (e : h[l]? = some (.lst xs)) (hn : l ≠ w) (hx : 0 < xs.length) (hx2 : xs.length < 1000) : Ev (m__law_one NF RD [.at w, .at l] h) fun r h' => r ∈ xs ∧ Fw w h h' ∧ Wl w h' := by
  unfold m__law_one
  walk_at "wp"
  refine (r_next hw (by omega) ?_).mono ?_
  · have := Nat.log2_le_self (xs.length : Int).natAbs
    omega
  rintro r h' ⟨i, rfl, h0, h1, hf, hw'⟩
  obtain ⟨x, hx, ex⟩ := at_nat h0 h1
  refine lf_ixL (hf.get e hn) ex ?_
  walk_at "wp"
  exact ⟨hx, hf, hw'⟩
theorem r_source (c : Int) (h : Hd) : Ev (m__law_source_of NF RD [.int c] h) fun r h' => ∃ w, r = .at w ∧ h.length ≤ w ∧ Pre h h' ∧ Wl w h' := by
  unfold m__law_source_of
  have key : ∀ x : Int, Ev ((retM (lstM (consM (opM mulD (varM 0) (cbM intD (consM (opM geD (varM 0) (opM powD (cM (.int 10)) (cM (.int 18)))) nilM))) (consM (opM modD (cbM intD (consM (varM 0) nilM)) (cM (.int 2147483647))) (consM (cM (.int 0)) nilM))))) [some (.int x)] h) (BdK fun r h' => ∃ w, r = .at w ∧ h.length ≤ w ∧ Pre h h' ∧ Wl w h') := by
    intro x
    walk_at "wp"
    refine lf_mulI (.inr (.inl ?_)) ?_
    · exact (show ∀ b : Bool, -(2 ^ 64 : Int) < (if b = true then 1 else 0) ∧ (if b = true then (1 : Int) else 0) < 2 ^ 64 by decide) _
    walk_at "wp"
    exact ⟨_, rfl, Nat.le_refl _, Pre.app _ _, _, _, _, get_new _ _⟩
  walk_at "wq"
  refine br (fun c1 => ?_) fun c1 => ?_
  · walk_at "wq"
    refine sq_nx ?_
    exact key _
  · walk_at "wq"
    refine sq_nx ?_
    exact key _
def E50 : Int := 10 ^ 100
theorem r_number {w : Nat} {h : Hd} (hw : Wl w h) : Ev (m__law_number NF RD [.at w] h) fun r h' => ∃ i, r = .int i ∧ ab i ≤ E50 ∧ Fw w h h' ∧ Wl w h' := by
  unfold m__law_number
  walk_at "wq"
  refine lf_mulI (.inr (.inr (by decide +kernel))) ?_
  walk_at "wq"
  have hn : h.length ≠ w := by have := hw.lt; omega
  refine (r_one (hw.pre (Pre.app _ _)) (get_new _ _) hn (by simp) (by simp)).mono ?_
  rintro r h1 ⟨hr, hf1, hw1⟩
  obtain ⟨m, rfl, hm0, hm1⟩ : ∃ m : Int, r = .int m ∧ 0 < m ∧ m ≤ E50 := by
    simp only [List.mem_cons, List.not_mem_nil, or_false] at hr
    rcases hr with rfl | rfl | rfl | rfl
    · exact ⟨_, rfl, by decide, by decide +kernel⟩
    · exact ⟨_, rfl, by decide, by decide +kernel⟩
    · exact ⟨_, rfl, by decide +kernel, by decide +kernel⟩
    · exact ⟨_, rfl, by decide +kernel, by decide +kernel⟩
  have hml : m.natAbs.log2 < 9000 := by
    have h1 := log_lt (x := m) (by have : E50 < BIG := by decide +kernel
                                   unfold ab; split <;> omega)
    omega
  walk_at "wq"
  refine sq_nx ?_
  walk_at "wq"
  refine (r_next hw1 hm0 hml).mono ?_
  rintro r h2 ⟨i, rfl, i0, i1, hf2, hw2⟩
  walk_at "wq"
  have hn2 : h2.length ≠ w := by have := hw2.lt; omega
  refine (r_one (hw2.pre (Pre.app _ _)) (get_new _ _) hn2 (by simp) (by simp)).mono ?_
  rintro r h3 ⟨hr, hf3, hw3⟩
  obtain ⟨s, rfl, hs⟩ : ∃ s : Int, r = .int s ∧ (s = 1 ∨ s = -1) := by
    simp only [List.mem_cons, List.not_mem_nil, or_false] at hr
    rcases hr with rfl | rfl
    · exact ⟨_, rfl, .inl rfl⟩
    · exact ⟨_, rfl, .inr rfl⟩
  refine lf_mulI (.inr (.inl (by rcases hs with rfl | rfl <;> decide))) ?_
  walk_at "wq"
  refine ⟨_, rfl, ?_, ((((Fw.pre (Pre.app _ _)).trans hf1).trans hf2).trans (Fw.pre (Pre.app _ _))).trans hf3, hw3⟩
  rcases hs with rfl | rfl
  · rw [Int.mul_one]; unfold ab; split <;> omega
  · unfold ab; split <;> omega
end


section
variable {NF RD : Nat}
structure Tz (z : D × (Int ⊕ D)) : Prop where
  ev : Evs z.1 z.2
  p : (parts z.1).length ≤ 1000
  c : cloD z.1 = true
  f : ∀ f, z.2 = .inr f → cloD f = true
theorem tells (hN : 3100 ≤ NF) {sg : Sg} (sl : sg.length = 8) {l : Nat} (s5 : sg[5]? = some (some (.at l))) {h : Hd} (zs : List (D × (Int ⊕ D))) (e : h[l]? = some (.lst (zs.map (·.1)))) (hz : ∀ z ∈ zs, Tz z) (hl : zs.length < 100) {Q : D → Hd → Prop}
    (q : ∀ n h', Pre h h' → h'[n]? = some (.lst (zs.map fun z => encR z.2)) → Q (.at n) h') :
    Ev (lcM (seqI (varM 5)) (nameG 7) yesM (E__law_brink_right_2 NF RD) [7] NF sg h) Q := by
  have hLN := LN_eq
  refine ev_lc ?_
  walk_at "wq"
  refine ev_var s5 ?_
  walk_at "wq"
  refine ⟨zs.map (·.1), fun as ys h' => Pre h h' ∧ ys = (zs.take as.length).map fun z => encR z.2, by simp; omega, by simp; omega, ⟨Pre.app _ _, rfl⟩, fun _ _ _ i _ => yl_obj (i.1.get e), ?_, ?_⟩
  · rintro as y bs ys h1 ex ⟨hp, rfl⟩ e1
    have hla : as.length < zs.length := by
      have := congrArg List.length ex
      simp at this
      omega
    have hy : y = zs[as.length].1 := by
      have := congrArg (fun l => l[as.length]?) ex
      simp [hla] at this
      exact this.symm
    have hzz := hz _ (List.getElem_mem hla)
    subst hy
    generalize hzg : zs[as.length] = z at *
    walk_at "wq"
    unfold E__law_brink_right_2
    walk_at "wq"
    refine ev_var (d := z.1) ?_ ?_
    · simp [wipeD, sl]
    walk_at "wq"
    refine r_told hN hzz.ev hzz.p hzz.c hzz.f fun h' hp' => ?_
    refine ⟨hp'.get e1, (hp.trans hp').set (Nat.le_refl _) _, ?_⟩
    rw [show (as ++ [z.1]).length = as.length + 1 by simp, List.take_add_one, List.map_append, List.getElem?_eq_getElem hla]
    simp [hzg]
  · rintro ys h' e1 ⟨hp, rfl⟩
    refine q _ _ hp ?_
    rw [e1]
    simp
def TOP : Int := 10 ^ 300
theorem r_top : ∃ h1, m__law_top NF RD [] [] = some (.int TOP, h1) := by
  refine fr_of ?_
  unfold m__law_top
  have hm : ∀ i j : Int, i.natAbs.log2 + j.natAbs.log2 < 1000000 → (-(2 ^ 64) < i ∧ i < 2 ^ 64) ∨ (-(2 ^ 64) < j ∧ j < 2 ^ 64) ∨ i.natAbs.log2 + j.natAbs.log2 < 1000000 := fun i j h => .inr (.inr h)
  walk_at "wq"
  refine sq_nx ?_
  walk_at "wq"
  refine lf_mulI ?_ ?_
  · exact hm _ _ (by decide +kernel)
  walk_at "wq"
  refine lf_mulI ?_ ?_
  · exact hm _ _ (by decide +kernel)
  walk_at "wq"
  refine lf_mulI ?_ ?_
  · exact hm _ _ (by decide +kernel)
  walk_at "wq"
  refine lf_mulI ?_ ?_
  · exact hm _ _ (by decide +kernel)
  walk_at "wq"
  exact congrArg D.int (by decide +kernel)
theorem tells2 (hN : 3100 ≤ NF) {sg : Sg} (sl : sg.length = 8) {l : Nat} (s6 : sg[6]? = some (some (.at l))) {h : Hd} (vs : List Int) (e : h[l]? = some (.lst (vs.map D.int))) (hl : vs.length < 100) {Q : D → Hd → Prop}
    (q : ∀ n h', Pre h h' → h'[n]? = some (.lst (vs.map fun v => encR (.inl v))) → Q (.at n) h') :
    Ev (lcM (seqI (varM 6)) (nameG 7) yesM (E__law_brink_right_1 NF RD) [7] NF sg h) Q := by
  have hLN := LN_eq
  refine ev_lc ?_
  walk_at "wq"
  refine ev_var s6 ?_
  walk_at "wq"
  refine ⟨vs.map D.int, fun as ys h' => Pre h h' ∧ ys = (vs.take as.length).map fun v => encR (.inl v), by simp; omega, by simp; omega, ⟨Pre.app _ _, rfl⟩, fun _ _ _ i _ => yl_obj (i.1.get e), ?_, ?_⟩
  · rintro as y bs ys h1 ex ⟨hp, rfl⟩ e1
    have hla : as.length < vs.length := by
      have := congrArg List.length ex
      simp at this
      omega
    have hy : y = .int vs[as.length] := by
      have := congrArg (fun l => l[as.length]?) ex
      simp [hla] at this
      exact this.symm
    subst hy
    generalize hzg : vs[as.length] = v at *
    walk_at "wq"
    unfold E__law_brink_right_1
    walk_at "wq"
    refine ev_var (d := .int v) ?_ ?_
    · simp [wipeD, sl]
    walk_at "wq"
    refine ⟨e1, hp.set (Nat.le_refl _) _, ?_⟩
    rw [show (as ++ [D.int v]).length = as.length + 1 by simp, List.take_add_one, List.map_append, List.getElem?_eq_getElem hla]
    simp [hzg, encR]
  · rintro ys h' e1 ⟨hp, rfl⟩
    refine q _ _ hp ?_
    rw [e1]
    simp
end
def pdL (vs : List Int) : PyData := .list (vs.map fun v => .tuple [.str "value", .int v])
theorem pdL_ok (vs : List Int) : (pdL vs).canLay0 = true ∧ (pdL vs).depth ≤ 64 := by
  have a : ∀ vs : List Int, PyData.canLayAll0 (vs.map fun v => .tuple [.str "value", .int v]) = true := fun vs => by
    induction vs with
    | nil => rfl
    | cons v vs ih => simp [PyData.canLay0, PyData.canLayAll0, show PyData.strOk "value" = true by decide +kernel] at ih ⊢; exact ih
  have b : ∀ vs : List Int, PyData.depthAll (vs.map fun v => .tuple [.str "value", .int v]) ≤ 3 := fun vs => by
    induction vs with
    | nil => simp [PyData.depthAll]
    | cons v vs ih => simp [PyData.depth, PyData.depthAll] at ih ⊢; omega
  refine ⟨?_, ?_⟩
  · unfold pdL PyData.canLay0
    exact a vs
  · unfold pdL PyData.depth
    have := b vs
    omega
theorem tz2 {k : Nat} {x y : Int} {r : Int ⊕ D} (hk : k < 17) (hx : ab x < BIG) (hy : ab y < BIG) (hr : out2 k x y = r) : Tz (.tup [.str (nm2 k), .int x, .int y], r) :=
  ⟨hr ▸ .bi3 k _ _ x y hk (.int x hx) (.int y hy), parts2 _ _ _, by simp [cloD, cloDs], fun f e => out2_clo f (hr.trans e)⟩
theorem tz1 {k : Nat} {x : Int} {r : Int ⊕ D} (hk : k < 6) (hx : ab x < BIG) (hr : out1 k x = r) : Tz (.tup [.str (nm1 k), .int x], r) :=
  ⟨hr ▸ .un2 k _ x hk (.int x hx), parts1 _ _, by simp [cloD, cloDs], fun f e => out1_clo f (hr.trans e)⟩
theorem out2_big {k : Nat} {x y : Int} (hf : pf2 k x y = none) (hb : ¬ ab (pv2 k x y) < BIG) : out2 k x y = .inr fBig := by
  unfold out2
  rw [hf]
  simp only [res]
  rw [if_neg hb]
def zg (s : Int) : List (D × (Int ⊕ D)) := [
  (.tup [.str (nm2 0), .int (s * (TOP - 1)), .int s], .inr fBig),
  (.tup [.str (nm2 1), .int (s * (TOP - 1)), .int (0 - s)], .inr fBig),
  (.tup [.str (nm2 2), .int (s * (TOP / 10)), .int 10], .inr fBig),
  (.tup [.str (nm2 15), .int 10, .int 300], .inr fBig),
  (.tup [.str (nm2 13), .int s, .int 997], .inr fBig),
  (.tup [.str (nm2 13), .int s, .int (TOP / 1000)], .inr fBig),
  (.tup [.str (nm2 16), .int (s * 7), .int (TOP / 10)], .inr fBig),
  (.tup [.str (nm2 2), .int (TOP - 1), .int (TOP - 1)], .inr fBig),
  (.tup [.str (nm2 15), .int 2, .int 997], .inr fBig)]
def zv (s : Int) : List (D × (Int ⊕ D)) := [
  (.tup [.str (nm2 0), .int (s * (TOP - 1)), .int 0], .inl (s * (TOP - 1))),
  (.tup [.str (nm2 2), .int (s * (TOP / 10)), .int 9], .inl (s * 9 * (TOP / 10))),
  (.tup [.str (nm2 13), .int s, .int 996], .inl (s * (1 * 2 ^ 996))),
  (.tup [.str (nm2 15), .int 2, .int 996], .inl (1 * 2 ^ 996)),
  (.tup [.str (nm1 1), .int (TOP - 1)], .inl (0 - (TOP - 1))),
  (.tup [.str (nm1 4), .int (0 - (TOP - 1))], .inl (TOP - 1 - 1))]
theorem pf_no {k : Nat} {x y : Int} (h : (decide (9 ≤ k ∧ k ≤ 12 ∧ y = 0) || decide (13 ≤ k ∧ k ≤ 14 ∧ y < 0) || decide (15 ≤ k ∧ y < 0 ∧ ¬ (x = 1 ∨ x = -1))) = false) : pf2 k x y = none := by
  simp only [Bool.or_eq_false_iff, decide_eq_false_iff_not] at h
  unfold pf2
  rw [if_neg h.1.1, if_neg h.1.2, if_neg h.2]
theorem zg_ok {s : Int} (hs : s = 1 ∨ s = -1) : ∀ z ∈ zg s, Tz z := by
  rcases hs with rfl | rfl <;>
  · simp only [zg, List.forall_mem_cons, List.not_mem_nil, false_imp_iff, implies_true, and_true]
    refine ⟨?_, ?_, ?_, ?_, ?_, ?_, ?_, ?_, ?_⟩ <;> exact tz2 (by decide) (by decide +kernel) (by decide +kernel) (out2_big (pf_no (by decide +kernel)) (by decide +kernel))
theorem zv_ok {s : Int} (hs : s = 1 ∨ s = -1) : ∀ z ∈ zv s, Tz z := by
  rcases hs with rfl | rfl <;>
  · simp only [zv, List.forall_mem_cons, List.not_mem_nil, false_imp_iff, implies_true, and_true]
    refine ⟨?_, ?_, ?_, ?_, ?_, ?_⟩
    iterate 4 exact tz2 (by decide) (by decide +kernel) (by decide +kernel) (out2_in (pf_no (by decide +kernel)) (by decide +kernel) (by decide +kernel))
    iterate 2 exact tz1 (by decide) (by decide +kernel) (out1_in rfl (by decide +kernel) (by decide +kernel))
section
variable {NF RD : Nat}
theorem r_brink (hN : 3100 ≤ NF) {w : Nat} {h : Hd} (hw : Wl w h) : Ev (m__law_brink_right NF RD [.at w] h) fun r h' => r = .bl true ∧ Fw w h h' ∧ Wl w h' := by
  have hLN := LN_eq
  unfold m__law_brink_right
  walk_at "wq"
  obtain ⟨ht, et⟩ := r_top (NF := NF) (RD := RD)
  refine ev_fr rfl et rfl fun h1 hp1 => ?_
  have hw1 := hw.pre hp1
  walk_at "wq"
  have hn2 : h1.length ≠ w := by have := hw1.lt; omega
  refine (r_one (hw1.pre (Pre.app _ _)) (get_new _ _) hn2 (by simp) (by simp)).mono ?_
  rintro r h3 ⟨hr, hf3, hw3⟩
  obtain ⟨s, rfl, hs⟩ : ∃ s : Int, r = .int s ∧ (s = 1 ∨ s = -1) := by
    simp only [List.mem_cons, List.not_mem_nil, or_false] at hr
    rcases hr with rfl | rfl
    · exact ⟨_, rfl, .inl rfl⟩
    · exact ⟨_, rfl, .inr rfl⟩
  have hf := (Fw.pre (w := w) hp1).trans ((Fw.pre (Pre.app _ _)).trans hf3)
  walk_at "wq"
  refine sq_nx ?_
  walk_at "wq"
  refine sq_nx ?_
  walk_at "wq"
  have hmul : ∀ j : Int, (-(2 ^ 64) < s ∧ s < 2 ^ 64) ∨ (-(2 ^ 64) < j ∧ j < 2 ^ 64) ∨ s.natAbs.log2 + j.natAbs.log2 < 1000000 := fun j => .inl (by omega)
  refine lf_mulI (hmul _) ?_
  walk_at "wq"
  refine lf_mulI (hmul _) ?_
  walk_at "wq"
  refine lf_mulI (hmul _) ?_
  walk_at "wq"
  refine sq_nx ?_
  walk_at "wq"
  refine lf_addL (get_new _ _ |> (Pre.app _ _).get) (get_new _ _) (by simp; omega) ?_
  walk_at "wq"
  refine sq_nx ?_
  walk_at "wq"
  refine lf_addL (get_new _ _ |> (Pre.app _ _).get) (get_new _ _) (by simp; omega) ?_
  walk_at "wq"
  refine sq_nx ?_
  have e5 := get_new (h3 ++ [O.lst [.tup [.str "+", .int (s * (TOP - 1)), .int s], .tup [.str "-", .int (s * (TOP - 1)), .int (0 - s)], .tup [.str "*", .int (s * (TOP / 10)), .int 10], .tup [.str "**", .int 10, .int 300]]] ++
    [O.lst [.tup [.str "<<", .int s, .int 997], .tup [.str "<<", .int s, .int (TOP / 1000)], .tup [.str "^", .int (s * 7), .int (TOP / 10)]]] ++
    [O.lst ([.tup [.str "+", .int (s * (TOP - 1)), .int s], .tup [.str "-", .int (s * (TOP - 1)), .int (0 - s)], .tup [.str "*", .int (s * (TOP / 10)), .int 10], .tup [.str "**", .int 10, .int 300]] ++ [.tup [.str "<<", .int s, .int 997], .tup [.str "<<", .int s, .int (TOP / 1000)], .tup [.str "^", .int (s * 7), .int (TOP / 10)]])] ++
    [O.lst [.tup [.str "*", .int (TOP - 1), .int (TOP - 1)], .tup [.str "**", .int 2, .int 997]]]) (O.lst ((zg s).map (·.1)))
  refine ev_seq (ev_ifS (ev_tor (ev_test (ev_op ?_))))
  refine tells hN rfl rfl (zg s) e5 (zg_ok hs) (by simp [zg]) fun n h4 hp4 e4 => ?_
  have e5' := hp4.get e5
  have hp34 : Pre h3 h4 := by
    refine Pre.trans ?_ hp4
    repeat refine Pre.app' ?_ _
    exact Pre.refl _
  clear hp4 e5
  generalize (List.length (h3 ++ _ ++ _ ++ _ ++ _)) = l5 at *
  walk_at "wq"
  refine lf_mulL (get_new _ _) (by simp [zg]; omega) ?_
  refine lf_neSame (.list (List.replicate 9 (.tuple [.str "error", .tuple [.str "resource_error", .str "integer"]]))) (dat_lst ((Pre.app _ _).get ((Pre.app _ _).get e4)) rfl) (dat_lst (get_new _ _) rfl) (by decide +kernel) (by decide +kernel) ?_
  walk_at "wq"
  have ev1 : Evs (.tup [.str (nm2 1), .tup [.str (nm2 0), .int (TOP - 1), .int 1], .int 5]) (.inr fBig) := by
    refine .bi1 1 _ _ fBig (.inl 5) (by decide) ?_ (.int 5 (by decide +kernel))
    exact out2_big (k := 0) (x := TOP - 1) (y := 1) (pf_no (by decide +kernel)) (by decide +kernel) ▸ .bi3 0 _ _ (TOP - 1) 1 (by decide) (.int _ (by decide +kernel)) (.int 1 (by decide +kernel))
  refine r_told hN ev1 (by simp [parts, partsT, partss]) (by simp [cloD, cloDs]) (fun f e => by cases e; rfl) fun h6 hp6 => ?_
  walk_at "wq"
  refine lf_neSame (.tuple [.str "error", .tuple [.str "resource_error", .str "integer"]]) rfl rfl (by decide +kernel) (by decide +kernel) ?_
  walk_at "wq"
  refine sq_nx ?_
  have hp36 : Pre h3 h6 := (hp34.trans ((Pre.app _ _).app' _)).trans hp6
  have hw6 := hw3.pre hp36
  have hf6 := hf.trans (Fw.pre hp36)
  clear e4 e5' hp6
  have hmul9 : ∀ j : Int, (-(2 ^ 64) < s * 9 ∧ s * 9 < 2 ^ 64) ∨ (-(2 ^ 64) < j ∧ j < 2 ^ 64) ∨ (s * 9).natAbs.log2 + j.natAbs.log2 < 1000000 := fun j => .inl (by omega)
  walk_at "wq"
  refine lf_mulI (hmul _) ?_
  walk_at "wq"
  refine lf_mulI (hmul _) ?_
  walk_at "wq"
  refine sq_nx ?_
  walk_at "wq"
  refine lf_addL (get_new _ _ |> (Pre.app _ _).get) (get_new _ _) (by simp; omega) ?_
  walk_at "wq"
  refine sq_nx ?_
  walk_at "wq"
  refine lf_mulI (hmul _) ?_
  walk_at "wq"
  refine lf_mulI (hmul9 _) ?_
  walk_at "wq"
  refine lf_shl ⟨by decide, by decide +kernel⟩ ?_
  walk_at "wq"
  refine lf_mulI (hmul _) ?_
  walk_at "wq"
  refine lf_shl ⟨by decide, by decide +kernel⟩ ?_
  walk_at "wq"
  refine sq_nx ?_
  refine ev_ret (ev_op ?_)
  refine tells hN rfl rfl (zv s) ((Pre.app _ _).get (get_new _ _)) (zv_ok hs) (by simp [zv]) fun n2 h7 hp7 e7 => ?_
  refine tells2 hN rfl rfl [s * (TOP - 1), s * 9 * (TOP / 10), s * (1 * 2 ^ 996), 1 * 2 ^ 996, 0 - (TOP - 1), TOP - 1 - 1] (hp7.get (get_new _ _)) (by simp) fun n3 h8 hp8 e8 => ?_
  have hp68 : Pre h6 h8 := by
    refine Pre.trans ?_ hp8
    refine Pre.trans ?_ hp7
    repeat refine Pre.app' ?_ _
    exact Pre.refl _
  refine lf_eqSame (pdL [s * (TOP - 1), s * 9 * (TOP / 10), s * (1 * 2 ^ 996), 1 * 2 ^ 996, 0 - (TOP - 1), TOP - 1 - 1]) (dat_lst (hp8.get e7) rfl) (dat_lst e8 rfl) (pdL_ok _).1 (pdL_ok _).2 ?_
  exact ⟨rfl, hf6.trans (Fw.pre hp68), hw6.pre hp68⟩
end


/-! ### what is no term -/
section
variable {NF RD : Nat}
def No (m : GC) (d : D) (h : Hd) : Prop := ∀ h1, Pre h h1 → m [d] h1 = some (.bl false, h1)
structure Leaf (NF RD : Nat) (d : D) (h : Hd) : Prop where
  c : No (m_is_compound NF RD) d h
  v : No (m_is_variable NF RD) d h
  n : No (m_is_any_number NF RD) d h
  a : No (m_is_any_atom NF RD) d h
theorem ev_nope {m : GC} {d : D} {h : Hd} (e : Ev (m [d] h) fun r h' => r = .bl false ∧ h' = h) : m [d] h = some (.bl false, h) := by
  obtain ⟨r, h', e, rfl, rfl⟩ := e
  exact e
theorem b_leaf {d : D} {h0 : Hd} (L : Leaf NF RD d h0) {x p : Option D} {w : Nat} {h : Hd} {ws : List D} (e : h[w]? = some (.lst (ws ++ [d]))) (hp : Pre h0 h) (hw : h0.length ≤ w) :
    Ev (B_is_term_1 NF RD [x, some (.at w), p] h) fun f h' => f = .rt (.bl false) ∧ Pre h0 h' := by
  have hp' := hp.set hw (.lst ws)
  unfold B_is_term_1
  walk_at "wq"
  refine lf_pop e ?_
  walk_at "wq"
  refine sq_nx ?_
  walk_at "wq"
  refine ev_eq (L.c _ hp') ?_
  walk_at "wq"
  refine ev_eq (L.v _ hp') ?_
  walk_at "wq"
  refine ev_eq (L.n _ hp') ?_
  walk_at "wq"
  refine ev_eq (L.a _ hp') ?_
  walk_at "wq"
  exact ⟨rfl, hp'⟩
theorem b_comp {f a : D} {as : List D} {h0 : Hd} (L : 7 < as.length ∨ No (m_is_any_atom NF RD) f h0) {x p : Option D} {w : Nat} {h : Hd} {ws : List D} (e : h[w]? = some (.lst (ws ++ [.tup (f :: a :: as)]))) (hp : Pre h0 h) (hw : h0.length ≤ w) :
    Ev (B_is_term_1 NF RD [x, some (.at w), p] h) fun f h' => f = .rt (.bl false) ∧ Pre h0 h' := by
  have hp' := hp.set hw (.lst ws)
  unfold B_is_term_1
  walk_at "wq"
  refine lf_pop e ?_
  walk_at "wq"
  refine sq_nx ?_
  walk_at "wq"
  unfold m_is_compound
  walk_at "wq"
  refine br_t (by simp; omega) ?_
  walk_at "wq"
  by_cases c : 7 < as.length
  · refine br_t (by simp [show k_MOST_ARGUMENTS = .int 8 from rfl]; omega) ?_
    walk_at "wq"
    exact ⟨rfl, hp'⟩
  · have hf := L.resolve_left c
    refine br_f (by simp; omega) ?_
    walk_at "wq"
    refine ev_eq (hf _ hp') ?_
    walk_at "wq"
    exact ⟨rfl, hp'⟩
theorem toPs_ne {r : Nat → Option PyData} {xs : List D} {ps : List PyData} (e : toPs r xs = some ps) (hx : xs ≠ []) : ps ≠ [] := by
  cases xs with
  | nil => exact absurd rfl hx
  | cons x xs =>
    unfold toPs at e
    split at e
    · split at e <;> cases e
      simp
    · cases e
theorem ne_one {h : Hd} {n m : Nat} {xs : List D} (e : h[n]? = some (.lst xs)) (e2 : h[m]? = some (.lst [])) (hx : xs ≠ []) (hl : ∀ p, datD h (.at n) = some p → p.canLay0 = true) : neD (.at n) (.at m) h = some (.bl true, h) := by
  have a2 : datD h (.at m) = some (.list []) := dat_lst e2 rfl
  cases hd : datD h (.at n) with
  | none =>
    unfold neD
    rw [hd, a2]
    have : offD h (.at n) (.at m) = true := by
      unfold offD
      simp only [e, e2]
      exact decide_eq_true (by cases xs <;> simp at hx ⊢)
    simp only [this, if_true]
  | some p =>
    have hc := hl p hd
    have : ∃ q qs, p = .list (q :: qs) := by
      unfold datD toP rP at hd
      rw [e] at hd
      simp only at hd
      split at hd
      · rename_i ps e3
        cases hd
        have := toPs_ne e3 hx
        cases ps with
        | nil => exact absurd rfl this
        | cons q qs => exact ⟨q, qs, rfl⟩
      · cases hd
    obtain ⟨q, qs, rfl⟩ := this
    unfold neD
    rw [hd, a2]
    simp only
    rw [if_pos ⟨hc, rfl, by simp [PyData.depth, PyData.depthAll]⟩]
    simp [PyData.eqv, PyData.eqvAll]
theorem c_one {i : Nat} {sg : Sg} {h : Hd} {w : Nat} {ws : List D} (e : sg[i]? = some (some (.at w))) (eh : h[w]? = some (.lst ws)) (hx : ws ≠ []) (hl : ∀ p, datD (h ++ [.lst []]) (.at w) = some p → p.canLay0 = true) :
    testM (opM neD (varM i) (lstM nilM)) sg h = some (true, h ++ [.lst []]) := by
  have h1 := ne_one ((Pre.app h [.lst []]).get eh) (get_new h (.lst [])) hx hl
  unfold testM opM varM lstM nilM
  simp only [e, List.length_nil, Nat.zero_le, if_true, h1]
theorem ev_turn {c : MT} {b : MS} {sg : Sg} {h h1 : Hd} {k : Nat} {Q : Fl → Hd → Prop} (hc : c sg h = some (true, h1)) (hb : Ev (b sg h1) (LpK Q fun sg2 h2 => Ev (whileM c b k sg2 h2) Q)) : Ev (whileM c b (k + 1) sg h) Q := by
  obtain ⟨f, h2, e, q⟩ := hb
  unfold whileM
  cases f with
  | nx sg2 => obtain ⟨f', h3, e3, q3⟩ := q; exact ⟨f', h3, by simp only [hc, e, e3], q3⟩
  | ct sg2 => obtain ⟨f', h3, e3, q3⟩ := q; exact ⟨f', h3, by simp only [hc, e, e3], q3⟩
  | bk sg2 => exact ⟨_, _, by simp only [hc, e], q⟩
  | rt d => exact ⟨_, _, by simp only [hc, e], q⟩
/-- d is at once no term -/
def Bad (NF RD : Nat) (d : D) (h0 : Hd) : Prop := ∀ (x p : Option D) (w : Nat) (h : Hd) (ws : List D), h[w]? = some (.lst (ws ++ [d])) → Pre h0 h → h0.length ≤ w → Ev (B_is_term_1 NF RD [x, some (.at w), p] h) fun f h' => f = .rt (.bl false) ∧ Pre h0 h'
theorem Leaf.bad {d : D} {h0 : Hd} (L : Leaf NF RD d h0) : Bad NF RD d h0 := fun _ _ _ _ _ e hp hw => b_leaf L e hp hw
def Lay (h0 : Hd) (ws : List D) : Prop := ∀ h w p, Pre h0 h → h[w]? = some (.lst ws) → datD h (.at w) = some p → p.canLay0 = true
theorem b_okc {x p : Option D} {w : Nat} {h : Hd} {ws : List D} {f : Str} {a : D} {as : List D} (hN : 50 ≤ NF) (e : h[w]? = some (.lst (ws ++ [.tup (.str f :: a :: as)]))) (hf : atomOk f = true) (hn : as.length < 8) (hl : ws.length + 9 ≤ LN) :
    Ev (B_is_term_1 NF RD [x, some (.at w), p] h) fun f' h' => f' = .nx [x, some (.at w), some (.tup (.str f :: a :: as))] ∧ Pre (h.set w (.lst (ws ++ a :: as))) h' := by
  have e2 := get_set (p := .lst ws) e
  unfold B_is_term_1
  walk_at "wp"
  refine lf_pop e ?_
  walk_at "wp"
  refine ev_eq (r_is_compound NF RD _ _ rfl) ?_
  refine tr_bl (br_t (isCmp_cmp _ _ _) ?_)
  walk_at "wp"
  refine br_f (by simp only [List.length_cons, decide_eq_false_iff_not]; omega) ?_
  walk_at "wp"
  refine ev_of (r_is_any_atom NF RD f _ hN (Nat.le_trans (atom_len hf) (by decide))) fun h' p => ?_
  walk_at "wp"
  refine br_f (by simp [hf]) ?_
  have e3 := p.get e2
  walk_at "wp"
  refine lf_extendT e3 ?_ ?_
  · rw [cut1]; simp only [List.length_cons]; omega
  rw [cut1]
  refine ⟨rfl, ?_⟩
  obtain ⟨g, rfl⟩ := p
  rw [List.set_append_left _ _ (by simpa using lt_of e), List.set_set]
  exact Pre.app _ _
/-- a stack that ends in what is no term -/
inductive Off (NF RD : Nat) (h0 : Hd) : Nat → List D → Prop
  | bad (k : Nat) (ws : List D) (d : D) : Bad NF RD d h0 → Lay h0 (ws ++ [d]) → Off NF RD h0 (k + 1) (ws ++ [d])
  | ok (k : Nat) (ws : List D) (d : D) : T d → Lay h0 (ws ++ [d]) → ws.length < 100 → Off NF RD h0 k (ws ++ args d) → Off NF RD h0 (k + 1) (ws ++ [d])
  | cmp (k : Nat) (ws : List D) (f : Str) (a : D) (as : List D) : atomOk f = true → as.length < 8 → Lay h0 (ws ++ [.tup (.str f :: a :: as)]) → ws.length < 100 → Off NF RD h0 k (ws ++ a :: as) → Off NF RD h0 (k + 1) (ws ++ [.tup (.str f :: a :: as)])
theorem off_turn (hN : 50 ≤ NF) {h0 : Hd} {k : Nat} {ws : List D} (o : Off NF RD h0 k ws) : ∀ {h : Hd} {w : Nat} {x : D} {p : Option D}, h[w]? = some (.lst ws) → Pre h0 h → h0.length ≤ w → Ev (whileM (C_is_term_0 NF RD) (B_is_term_1 NF RD) k [some x, some (.at w), p] h) fun f h' => f = .rt (.bl false) ∧ Pre h0 h' := by
  have hLN := LN_eq
  induction o with
  | bad k ws d hb hl =>
    intro h w x p e hp hw
    have hp2 := hp.app' [.lst []]
    have e2 := (Pre.app h [.lst []]).get e
    refine ev_turn (c_one rfl e (by simp) fun p' ep => hl _ _ p' hp2 e2 ep) ?_
    refine (hb _ _ _ _ ws e2 hp2 hw).mono ?_
    rintro _ h' ⟨rfl, hp'⟩
    exact ⟨rfl, hp'⟩
  | ok k ws d ht hl hws _ ih =>
    intro h w x p e hp hw
    have hp2 := hp.app' [.lst []]
    have e2 := (Pre.app h [.lst []]).get e
    refine ev_turn (c_one rfl e (by simp) fun p' ep => hl _ _ p' hp2 e2 ep) ?_
    refine ev_of (b_is_term NF RD hN e2 ht (by omega)) fun h' p' => ?_
    exact ih (p'.get (get_set e2)) ((hp2.set hw _).trans p') hw
  | cmp k ws f a as hf hn hl hws _ ih =>
    intro h w x p e hp hw
    have hp2 := hp.app' [.lst []]
    have e2 := (Pre.app h [.lst []]).get e
    refine ev_turn (c_one rfl e (by simp) fun p' ep => hl _ _ p' hp2 e2 ep) ?_
    refine (b_okc hN e2 hf hn (by omega)).mono ?_
    rintro _ h' ⟨rfl, p'⟩
    exact ih (p'.get (get_set e2)) ((hp2.set hw _).trans p') hw
theorem not_term {d : D} {h : Hd} (hN : 50 ≤ NF) (o : Off NF RD h NF [d]) : Ev (m_is_term NF RD [d] h) fun r h' => r = .bl false ∧ Pre h h' := by
  unfold m_is_term
  walk_at "wq"
  refine sq_nx ?_
  walk_at "wq"
  refine (off_turn hN o (get_new _ _) (Pre.app _ _) (Nat.le_refl _)).mono ?_
  rintro _ h' ⟨rfl, hp'⟩
  exact ⟨rfl, hp'⟩
end


section
variable {RD : Nat}
theorem x_reck {n : Nat} {d : D} {h h2 : Hd} (e : m_is_term (n + 1) RD [d] (h ++ [.lst [d]]) = some (.bl false, h2)) : x_reckoned (n + 1) RD [d] h = some (⟨"BadTerm", [("term", d)]⟩, h2) := by
  have hLN := LN_eq
  have e1 : (h ++ [O.lst [d]])[h.length]? = some (.lst [d]) := get_new _ _
  have l1 : (1 : Nat) ≤ LN := by omega
  have x1 : x_check_terms (n + 1) RD [.at h.length] (h ++ [.lst [d]]) = some (⟨"BadTerm", [("term", d)]⟩, h2) := by
    simp [x_check_terms, bodyX, forSX, seqI, varM, startD, forX, Src.nxt, e1, nameG, X_check_terms_1, ifX, tnotM, truM, callM, consM, nilM, e, truD, raiseX]
  simp [x_reckoned, bodyX, seqX, callX, consM, lstM, nilM, varM, startD, l1, x1]
theorem r_refused {n : Nat} {d : D} {h : Hd} {s : Str} (hN : 50 ≤ n + 1) (o : Off (n + 1) RD (h ++ [.lst [d]]) (n + 1) [d]) (er : ∀ h2, Pre h h2 → reprD [d] h2 = some (.str s, h2)) (hs : PyData.strOk s = true) : Ev (m__law_refused (n + 1) RD [d] h) fun r h' => r = .bl true ∧ Pre h h' := by
  obtain ⟨r, h2, e, rfl, hp⟩ := not_term hN o
  have hp2 : Pre h h2 := (Pre.app _ _).trans hp
  have x := x_reck e
  have e1 := er h2 hp2
  have q : eqD (.str s) (.str s) h2 = some (.bl true, h2) := by
    obtain ⟨r, h3, e, rfl, rfl⟩ : Ev (eqD (.str s) (.str s) h2) fun r h3 => r = .bl true ∧ h3 = h2 := lf_eqSame (.str s) rfl rfl (by simpa [PyData.canLay0] using hs) (by simp [PyData.depth]) ⟨rfl, rfl⟩
    exact e
  refine ⟨.bl true, h2, ?_, rfl, hp2⟩
  have hsub : subX "BadTerm" "BadTerm" = true := by decide +kernel
  have hsub2 : subX "BadTerm" "HornError" = true := by decide +kernel
  have hL : LX.contains "BadTerm" = true := by decide +kernel
  have hT : (TX.any fun p => decide (p.1 = "BadTerm") && p.2.contains "term") = true := by decide +kernel
  simp [m__law_refused, bodyM, seqM, tryM, callX, consM, nilM, varM, startD, x, hL, handsM, hsub, handM, okI, setI, DL.andM, opM, cbM, fldX, hT, e1, q, truD, isxM, hsub2]
end


section
variable {NF RD : Nat}
theorem leaf_kd {d : D} {h : Hd} {k : String} {bi : Bool} (hk : ∀ h1, Pre h h1 → kdD h1 d = some k) (t : kitB k "tuple" = some false) (i : kitB k "int" = some bi) (b : bi = true → kitB k "bool" = some true) (s : kitB k "str" = some false) : Leaf NF RD d h := by
  have hint : No (m_is_int NF RD) d h := fun h1 hp => ev_nope (by
    unfold m_is_int
    walk_at "wq"
    refine lf_isi (hk _ hp) i ?_
    cases bi with
    | false => walk_at "wq"; exact ⟨rfl, rfl⟩
    | true =>
      walk_at "wq"
      refine lf_isi (hk _ hp) (b rfl) ?_
      walk_at "wq"
      exact ⟨rfl, rfl⟩)
  refine ⟨?_, ?_, ?_, ?_⟩
  · refine fun h1 hp => ev_nope ?_
    unfold m_is_compound
    walk_at "wq"
    refine lf_isi (hk _ hp) t ?_
    walk_at "wq"
    exact ⟨rfl, rfl⟩
  · refine fun h1 hp => ev_nope ?_
    unfold m_is_variable
    walk_at "wq"
    refine lf_isi (hk _ hp) t ?_
    walk_at "wq"
    exact ⟨rfl, rfl⟩
  · refine fun h1 hp => ev_nope ?_
    unfold m_is_any_number
    walk_at "wq"
    refine ev_eq (hint _ hp) ?_
    walk_at "wq"
    exact ⟨rfl, rfl⟩
  · refine fun h1 hp => ev_nope ?_
    unfold m_is_any_atom
    walk_at "wq"
    refine lf_isi (hk _ hp) s ?_
    walk_at "wq"
    exact ⟨rfl, rfl⟩
theorem no_atom {d : D} {h : Hd} {k : String} (hk : ∀ h1, Pre h h1 → kdD h1 d = some k) (s : kitB k "str" = some false) : No (m_is_any_atom NF RD) d h := by
  refine fun h1 hp => ev_nope ?_
  unfold m_is_any_atom
  walk_at "wq"
  refine lf_isi (hk _ hp) s ?_
  walk_at "wq"
  exact ⟨rfl, rfl⟩
theorem leaf_non (h : Hd) : Leaf NF RD .non h := leaf_kd (k := "NoneType") (bi := false) (fun _ _ => rfl) (by decide +kernel) (by decide +kernel) (fun e => by cases e) (by decide +kernel)
theorem leaf_bl (b : Bool) (h : Hd) : Leaf NF RD (.bl b) h := leaf_kd (k := "bool") (bi := true) (fun _ _ => rfl) (by decide +kernel) (by decide +kernel) (fun e => by decide +kernel) (by decide +kernel)
theorem leaf_lst {n : Nat} {xs : List D} {h : Hd} (e : h[n]? = some (.lst xs)) : Leaf NF RD (.at n) h := leaf_kd (k := "list") (bi := false) (fun _ hp => by unfold kdD; simp only [hp.get e]) (by decide +kernel) (by decide +kernel) (fun e => by cases e) (by decide +kernel)
theorem leaf_dct {n : Nat} {xs : List (Key × D)} {h : Hd} (e : h[n]? = some (.dct xs)) : Leaf NF RD (.at n) h := leaf_kd (k := "dict") (bi := false) (fun _ hp => by unfold kdD; simp only [hp.get e]) (by decide +kernel) (by decide +kernel) (fun e => by cases e) (by decide +kernel)
theorem leaf_nil (h : Hd) : Leaf NF RD (.tup []) h := by
  refine ⟨fun h1 hp => r_is_compound NF RD _ _ rfl, fun h1 hp => ev_nope ?_, fun h1 hp => ?_, no_atom (k := "tuple") (fun _ _ => rfl) (by decide +kernel)⟩
  · unfold m_is_variable
    walk_at "wq"
    exact ⟨rfl, rfl⟩
  · exact ev_nope (by unfold m_is_any_number; walk_at "wq"; unfold m_is_int; walk_at "wq"; exact ⟨rfl, rfl⟩)
theorem leaf_neg (h : Hd) {i : Int} (hi : i < 0) : Leaf NF RD (.tup [.int i]) h := by
  refine ⟨fun h1 hp => r_is_compound NF RD _ _ rfl, fun h1 hp => ev_nope ?_, fun h1 hp => ?_, no_atom (k := "tuple") (fun _ _ => rfl) (by decide +kernel)⟩
  · unfold m_is_variable
    walk_at "wq"
    refine ev_eq (r_is_int NF RD _ _ rfl) ?_
    walk_at "wq"
    refine ⟨?_, rfl⟩
    simp
    omega
  · exact ev_nope (by unfold m_is_any_number; walk_at "wq"; unfold m_is_int; walk_at "wq"; exact ⟨rfl, rfl⟩)
theorem leaf_long (h : Hd) {s : Str} (hs : 40 < s.length) (hl : s.length ≤ LN) : Leaf NF RD (.str s) h := by
  refine ⟨fun h1 hp => r_is_compound NF RD _ _ rfl, fun h1 hp => ev_nope ?_, fun h1 hp => ?_, fun h1 hp => ev_nope ?_⟩
  · unfold m_is_variable
    walk_at "wq"
    exact ⟨rfl, rfl⟩
  · exact ev_nope (by unfold m_is_any_number; walk_at "wq"; unfold m_is_int; walk_at "wq"; exact ⟨rfl, rfl⟩)
  · unfold m_is_any_atom
    walk_at "wq"
    refine br_t (by simp; omega) ?_
    walk_at "wq"
    exact ⟨rfl, rfl⟩
theorem lay_clo {ws : List D} {ps : List PyData} (h0 : Hd) (e : ∀ r, toPs r ws = some ps) (c : PyData.canLayAll0 ps = true) : Lay h0 ws := by
  intro h w p hp ew ed
  rw [dat_lst ew (e _)] at ed
  cases ed
  unfold PyData.canLay0
  exact c
theorem off1 {d : D} {h0 : Hd} (k : Nat) (b : Bad NF RD d h0) (l : Lay h0 [d]) : Off NF RD h0 (k + 1) [d] := .bad k [] d b l
theorem lay_lst {n : Nat} {h0 : Hd} (e : h0[n]? = some (.lst [.int 1])) : Lay h0 [.at n] := by
  intro h w p hp ew ed
  have : toPs (rP 2 h) [.at n] = some [.list [.int 1]] := by
    unfold toPs toP rP
    simp [hp.get e, toPs, toP]
  rw [dat_lst ew this] at ed
  cases ed
  decide
theorem lay_dct {n : Nat} {h0 : Hd} (e : h0[n]? = some (.dct [])) : Lay h0 [.at n] := by
  intro h w p hp ew ed
  have : toPs (rP 2 h) [.at n] = none := by
    unfold toPs toP rP
    simp [hp.get e]
  unfold datD toP rP at ed
  rw [ew] at ed
  simp only [this] at ed
  cases ed
theorem repr_clo {d : D} {p : PyData} {h : Hd} (e : datD h d = some p) (c : p.showable = true ∧ p.hasDict = false ∧ p.depth ≤ 64 ∧ p.shown.length ≤ 10000) : reprD [d] h = some (.str p.shown, h) := by
  have hLN := LN_eq
  unfold reprD
  simp only [e]
  rw [if_pos ⟨c.1, c.2.1, c.2.2.1, by omega⟩]
end
section
variable {RD : Nat}
theorem ref_clo {n : Nat} {d : D} {h : Hd} {p : PyData} (hN : 50 ≤ n + 1) (o : Off (n + 1) RD (h ++ [.lst [d]]) (n + 1) [d]) (e : ∀ h, datD h d = some p) (c : p.showable = true ∧ p.hasDict = false ∧ p.depth ≤ 64 ∧ p.shown.length ≤ 10000) (s : PyData.strOk p.shown = true) : Ev (m__law_refused (n + 1) RD [d] h) fun r h' => r = .bl true ∧ Pre h h' :=
  r_refused hN o (fun h2 _ => repr_clo (e _) c) s
theorem r_things {n : Nat} (hN : 50 ≤ n + 3) {h : Hd} {a b : Nat} (ea : h[a]? = some (.lst [.int 1])) (eb : h[b]? = some (.dct [])) {x : D}
    (hx : x ∈ [D.non, .bl true, .at a, .at b, .tup [], .tup [.str "+", .int 1, .non], .tup [.str "+", .bl true, .int 1], .tup [.int (0 - 1)], .tup ([.str "f"] ++ (List.replicate 9 [.int 1]).flatten), .tup [.int 5, .int 1], .str (repS "a" 41)]) :
    Ev (m__law_refused (n + 3) RD [x] h) fun r h' => r = .bl true ∧ Pre h h' := by
  have hLN := LN_eq
  have hplus : atomOk "+" = true := by decide +kernel
  have ea2 : ∀ o, (h ++ [o])[a]? = some (.lst [.int 1]) := fun o => (Pre.app _ _).get ea
  have eb2 : ∀ o, (h ++ [o])[b]? = some (.dct []) := fun o => (Pre.app _ _).get eb
  simp only [List.mem_cons, List.not_mem_nil, or_false] at hx
  rcases hx with rfl | rfl | rfl | rfl | rfl | rfl | rfl | rfl | rfl | rfl | rfl
  · exact ref_clo hN (off1 _ (leaf_non _).bad (lay_clo _ (fun r => rfl) rfl)) (fun h => rfl) (by decide +kernel) (by decide +kernel)
  · exact ref_clo hN (off1 _ (leaf_bl _ _).bad (lay_clo _ (fun r => rfl) rfl)) (fun h => rfl) (by decide +kernel) (by decide +kernel)
  · refine r_refused (s := (PyData.list [.int 1]).shown) hN (off1 _ (leaf_lst (ea2 _)).bad (lay_lst (ea2 _))) (fun h2 hp => ?_) (by decide +kernel)
    exact repr_clo (dat_lst (hp.get ea) rfl) (by decide +kernel)
  · refine r_refused (s := (PyData.dict []).shown) hN (off1 _ (leaf_dct (eb2 _)).bad (lay_dct (eb2 _))) (fun h2 hp => ?_) (by decide +kernel)
    have : datD h2 (.at b) = none := by
      unfold datD toP rP
      rw [hp.get eb]
    unfold reprD
    simp only [this, hp.get eb]
  · exact ref_clo hN (off1 _ (leaf_nil _).bad (lay_clo _ (fun r => rfl) rfl)) (fun h => rfl) (by decide +kernel) (by decide +kernel)
  · refine ref_clo hN (.cmp _ [] _ _ _ hplus (by decide) (lay_clo _ (fun r => rfl) (by decide +kernel)) (by decide) ?_) (fun h => rfl) (by decide +kernel) (by decide +kernel)
    exact .bad _ [.int 1] _ (leaf_non _).bad (lay_clo _ (fun r => rfl) (by decide +kernel))
  · refine ref_clo hN (.cmp _ [] _ _ _ hplus (by decide) (lay_clo _ (fun r => rfl) (by decide +kernel)) (by decide) ?_) (fun h => rfl) (by decide +kernel) (by decide +kernel)
    refine .ok _ [.bl true] (.int 1) (.int 1 (by decide +kernel)) (lay_clo _ (fun r => rfl) (by decide +kernel)) (by decide) ?_
    exact .bad _ [] _ (leaf_bl _ _).bad (lay_clo _ (fun r => rfl) (by decide +kernel))
  · exact ref_clo hN (off1 _ (leaf_neg _ (by decide)).bad (lay_clo _ (fun r => rfl) rfl)) (fun h => rfl) (by decide +kernel) (by decide +kernel)
  · exact ref_clo hN (off1 _ (fun _ _ _ _ _ e hp hw => b_comp (.inl (by decide)) e hp hw) (lay_clo _ (fun r => rfl) (by decide +kernel))) (fun h => rfl) (by decide +kernel) (by decide +kernel)
  · exact ref_clo hN (off1 _ (fun _ _ _ _ _ e hp hw => b_comp (.inr (no_atom (k := "int") (fun _ _ => rfl) (by decide +kernel))) e hp hw) (lay_clo _ (fun r => rfl) (by decide +kernel))) (fun h => rfl) (by decide +kernel) (by decide +kernel)
  · have h41 : (repS "a" 41).length = 41 := by decide +kernel
    have lf : ∀ h, Leaf (n + 3) RD (.str (repS "a" 41)) h := fun h => leaf_long h (by omega) (by omega)
    exact ref_clo hN (off1 _ (lf _).bad (lay_clo _ (fun r => rfl) (by decide +kernel))) (fun h => rfl) (by decide +kernel) (by decide +kernel)
end


theorem e50_lix : E50 ≤ LIX := by decide +kernel
theorem e50_big : E50 < BIG := by decide +kernel
theorem lf_neE {r : Int ⊕ D} {v : Int} {h : Hd} {Q : D → Hd → Prop} (e : r = .inl v) (q : Q (.bl false) h) : Ev (neD (encR r) (.tup [.str "value", .int v]) h) Q := by
  subst e
  refine lf_neSame (.tuple [.str "value", .int v]) rfl rfl (by simp [PyData.canLay0, PyData.canLayAll0, show PyData.strOk "value" = true by decide +kernel]) (by simp [PyData.depth, PyData.depthAll]) q
theorem msb_of {x : Int} (hx : 0 < x) : ∃ k : Nat, ((Builtin.Int.intBits x : Nat) : Int) - 1 = k ∧ (1 : Int) * 2 ^ k ≤ x ∧ x < 2 * 2 ^ k := by
  have h0 := pow_le_iff x (by omega) 0
  have hb : 0 < Builtin.Int.intBits x := by
    have : decide ((1 : Int) * 2 ^ 0 ≤ x) = true := decide_eq_true (by omega)
    rw [this] at h0
    exact of_decide_eq_true h0.symm
  refine ⟨Builtin.Int.intBits x - 1, by omega, ?_, ?_⟩
  · have h1 := pow_le_iff x (by omega) (Builtin.Int.intBits x - 1)
    have : decide (Builtin.Int.intBits x - 1 < Builtin.Int.intBits x) = true := decide_eq_true (by omega)
    rw [this] at h1
    exact of_decide_eq_true h1
  · have h1 := pow_le_iff x (by omega) (Builtin.Int.intBits x)
    have : decide (Builtin.Int.intBits x < Builtin.Int.intBits x) = false := decide_eq_false (by omega)
    rw [this] at h1
    have h2 := of_decide_eq_false h1
    have e : Builtin.Int.intBits x = (Builtin.Int.intBits x - 1) + 1 := by omega
    rw [e, Int.pow_succ] at h2
    omega
theorem lf_mulT {j : Int} {xs : List D} {h : Hd} {Q : D → Hd → Prop} (c : xs ≠ [] ∧ 2 ≤ j ∧ j ≤ 1000 ∧ xs.length ≤ 1000) (q : Q (.tup (List.replicate j.toNat xs).flatten) h) : Ev (mulD (.tup xs) (.int j) h) Q := ⟨_, _, by simp only [mulD, if_pos c], q⟩
section
variable {RD : Nat}
theorem r_turn {n : Nat} (hN : 3100 ≤ n + 3) {c : Int} {p0 p2 p3 p4 p5 p6 p7 : Option D} {h : Hd} :
    Ev (B_law_1 (n + 3) RD [p0, some (.int c), p2, p3, p4, p5, p6, p7] h) fun f h' => ∃ w q2 q3 q4 q5 q6, f = .nx [p0, some (.int c), q2, q3, q4, q5, q6, p7] ∧ Fw w h h' ∧ h.length ≤ w := by
  have hLN := LN_eq
  unfold B_law_1
  walk_at "wq"
  refine (r_source c _).mono ?_
  rintro r h2 ⟨w, rfl, hw0, hp2, hw2⟩
  have f2 : Fw w h h2 := Fw.pre hp2
  walk_at "wq"
  refine sq_nx ?_
  walk_at "wq"
  refine (r_number hw2).mono ?_
  rintro r h3 ⟨x, rfl, hx, hf3, hw3⟩
  walk_at "wq"
  refine (r_number hw3).mono ?_
  rintro r h4 ⟨y, rfl, hy, hf4, hw4⟩
  walk_at "wq"
  have hn4 : h4.length ≠ w := by have := hw4.lt; omega
  refine (r_one (hw4.pre (Pre.app _ _)) (get_new _ _) hn4 (by simp) (by simp)).mono ?_
  rintro r h5 ⟨hr, hf5, hw5⟩
  have f5 := ((f2.trans hf3).trans hf4).trans ((Fw.pre (Pre.app _ _)).trans hf5)
  obtain ⟨more, rfl, hmore⟩ : ∃ m : Int, r = .int m ∧ ab m ≤ 60 := by
    simp only [List.mem_cons, List.not_mem_nil, or_false] at hr
    rcases hr with rfl | rfl | rfl | rfl <;> exact ⟨_, rfl, by decide⟩
  clear hr
  have le1 := e50_lix
  have le2 := lix_lim
  have le3 := lix_pos
  have le4 := e50_big
  walk_at "wq"
  refine sq_nx ?_
  walk_at "wq"
  obtain ⟨ha, ea⟩ := r_divisions (NF := n + 3) (RD := RD) hN x y (by omega) (by omega)
  refine ev_fr rfl ea rfl fun h6 hp6 => ?_
  walk_at "wq"
  obtain ⟨hb, eb⟩ := r_bits (NF := n + 3) (RD := RD) hN x y (by omega) (by omega)
  refine ev_fr rfl eb rfl fun h7 hp7 => ?_
  walk_at "wq"
  obtain ⟨hc, ec⟩ := r_gcd (NF := n + 3) (RD := RD) hN x y more (by omega) (by omega) hmore
  refine ev_fr rfl ec rfl fun h8 hp8 => ?_
  have hp58 := (hp6.trans hp7).trans hp8
  have hw8 := hw5.pre hp58
  have f8 := f5.trans (Fw.pre hp58)
  walk_at "wq"
  refine sq_nx ?_
  walk_at "wq"
  refine (r_next hw8 (by decide) (by decide +kernel)).mono ?_
  rintro r h9 ⟨i, rfl, i0, i1, hf9, hw9⟩
  walk_at "wq"
  refine (r_next hw9 (by decide) (by decide +kernel)).mono ?_
  rintro r h10 ⟨j, rfl, j0, j1, hf10, hw10⟩
  walk_at "wq"
  obtain ⟨many, rfl⟩ : ∃ m : Nat, i = m := ⟨i.toNat, by omega⟩
  obtain ⟨mor, rfl⟩ : ∃ m : Nat, j = m := ⟨j.toNat, by omega⟩
  obtain ⟨hd, ed⟩ := r_shifts (NF := n + 3) (RD := RD) hN x many mor (by omega) (by omega) (by omega)
  refine ev_fr rfl ed rfl fun h11 hp11 => ?_
  walk_at "wq"
  refine (r_brink hN (hw10.pre hp11)).mono ?_
  rintro r h12 ⟨rfl, hf12, hw12⟩
  have f12 := (((f8.trans hf9).trans hf10).trans (Fw.pre hp11)).trans hf12
  walk_at "wq"
  refine sq_nx ?_
  have bx : ab x < BIG := by omega
  walk_at "wq"
  have o3 : out1 3 x = .inl ((if decide (0 < x) = true then 1 else 0) - (if decide (x < 0) = true then 1 else 0)) := out1_in rfl rfl (by (repeat' split) <;> decide +kernel)
  have o2 : out1 2 x = .inl (ab x) := out1_in rfl rfl (by have := ab_nn x; unfold ab at *; (repeat' split) <;> omega)
  refine r_told hN (.un2 3 _ x (by decide) (.int x bx)) (parts1 _ _) (by simp [cloD, cloDs]) (fun f => out1_clo f) fun h13 hp13 => ?_
  walk_at "wq"
  refine lf_neE o3 ?_
  walk_at "wq"
  refine r_told hN (.un2 2 _ x (by decide) (.int x bx)) (parts1 _ _) (by simp [cloD, cloDs]) (fun f => out1_clo f) fun h14 hp14 => ?_
  walk_at "wq"
  refine lf_neE o2 ?_
  walk_at "wq"
  refine sq_nx ?_
  walk_at "wq"
  refine r_told hN (.un2 5 _ x (by decide) (.int x bx)) (parts1 _ _) (by simp [cloD, cloDs]) (fun f => out1_clo f) fun h15 hp15 => ?_
  have f15 := ((f12.trans (Fw.pre hp13)).trans (Fw.pre hp14)).trans (Fw.pre hp15)
  by_cases cx : 0 < x
  · obtain ⟨k, ek, k1, k2⟩ := msb_of cx
    have o5 : out1 5 x = .inl (k : Int) := by
      have hk := bits_lt bx
      refine out1_in (k := 5) ?_ ek ?_
      · show (if x < 1 then _ else none) = none
        rw [if_neg (by omega)]
      · have : (1000 : Int) < BIG := by decide +kernel
        unfold ab
        split <;> omega
    have hk := bits_lt bx
    rw [o5]
    simp only [encR]
    walk_at "wq"
    refine sq_nx ?_
    walk_at "wq"
    refine br_t (decide_eq_true cx) ?_
    have ib1 : (Builtin.Int.intBits 1 : Int) + (k : Int) ≤ 2 ^ 27 := by
      have : Builtin.Int.intBits 1 = 1 := by decide +kernel
      rw [this]; omega
    have ib2 : (Builtin.Int.intBits 2 : Int) + (k : Int) ≤ 2 ^ 27 := by
      have : Builtin.Int.intBits 2 = 2 := by decide +kernel
      rw [this]; omega
    walk_at "wq"
    refine lf_shl ⟨by omega, ib1⟩ ?_
    walk_at "wq"
    refine br_t (decide_eq_true k1) ?_
    walk_at "wq"
    refine lf_shl ⟨by omega, ib2⟩ ?_
    walk_at "wq"
    refine br_f (by simp [k2]) ?_
    walk_at "wq"
    exact ⟨w, _, _, _, _, _, rfl, f15, hw0⟩
  · have o5 : out1 5 x = .inr (.tup [.str "type_error", .str "not_less_than_one", .int x]) := by
      unfold out1 pf1
      simp only
      rw [if_pos (by omega)]
    rw [o5]
    simp only [encR]
    walk_at "wq"
    refine sq_nx ?_
    walk_at "wq"
    refine br_f (decide_eq_false cx) ?_
    walk_at "wq"
    exact ⟨w, _, _, _, _, _, rfl, f15, hw0⟩
theorem lf_addR {xs ys : List D} {m : Nat} {h : Hd} {Q : D → Hd → Prop} (e2 : h[m]? = some (.lst ys)) (l : xs.length + ys.length ≤ LN) (q : Q (.at h.length) (h ++ [.lst (xs ++ ys)])) : Ev (addD (.rol xs) (.at m) h) Q := ⟨_, _, by simp only [addD, e2, if_pos l], q⟩
theorem cut5 (xs : List D) : (cutD xs none (some 5)).length ≤ 5 ∧ ∀ x ∈ cutD xs none (some 5), x ∈ xs := by
  unfold cutD
  rw [HT.sIx_none]
  refine ⟨?_, fun x h => by simpa using List.mem_of_mem_take h⟩
  rw [List.length_take]
  have : HT.sIx xs.length xs.length (some 5) ≤ 5 := by
    unfold HT.sIx
    simp
    omega
  simp
  omega

theorem law_true_n (ns : List Int) (hl : ns.length ≤ 63) (n : Nat) (hN : 3100 ≤ n + 3) : ∃ h', m_law (n + 3) RD [.rol (ns.map D.int)] [] = some (.bl true, h') := by
  have main : Ev (m_law (n + 3) RD [.rol (ns.map D.int)] []) fun r h' => r = .bl true := by
    have hLN := LN_eq
    unfold m_law
    walk_at "wq"
    refine lf_addR (get_new _ _) (by simp; omega) ?_
    walk_at "wq"
    refine lf_slL (get_new _ _) ?_
    walk_at "wq"
    have el := get_new ([] ++ [O.lst [D.int 0]] ++ [O.lst (List.map D.int ns ++ [D.int 0])]) (O.lst (cutD (List.map D.int ns ++ [D.int 0]) none (some 5)))
    generalize ([] ++ [O.lst [D.int 0]] ++ [O.lst (List.map D.int ns ++ [D.int 0])]).length = l at el
    generalize ([] ++ [O.lst [D.int 0]] ++ [O.lst (List.map D.int ns ++ [D.int 0])] ++ [O.lst (cutD (List.map D.int ns ++ [D.int 0]) none (some 5))]) = h0 at el
    obtain ⟨hc5, hcm⟩ := cut5 (List.map D.int ns ++ [D.int 0])
    generalize cutD (List.map D.int ns ++ [D.int 0]) none (some 5) = xs at el hc5 hcm
    refine ev_for (xs := xs) (fun as sg h1 => h1[l]? = some (.lst xs) ∧ ∃ p1 p2 p3 p4 p5 p6 p7, sg = [some (.rol (ns.map D.int)), p1, p2, p3, p4, p5, p6, p7]) ⟨el, _, _, _, _, _, _, _, rfl⟩ (by omega) (fun _ _ _ i => yl_obj i.1) ?_ ?_
    · rintro as x bs sg h1 ex ⟨e1, p1, p2, p3, p4, p5, p6, p7, rfl⟩
      obtain ⟨c, rfl⟩ : ∃ c, x = D.int c := by
        have := hcm x (by rw [ex]; simp)
        simp only [List.mem_append, List.mem_map, List.mem_singleton] at this
        rcases this with ⟨c, _, rfl⟩ | rfl
        · exact ⟨c, rfl⟩
        · exact ⟨0, rfl⟩
      walk_at "wq"
      refine (r_turn hN).mono ?_
      rintro _ h2 ⟨w, q2, q3, q4, q5, q6, rfl, hf, hw⟩
      have := lt_of e1
      exact ⟨hf.get e1 (by omega), _, _, _, _, _, _, _, rfl⟩
    · rintro sg h1 ⟨_, p1, p2, p3, p4, p5, p6, p7, rfl⟩
      refine sq_nx ?_
      walk_at "wq"
      refine lf_mulT ⟨by simp, by decide, by decide, by simp⟩ ?_
      walk_at "wq"
      refine lf_addT (by simp; omega) ?_
      walk_at "wq"
      have h41 : Str.length "a" * (41 : Int).toNat = 41 := by decide +kernel
      refine lf_mulS (j := 41) (s := "a") ⟨by decide, by decide, by omega⟩ ?_
      walk_at "wq"
      have ea : (h1 ++ [O.lst [D.int 1]] ++ [O.dct []])[h1.length]? = some (.lst [.int 1]) := (Pre.app _ _).get (get_new _ _)
      have eb : (h1 ++ [O.lst [D.int 1]] ++ [O.dct []])[(h1 ++ [O.lst [D.int 1]]).length]? = some (.dct []) := get_new _ _
      generalize (h1 ++ [O.lst [D.int 1]]).length = b at *
      generalize (h1 ++ [O.lst [D.int 1]] ++ [O.dct []]) = h2 at *
      generalize h1.length = a at *
      refine ev_for (xs := [D.non, .bl true, .at a, .at b, .tup [], .tup [.str "+", .int 1, .non], .tup [.str "+", .bl true, .int 1], .tup [.int (0 - 1)], .tup ([.str "f"] ++ (List.replicate 9 [.int 1]).flatten), .tup [.int 5, .int 1], .str (repS "a" 41)])
        (fun as sg h1 => h1[a]? = some (.lst [.int 1]) ∧ h1[b]? = some (.dct []) ∧ ∃ p1 p2 p3 p4 p5 p6 p7, sg = [some (.rol (ns.map D.int)), p1, p2, p3, p4, p5, p6, p7]) ⟨ea, eb, _, _, _, _, _, _, _, rfl⟩ (by simp; omega) (fun _ _ _ i => yl_fix) ?_ ?_
      · rintro as x bs sg h1 ex ⟨e1, e2, p1, p2, p3, p4, p5, p6, p7, rfl⟩
        have hx := List.mem_append_right as (List.mem_cons_self (a := x) (l := bs))
        rw [← ex] at hx
        walk_at "wq"
        unfold B_law_0
        walk_at "wq"
        refine (r_things (by omega) e1 e2 hx).mono ?_
        rintro _ h3 ⟨rfl, hp⟩
        walk_at "wq"
        exact ⟨hp.get e1, hp.get e2, _, _, _, _, _, _, _, rfl⟩
      · rintro sg h1 ⟨_, _, p1, p2, p3, p4, p5, p6, p7, rfl⟩
        refine sq_nx ?_
        walk_at "wq"
        rfl
  obtain ⟨r, h', e, rfl⟩ := main
  exact ⟨h', e⟩
end
theorem law_true (ns : List Int) (hl : ns.length ≤ 63) : ∃ h', m_law 100000 10 [.rol (ns.map D.int)] [] = some (.bl true, h') := law_true_n (RD := 10) ns hl 99997 (by decide)

end K42
namespace K42
open PySem L2 DL
section
theorem all_mk {l : PySem.W.OpenLaw} {w : World} {K : PySem.W.Frag} {h : Heap} {mg : Str → Option Value} {fa : Addr} (X : K.In h) (G : h.Ns mainGlobals mg) (hfa : mg "law" = some (.ref fa))
    {f0 f1 f2 f3 f4 f5 f6 f7 f8 f9 f10 f11 f12 f13 f14 f15 f16 f17 f18 f19 f20 f21 f22 f23 f24 f25 f26 f27 f28 f29 : Addr}
    {od0 an0 od1 an1 od2 an2 od3 an3 od4 an4 od5 an5 od6 an6 od7 an7 od8 an8 od9 an9 od10 an10 od11 an11 od12 an12 od13 an13 od14 an14 od15 an15 od16 an16 od17 an17 od18 an18 od19 an19 od20 an20 od21 an21 od22 an22 od23 an23 od24 an24 od25 an25 od26 an26 od27 an27 od28 an28 od29 an29 : Option Addr} {sl0 sl1 sl2 sl3 sl4 sl5 sl6 sl7 sl8 sl9 sl10 sl11 sl12 sl13 sl14 sl15 sl16 sl17 sl18 sl19 sl20 sl21 sl22 sl23 sl24 sl25 sl26 sl27 sl28 sl29 : Array (Option Value)} {oc0 kV0 dc0 pm0 cd0 ct0 oc1 kV1 dc1 pm1 cd1 ct1 oc2 kV2 dc2 pm2 cd2 ct2 oc3 kV3 dc3 pm3 cd3 ct3 oc4 kV4 dc4 pm4 cd4 ct4 oc5 kV5 dc5 pm5 cd5 ct5 oc6 kV6 dc6 pm6 cd6 ct6 oc7 kV7 dc7 pm7 cd7 ct7 oc8 kV8 dc8 pm8 cd8 ct8 oc9 kV9 dc9 pm9 cd9 ct9 oc10 kV10 dc10 pm10 cd10 ct10 oc11 kV11 dc11 pm11 cd11 ct11 oc12 kV12 dc12 pm12 cd12 ct12 oc13 kV13 dc13 pm13 cd13 ct13 oc14 kV14 dc14 pm14 cd14 ct14 oc15 kV15 dc15 pm15 cd15 ct15 oc16 kV16 dc16 pm16 cd16 ct16 oc17 kV17 dc17 pm17 cd17 ct17 oc18 kV18 dc18 pm18 cd18 ct18 oc19 kV19 dc19 pm19 cd19 ct19 oc20 kV20 dc20 pm20 cd20 ct20 oc21 kV21 dc21 pm21 cd21 ct21 oc22 kV22 dc22 pm22 cd22 ct22 oc23 kV23 dc23 pm23 cd23 ct23 oc24 kV24 dc24 pm24 cd24 ct24 oc25 kV25 dc25 pm25 cd25 ct25 oc26 kV26 dc26 pm26 cd26 ct26 oc27 kV27 dc27 pm27 cd27 ct27 oc28 kV28 dc28 pm28 cd28 ct28 oc29 kV29 dc29 pm29 cd29 ct29 : Value}
    (a0 : PySem.W.nsIn K mainGlobals "is_int" = some (some (.ref f0))) (l0 : K.lookup f0 = some ⟨oc0, od0, .func (PySem.W.fnOf "is_int" "is_int" (defArgs s_is_int) (defBody s_is_int) (defScope s_is_int) .none kV0 dc0 pm0 an0 cd0 ct0), sl0⟩) (c0 : PySem.W.codeIn K cd0 "is_int" = true) (k0 : PySem.W.keepIn K (.ref f0) = true)
    (a1 : PySem.W.nsIn K mainGlobals "is_variable" = some (some (.ref f1))) (l1 : K.lookup f1 = some ⟨oc1, od1, .func (PySem.W.fnOf "is_variable" "is_variable" (defArgs s_is_variable) (defBody s_is_variable) (defScope s_is_variable) .none kV1 dc1 pm1 an1 cd1 ct1), sl1⟩) (c1 : PySem.W.codeIn K cd1 "is_variable" = true) (k1 : PySem.W.keepIn K (.ref f1) = true)
    (a2 : PySem.W.nsIn K mainGlobals "is_any_number" = some (some (.ref f2))) (l2 : K.lookup f2 = some ⟨oc2, od2, .func (PySem.W.fnOf "is_any_number" "is_any_number" (defArgs s_is_any_number) (defBody s_is_any_number) (defScope s_is_any_number) .none kV2 dc2 pm2 an2 cd2 ct2), sl2⟩) (c2 : PySem.W.codeIn K cd2 "is_any_number" = true) (k2 : PySem.W.keepIn K (.ref f2) = true)
    (a3 : PySem.W.nsIn K mainGlobals "is_any_atom" = some (some (.ref f3))) (l3 : K.lookup f3 = some ⟨oc3, od3, .func (PySem.W.fnOf "is_any_atom" "is_any_atom" (defArgs s_is_any_atom) (defBody s_is_any_atom) (defScope s_is_any_atom) .none kV3 dc3 pm3 an3 cd3 ct3), sl3⟩) (c3 : PySem.W.codeIn K cd3 "is_any_atom" = true) (k3 : PySem.W.keepIn K (.ref f3) = true)
    (a4 : PySem.W.nsIn K mainGlobals "is_compound" = some (some (.ref f4))) (l4 : K.lookup f4 = some ⟨oc4, od4, .func (PySem.W.fnOf "is_compound" "is_compound" (defArgs s_is_compound) (defBody s_is_compound) (defScope s_is_compound) .none kV4 dc4 pm4 an4 cd4 ct4), sl4⟩) (c4 : PySem.W.codeIn K cd4 "is_compound" = true) (k4 : PySem.W.keepIn K (.ref f4) = true)
    (a5 : PySem.W.nsIn K mainGlobals "is_term" = some (some (.ref f5))) (l5 : K.lookup f5 = some ⟨oc5, od5, .func (PySem.W.fnOf "is_term" "is_term" (defArgs s_is_term) (defBody s_is_term) (defScope s_is_term) .none kV5 dc5 pm5 an5 cd5 ct5), sl5⟩) (c5 : PySem.W.codeIn K cd5 "is_term" = true) (k5 : PySem.W.keepIn K (.ref f5) = true)
    (a6 : PySem.W.nsIn K mainGlobals "check_terms" = some (some (.ref f6))) (l6 : K.lookup f6 = some ⟨oc6, od6, .func (PySem.W.fnOf "check_terms" "check_terms" (defArgs s_check_terms) (defBody s_check_terms) (defScope s_check_terms) .none kV6 dc6 pm6 an6 cd6 ct6), sl6⟩) (c6 : PySem.W.codeIn K cd6 "check_terms" = true) (k6 : PySem.W.keepIn K (.ref f6) = true)
    (a7 : PySem.W.nsIn K mainGlobals "with_one" = some (some (.ref f7))) (l7 : K.lookup f7 = some ⟨oc7, od7, .func (PySem.W.fnOf "with_one" "with_one" (defArgs s_with_one) (defBody s_with_one) (defScope s_with_one) .none kV7 dc7 pm7 an7 cd7 ct7), sl7⟩) (c7 : PySem.W.codeIn K cd7 "with_one" = true) (k7 : PySem.W.keepIn K (.ref f7) = true)
    (a8 : PySem.W.nsIn K mainGlobals "divisor" = some (some (.ref f8))) (l8 : K.lookup f8 = some ⟨oc8, od8, .func (PySem.W.fnOf "divisor" "divisor" (defArgs s_divisor) (defBody s_divisor) (defScope s_divisor) .none kV8 dc8 pm8 an8 cd8 ct8), sl8⟩) (c8 : PySem.W.codeIn K cd8 "divisor" = true) (k8 : PySem.W.keepIn K (.ref f8) = true)
    (a9 : PySem.W.nsIn K mainGlobals "divided" = some (some (.ref f9))) (l9 : K.lookup f9 = some ⟨oc9, od9, .func (PySem.W.fnOf "divided" "divided" (defArgs s_divided) (defBody s_divided) (defScope s_divided) .none kV9 dc9 pm9 an9 cd9 ct9), sl9⟩) (c9 : PySem.W.codeIn K cd9 "divided" = true) (k9 : PySem.W.keepIn K (.ref f9) = true)
    (a10 : PySem.W.nsIn K mainGlobals "power" = some (some (.ref f10))) (l10 : K.lookup f10 = some ⟨oc10, od10, .func (PySem.W.fnOf "power" "power" (defArgs s_power) (defBody s_power) (defScope s_power) .none kV10 dc10 pm10 an10 cd10 ct10), sl10⟩) (c10 : PySem.W.codeIn K cd10 "power" = true) (k10 : PySem.W.keepIn K (.ref f10) = true)
    (a11 : PySem.W.nsIn K mainGlobals "with_two" = some (some (.ref f11))) (l11 : K.lookup f11 = some ⟨oc11, od11, .func (PySem.W.fnOf "with_two" "with_two" (defArgs s_with_two) (defBody s_with_two) (defScope s_with_two) .none kV11 dc11 pm11 an11 cd11 ct11), sl11⟩) (c11 : PySem.W.codeIn K cd11 "with_two" = true) (k11 : PySem.W.keepIn K (.ref f11) = true)
    (a12 : PySem.W.nsIn K mainGlobals "fault_of" = some (some (.ref f12))) (l12 : K.lookup f12 = some ⟨oc12, od12, .func (PySem.W.fnOf "fault_of" "fault_of" (defArgs s_fault_of) (defBody s_fault_of) (defScope s_fault_of) .none kV12 dc12 pm12 an12 cd12 ct12), sl12⟩) (c12 : PySem.W.codeIn K cd12 "fault_of" = true) (k12 : PySem.W.keepIn K (.ref f12) = true)
    (a13 : PySem.W.nsIn K mainGlobals "is_known" = some (some (.ref f13))) (l13 : K.lookup f13 = some ⟨oc13, od13, .func (PySem.W.fnOf "is_known" "is_known" (defArgs s_is_known) (defBody s_is_known) (defScope s_is_known) .none kV13 dc13 pm13 an13 cd13 ct13), sl13⟩) (c13 : PySem.W.codeIn K cd13 "is_known" = true) (k13 : PySem.W.keepIn K (.ref f13) = true)
    (a14 : PySem.W.nsIn K mainGlobals "first_fault" = some (some (.ref f14))) (l14 : K.lookup f14 = some ⟨oc14, od14, .func (PySem.W.fnOf "first_fault" "first_fault" (defArgs s_first_fault) (defBody s_first_fault) (defScope s_first_fault) .none kV14 dc14 pm14 an14 cd14 ct14), sl14⟩) (c14 : PySem.W.codeIn K cd14 "first_fault" = true) (k14 : PySem.W.keepIn K (.ref f14) = true)
    (a15 : PySem.W.nsIn K mainGlobals "value_of" = some (some (.ref f15))) (l15 : K.lookup f15 = some ⟨oc15, od15, .func (PySem.W.fnOf "value_of" "value_of" (defArgs s_value_of) (defBody s_value_of) (defScope s_value_of) .none kV15 dc15 pm15 an15 cd15 ct15), sl15⟩) (c15 : PySem.W.codeIn K cd15 "value_of" = true) (k15 : PySem.W.keepIn K (.ref f15) = true)
    (a16 : PySem.W.nsIn K mainGlobals "reckoned" = some (some (.ref f16))) (l16 : K.lookup f16 = some ⟨oc16, od16, .func (PySem.W.fnOf "reckoned" "reckoned" (defArgs s_reckoned) (defBody s_reckoned) (defScope s_reckoned) .none kV16 dc16 pm16 an16 cd16 ct16), sl16⟩) (c16 : PySem.W.codeIn K cd16 "reckoned" = true) (k16 : PySem.W.keepIn K (.ref f16) = true)
    (a17 : PySem.W.nsIn K mainGlobals "_law_source_of" = some (some (.ref f17))) (l17 : K.lookup f17 = some ⟨oc17, od17, .func (PySem.W.fnOf "_law_source_of" "_law_source_of" (defArgs s__law_source_of) (defBody s__law_source_of) (defScope s__law_source_of) .none kV17 dc17 pm17 an17 cd17 ct17), sl17⟩) (c17 : PySem.W.codeIn K cd17 "_law_source_of" = true) (k17 : PySem.W.keepIn K (.ref f17) = true)
    (a18 : PySem.W.nsIn K mainGlobals "_law_next" = some (some (.ref f18))) (l18 : K.lookup f18 = some ⟨oc18, od18, .func (PySem.W.fnOf "_law_next" "_law_next" (defArgs s__law_next) (defBody s__law_next) (defScope s__law_next) .none kV18 dc18 pm18 an18 cd18 ct18), sl18⟩) (c18 : PySem.W.codeIn K cd18 "_law_next" = true) (k18 : PySem.W.keepIn K (.ref f18) = true)
    (a19 : PySem.W.nsIn K mainGlobals "_law_one" = some (some (.ref f19))) (l19 : K.lookup f19 = some ⟨oc19, od19, .func (PySem.W.fnOf "_law_one" "_law_one" (defArgs s__law_one) (defBody s__law_one) (defScope s__law_one) .none kV19 dc19 pm19 an19 cd19 ct19), sl19⟩) (c19 : PySem.W.codeIn K cd19 "_law_one" = true) (k19 : PySem.W.keepIn K (.ref f19) = true)
    (a20 : PySem.W.nsIn K mainGlobals "_law_top" = some (some (.ref f20))) (l20 : K.lookup f20 = some ⟨oc20, od20, .func (PySem.W.fnOf "_law_top" "_law_top" (defArgs s__law_top) (defBody s__law_top) (defScope s__law_top) .none kV20 dc20 pm20 an20 cd20 ct20), sl20⟩) (c20 : PySem.W.codeIn K cd20 "_law_top" = true) (k20 : PySem.W.keepIn K (.ref f20) = true)
    (a21 : PySem.W.nsIn K mainGlobals "_law_of" = some (some (.ref f21))) (l21 : K.lookup f21 = some ⟨oc21, od21, .func (PySem.W.fnOf "_law_of" "_law_of" (defArgs s__law_of) (defBody s__law_of) (defScope s__law_of) .none kV21 dc21 pm21 an21 cd21 ct21), sl21⟩) (c21 : PySem.W.codeIn K cd21 "_law_of" = true) (k21 : PySem.W.keepIn K (.ref f21) = true)
    (a22 : PySem.W.nsIn K mainGlobals "_law_number" = some (some (.ref f22))) (l22 : K.lookup f22 = some ⟨oc22, od22, .func (PySem.W.fnOf "_law_number" "_law_number" (defArgs s__law_number) (defBody s__law_number) (defScope s__law_number) .none kV22 dc22 pm22 an22 cd22 ct22), sl22⟩) (c22 : PySem.W.codeIn K cd22 "_law_number" = true) (k22 : PySem.W.keepIn K (.ref f22) = true)
    (a23 : PySem.W.nsIn K mainGlobals "_law_divisions_right" = some (some (.ref f23))) (l23 : K.lookup f23 = some ⟨oc23, od23, .func (PySem.W.fnOf "_law_divisions_right" "_law_divisions_right" (defArgs s__law_divisions_right) (defBody s__law_divisions_right) (defScope s__law_divisions_right) .none kV23 dc23 pm23 an23 cd23 ct23), sl23⟩) (c23 : PySem.W.codeIn K cd23 "_law_divisions_right" = true) (k23 : PySem.W.keepIn K (.ref f23) = true)
    (a24 : PySem.W.nsIn K mainGlobals "_law_bits_right" = some (some (.ref f24))) (l24 : K.lookup f24 = some ⟨oc24, od24, .func (PySem.W.fnOf "_law_bits_right" "_law_bits_right" (defArgs s__law_bits_right) (defBody s__law_bits_right) (defScope s__law_bits_right) .none kV24 dc24 pm24 an24 cd24 ct24), sl24⟩) (c24 : PySem.W.codeIn K cd24 "_law_bits_right" = true) (k24 : PySem.W.keepIn K (.ref f24) = true)
    (a25 : PySem.W.nsIn K mainGlobals "_law_gcd_right" = some (some (.ref f25))) (l25 : K.lookup f25 = some ⟨oc25, od25, .func (PySem.W.fnOf "_law_gcd_right" "_law_gcd_right" (defArgs s__law_gcd_right) (defBody s__law_gcd_right) (defScope s__law_gcd_right) .none kV25 dc25 pm25 an25 cd25 ct25), sl25⟩) (c25 : PySem.W.codeIn K cd25 "_law_gcd_right" = true) (k25 : PySem.W.keepIn K (.ref f25) = true)
    (a26 : PySem.W.nsIn K mainGlobals "_law_shifts_right" = some (some (.ref f26))) (l26 : K.lookup f26 = some ⟨oc26, od26, .func (PySem.W.fnOf "_law_shifts_right" "_law_shifts_right" (defArgs s__law_shifts_right) (defBody s__law_shifts_right) (defScope s__law_shifts_right) .none kV26 dc26 pm26 an26 cd26 ct26), sl26⟩) (c26 : PySem.W.codeIn K cd26 "_law_shifts_right" = true) (k26 : PySem.W.keepIn K (.ref f26) = true)
    (a27 : PySem.W.nsIn K mainGlobals "_law_brink_right" = some (some (.ref f27))) (l27 : K.lookup f27 = some ⟨oc27, od27, .func (PySem.W.fnOf "_law_brink_right" "_law_brink_right" (defArgs s__law_brink_right) (defBody s__law_brink_right) (defScope s__law_brink_right) .none kV27 dc27 pm27 an27 cd27 ct27), sl27⟩) (c27 : PySem.W.codeIn K cd27 "_law_brink_right" = true) (k27 : PySem.W.keepIn K (.ref f27) = true)
    (a28 : PySem.W.nsIn K mainGlobals "_law_refused" = some (some (.ref f28))) (l28 : K.lookup f28 = some ⟨oc28, od28, .func (PySem.W.fnOf "_law_refused" "_law_refused" (defArgs s__law_refused) (defBody s__law_refused) (defScope s__law_refused) .none kV28 dc28 pm28 an28 cd28 ct28), sl28⟩) (c28 : PySem.W.codeIn K cd28 "_law_refused" = true) (k28 : PySem.W.keepIn K (.ref f28) = true)
    (a29 : PySem.W.nsIn K mainGlobals "law" = some (some (.ref f29))) (l29 : K.lookup f29 = some ⟨oc29, od29, .func (PySem.W.fnOf "law" "law" (defArgs s_law) (defBody s_law) (defScope s_law) .none kV29 dc29 pm29 an29 cd29 ct29), sl29⟩) (c29 : PySem.W.codeIn K cd29 "law" = true) (k29 : PySem.W.keepIn K (.ref f29) = true)
    (z0 : PySem.W.nsIn K mainGlobals "abs" = some none)
    (z1 : PySem.W.nsIn K mainGlobals "all" = some none)
    (z2 : PySem.W.nsIn K mainGlobals "bool" = some none)
    (z3 : PySem.W.nsIn K mainGlobals "int" = some none)
    (z4 : PySem.W.nsIn K mainGlobals "isinstance" = some none)
    (z5 : PySem.W.nsIn K mainGlobals "len" = some none)
    (z6 : PySem.W.nsIn K mainGlobals "max" = some none)
    (z7 : PySem.W.nsIn K mainGlobals "min" = some none)
    (z8 : PySem.W.nsIn K mainGlobals "ord" = some none)
    (z9 : PySem.W.nsIn K mainGlobals "range" = some none)
    (z10 : PySem.W.nsIn K mainGlobals "repr" = some none)
    (z11 : PySem.W.nsIn K mainGlobals "reversed" = some none)
    (z12 : PySem.W.nsIn K mainGlobals "str" = some none)
    (z13 : PySem.W.nsIn K mainGlobals "tuple" = some none)
    {u0 : Tok} (y0 : PySem.W.nsIn K mainGlobals "FAR_SHIFT" = some (some (.int 2000 u0)))
    {u1 : Tok} (y1 : PySem.W.nsIn K mainGlobals "MOST_ARGUMENTS" = some (some (.int 8 u1)))
    {u2 : Tok} (y2 : PySem.W.nsIn K mainGlobals "MOST_SHIFT" = some (some (.int 1000 u2)))
    {u3 : Tok} (y3 : PySem.W.nsIn K mainGlobals "MOST_SIGNS" = some (some (.int 40 u3)))
    {ua4 : Addr} {uo4 : Option Addr} {un4 : Nat} {us4 : Array (Option Value)} {uk4_0 uk4_1 uk4_2 uk4_3 uk4_4 uk4_5 : Tok} (y4 : PySem.W.nsIn K mainGlobals "ONE" = some (some (.ref ua4))) (v4 : K.lookup ua4 = some ⟨.type "tuple", uo4, .seq #[.str "+" uk4_0, .str "-" uk4_1, .str "abs" uk4_2, .str "sign" uk4_3, .str "\\" uk4_4, .str "msb" uk4_5] un4, us4⟩)
    {u5 : Tok} (y5 : PySem.W.nsIn K mainGlobals "TOO_GREAT" = some (some (.int 1000000000000000000000000000000000000000000000000000000000000000000000000000000000000000000000000000000000000000000000000000000000000000000000000000000000000000000000000000000000000000000000000000000000000000000000000000000000000000000000000000000000000000000000000000000000000000000000000000000000000 u5)))
    {ua6 : Addr} {uo6 : Option Addr} {un6 : Nat} {us6 : Array (Option Value)} {uk6_0 uk6_1 uk6_2 uk6_3 uk6_4 uk6_5 uk6_6 uk6_7 uk6_8 uk6_9 uk6_10 uk6_11 uk6_12 uk6_13 uk6_14 uk6_15 uk6_16 : Tok} (y6 : PySem.W.nsIn K mainGlobals "TWO" = some (some (.ref ua6))) (v6 : K.lookup ua6 = some ⟨.type "tuple", uo6, .seq #[.str "+" uk6_0, .str "-" uk6_1, .str "*" uk6_2, .str "min" uk6_3, .str "max" uk6_4, .str "gcd" uk6_5, .str "/\\" uk6_6, .str "\\/" uk6_7, .str "xor" uk6_8, .str "//" uk6_9, .str "div" uk6_10, .str "mod" uk6_11, .str "rem" uk6_12, .str "<<" uk6_13, .str ">>" uk6_14, .str "**" uk6_15, .str "^" uk6_16] un6, us6⟩)
    {x0 x1 : Addr}
    (gx0 : PySem.W.nsIn K mainGlobals "BadTerm" = some (some (.ref x0)))
    (gx1 : PySem.W.nsIn K mainGlobals "HornError" = some (some (.ref x1)))
    {nmx0 qx0 : Str} {Nx0 : Addr} {bsx0 : List Value} {snx0 : List Str} {subx0 : List Value} {abx0 : Bool} {colx0 : Option Bool} {ddx0 : Option Addr} {m0x0 m1x0 m2x0 m3x0 m5x0 : Option Value} {fx0 : Addr} {ocx0 kVx0 dcx0 pmx0 cdx0 ctx0 : Value} {odx0 anx0 : Option Addr} {slx0 : Array (Option Value)}
    (xl0 : K.lookup x0 = some (excClassObj nmx0 qx0 x0 Nx0 bsx0 [.ref x1, .type "ValueError", .type "Exception", .type "BaseException", .type "object"] true snx0 subx0 abx0 colx0 ddx0 m0x0 m1x0 m2x0 m3x0 m5x0 "ValueError.__new__"))
    (xs0 : PySem.W.findIn K (.ref x0) "__setattr__" = some (some (.builtin "object.__setattr__"))) (xg0 : PySem.W.findIn K (.ref x0) "__getattribute__" = some (some (.builtin "BaseException.__getattribute__"))) (xh0 : PySem.W.findIn K (.ref x0) "__getattr__" = some none)
    (xi0 : PySem.W.findIn K (.ref x0) "__init__" = some (some (.ref fx0))) (xt0 : PySem.W.typeIn K (.ref fx0) = some (.type "function"))
    (xf0 : K.lookup fx0 = some ⟨ocx0, odx0, .func (PySem.W.fnOf "__init__" "BadTerm.__init__" (defArgs si_BadTerm) (defBody si_BadTerm) (defScope si_BadTerm) .none kVx0 dcx0 pmx0 anx0 cdx0 ctx0), slx0⟩) (xc0 : PySem.W.codeIn K cdx0 "BadTerm.__init__" = true) (xk0 : PySem.W.keepIn K (.ref fx0) = true)
    (yk0 : PySem.W.keepIn K (.ref x0) = true) (ye0 : PySem.W.subIn K (.ref x0) (.type "BaseException") = some true) (yt0 : PySem.W.typeIn K (.ref x0) = some (.type "type")) (yh0 : PySem.W.hasDictIn K x0 = true)
    (yn0_0 : PySem.W.findIn K (.ref x0) "term" = some none)
    (br0 : PySem.W.readsIn K x1 (.type "type") = true) (bf0 : PySem.W.findCls K (.ref x1) (.type "type") "__init__" = some (.val (.builtin "ValueError.__init__")))
    (ce0 : PySem.W.subIn K (.ref x0) (.type "BaseException") = some true) (ct0 : PySem.W.typeIn K (.ref x0) = some (.type "type")) (ch0 : PySem.W.hasDictIn K x0 = true) (cs0 : PySem.W.subIn K (.ref x0) (.ref x0) = some true)
    (em0_0 : PySem.W.subIn K (.ref x0) (.ref x0) = some true)
    (ce1 : PySem.W.subIn K (.ref x1) (.type "BaseException") = some true) (ct1 : PySem.W.typeIn K (.ref x1) = some (.type "type")) (ch1 : PySem.W.hasDictIn K x1 = true) (cs1 : PySem.W.subIn K (.ref x1) (.ref x1) = some true)
    (em1_0 : PySem.W.subIn K (.ref x0) (.ref x1) = some true)
    (isn : PySem.W.specialIn K (.builtin "object.__class__") "__get__" = some (some (.builtin "getset_descriptor.__get__"))) (ist : PySem.W.takesIn K (.builtin "object.__class__") = some true)
    (isa0 : PySem.W.findIn K (.ref x0) "__class__" = some (some (.builtin "object.__class__"))) (ism0 : PySem.W.mroIn K x0 (.type "object") = some true)
    : ∃ fd : FuncData, (∀ (s : Shared) (v : Value), BindsTo s fd ⟨[v], []⟩ [("script", v)]) ∧ ∀ base : Heap, K.In base → base.Ns mainGlobals mg → FnG l.prog w K mg base (L2.CX l.prog w) 8 fa fd ["script"] (spN K 1 (m_law 100000 10)) := by
  have e := hfa.symm.trans (PySem.W.mg_of X G a29)
  cases e
  have z : Zs mg := ⟨PySem.W.mg_none_of X G z0, PySem.W.mg_none_of X G z1, PySem.W.mg_none_of X G z2, PySem.W.mg_none_of X G z3, PySem.W.mg_none_of X G z4, PySem.W.mg_none_of X G z5, PySem.W.mg_none_of X G z6, PySem.W.mg_none_of X G z7, PySem.W.mg_none_of X G z8, PySem.W.mg_none_of X G z9, PySem.W.mg_none_of X G z10, PySem.W.mg_none_of X G z11, PySem.W.mg_none_of X G z12, PySem.W.mg_none_of X G z13⟩
  have y : Ys K mg := ⟨Kst.int ⟨_, PySem.W.mg_of X G y0⟩, Kst.int ⟨_, PySem.W.mg_of X G y1⟩, Kst.int ⟨_, PySem.W.mg_of X G y2⟩, Kst.int ⟨_, PySem.W.mg_of X G y3⟩, Kst.strs (PySem.W.mg_of X G y4) v4 ["+", "-", "abs", "sign", "\\", "msb"] (.cons ⟨_, rfl⟩ (.cons ⟨_, rfl⟩ (.cons ⟨_, rfl⟩ (.cons ⟨_, rfl⟩ (.cons ⟨_, rfl⟩ (.cons ⟨_, rfl⟩ .nil)))))) (Nat.le_of_ble_eq_true rfl), Kst.int ⟨_, PySem.W.mg_of X G y5⟩, Kst.strs (PySem.W.mg_of X G y6) v6 ["+", "-", "*", "min", "max", "gcd", "/\\", "\\/", "xor", "//", "div", "mod", "rem", "<<", ">>", "**", "^"] (.cons ⟨_, rfl⟩ (.cons ⟨_, rfl⟩ (.cons ⟨_, rfl⟩ (.cons ⟨_, rfl⟩ (.cons ⟨_, rfl⟩ (.cons ⟨_, rfl⟩ (.cons ⟨_, rfl⟩ (.cons ⟨_, rfl⟩ (.cons ⟨_, rfl⟩ (.cons ⟨_, rfl⟩ (.cons ⟨_, rfl⟩ (.cons ⟨_, rfl⟩ (.cons ⟨_, rfl⟩ (.cons ⟨_, rfl⟩ (.cons ⟨_, rfl⟩ (.cons ⟨_, rfl⟩ (.cons ⟨_, rfl⟩ .nil))))))))))))))))) (Nat.le_of_ble_eq_true rfl)⟩
  have bas0 : BasC K mg "HornError" := ⟨_, PySem.W.mg_of X G gx1, br0, bf0⟩
  have ox0 : OexC K x0 := ⟨⟨_, _, _, _, _, _, _, _, _, _, _, _, _, _, _, xl0, by rfl⟩, xs0, ye0, yt0, yk0⟩
  have fi0 := fun_mk (st := si_BadTerm) xf0 xc0 xk0
  have tBadTerm : ExT K mg "BadTerm" ["term"] := ⟨x0, fx0, _, PySem.W.mg_of X G gx0, ox0, xi0, xt0, fun P w base => i_BadTerm bas0 ox0 yn0_0 fi0, fi0.binds (ps := ["self", "term"]) fun _ _ _ _ _ _ us hl => match us, hl with | [_, _], _ => rfl, ⟨xg0, xh0, ye0, yh0⟩, by
    intro f hf
    simp only [List.mem_cons, List.not_mem_nil, or_false] at hf
    subst hf; exact yn0_0⟩
  have tab : ExTab K mg TX := by
    intro p hp
    simp only [List.mem_cons, List.not_mem_nil, or_false] at hp
    subst hp; exact tBadTerm
  have mBadTerm : mg "BadTerm" = some (.ref (adr mg "BadTerm")) := by rw [adr_of (PySem.W.mg_of X G gx0)]; exact PySem.W.mg_of X G gx0
  have eBadTerm : ∀ r ∈ LX, ∀ Cx, mg r = some (.ref Cx) → PySem.W.exmOne K (.ref Cx) (.ref (adr mg "BadTerm")) = some (subX r "BadTerm") := by
    intro r hr Cx hC
    rw [adr_of (PySem.W.mg_of X G gx0)]
    simp only [List.mem_cons, List.not_mem_nil, or_false] at hr
    subst hr
    · rw [PySem.W.mg_of X G gx0] at hC; cases hC; exact (PySem.W.exm_ref ce0 ch0 ct0 em0_0).trans (congrArg some (by decide +kernel))
  have sHornError : IsT K mg subX LX "HornError" := ⟨_, PySem.W.mg_of X G gx1, by
    intro r hr Cx hC
    simp only [List.mem_cons, List.not_mem_nil, or_false] at hr
    subst hr
    · rw [PySem.W.mg_of X G gx0] at hC; cases hC; exact ⟨⟨xg0, xh0, ye0, yh0, isa0, isn, ist, ism0⟩, (kit_ref ch1 ct1 cs1 em1_0).trans (congrArg some (by decide +kernel))⟩⟩
  have q : Qs K mg := ⟨tBadTerm, tab, mBadTerm, eBadTerm, sHornError⟩
  have F0 := fun_mk (st := s_is_int) l0 c0 k0
  have g0 : Got K mg "is_int" s_is_int P_is_int := ⟨f0, _, F0, PySem.W.mg_of X G a0, F0.binds (ps := P_is_int) fun _ _ _ _ _ _ us hl => match us, hl with | [_], _ => rfl⟩
  have F1 := fun_mk (st := s_is_variable) l1 c1 k1
  have g1 : Got K mg "is_variable" s_is_variable P_is_variable := ⟨f1, _, F1, PySem.W.mg_of X G a1, F1.binds (ps := P_is_variable) fun _ _ _ _ _ _ us hl => match us, hl with | [_], _ => rfl⟩
  have F2 := fun_mk (st := s_is_any_number) l2 c2 k2
  have g2 : Got K mg "is_any_number" s_is_any_number P_is_any_number := ⟨f2, _, F2, PySem.W.mg_of X G a2, F2.binds (ps := P_is_any_number) fun _ _ _ _ _ _ us hl => match us, hl with | [_], _ => rfl⟩
  have F3 := fun_mk (st := s_is_any_atom) l3 c3 k3
  have g3 : Got K mg "is_any_atom" s_is_any_atom P_is_any_atom := ⟨f3, _, F3, PySem.W.mg_of X G a3, F3.binds (ps := P_is_any_atom) fun _ _ _ _ _ _ us hl => match us, hl with | [_], _ => rfl⟩
  have F4 := fun_mk (st := s_is_compound) l4 c4 k4
  have g4 : Got K mg "is_compound" s_is_compound P_is_compound := ⟨f4, _, F4, PySem.W.mg_of X G a4, F4.binds (ps := P_is_compound) fun _ _ _ _ _ _ us hl => match us, hl with | [_], _ => rfl⟩
  have F5 := fun_mk (st := s_is_term) l5 c5 k5
  have g5 : Got K mg "is_term" s_is_term P_is_term := ⟨f5, _, F5, PySem.W.mg_of X G a5, F5.binds (ps := P_is_term) fun _ _ _ _ _ _ us hl => match us, hl with | [_], _ => rfl⟩
  have F6 := fun_mk (st := s_check_terms) l6 c6 k6
  have g6 : Got K mg "check_terms" s_check_terms P_check_terms := ⟨f6, _, F6, PySem.W.mg_of X G a6, F6.binds (ps := P_check_terms) fun _ _ _ _ _ _ us hl => match us, hl with | [_], _ => rfl⟩
  have F7 := fun_mk (st := s_with_one) l7 c7 k7
  have g7 : Got K mg "with_one" s_with_one P_with_one := ⟨f7, _, F7, PySem.W.mg_of X G a7, F7.binds (ps := P_with_one) fun _ _ _ _ _ _ us hl => match us, hl with | [_, _], _ => rfl⟩
  have F8 := fun_mk (st := s_divisor) l8 c8 k8
  have g8 : Got K mg "divisor" s_divisor P_divisor := ⟨f8, _, F8, PySem.W.mg_of X G a8, F8.binds (ps := P_divisor) fun _ _ _ _ _ _ us hl => match us, hl with | [_, _], _ => rfl⟩
  have F9 := fun_mk (st := s_divided) l9 c9 k9
  have g9 : Got K mg "divided" s_divided P_divided := ⟨f9, _, F9, PySem.W.mg_of X G a9, F9.binds (ps := P_divided) fun _ _ _ _ _ _ us hl => match us, hl with | [_, _, _], _ => rfl⟩
  have F10 := fun_mk (st := s_power) l10 c10 k10
  have g10 : Got K mg "power" s_power P_power := ⟨f10, _, F10, PySem.W.mg_of X G a10, F10.binds (ps := P_power) fun _ _ _ _ _ _ us hl => match us, hl with | [_, _], _ => rfl⟩
  have F11 := fun_mk (st := s_with_two) l11 c11 k11
  have g11 : Got K mg "with_two" s_with_two P_with_two := ⟨f11, _, F11, PySem.W.mg_of X G a11, F11.binds (ps := P_with_two) fun _ _ _ _ _ _ us hl => match us, hl with | [_, _, _], _ => rfl⟩
  have F12 := fun_mk (st := s_fault_of) l12 c12 k12
  have g12 : Got K mg "fault_of" s_fault_of P_fault_of := ⟨f12, _, F12, PySem.W.mg_of X G a12, F12.binds (ps := P_fault_of) fun _ _ _ _ _ _ us hl => match us, hl with | [_, _], _ => rfl⟩
  have F13 := fun_mk (st := s_is_known) l13 c13 k13
  have g13 : Got K mg "is_known" s_is_known P_is_known := ⟨f13, _, F13, PySem.W.mg_of X G a13, F13.binds (ps := P_is_known) fun _ _ _ _ _ _ us hl => match us, hl with | [_, _], _ => rfl⟩
  have F14 := fun_mk (st := s_first_fault) l14 c14 k14
  have g14 : Got K mg "first_fault" s_first_fault P_first_fault := ⟨f14, _, F14, PySem.W.mg_of X G a14, F14.binds (ps := P_first_fault) fun _ _ _ _ _ _ us hl => match us, hl with | [_], _ => rfl⟩
  have F15 := fun_mk (st := s_value_of) l15 c15 k15
  have g15 : Got K mg "value_of" s_value_of P_value_of := ⟨f15, _, F15, PySem.W.mg_of X G a15, F15.binds (ps := P_value_of) fun _ _ _ _ _ _ us hl => match us, hl with | [_], _ => rfl⟩
  have F16 := fun_mk (st := s_reckoned) l16 c16 k16
  have g16 : Got K mg "reckoned" s_reckoned P_reckoned := ⟨f16, _, F16, PySem.W.mg_of X G a16, F16.binds (ps := P_reckoned) fun _ _ _ _ _ _ us hl => match us, hl with | [_], _ => rfl⟩
  have F17 := fun_mk (st := s__law_source_of) l17 c17 k17
  have g17 : Got K mg "_law_source_of" s__law_source_of P__law_source_of := ⟨f17, _, F17, PySem.W.mg_of X G a17, F17.binds (ps := P__law_source_of) fun _ _ _ _ _ _ us hl => match us, hl with | [_], _ => rfl⟩
  have F18 := fun_mk (st := s__law_next) l18 c18 k18
  have g18 : Got K mg "_law_next" s__law_next P__law_next := ⟨f18, _, F18, PySem.W.mg_of X G a18, F18.binds (ps := P__law_next) fun _ _ _ _ _ _ us hl => match us, hl with | [_, _], _ => rfl⟩
  have F19 := fun_mk (st := s__law_one) l19 c19 k19
  have g19 : Got K mg "_law_one" s__law_one P__law_one := ⟨f19, _, F19, PySem.W.mg_of X G a19, F19.binds (ps := P__law_one) fun _ _ _ _ _ _ us hl => match us, hl with | [_, _], _ => rfl⟩
  have F20 := fun_mk (st := s__law_top) l20 c20 k20
  have g20 : Got K mg "_law_top" s__law_top P__law_top := ⟨f20, _, F20, PySem.W.mg_of X G a20, F20.binds (ps := P__law_top) fun _ _ _ _ _ _ us hl => match us, hl with | [], _ => rfl⟩
  have F21 := fun_mk (st := s__law_of) l21 c21 k21
  have g21 : Got K mg "_law_of" s__law_of P__law_of := ⟨f21, _, F21, PySem.W.mg_of X G a21, F21.binds (ps := P__law_of) fun _ _ _ _ _ _ us hl => match us, hl with | [_, _, _], _ => rfl⟩
  have F22 := fun_mk (st := s__law_number) l22 c22 k22
  have g22 : Got K mg "_law_number" s__law_number P__law_number := ⟨f22, _, F22, PySem.W.mg_of X G a22, F22.binds (ps := P__law_number) fun _ _ _ _ _ _ us hl => match us, hl with | [_], _ => rfl⟩
  have F23 := fun_mk (st := s__law_divisions_right) l23 c23 k23
  have g23 : Got K mg "_law_divisions_right" s__law_divisions_right P__law_divisions_right := ⟨f23, _, F23, PySem.W.mg_of X G a23, F23.binds (ps := P__law_divisions_right) fun _ _ _ _ _ _ us hl => match us, hl with | [_, _], _ => rfl⟩
  have F24 := fun_mk (st := s__law_bits_right) l24 c24 k24
  have g24 : Got K mg "_law_bits_right" s__law_bits_right P__law_bits_right := ⟨f24, _, F24, PySem.W.mg_of X G a24, F24.binds (ps := P__law_bits_right) fun _ _ _ _ _ _ us hl => match us, hl with | [_, _], _ => rfl⟩
  have F25 := fun_mk (st := s__law_gcd_right) l25 c25 k25
  have g25 : Got K mg "_law_gcd_right" s__law_gcd_right P__law_gcd_right := ⟨f25, _, F25, PySem.W.mg_of X G a25, F25.binds (ps := P__law_gcd_right) fun _ _ _ _ _ _ us hl => match us, hl with | [_, _, _], _ => rfl⟩
  have F26 := fun_mk (st := s__law_shifts_right) l26 c26 k26
  have g26 : Got K mg "_law_shifts_right" s__law_shifts_right P__law_shifts_right := ⟨f26, _, F26, PySem.W.mg_of X G a26, F26.binds (ps := P__law_shifts_right) fun _ _ _ _ _ _ us hl => match us, hl with | [_, _, _], _ => rfl⟩
  have F27 := fun_mk (st := s__law_brink_right) l27 c27 k27
  have g27 : Got K mg "_law_brink_right" s__law_brink_right P__law_brink_right := ⟨f27, _, F27, PySem.W.mg_of X G a27, F27.binds (ps := P__law_brink_right) fun _ _ _ _ _ _ us hl => match us, hl with | [_], _ => rfl⟩
  have F28 := fun_mk (st := s__law_refused) l28 c28 k28
  have g28 : Got K mg "_law_refused" s__law_refused P__law_refused := ⟨f28, _, F28, PySem.W.mg_of X G a28, F28.binds (ps := P__law_refused) fun _ _ _ _ _ _ us hl => match us, hl with | [_], _ => rfl⟩
  have F29 := fun_mk (st := s_law) l29 c29 k29
  refine ⟨PySem.W.fnOf "law" "law" (defArgs s_law) (defBody s_law) (defScope s_law) .none kV29 dc29 pm29 an29 cd29 ct29, fun s v => .of_eq rfl, fun base _ _ => ?_⟩
  have C_is_int := c_is_int (P := l.prog) (w := w) (base := base) (NF := 100000) (RD := 10) (L := 0) g0 z y q
  have C_is_variable := c_is_variable (P := l.prog) (w := w) (base := base) (NF := 100000) (RD := 10) (L := 1) g1 z y q (C_is_int.mono (by decide))
  have C_is_any_number := c_is_any_number (P := l.prog) (w := w) (base := base) (NF := 100000) (RD := 10) (L := 1) g2 z y q (C_is_int.mono (by decide))
  have C_is_any_atom := c_is_any_atom (P := l.prog) (w := w) (base := base) (NF := 100000) (RD := 10) (L := 0) g3 z y q
  have C_is_compound := c_is_compound (P := l.prog) (w := w) (base := base) (NF := 100000) (RD := 10) (L := 0) g4 z y q
  have C_is_term := c_is_term (P := l.prog) (w := w) (base := base) (NF := 100000) (RD := 10) (L := 2) g5 z y q (C_is_compound.mono (by decide)) (C_is_any_atom.mono (by decide)) (C_is_variable.mono (by decide)) (C_is_any_number.mono (by decide))
  have C_check_terms := c_check_terms (P := l.prog) (w := w) (base := base) (NF := 100000) (RD := 10) (L := 1) g6 z y q (C_is_term.mono (by decide))
  have C_with_one := c_with_one (P := l.prog) (w := w) (base := base) (NF := 100000) (RD := 10) (L := 0) g7 z y q
  have C_divisor := c_divisor (P := l.prog) (w := w) (base := base) (NF := 100000) (RD := 10) (L := 0) g8 z y q
  have C_divided := c_divided (P := l.prog) (w := w) (base := base) (NF := 100000) (RD := 10) (L := 0) g9 z y q
  have C_power := c_power (P := l.prog) (w := w) (base := base) (NF := 100000) (RD := 10) (L := 0) g10 z y q
  have C_with_two := c_with_two (P := l.prog) (w := w) (base := base) (NF := 100000) (RD := 10) (L := 1) g11 z y q (C_divided.mono (by decide)) (C_divisor.mono (by decide)) (C_power.mono (by decide))
  have C_fault_of := c_fault_of (P := l.prog) (w := w) (base := base) (NF := 100000) (RD := 10) (L := 0) g12 z y q
  have C_is_known := c_is_known (P := l.prog) (w := w) (base := base) (NF := 100000) (RD := 10) (L := 0) g13 z y q
  have C_first_fault := c_first_fault (P := l.prog) (w := w) (base := base) (NF := 100000) (RD := 10) (L := 2) g14 z y q (C_is_variable.mono (by decide)) (C_is_int.mono (by decide)) (C_is_known.mono (by decide))
  have C_value_of := c_value_of (P := l.prog) (w := w) (base := base) (NF := 100000) (RD := 10) (L := 3) g15 z y q (C_first_fault.mono (by decide)) (C_fault_of.mono (by decide)) (C_is_int.mono (by decide)) (C_with_one.mono (by decide)) (C_with_two.mono (by decide))
  have C_reckoned := c_reckoned (P := l.prog) (w := w) (base := base) (NF := 100000) (RD := 10) (L := 4) g16 z y q (C_check_terms.mono (by decide)) (C_value_of.mono (by decide))
  have C__law_source_of := c__law_source_of (P := l.prog) (w := w) (base := base) (NF := 100000) (RD := 10) (L := 0) g17 z y q
  have C__law_next := c__law_next (P := l.prog) (w := w) (base := base) (NF := 100000) (RD := 10) (L := 0) g18 z y q
  have C__law_one := c__law_one (P := l.prog) (w := w) (base := base) (NF := 100000) (RD := 10) (L := 1) g19 z y q (C__law_next.mono (by decide))
  have C__law_top := c__law_top (P := l.prog) (w := w) (base := base) (NF := 100000) (RD := 10) (L := 0) g20 z y q
  have C__law_of := c__law_of (P := l.prog) (w := w) (base := base) (NF := 100000) (RD := 10) (L := 5) g21 z y q (C_reckoned.mono (by decide))
  have C__law_number := c__law_number (P := l.prog) (w := w) (base := base) (NF := 100000) (RD := 10) (L := 2) g22 z y q (C__law_one.mono (by decide)) (C__law_next.mono (by decide))
  have C__law_divisions_right := c__law_divisions_right (P := l.prog) (w := w) (base := base) (NF := 100000) (RD := 10) (L := 6) g23 z y q (C__law_of.mono (by decide)) (C_reckoned.mono (by decide))
  have C__law_bits_right := c__law_bits_right (P := l.prog) (w := w) (base := base) (NF := 100000) (RD := 10) (L := 6) g24 z y q (C__law_of.mono (by decide)) (C_reckoned.mono (by decide))
  have C__law_gcd_right := c__law_gcd_right (P := l.prog) (w := w) (base := base) (NF := 100000) (RD := 10) (L := 6) g25 z y q (C__law_of.mono (by decide))
  have C__law_shifts_right := c__law_shifts_right (P := l.prog) (w := w) (base := base) (NF := 100000) (RD := 10) (L := 6) g26 z y q (C__law_of.mono (by decide))
  have C__law_brink_right := c__law_brink_right (P := l.prog) (w := w) (base := base) (NF := 100000) (RD := 10) (L := 5) g27 z y q (C__law_top.mono (by decide)) (C__law_one.mono (by decide)) (C_reckoned.mono (by decide))
  have C__law_refused := c__law_refused (P := l.prog) (w := w) (base := base) (NF := 100000) (RD := 10) (L := 5) g28 z y q (C_reckoned.mono (by decide))
  exact (ok_law (L := 7) (NF := 100000) (RD := 10) F29 z y q (C__law_source_of.mono (by decide)) (C__law_number.mono (by decide)) (C__law_one.mono (by decide)) (C_reckoned.mono (by decide)) (C__law_refused.mono (by decide)) (C__law_divisions_right.mono (by decide)) (C__law_bits_right.mono (by decide)) (C__law_gcd_right.mono (by decide)) (C__law_shifts_right.mono (by decide)) (C__law_brink_right.mono (by decide)) (C__law_next.mono (by decide))).toN
theorem walk {l : PySem.W.OpenLaw} {q : Program} {loose : List Str} {XP : (Str → Option Value) → Heap → Prop} {YP : World → Heap → Prop} {d : DefRec} {K : Params → PySem.W.Frag} (hn : l.most = some 63) (hdf : d.params.defaults = [])
    (hY : ∀ (w : World) (h : Heap), YP w h → (K w.params).In h)
    (F : ∀ (w : World) (mg : Str → Option Value) (fa : Addr) (h : Heap), (K w.params).In h → h.Ns mainGlobals mg → mg d.name = some (.ref fa) →
      ∃ fd : FuncData, (∀ (s : Shared) (u : Value), BindsTo s fd ⟨[u], []⟩ [("script", u)]) ∧ ∀ base : Heap, (K w.params).In base → base.Ns mainGlobals mg → FnG l.prog w (K w.params) mg base (L2.CX l.prog w) 8 fa fd ["script"] (spN (K w.params) 1 (m_law 100000 10))) :
    PySem.W.WalkO q loose XP YP l.row.toRowW d [] (fun f vs => PySem.call f vs) :=
  DL.walk_G (n := 63) (k := 8) (x := "script") (CX := fun w => L2.CX l.prog w) (sp := fun w => spN (K w.params) 1 (m_law 100000 10)) hn (by decide) hdf ⟨rfl, by decide, by decide⟩ hY F (fun _ _ a ns hl hO hS => law_endN (law_true ns hl) hO hS) fun _ _ _ _ _ ⟨_, _, _, _, _, _, _, _, _, _, _, _, z⟩ => z
end
end K42
open PySem PySem.W PyProof.Rows
theorem PySem.Challenge.cw_hornhall_k42_whole_laws_of_arithmetic_holds : PySem.Challenge.rw_hornhall_k42_whole_laws_of_arithmetic.Holds := by
  w_on; o_law; k_head; (case hw => w_witness2)
  k_fill
  refine K42.walk (l := PySem.Challenge.rw_hornhall_k42_whole_laws_of_arithmetic) rfl rfl (fun w h Y => PySem.W.kIn_of Y) ?F
  case F =>
    intro w mg fa h KX G hmg
    refine' K42.all_mk KX G hmg ?a0 ?l0 ?c0 ?k0 ?a1 ?l1 ?c1 ?k1 ?a2 ?l2 ?c2 ?k2 ?a3 ?l3 ?c3 ?k3 ?a4 ?l4 ?c4 ?k4 ?a5 ?l5 ?c5 ?k5 ?a6 ?l6 ?c6 ?k6 ?a7 ?l7 ?c7 ?k7 ?a8 ?l8 ?c8 ?k8 ?a9 ?l9 ?c9 ?k9 ?a10 ?l10 ?c10 ?k10 ?a11 ?l11 ?c11 ?k11 ?a12 ?l12 ?c12 ?k12 ?a13 ?l13 ?c13 ?k13 ?a14 ?l14 ?c14 ?k14 ?a15 ?l15 ?c15 ?k15 ?a16 ?l16 ?c16 ?k16 ?a17 ?l17 ?c17 ?k17 ?a18 ?l18 ?c18 ?k18 ?a19 ?l19 ?c19 ?k19 ?a20 ?l20 ?c20 ?k20 ?a21 ?l21 ?c21 ?k21 ?a22 ?l22 ?c22 ?k22 ?a23 ?l23 ?c23 ?k23 ?a24 ?l24 ?c24 ?k24 ?a25 ?l25 ?c25 ?k25 ?a26 ?l26 ?c26 ?k26 ?a27 ?l27 ?c27 ?k27 ?a28 ?l28 ?c28 ?k28 ?a29 ?l29 ?c29 ?k29 ?z0 ?z1 ?z2 ?z3 ?z4 ?z5 ?z6 ?z7 ?z8 ?z9 ?z10 ?z11 ?z12 ?z13 ?y0 ?y1 ?y2 ?y3 ?y4 ?v4 ?y5 ?y6 ?v6 ?gx0 ?gx1 ?xl0 ?xs0 ?xg0 ?xh0 ?xi0 ?xt0 ?xf0 ?xc0 ?xk0 ?yk0 ?ye0 ?yt0 ?yh0 ?yn0_0 ?br0 ?bf0 ?ce0 ?ct0 ?ch0 ?cs0 ?em0_0 ?ce1 ?ct1 ?ch1 ?cs1 ?em1_0 ?isn ?ist ?isa0 ?ism0
    (case a0 => k_is)
    (case l0 => k_is)
    (case c0 => k_is)
    (case k0 => k_is)
    (case a1 => k_is)
    (case l1 => k_is)
    (case c1 => k_is)
    (case k1 => k_is)
    (case a2 => k_is)
    (case l2 => k_is)
    (case c2 => k_is)
    (case k2 => k_is)
    (case a3 => k_is)
    (case l3 => k_is)
    (case c3 => k_is)
    (case k3 => k_is)
    (case a4 => k_is)
    (case l4 => k_is)
    (case c4 => k_is)
    (case k4 => k_is)
    (case a5 => k_is)
    (case l5 => k_is)
    (case c5 => k_is)
    (case k5 => k_is)
    (case a6 => k_is)
    (case l6 => k_is)
    (case c6 => k_is)
    (case k6 => k_is)
    (case a7 => k_is)
    (case l7 => k_is)
    (case c7 => k_is)
    (case k7 => k_is)
    (case a8 => k_is)
    (case l8 => k_is)
    (case c8 => k_is)
    (case k8 => k_is)
    (case a9 => k_is)
    (case l9 => k_is)
    (case c9 => k_is)
    (case k9 => k_is)
    (case a10 => k_is)
    (case l10 => k_is)
    (case c10 => k_is)
    (case k10 => k_is)
    (case a11 => k_is)
    (case l11 => k_is)
    (case c11 => k_is)
    (case k11 => k_is)
    (case a12 => k_is)
    (case l12 => k_is)
    (case c12 => k_is)
    (case k12 => k_is)
    (case a13 => k_is)
    (case l13 => k_is)
    (case c13 => k_is)
    (case k13 => k_is)
    (case a14 => k_is)
    (case l14 => k_is)
    (case c14 => k_is)
    (case k14 => k_is)
    (case a15 => k_is)
    (case l15 => k_is)
    (case c15 => k_is)
    (case k15 => k_is)
    (case a16 => k_is)
    (case l16 => k_is)
    (case c16 => k_is)
    (case k16 => k_is)
    (case a17 => k_is)
    (case l17 => k_is)
    (case c17 => k_is)
    (case k17 => k_is)
    (case a18 => k_is)
    (case l18 => k_is)
    (case c18 => k_is)
    (case k18 => k_is)
    (case a19 => k_is)
    (case l19 => k_is)
    (case c19 => k_is)
    (case k19 => k_is)
    (case a20 => k_is)
    (case l20 => k_is)
    (case c20 => k_is)
    (case k20 => k_is)
    (case a21 => k_is)
    (case l21 => k_is)
    (case c21 => k_is)
    (case k21 => k_is)
    (case a22 => k_is)
    (case l22 => k_is)
    (case c22 => k_is)
    (case k22 => k_is)
    (case a23 => k_is)
    (case l23 => k_is)
    (case c23 => k_is)
    (case k23 => k_is)
    (case a24 => k_is)
    (case l24 => k_is)
    (case c24 => k_is)
    (case k24 => k_is)
    (case a25 => k_is)
    (case l25 => k_is)
    (case c25 => k_is)
    (case k25 => k_is)
    (case a26 => k_is)
    (case l26 => k_is)
    (case c26 => k_is)
    (case k26 => k_is)
    (case a27 => k_is)
    (case l27 => k_is)
    (case c27 => k_is)
    (case k27 => k_is)
    (case a28 => k_is)
    (case l28 => k_is)
    (case c28 => k_is)
    (case k28 => k_is)
    (case a29 => k_is)
    (case l29 => k_is)
    (case c29 => k_is)
    (case k29 => k_is)
    (case z0 => k_is)
    (case z1 => k_is)
    (case z2 => k_is)
    (case z3 => k_is)
    (case z4 => k_is)
    (case z5 => k_is)
    (case z6 => k_is)
    (case z7 => k_is)
    (case z8 => k_is)
    (case z9 => k_is)
    (case z10 => k_is)
    (case z11 => k_is)
    (case z12 => k_is)
    (case z13 => k_is)
    (case y0 => k_is)
    (case y1 => k_is)
    (case y2 => k_is)
    (case y3 => k_is)
    (case y4 => k_is)
    (case v4 => k_is)
    (case y5 => k_is)
    (case y6 => k_is)
    (case v6 => k_is)
    (case gx0 => k_is)
    (case gx1 => k_is)
    (case xl0 => k_is)
    (case xs0 => k_is)
    (case xg0 => k_is)
    (case xh0 => k_is)
    (case xi0 => k_is)
    (case xt0 => k_is)
    (case xf0 => k_is)
    (case xc0 => k_is)
    (case xk0 => k_is)
    (case yk0 => k_is)
    (case ye0 => k_is)
    (case yt0 => k_is)
    (case yh0 => k_is)
    (case yn0_0 => k_is)
    (case br0 => k_is)
    (case bf0 => k_is)
    (case ce0 => k_is)
    (case ct0 => k_is)
    (case ch0 => k_is)
    (case cs0 => k_is)
    (case em0_0 => k_is)
    (case ce1 => k_is)
    (case ct1 => k_is)
    (case ch1 => k_is)
    (case cs1 => k_is)
    (case em1_0 => k_is)
    (case isn => k_is)
    (case ist => k_is)
    (case isa0 => k_is)
    (case ism0 => k_is)

