import PyProof.Rows.All
import HandS.ForMost
import HandS.IsInst
import HandS.TupAny
import HandS.Wide
import HandS.Defaults
import KE.KeyNested
import KE.KDictKeyed
import HandS.Flow
import HandS.TupMul
import HandS.WordsDict
import HandS.Conv
import HandS.Zip
import HandS.ForExc
import HandS.ExcField
import HandS.CallSlots
import HandS.Style
import HandS.WideBits
import HandS.Rev
import HandS.TryOnly
import HandS.ExcInit
import HandS.ExcIs
import HandS.TryMany
import KE.DataMinMax
import KE.DatumOrd
import HandS.Deep
import KE.KDictLaws
import PyProof.SliceList
import PySem.Challenge.RW_hornhall_k50_whole_bindings_taken_back
import KE.SortData
import Wide.All
import OpenK.AllK
import Wide.FinOn
set_option Elab.async false
set_option linter.all false
set_option maxRecDepth 100000
set_option maxHeartbeats 8000000
/-! DL1: values as trees, objects by number; what stands for what. -/
namespace DL
open PySem L2
/-- the written part, and the world (texts' hashes) -/
structure Kw where
  f : PySem.W.Frag
  w : World
instance : Coe Kw PySem.W.Frag := ⟨Kw.f⟩
abbrev Kw.lookup (K : Kw) (a : Addr) : Option Obj := List.lookup a K.f
abbrev KOf (X : Cx) : Kw := ⟨X.K, X.w⟩

inductive D where
  | non | bl (b : Bool) | int (i : Int) | str (s : Str) | ty (s : String)
  | tup (xs : List D) | rol (xs : List D) | at (n : Nat)
  | ad (a : Addr)
/-! names of fields by number: the signs are the digits to the base 256 -/
def bys : Nat → Nat → List Nat
  | 0, _ => []
  | k + 1, n => if n = 0 then [] else (n % 256) :: bys k (n / 256)
def valB : List Nat → Nat
  | [] => 0
  | b :: bs => b + 256 * valB bs
theorem val_bys : ∀ (k n : Nat), n ≤ k → valB (bys k n) = n
  | 0, n, h => by
    have : n = 0 := by omega
    subst this
    rfl
  | k + 1, n, h => by
    unfold bys
    split
    · rename_i e
      rw [e]
      rfl
    · rw [valB, val_bys k (n / 256) (by omega)]
      omega
def nmN (n : Nat) : Str := ⟨(bys n n).toArray⟩
theorem nmN_inj {m n : Nat} (h : nmN m = nmN n) : m = n := by
  have e : bys m m = bys n n := by
    have := congrArg (fun s : Str => s.cps.toList) h
    simpa [nmN] using this
  rw [← val_bys m m (Nat.le_refl _), ← val_bys n n (Nat.le_refl _), e]
inductive O where
  | lst (xs : List D) | dct (kvs : List (Key × D))
  /-- an instance of the class at C; a dict whose keys are data without lists -/
  | ins (C : Addr) (fs : List (Nat × D)) | dcn (kvs : List (D × D))
abbrev Hd := List O
abbrev Sg := List (Option D)

/-- a list that nobody writes at -/
def SqF (K : Kw) (H : Hp) (a : Addr) (xs : List V) : Prop :=
  (∃ ob, H a = some (.frz ob (.lst xs))) ∨
    ∃ (o : Obj) (its : Array Value) (n : Nat), K.lookup a = some o ∧ o.cls = .type "list" ∧ o.dict = none ∧ o.data = .seq its n ∧ its.size ≤ sizeLine ∧ Vals xs its.toList
theorem SqF.l {K : Kw} {H : Hp} {a : Addr} {xs : List V} (h : SqF K H a xs) : SqL K H a xs := by
  rcases h with ⟨o, h⟩ | h
  · exact .inl (.inr ⟨o, h⟩)
  · exact .inr h

mutual
def Rp (K : Kw) (H : Hp) (μ : List Addr) : D → V → Prop
  | .non, v => v = .non
  | .bl b, v => v = .bl b
  | .int i, v => v = .int i
  | .str s, v => v = .str s
  | .ty s, v => v = .ty s
  | .tup xs, v => ∃ p vs, v = .ref p ∧ SqT K H p vs ∧ Rps K H μ xs vs
  | .rol xs, v => ∃ p vs, v = .ref p ∧ SqF K H p vs ∧ Rps K H μ xs vs
  | .at n, v => ∃ a, μ[n]? = some a ∧ v = .ref a
  | .ad a, v => v = .ref a
def Rps (K : Kw) (H : Hp) (μ : List Addr) : List D → List V → Prop
  | [], vs => vs = []
  | d :: ds, vs => ∃ v vs', vs = v :: vs' ∧ Rp K H μ d v ∧ Rps K H μ ds vs'
end

/-- what goes on: objects keep their numbers, what cannot change stays -/
structure Le (K : Kw) (H : Hp) (μ : List Addr) (H' : Hp) (μ' : List Addr) : Prop where
  pre : ∃ r, μ' = μ ++ r
  tup : ∀ p vs, SqT K H p vs → SqT K H' p vs
  frz : ∀ p vs, SqF K H p vs → SqF K H' p vs
  xdt : ∀ p fs, H p = some (.xd fs) → H' p = some (.xd fs)
theorem Le.refl {K : Kw} {H : Hp} {μ : List Addr} : Le K H μ H μ := ⟨⟨[], by simp⟩, fun _ _ h => h, fun _ _ h => h, fun _ _ h => h⟩
theorem Le.trans {K : Kw} {H H1 H2 : Hp} {μ μ1 μ2 : List Addr} (a : Le K H μ H1 μ1) (b : Le K H1 μ1 H2 μ2) : Le K H μ H2 μ2 := by
  obtain ⟨r, hr⟩ := a.pre
  obtain ⟨q, hq⟩ := b.pre
  exact ⟨⟨r ++ q, by rw [hq, hr, List.append_assoc]⟩, fun p vs h => b.tup p vs (a.tup p vs h), fun p vs h => b.frz p vs (a.frz p vs h), fun p fs h => b.xdt p fs (a.xdt p fs h)⟩
theorem Le.get {K : Kw} {H H' : Hp} {μ μ' : List Addr} (a : Le K H μ H' μ') {n : Nat} {x : Addr} (h : μ[n]? = some x) : μ'[n]? = some x := by
  obtain ⟨r, hr⟩ := a.pre
  rw [hr, List.getElem?_append_left (by exact (List.getElem?_eq_some_iff.mp h).1)]
  exact h

section
variable {K : Kw} {H H' : Hp} {μ μ' : List Addr}
mutual
theorem Rp.mono (e : Le K H μ H' μ') : ∀ (d : D) (v : V), Rp K H μ d v → Rp K H' μ' d v
  | .non, _, h => by unfold Rp at *; exact h
  | .bl _, _, h => by unfold Rp at *; exact h
  | .int _, _, h => by unfold Rp at *; exact h
  | .str _, _, h => by unfold Rp at *; exact h
  | .ty _, _, h => by unfold Rp at *; exact h
  | .tup xs, v, h => by
    unfold Rp at *
    obtain ⟨p, vs, a, b, c⟩ := h
    exact ⟨p, vs, a, e.tup _ _ b, Rps.mono e xs vs c⟩
  | .rol xs, v, h => by
    unfold Rp at *
    obtain ⟨p, vs, a, b, c⟩ := h
    exact ⟨p, vs, a, e.frz _ _ b, Rps.mono e xs vs c⟩
  | .at n, v, h => by
    unfold Rp at *
    obtain ⟨a, b, c⟩ := h
    exact ⟨a, e.get b, c⟩
  | .ad _, _, h => by unfold Rp at *; exact h
theorem Rps.mono (e : Le K H μ H' μ') : ∀ (ds : List D) (vs : List V), Rps K H μ ds vs → Rps K H' μ' ds vs
  | [], _, h => by unfold Rps at *; exact h
  | d :: ds, vs, h => by
    unfold Rps at *
    obtain ⟨v, vs', a, b, c⟩ := h
    exact ⟨v, vs', a, Rp.mono e d v b, Rps.mono e ds vs' c⟩
end
theorem Rps.nil : Rps K H μ [] [] := by unfold Rps; rfl
theorem Rps.cons {d : D} {ds : List D} {v : V} {vs : List V} (a : Rp K H μ d v) (b : Rps K H μ ds vs) : Rps K H μ (d :: ds) (v :: vs) := by
  unfold Rps; exact ⟨v, vs, rfl, a, b⟩
theorem Rps.nil' {vs : List V} (h : Rps K H μ [] vs) : vs = [] := by unfold Rps at h; exact h
theorem Rps.cons' {d : D} {ds : List D} {vs : List V} (h : Rps K H μ (d :: ds) vs) : ∃ v vs', vs = v :: vs' ∧ Rp K H μ d v ∧ Rps K H μ ds vs' := by unfold Rps at h; exact h
theorem Rps.len : ∀ {ds : List D} {vs : List V}, Rps K H μ ds vs → vs.length = ds.length
  | [], vs, h => by rw [h.nil']; rfl
  | d :: ds, vs, h => by
    obtain ⟨v, vs', rfl, _, b⟩ := h.cons'
    rw [List.length_cons, List.length_cons, Rps.len b]
theorem Rps.app : ∀ {ds es : List D} {vs ws : List V}, Rps K H μ ds vs → Rps K H μ es ws → Rps K H μ (ds ++ es) (vs ++ ws)
  | [], es, vs, ws, h, g => by rw [h.nil']; exact g
  | d :: ds, es, vs, ws, h, g => by
    obtain ⟨v, vs', rfl, a, b⟩ := h.cons'
    exact Rps.cons a (Rps.app b g)
theorem Rps.get : ∀ {ds : List D} {vs : List V} {i : Nat} {d : D}, Rps K H μ ds vs → ds[i]? = some d → ∃ v, vs[i]? = some v ∧ Rp K H μ d v
  | [], vs, i, d, h, g => by simp at g
  | e :: ds, vs, 0, d, h, g => by
    obtain ⟨v, vs', rfl, a, b⟩ := h.cons'
    simp at g
    subst g
    exact ⟨v, rfl, a⟩
  | e :: ds, vs, i + 1, d, h, g => by
    obtain ⟨v, vs', rfl, a, b⟩ := h.cons'
    simpa using Rps.get b (by simpa using g)
theorem Rps.take : ∀ {ds : List D} {vs : List V} (n : Nat), Rps K H μ ds vs → Rps K H μ (ds.take n) (vs.take n)
  | ds, vs, 0, h => by simp [Rps.nil]
  | [], vs, n + 1, h => by rw [h.nil']; exact Rps.nil
  | d :: ds, vs, n + 1, h => by
    obtain ⟨v, vs', rfl, a, b⟩ := h.cons'
    exact Rps.cons a (Rps.take n b)
theorem Rps.drop : ∀ {ds : List D} {vs : List V} (n : Nat), Rps K H μ ds vs → Rps K H μ (ds.drop n) (vs.drop n)
  | ds, vs, 0, h => h
  | [], vs, n + 1, h => by rw [h.nil']; exact Rps.nil
  | d :: ds, vs, n + 1, h => by
    obtain ⟨v, vs', rfl, a, b⟩ := h.cons'
    exact Rps.drop n b
theorem Rps.rev : ∀ {ds : List D} {vs : List V}, Rps K H μ ds vs → Rps K H μ ds.reverse vs.reverse
  | [], vs, h => by rw [h.nil']; exact Rps.nil
  | d :: ds, vs, h => by
    obtain ⟨v, vs', rfl, a, b⟩ := h.cons'
    rw [List.reverse_cons, List.reverse_cons]
    exact Rps.app (Rps.rev b) (Rps.cons a Rps.nil)
theorem Rps.set : ∀ {ds : List D} {vs : List V} (i : Nat) {d : D} {v : V}, Rps K H μ ds vs → Rp K H μ d v → Rps K H μ (ds.set i d) (vs.set i v)
  | [], vs, i, d, v, h, g => by rw [h.nil']; simp [Rps.nil]
  | e :: ds, vs, 0, d, v, h, g => by
    obtain ⟨w, vs', rfl, a, b⟩ := h.cons'
    exact Rps.cons g b
  | e :: ds, vs, i + 1, d, v, h, g => by
    obtain ⟨w, vs', rfl, a, b⟩ := h.cons'
    exact Rps.cons a (Rps.set i b g)

mutual
/-- the key of a tree -/
def nkD : D → Option NestedKey
  | .non => some .none
  | .int i => some (.num i)
  | .str s => some (.text s)
  | .tup xs => match nkDs xs with
    | some ks => some (.tup ks)
    | none => none
  | .bl _ => none
  | .ty _ => none
  | .rol _ => none
  | .at _ => none
  | .ad _ => none
def nkDs : List D → Option (List NestedKey)
  | [] => some []
  | d :: ds => match nkD d, nkDs ds with
    | some k, some ks => some (k :: ks)
    | _, _ => none
end
/-- the entries of a dict with keys of trees -/
def DKs (K : Kw) (H : Hp) (μ : List Addr) : List (D × D) → List (NestedKey × Addr × Value) → Prop
  | [], xs => xs = []
  | (k, d) :: r, xs => ∃ nk b u v ys, xs = (nk, b, u) :: ys ∧ nkD k = some nk ∧ nk.depth ≤ 8 ∧ Rp K H μ k (.ref b) ∧ RelV v u ∧ Rp K H μ d v ∧ DKs K H μ r ys
theorem DKs.mono (e : Le K H μ H' μ') : ∀ {kvs : List (D × D)} {xs : List (NestedKey × Addr × Value)}, DKs K H μ kvs xs → DKs K H' μ' kvs xs
  | [], _, h => h
  | (k, d) :: r, _, ⟨nk, b, u, v, ys, h1, h2, h2', h3, h4, h5, h6⟩ => ⟨nk, b, u, v, ys, h1, h2, h2', Rp.mono e _ _ h3, h4, Rp.mono e _ _ h5, DKs.mono e h6⟩
def enN (w : World) (x : NestedKey × Addr × Value) : DictEntry := ⟨x.1.hash w, .ref x.2.1, x.2.2⟩
def NPhi (w : World) (a : Addr) (xs : List (NestedKey × Addr × Value)) : Heap → Prop := fun h => ∃ o es ep, h.get? a = some o ∧ o.ExactDict ∧ o.data = .dict es ep ∧ es.toList = xs.map (enN w)
/-- the object at a is what the number says -/
def Ok (K : Kw) (H : Hp) (μ : List Addr) (a : Addr) : O → Prop
  | .lst xs => ∃ vs, H a = some (.lst vs) ∧ Rps K H μ xs vs
  | .dct kvs => ∃ kw : List (Key × V), H a = some (.dK kw) ∧ kw.map (·.1) = kvs.map (·.1) ∧ Rps K H μ (kvs.map (·.2)) (kw.map (·.2))
  | .ins C fs => ∃ (dx : Addr) (fw : List (Str × V)), H a = some (.ins C dx fw) ∧ fw.map (·.1) = fs.map (fun p => nmN p.1) ∧ Rps K H μ (fs.map (·.2)) (fw.map (·.2))
  | .dcn kvs => ∃ xs : List (NestedKey × Addr × Value), H a = some (.ext (NPhi K.w a xs)) ∧ xs.length ≤ sizeLine ∧ (a == sysModules) = false ∧ (xs.map (·.1)).Nodup ∧ DKs K H μ kvs xs
theorem Ok.some {a : Addr} : ∀ {o : O}, Ok K H μ a o → ∃ u, H a = some u ∧ L2.Mut (Option.some u)
  | .lst _, ⟨vs, h, _⟩ => ⟨_, h, trivial⟩
  | .dct _, ⟨vs, h, _⟩ => ⟨_, h, trivial⟩
  | .ins _ _, ⟨_, _, h, _⟩ => ⟨_, h, trivial⟩
  | .dcn _, ⟨_, h, _⟩ => ⟨_, h, trivial⟩
theorem Ok.mono {a : Addr} (e : Le K H μ H' μ') (ha : H' a = H a) : ∀ {o : O}, Ok K H μ a o → Ok K H' μ' a o
  | .lst _, ⟨vs, h, r⟩ => ⟨vs, ha.trans h, Rps.mono e _ _ r⟩
  | .dct _, ⟨vs, h, k, r⟩ => ⟨vs, ha.trans h, k, Rps.mono e _ _ r⟩
  | .ins _ _, ⟨_, vs, h, k, r⟩ => ⟨_, vs, ha.trans h, k, Rps.mono e _ _ r⟩
  | .dcn _, ⟨xs, h, l, n, d, r⟩ => ⟨xs, ha.trans h, l, n, d, r.mono e⟩

structure Sm (Φ : Hp) (K : Kw) (H : Hp) (μ : List Addr) (h : Hd) : Prop where
  len : μ.length = h.length
  nd : ∀ (n m : Nat) (a : Addr), μ[n]? = some a → μ[m]? = some a → n = m
  ob : ∀ (n : Nat) (o : O), h[n]? = some o → ∃ a, μ[n]? = some a ∧ Ok K H μ a o
  fr : ∀ (a : Addr) (o : HO), Φ a = some o → H a = some o ∧ a ∉ μ
variable {h : Hd} {Φ : Hp}
theorem Sm.at (S : Sm Φ K H μ h) {n : Nat} {a : Addr} {o : O} (e : μ[n]? = some a) (g : h[n]? = some o) : Ok K H μ a o := by
  obtain ⟨b, e', k⟩ := S.ob n o g
  rw [e] at e'
  cases e'
  exact k
theorem Sm.has (S : Sm Φ K H μ h) {n : Nat} {a : Addr} (e : μ[n]? = some a) : ∃ u, H a = some u ∧ L2.Mut (Option.some u) := by
  have hn : n < h.length := by rw [← S.len]; exact (List.getElem?_eq_some_iff.mp e).1
  exact (S.at e (List.getElem?_eq_getElem hn)).some

/-- a thing laid anew that stands for itself (a tuple): all stays -/
theorem le_new {p : Addr} {o : HO} (hp : H p = none) : Le K H μ (upd H p o) μ := by
  refine ⟨⟨[], by simp⟩, fun q vs g => ?_, fun q vs g => ?_, fun q fs g => by rw [upd_ne (ne_of_none g hp)]; exact g⟩
  · rcases g with (g | ⟨ob, g⟩) | g
    · exact .inl (.inl (by rw [upd_ne (ne_of_none g hp)]; exact g))
    · exact .inl (.inr ⟨ob, by rw [upd_ne (ne_of_none g hp)]; exact g⟩)
    · exact .inr g
  · rcases g with ⟨ob, g⟩ | g
    · exact .inl ⟨ob, by rw [upd_ne (ne_of_none g hp)]; exact g⟩
    · exact .inr g
theorem Sm.new {p : Addr} {o : HO} (S : Sm Φ K H μ h) (hp : H p = none) : Sm Φ K (upd H p o) μ h := by
  refine ⟨S.len, S.nd, fun n u g => ?_, fun a o q => ?_⟩
  rotate_left
  · obtain ⟨q1, q2⟩ := S.fr a o q
    exact ⟨by rw [upd_ne (ne_of_none q1 hp)]; exact q1, q2⟩
  obtain ⟨a, e, k⟩ := S.ob n u g
  obtain ⟨x, hx, _⟩ := k.some
  exact ⟨a, e, k.mono (le_new hp) (upd_ne (ne_of_none hx hp))⟩
/-- a new object with a number of its own -/
theorem le_obj {p : Addr} {o : HO} (hp : H p = none) : Le K H μ (upd H p o) (μ ++ [p]) := by
  have e : Le K H μ (upd H p o) μ := le_new hp
  exact ⟨⟨[p], rfl⟩, e.tup, e.frz, e.xdt⟩
theorem Sm.obj {p : Addr} {o : HO} {u : O} (S : Sm Φ K H μ h) (hp : H p = none) (k : Ok K (upd H p o) (μ ++ [p]) p u) : Sm Φ K (upd H p o) (μ ++ [p]) (h ++ [u]) := by
  have np : ∀ n : Nat, μ[n]? ≠ some p := fun n e => by
    obtain ⟨x, hx, _⟩ := S.has e
    rw [hp] at hx
    cases hx
  refine ⟨by simp [S.len], fun n m a e1 e2 => ?_, fun n w g => ?_, fun a o q => ?_⟩
  rotate_left 2
  · obtain ⟨q1, q2⟩ := S.fr a o q
    refine ⟨by rw [upd_ne (ne_of_none q1 hp)]; exact q1, fun z => ?_⟩
    rcases List.mem_append.mp z with z | z
    · exact q2 z
    · rw [List.mem_singleton.mp z, hp] at q1
      cases q1
  · rw [List.getElem?_append] at e1 e2
    split at e1 <;> split at e2
    · exact S.nd n m a e1 e2
    · rename_i h1 h2
      have : a = p := by
        rw [List.getElem?_singleton] at e2
        split at e2 <;> simp_all
      subst this
      exact absurd e1 (np n)
    · rename_i h1 h2
      have : a = p := by
        rw [List.getElem?_singleton] at e1
        split at e1 <;> simp_all
      subst this
      exact absurd e2 (np m)
    · rename_i h1 h2
      rw [List.getElem?_singleton] at e1 e2
      split at e1 <;> split at e2 <;> simp_all
      omega
  · rw [List.getElem?_append] at g
    split at g
    · obtain ⟨a, e, kk⟩ := S.ob n w g
      obtain ⟨x, hx, _⟩ := kk.some
      refine ⟨a, ?_, kk.mono (le_obj hp) (upd_ne (ne_of_none hx hp))⟩
      exact (le_obj (K := K) (H := H) (o := o) hp).get e
    · rename_i hn
      rw [List.getElem?_singleton] at g
      split at g
      · rename_i h0
        cases g
        refine ⟨p, ?_, k⟩
        have : n = μ.length := by rw [S.len]; omega
        rw [this]
        simp
      · cases g
theorem obj_at {p : Addr} {n : Nat} (S : Sm Φ K H μ h) (hn : n = h.length) : (μ ++ [p])[n]? = some p := by
  rw [hn, ← S.len]; simp
/-- an object is changed -/
theorem le_set {a : Addr} {o : HO} (S : Sm Φ K H μ h) {n : Nat} (e : μ[n]? = some a) : Le K H μ (upd H a o) μ := by
  obtain ⟨x, hx, mu⟩ := S.has e
  refine ⟨⟨[], by simp⟩, fun q vs g => ?_, fun q vs g => ?_, fun q fs g => by rw [upd_ne (fun z => by subst z; rw [hx] at g; cases g; exact mu)]; exact g⟩
  · rcases g with (g | ⟨ob, g⟩) | g
    · exact .inl (.inl (by rw [upd_ne (fun z => by subst z; rw [hx] at g; cases g; exact mu)]; exact g))
    · exact .inl (.inr ⟨ob, by rw [upd_ne (fun z => by subst z; rw [hx] at g; cases g; exact mu)]; exact g⟩)
    · exact .inr g
  · rcases g with ⟨ob, g⟩ | g
    · exact .inl ⟨ob, by rw [upd_ne (fun z => by subst z; rw [hx] at g; cases g; exact mu)]; exact g⟩
    · exact .inr g
theorem Sm.set {a : Addr} {o : HO} {u : O} (S : Sm Φ K H μ h) {n : Nat} (e : μ[n]? = some a) (k : Ok K (upd H a o) μ a u) : Sm Φ K (upd H a o) μ (h.set n u) := by
  refine ⟨by rw [List.length_set, S.len], S.nd, fun m w g => ?_, fun b o q => ?_⟩
  rotate_left
  · obtain ⟨q1, q2⟩ := S.fr b o q
    exact ⟨by rw [upd_ne fun z => by subst z; exact q2 (List.mem_of_getElem? e)]; exact q1, q2⟩
  by_cases hm : m = n
  · subst hm
    have : w = u := by
      rw [List.getElem?_set] at g
      simp at g
      exact g.2.symm
    subst this
    exact ⟨a, e, k⟩
  · rw [List.getElem?_set_ne (fun z => hm z.symm)] at g
    obtain ⟨b, e', kk⟩ := S.ob m w g
    exact ⟨b, e', kk.mono (le_set S e) (upd_ne fun z => by subst z; exact hm (S.nd m n b e' e))⟩
end

/-! ### slots -/
def Rs (K : Kw) (H : Hp) (μ : List Addr) (sg : Sg) (σ : L2.St) : Prop :=
  sg.length = σ.length ∧ ∀ (i : Nat) (d : D), sg[i]? = some (some d) → ∃ v, σ[i]? = some (some v) ∧ Rp K H μ d v
section
variable {K : Kw} {H H' : Hp} {μ μ' : List Addr} {sg : Sg} {σ : L2.St}
theorem Rs.mono (e : Le K H μ H' μ') (r : Rs K H μ sg σ) : Rs K H' μ' sg σ := ⟨r.1, fun i d g => by
  obtain ⟨v, a, b⟩ := r.2 i d g
  exact ⟨v, a, Rp.mono e d v b⟩⟩
theorem Rs.put (r : Rs K H μ sg σ) (i : Nat) {d : D} {v : V} (g : Rp K H μ d v) : Rs K H μ (sg.set i (some d)) (σ.set i (some v)) := by
  refine ⟨by rw [List.length_set, List.length_set, r.1], fun j e q => ?_⟩
  by_cases hj : j = i
  · subst hj
    rw [List.getElem?_set] at q ⊢
    simp at q
    obtain ⟨q1, q2⟩ := q
    subst q2
    rw [if_pos rfl, if_pos (by rw [← r.1]; exact q1)]
    exact ⟨v, rfl, g⟩
  · rw [List.getElem?_set_ne (fun z => hj z.symm)] at q ⊢
    exact r.2 j e q
theorem Rs.del (r : Rs K H μ sg σ) (i : Nat) : Rs K H μ (sg.set i none) (σ.set i none) := by
  refine ⟨by rw [List.length_set, List.length_set, r.1], fun j e q => ?_⟩
  by_cases hj : j = i
  · subst hj
    rw [List.getElem?_set] at q
    simp at q
  · rw [List.getElem?_set_ne (fun z => hj z.symm)] at q ⊢
    exact r.2 j e q
end
def wipeD (sg : Sg) : List Nat → Sg
  | [] => sg
  | v :: vs => (wipeD sg vs).set v none
theorem Rs.wipe {K : Kw} {H : Hp} {μ : List Addr} {sg : Sg} {σ : L2.St} (r : Rs K H μ sg σ) : ∀ vs : List Nat, Rs K H μ (wipeD sg vs) (L2.wipe σ vs)
  | [] => r
  | v :: vs => (Rs.wipe r vs).del v
end DL

/-! DL2: the judgements over trees; names, constants, operators, displays, tests. -/
namespace DL
open PySem L2

abbrev ME := Sg → Hd → Option (D × Hd)
abbrev MT := Sg → Hd → Option (Bool × Hd)
abbrev MA := Sg → Hd → Option (List D × Hd)

/-- what follows holds wherever the value d and the objects h' are borne -/
abbrev Kn (Φ : Hp) (K : Kw) (H : Hp) (μ : List Addr) (h' : Hd) (d : D) (Q : VK) : Prop :=
  ∀ (v : V) (H' : Hp) (μ' : List Addr), Sm Φ K H' μ' h' → Le K H μ H' μ' → Rp K H' μ' d v → Q v H'
def SE (K : Kw) (t : TE) (m : ME) : Prop := ∀ {Φ : Hp} (σ : L2.St) (H : Hp) (μ : List Addr) (sg : Sg) (h : Hd) (d : D) (h' : Hd), Sm Φ K H μ h → Rs K H μ sg σ → m sg h = some (d, h') → ∀ Q : VK, Kn Φ K H μ h' d Q → t σ H Q
def ST (K : Kw) (t : TT) (m : MT) : Prop := ∀ {Φ : Hp} (σ : L2.St) (H : Hp) (μ : List Addr) (sg : Sg) (h : Hd) (b : Bool) (h' : Hd), Sm Φ K H μ h → Rs K H μ sg σ → m sg h = some (b, h') → ∀ Q : Bool → Hp → Prop,
  (∀ (H' : Hp) (μ' : List Addr), Sm Φ K H' μ' h' → Le K H μ H' μ' → Q b H') → t σ H Q
def SA (K : Kw) (t : TA) (m : MA) : Prop := ∀ {Φ : Hp} (σ : L2.St) (H : Hp) (μ : List Addr) (sg : Sg) (h : Hd) (ds : List D) (h' : Hd), Sm Φ K H μ h → Rs K H μ sg σ → m sg h = some (ds, h') → ∀ Q : List V → Hp → Prop,
  (∀ (vs : List V) (H' : Hp) (μ' : List Addr), Sm Φ K H' μ' h' → Le K H μ H' μ' → Rps K H' μ' ds vs → Q vs H') → t σ H Q

structure DE (K : Kw) (X : Cx) (e : Expr) (t : TE) (m : ME) : Prop where
  k : KOf X = K
  p : PE X e t
  s : SE K t m
structure DT (K : Kw) (X : Cx) (e : Expr) (t : TT) (m : MT) : Prop where
  k : KOf X = K
  p : PT X e t
  s : ST K t m
structure DW (K : Kw) (X : Cx) (e : Expr) (t : TT) (m : MT) : Prop where
  k : KOf X = K
  p : PW X e t
  s : ST K t m
structure DA (K : Kw) (X : Cx) (es : List Expr) (t : TA) (m : MA) : Prop where
  k : KOf X = K
  p : PA X es t
  s : SA K t m

/-! ### names, constants -/
def varM (i : Nat) : ME := fun sg h => match sg[i]? with
  | some (some d) => some (d, h)
  | _ => none
def cM (d : D) : ME := fun _ h => some (d, h)
section
variable {K : Kw} {X : Cx} {pos : Pos}
theorem se_var (i : Nat) : SE K (tVar i) (varM i) := by
  intro Φ σ H μ sg h d h' S r e Q k
  unfold varM at e
  split at e
  · rename_i d' q
    cases e
    obtain ⟨v, a, b⟩ := r.2 i d q
    exact ⟨v, a, k v H μ S Le.refl b⟩
  · cases e
theorem de_var (i : Nat) {x : Str} (hN : X.N[i]? = some x := by rfl) (hv : Vis X.env.scope x := by first | exact Or.inl rfl | exact Or.inr (Or.inl rfl) | exact Or.inr (Or.inr rfl))
    (hd : (x == ("__debug__" : Str)) = false := by decide) (hcd : (x == ("__classdict__" : Str)) = false := by decide) (hK : KOf X = K := by rfl) : DE K X (.Name x pos) (tVar i) (varM i) := ⟨hK, pe_var hN hv hd hcd, se_var i⟩
theorem se_c {d : D} {v : V} (hr : ∀ H μ, Rp K H μ d v) : SE K (tC v) (cM d) := by
  intro Φ σ H μ sg h d' h' S r e Q k
  cases e
  exact k v H μ S Le.refl (hr H μ)
theorem rp_int {H : Hp} {μ : List Addr} {i : Int} : Rp K H μ (.int i) (.int i) := by unfold Rp; rfl
theorem rp_bl {H : Hp} {μ : List Addr} {i : Bool} : Rp K H μ (.bl i) (.bl i) := by unfold Rp; rfl
theorem rp_str {H : Hp} {μ : List Addr} {i : Str} : Rp K H μ (.str i) (.str i) := by unfold Rp; rfl
theorem rp_non {H : Hp} {μ : List Addr} : Rp K H μ .non .non := by unfold Rp; rfl
theorem rp_ty {H : Hp} {μ : List Addr} {i : String} : Rp K H μ (.ty i) (.ty i) := by unfold Rp; rfl
theorem rp_tup {H : Hp} {μ : List Addr} {ds : List D} {p : Addr} {vs : List V} (h : SqT K H p vs) (r : Rps K H μ ds vs) : Rp K H μ (.tup ds) (.ref p) := by unfold Rp; exact ⟨p, vs, rfl, h, r⟩
theorem rp_at {H : Hp} {μ : List Addr} {n : Nat} {p : Addr} (h : μ[n]? = some p) : Rp K H μ (.at n) (.ref p) := by unfold Rp; exact ⟨p, h, rfl⟩
theorem rp_int' {H : Hp} {μ : List Addr} {i : Int} {v : V} (h : Rp K H μ (.int i) v) : v = .int i := by unfold Rp at h; exact h
theorem rp_bl' {H : Hp} {μ : List Addr} {i : Bool} {v : V} (h : Rp K H μ (.bl i) v) : v = .bl i := by unfold Rp at h; exact h
theorem rp_str' {H : Hp} {μ : List Addr} {i : Str} {v : V} (h : Rp K H μ (.str i) v) : v = .str i := by unfold Rp at h; exact h
theorem rp_non' {H : Hp} {μ : List Addr} {v : V} (h : Rp K H μ .non v) : v = .non := by unfold Rp at h; exact h
theorem rp_ty' {H : Hp} {μ : List Addr} {i : String} {v : V} (h : Rp K H μ (.ty i) v) : v = .ty i := by unfold Rp at h; exact h
theorem rp_tup' {H : Hp} {μ : List Addr} {ds : List D} {v : V} (h : Rp K H μ (.tup ds) v) : ∃ p vs, v = .ref p ∧ SqT K H p vs ∧ Rps K H μ ds vs := by unfold Rp at h; exact h
theorem rp_rol' {H : Hp} {μ : List Addr} {ds : List D} {v : V} (h : Rp K H μ (.rol ds) v) : ∃ p vs, v = .ref p ∧ SqF K H p vs ∧ Rps K H μ ds vs := by unfold Rp at h; exact h
theorem rp_ad' {a : Addr} {v : V} (r : Rp K H μ (.ad a) v) : v = .ref a := by unfold Rp at r; exact r
theorem rp_ad {a : Addr} : Rp K H μ (.ad a) (.ref a) := by unfold Rp; rfl
theorem rp_at' {H : Hp} {μ : List Addr} {n : Nat} {v : V} (h : Rp K H μ (.at n) v) : ∃ a, μ[n]? = some a ∧ v = .ref a := by unfold Rp at h; exact h
theorem de_int (hK : KOf X = K := by rfl) {i : Int} {j pos} : DE K X (.Constant (.int i) j pos) (tC (.int i)) (cM (.int i)) := ⟨hK, pe_int, se_c fun _ _ => rp_int⟩
theorem de_bl (hK : KOf X = K := by rfl) {i : Bool} {j pos} : DE K X (.Constant (.bool i) j pos) (tC (.bl i)) (cM (.bl i)) := ⟨hK, pe_bl, se_c fun _ _ => rp_bl⟩
theorem de_non (hK : KOf X = K := by rfl) {j pos} : DE K X (.Constant .none j pos) (tC .non) (cM .non) := ⟨hK, pe_non, se_c fun _ _ => rp_non⟩
theorem de_str (hK : KOf X = K := by rfl) {i : Str} {j pos} : DE K X (.Constant (.str i) j pos) (tC (.str i)) (cM (.str i)) := ⟨hK, pe_str, se_c fun _ _ => rp_str⟩
/-- a constant of the module -/
theorem de_glob {x : Str} {d : D} {v : V} {u : Value} (hm : X.mg x = some u) (rv : RelV v u) (hr : ∀ H μ, Rp K H μ d v) (hg : Gl X x := by rfl) (hd : (x == ("__debug__" : Str)) = false := by decide) (hK : KOf X = K := by rfl) :
    DE K X (.Name x pos) (tC v) (cM d) := ⟨hK, pe_glob hg hm rv hd, se_c hr⟩
/-- a built-in type -/
theorem de_ty {x : Str} {n : String} (hm : X.mg x = none) (hv : bootBuiltins x = some (.type n) := by decide +kernel) (hg : Gl X x := by rfl) (hn : x ≠ "__name__" := by decide) (hd : (x == ("__debug__" : Str)) = false := by decide) (hK : KOf X = K := by rfl) :
    DE K X (.Name x pos) (tC (.ty n)) (cM (.ty n)) := ⟨hK, pe_bltn hg hm hv rfl hn hd, se_c fun _ _ => rp_ty⟩
end

/-! ### operators by trees -/
abbrev G2 := D → D → Hd → Option (D × Hd)
def SO (K : Kw) (r : R2) (g : G2) : Prop := ∀ {Φ : Hp} (H : Hp) (μ : List Addr) (h : Hd) (x y : D) (v w : V) (d : D) (h' : Hd), Sm Φ K H μ h → Rp K H μ x v → Rp K H μ y w → g x y h = some (d, h') → ∀ Q : VK, Kn Φ K H μ h' d Q → r v w H Q
def opM (g : G2) (a b : ME) : ME := fun sg h => match a sg h with
  | some (x, h1) => match b sg h1 with
    | some (y, h2) => g x y h2
    | none => none
  | none => none
section
variable {K : Kw} {X : Cx} {pos : Pos} {a b c : Expr} {ta tb tc : TE} {ma mb mc : ME} {r : R2} {g : G2}
theorem se_op (hs : SO K r g) (ha : SE K ta ma) (hb : SE K tb mb) : SE K (tOp r ta tb) (opM g ma mb) := by
  intro Φ σ H μ sg h d h' S rs e Q k
  unfold opM at e
  split at e
  · rename_i x h1 e1
    split at e
    · rename_i y h2 e2
      refine ha σ H μ sg h x h1 S rs e1 _ fun v H1 μ1 S1 l1 r1 => ?_
      refine hb σ H1 μ1 sg h1 y h2 S1 (rs.mono l1) e2 _ fun w H2 μ2 S2 l2 r2 => ?_
      exact hs H2 μ2 h2 x y v w d h' S2 (Rp.mono l2 _ _ r1) r2 e Q fun z H3 μ3 S3 l3 r3 => k z H3 μ3 S3 ((l1.trans l2).trans l3) r3
    · cases e
  · cases e
theorem de_op {op : Operator} (hs : SO K r g) (ho : OpR X (binaryOp op) r) (ha : DE K X a ta ma) (hb : DE K X b tb mb) : DE K X (.BinOp a op b pos) (tOp r ta tb) (opM g ma mb) := ⟨ha.k, pe_op ho ha.p hb.p, se_op hs ha.s hb.s⟩
theorem de_cmp {op : CmpOp} (hs : SO K r g) (ho : OpR X (compareOp op) r) (ha : DE K X a ta ma) (hb : DE K X b tb mb) (hm : behindInMarks op b = false := by first | exact nobehind _ (by decide) (by decide) | rfl) : DE K X (.Compare a [op] [b] pos) (tOp r ta tb) (opM g ma mb) := ⟨ha.k, pe_cmpR ho ha.p hb.p hm, se_op hs ha.s hb.s⟩

def testM (m : ME) : MT := fun sg h => match m sg h with
  | some (.bl b, h') => some (b, h')
  | _ => none
theorem st_test (ha : SE K ta ma) : ST K (tTest ta) (testM ma) := by
  intro Φ σ H μ sg h b h' S rs e Q k
  unfold testM at e
  split at e
  · rename_i b' h1 e1
    cases e
    refine ha σ H μ sg h _ _ S rs e1 _ fun v H1 μ1 S1 l1 r1 => ⟨b, rp_bl' r1, k H1 μ1 S1 l1⟩
  · cases e
theorem dt_cmp {op : CmpOp} (hs : SO K r g) (ho : OpR X (compareOp op) r) (ha : DE K X a ta ma) (hb : DE K X b tb mb) (hm : behindInMarks op b = false := by first | exact nobehind _ (by decide) (by decide) | rfl) :
    DT K X (.Compare a [op] [b] pos) (tTest (tOp r ta tb)) (testM (opM g ma mb)) := ⟨ha.k, pt_cmpR ho ha.p hb.p hm, st_test (se_op hs ha.s hb.s)⟩
/-- a op b op' c -/
def chainM (g g' : G2) (a b c : ME) : ME := fun sg h => match a sg h with
  | some (x, h1) => match b sg h1 with
    | some (y, h2) => match g x y h2 with
      | some (.bl true, h3) => match c sg h3 with
        | some (z, h4) => g' y z h4
        | none => none
      | some (.bl false, h3) => some (.bl false, h3)
      | _ => none
    | none => none
  | none => none
theorem se_chain {r' : R2} {g' : G2} (hs : SO K r g) (hs' : SO K r' g') (ha : SE K ta ma) (hb : SE K tb mb) (hc : SE K tc mc) : SE K (tChain r r' ta tb tc) (chainM g g' ma mb mc) := by
  intro Φ σ H μ sg h d h' S rs e Q k
  unfold chainM at e
  split at e
  · rename_i x h1 e1
    split at e
    · rename_i y h2 e2
      refine ha σ H μ sg h x h1 S rs e1 _ fun v H1 μ1 S1 l1 r1 => ?_
      refine hb σ H1 μ1 sg h1 y h2 S1 (rs.mono l1) e2 _ fun w H2 μ2 S2 l2 r2 => ?_
      split at e
      · rename_i h3 e3
        refine hs H2 μ2 h2 x y v w _ _ S2 (Rp.mono l2 _ _ r1) r2 e3 _ fun z H3 μ3 S3 l3 r3 => ?_
        refine ⟨true, rp_bl' r3, iteT ?_⟩
        split at e
        · rename_i z' h4 e4
          refine hc σ H3 μ3 sg h3 z' h4 S3 (rs.mono ((l1.trans l2).trans l3)) e4 _ fun w' H4 μ4 S4 l4 r4 => ?_
          exact hs' H4 μ4 h4 y z' w w' d h' S4 (Rp.mono (l3.trans l4) _ _ r2) r4 e Q fun u H5 μ5 S5 l5 r5 => k u H5 μ5 S5 ((((l1.trans l2).trans l3).trans l4).trans l5) r5
        · cases e
      · rename_i h3 e3
        cases e
        refine hs H2 μ2 h2 x y v w _ _ S2 (Rp.mono l2 _ _ r1) r2 e3 _ fun z H3 μ3 S3 l3 r3 => ?_
        exact ⟨false, rp_bl' r3, iteF (k _ H3 μ3 S3 ((l1.trans l2).trans l3) rp_bl)⟩
      · cases e
    · cases e
  · cases e
theorem de_chain {op op' : CmpOp} {r' : R2} {g' : G2} (hs : SO K r g) (ho : OpR X (compareOp op) r) (hs' : SO K r' g') (ho' : OpR X (compareOp op') r') (ha : DE K X a ta ma) (hb : DE K X b tb mb) (hc : DE K X c tc mc)
    (hm : lastMarks [op, op'] [b, c] = false := by with_unfolding_all rfl) : DE K X (.Compare a [op, op'] [b, c] pos) (tChain r r' ta tb tc) (chainM g g' ma mb mc) := ⟨ha.k, pe_chain ho ho' ha.p hb.p hc.p hm, se_chain hs hs' ha.s hb.s hc.s⟩
theorem dt_chain {op op' : CmpOp} {r' : R2} {g' : G2} (hs : SO K r g) (ho : OpR X (compareOp op) r) (hs' : SO K r' g') (ho' : OpR X (compareOp op') r') (ha : DE K X a ta ma) (hb : DE K X b tb mb) (hc : DE K X c tc mc)
    (hm : lastMarks [op, op'] [b, c] = false := by with_unfolding_all rfl) : DT K X (.Compare a [op, op'] [b, c] pos) (tTest (tChain r r' ta tb tc)) (testM (chainM g g' ma mb mc)) := ⟨ha.k, pt_chain ho ho' ha.p hb.p hc.p hm, st_test (se_chain hs hs' ha.s hb.s hc.s)⟩
end

/-! ### laying new things -/
section
variable {K : Kw} {H : Hp} {μ : List Addr} {h : Hd} {Q : VK}
theorem kn_tup {ds : List D} {vs : List V} (S : Sm Φ K H μ h) (r : Rps K H μ ds vs) (k : Kn Φ K H μ h (.tup ds) Q) (p : Addr) (hp : H p = none) : Q (.ref p) (upd H p (.tup vs)) := by
  have l : Le K H μ (upd H p (.tup vs)) μ := le_new hp
  exact k _ _ μ (S.new hp) l (rp_tup (SqT.of upd_same) (Rps.mono l _ _ r))
theorem kn_lst {ds : List D} {vs : List V} (S : Sm Φ K H μ h) (r : Rps K H μ ds vs) (k : Kn Φ K H μ (h ++ [.lst ds]) (.at h.length) Q) (p : Addr) (hp : H p = none) : Q (.ref p) (upd H p (.lst vs)) := by
  have l : Le K H μ (upd H p (.lst vs)) (μ ++ [p]) := le_obj hp
  exact k (.ref p) (upd H p (.lst vs)) (μ ++ [p]) (S.obj hp ⟨vs, upd_same, Rps.mono l _ _ r⟩) l (rp_at (obj_at S rfl))
theorem kn_set {ds : List D} {vs : List V} {n : Nat} {a : Addr} {d : D} {v : V} (S : Sm Φ K H μ h) (e : μ[n]? = some a) (r : Rps K H μ ds vs) (rd : Rp K H μ d v) (k : Kn Φ K H μ (h.set n (.lst ds)) d Q) : Q v (upd H a (.lst vs)) := by
  have l : Le K H μ (upd H a (.lst vs)) μ := le_set S e
  exact k _ _ μ (S.set e ⟨vs, upd_same, Rps.mono l _ _ r⟩) l (Rp.mono l _ _ rd)
/-- a list's, a tuple's items -/
theorem Sm.lst {n : Nat} {xs : List D} {a : Addr} (S : Sm Φ K H μ h) (e : h[n]? = some (.lst xs)) (ea : μ[n]? = some a) : ∃ vs, H a = some (.lst vs) ∧ Rps K H μ xs vs := S.at ea e
end

/-- the items of a sequence -/
def seqD (h : Hd) : D → Option (List D)
  | .tup xs => some xs
  | .rol xs => some xs
  | .at n => match h[n]? with
    | some (.lst xs) => some xs
    | _ => none
  | _ => none
theorem seq_of {K : Kw} {H : Hp} {μ : List Addr} {h : Hd} {d : D} {v : V} {xs : List D} (S : Sm Φ K H μ h) (r : Rp K H μ d v) (e : seqD h d = some xs) :
    ∃ p vs, v = .ref p ∧ (SqL K H p vs ∨ SqT K H p vs) ∧ Rps K H μ xs vs := by
  unfold seqD at e
  split at e
  · cases e
    obtain ⟨p, vs, a, b, c⟩ := rp_tup' r
    exact ⟨p, vs, a, .inr b, c⟩
  · cases e
    obtain ⟨p, vs, a, b, c⟩ := rp_rol' r
    exact ⟨p, vs, a, .inl b.l, c⟩
  · rename_i n
    split at e
    · rename_i ys q
      cases e
      obtain ⟨a, ea, rfl⟩ := rp_at' r
      obtain ⟨vs, b, c⟩ := S.lst q ea
      exact ⟨a, vs, rfl, .inl (.of b), c⟩
    · cases e
  · cases e
abbrev LN : Nat := 16777216
theorem ln_of {n : Nat} (h : n ≤ LN) : n ≤ sizeLine := by rw [sizeLine_eq]; exact h

/-! ### displays -/
section
variable {K : Kw} {X : Cx} {pos : Pos} {e : Expr} {es : List Expr} {te : TE} {ta : TA} {me : ME} {ma : MA}
def nilM : MA := fun _ h => some ([], h)
def consM (a : ME) (b : MA) : MA := fun sg h => match a sg h with
  | some (x, h1) => match b sg h1 with
    | some (xs, h2) => some (x :: xs, h2)
    | none => none
  | none => none
theorem da_nil (hK : KOf X = K := by rfl) : DA K X [] tNil nilM := ⟨hK, pa_nil, fun {Φ} σ H μ sg h ds h' S r e Q k => by cases e; exact k [] H μ S Le.refl Rps.nil⟩
theorem sa_cons (ha : SE K te me) (hb : SA K ta ma) : SA K (tCons te ta) (consM me ma) := by
  intro Φ σ H μ sg h ds h' S rs e Q k
  unfold consM at e
  split at e
  · rename_i x h1 e1
    split at e
    · rename_i xs h2 e2
      cases e
      refine ha σ H μ sg h x h1 S rs e1 _ fun v H1 μ1 S1 l1 r1 => ?_
      refine hb σ H1 μ1 sg h1 xs _ S1 (rs.mono l1) e2 _ fun vs H2 μ2 S2 l2 r2 => ?_
      exact k _ H2 μ2 S2 (l1.trans l2) (Rps.cons (Rp.mono l2 _ _ r1) r2)
    · cases e
  · cases e
theorem da_cons (ha : DE K X e te me) (hb : DA K X es ta ma) (hs : starEach (e :: es) X.env = (false, eval e X.env) :: starEach es X.env := by rfl) : DA K X (e :: es) (tCons te ta) (consM me ma) := ⟨ha.k, pa_cons ha.p hb.p hs, sa_cons ha.s hb.s⟩
def tupM (a : MA) : ME := fun sg h => match a sg h with
  | some (xs, h1) => if xs.length ≤ LN then some (.tup xs, h1) else none
  | none => none
def lstM (a : MA) : ME := fun sg h => match a sg h with
  | some (xs, h1) => if xs.length ≤ LN then some (.at h1.length, h1 ++ [.lst xs]) else none
  | none => none
theorem de_tup {x1} (ha : DA K X es ta ma) : DE K X (.Tuple es x1 pos) (tTup ta) (tupM ma) := ⟨ha.k, pe_tup ha.p, by
  intro Φ σ H μ sg h d h' S rs e Q k
  unfold tupM at e
  split at e
  · rename_i xs h1 e1
    split at e
    · rename_i hz
      cases e
      refine ha.s σ H μ sg h xs _ S rs e1 _ fun vs H1 μ1 S1 l1 r1 => ⟨by rw [r1.len]; exact ln_of hz, fun p hp => kn_tup S1 r1 (fun v H2 μ2 S2 l2 r2 => k v H2 μ2 S2 (l1.trans l2) r2) p hp⟩
    · cases e
  · cases e⟩
theorem de_lst (ha : DA K X es ta ma) : DE K X (.List es pos) (tLst ta) (lstM ma) := ⟨ha.k, pe_lst ha.p, by
  intro Φ σ H μ sg h d h' S rs e Q k
  unfold lstM at e
  split at e
  · rename_i xs h1 e1
    split at e
    · rename_i hz
      cases e
      refine ha.s σ H μ sg h xs _ S rs e1 _ fun vs H1 μ1 S1 l1 r1 => ⟨by rw [r1.len]; exact ln_of hz, fun p hp => kn_lst S1 r1 (fun v H2 μ2 S2 l2 r2 => k v H2 μ2 S2 (l1.trans l2) r2) p hp⟩
    · cases e
  · cases e⟩
end

/-! ### truth, and, or, not, if -/
def truD (h : Hd) : D → Option Bool
  | .non => some false
  | .bl b => some b
  | .int i => some (i != 0)
  | .str s => if s.length ≤ LN then some ((s.length : Int) != 0) else none
  | .tup xs => some (!xs.isEmpty)
  | .rol xs => some (!xs.isEmpty)
  | .at n => match h[n]? with
    | some (.lst xs) => some (!xs.isEmpty)
    | some (.dct kvs) => some (!kvs.isEmpty)
    | _ => none
  | .ty _ => none
  | .ad _ => none
theorem emp_of {K : Kw} {H : Hp} {μ : List Addr} {ds : List D} {vs : List V} (r : Rps K H μ ds vs) : (!ds.isEmpty) = !vs.isEmpty := by
  cases ds with
  | nil => rw [r.nil']; rfl
  | cons d ds =>
    obtain ⟨v, vs', rfl, _, _⟩ := r.cons'
    rfl
theorem tru_of {K : Kw} {H : Hp} {μ : List Addr} {h : Hd} {d : D} {v : V} {b : Bool} (S : Sm Φ K H μ h) (r : Rp K H μ d v) (e : truD h d = some b) : TruV K v H b := by
  unfold truD at e
  split at e
  · cases e; rw [rp_non' r]; rfl
  · cases e; rw [rp_bl' r]; rfl
  · cases e; rw [rp_int' r]; rfl
  · split at e
    · rename_i hz
      cases e; rw [rp_str' r]; exact ⟨ln_of hz, rfl⟩
    · cases e
  · cases e
    obtain ⟨p, vs, rfl, b, c⟩ := rp_tup' r
    exact .inr (.inl ⟨vs, b, emp_of c⟩)
  · cases e
    obtain ⟨p, vs, rfl, b, c⟩ := rp_rol' r
    exact .inl ⟨vs, b.l, emp_of c⟩
  · rename_i n
    obtain ⟨a, ea, rfl⟩ := rp_at' r
    split at e
    · rename_i xs q
      cases e
      obtain ⟨vs, b, c⟩ := S.lst q ea
      exact .inl ⟨vs, .of b, emp_of c⟩
    · rename_i kvs q
      cases e
      obtain ⟨kw, b, c1, c2⟩ : Ok K H μ a (.dct kvs) := S.at ea q
      refine .inr (.inr ⟨kw, b, ?_⟩)
      cases kw <;> cases kvs <;> simp_all
    · cases e
  · cases e
  · cases e
section
variable {K : Kw} {X : Cx} {pos : Pos} {a b c : Expr} {rest : List Expr} {ta tb : TE} {ma mb : ME} {tA tB' : TT} {mA mB : MT}
def andM (a b : ME) : ME := fun sg h => match a sg h with
  | some (x, h1) => match truD h1 x with
    | some true => b sg h1
    | some false => some (x, h1)
    | none => none
  | none => none
def orM (a b : ME) : ME := fun sg h => match a sg h with
  | some (x, h1) => match truD h1 x with
    | some true => some (x, h1)
    | some false => b sg h1
    | none => none
  | none => none
def notM (a : ME) : ME := fun sg h => match a sg h with
  | some (x, h1) => match truD h1 x with
    | some b => some (.bl (!b), h1)
    | none => none
  | none => none
theorem de_one {op : BoolOp} (ha : DE K X a ta ma) : DE K X (.BoolOp op [a] pos) ta ma := ⟨ha.k, pe_one ha.p, ha.s⟩
theorem de_and (ha : DE K X a ta ma) (hb : DE K X (.BoolOp .And (b :: rest) pos) tb mb) : DE K X (.BoolOp .And (a :: b :: rest) pos) (tAndT K ta tb) (andM ma mb) := ⟨ha.k, by
  have hk := ha.k
  subst hk
  exact pe_andT ha.p hb.p, by
  intro Φ σ H μ sg h d h' S rs e Q k
  unfold andM at e
  split at e
  · rename_i x h1 e1
    refine ha.s σ H μ sg h x h1 S rs e1 _ fun v H1 μ1 S1 l1 r1 => ?_
    split at e
    · rename_i et
      exact ⟨true, tru_of S1 r1 et, iteT (hb.s σ H1 μ1 sg h1 d h' S1 (rs.mono l1) e Q fun u H2 μ2 S2 l2 r2 => k u H2 μ2 S2 (l1.trans l2) r2)⟩
    · rename_i et
      cases e
      exact ⟨false, tru_of S1 r1 et, iteF (k v H1 μ1 S1 l1 r1)⟩
    · cases e
  · cases e⟩
theorem de_or (ha : DE K X a ta ma) (hb : DE K X (.BoolOp .Or (b :: rest) pos) tb mb) : DE K X (.BoolOp .Or (a :: b :: rest) pos) (tOrT K ta tb) (orM ma mb) := ⟨ha.k, by
  have hk := ha.k
  subst hk
  exact pe_orT ha.p hb.p, by
  intro Φ σ H μ sg h d h' S rs e Q k
  unfold orM at e
  split at e
  · rename_i x h1 e1
    refine ha.s σ H μ sg h x h1 S rs e1 _ fun v H1 μ1 S1 l1 r1 => ?_
    split at e
    · rename_i et
      cases e
      exact ⟨true, tru_of S1 r1 et, iteT (k v H1 μ1 S1 l1 r1)⟩
    · rename_i et
      exact ⟨false, tru_of S1 r1 et, iteF (hb.s σ H1 μ1 sg h1 d h' S1 (rs.mono l1) e Q fun u H2 μ2 S2 l2 r2 => k u H2 μ2 S2 (l1.trans l2) r2)⟩
    · cases e
  · cases e⟩
theorem de_not (ha : DE K X a ta ma) : DE K X (.UnaryOp .Not a pos) (tNotT K ta) (notM ma) := ⟨ha.k, by
  have hk := ha.k
  subst hk
  exact pe_notT ha.p, by
  intro Φ σ H μ sg h d h' S rs e Q k
  unfold notM at e
  split at e
  · rename_i x h1 e1
    refine ha.s σ H μ sg h x h1 S rs e1 _ fun v H1 μ1 S1 l1 r1 => ?_
    split at e
    · rename_i b et
      cases e
      exact ⟨b, tru_of S1 r1 et, k _ H1 μ1 S1 l1 rp_bl⟩
    · cases e
  · cases e⟩
/-- tests -/
def truM (a : ME) : MT := fun sg h => match a sg h with
  | some (x, h1) => match truD h1 x with
    | some b => some (b, h1)
    | none => none
  | none => none
def tTru (K : Kw) (ta : TE) : TT := fun σ H Q => ta σ H fun x H' => ∃ k, TruV K x H' k ∧ Q k H'
theorem dt_tru (ha : DE K X a ta ma) (he : ∀ whole, isTrue a X.env whole = (do let v ← whole; standAt a.pos; holding [v] (truthy v)) := by intro _; rfl) : DT K X a (tTru K ta) (truM ma) := ⟨ha.k, by
  have hk := ha.k
  subst hk
  exact pt_truth ha.p he, by
  intro Φ σ H μ sg h d h' S rs e Q k
  unfold truM at e
  split at e
  · rename_i x h1 e1
    refine ha.s σ H μ sg h x h1 S rs e1 _ fun v H1 μ1 S1 l1 r1 => ?_
    split at e
    · rename_i b et
      cases e
      exact ⟨d, tru_of S1 r1 et, k H1 μ1 S1 l1⟩
    · cases e
  · cases e⟩
def tandM (a b : MT) : MT := fun sg h => match a sg h with
  | some (true, h1) => b sg h1
  | some (false, h1) => some (false, h1)
  | none => none
def torM (a b : MT) : MT := fun sg h => match a sg h with
  | some (true, h1) => some (true, h1)
  | some (false, h1) => b sg h1
  | none => none
def tnotM (a : MT) : MT := fun sg h => match a sg h with
  | some (b, h1) => some (!b, h1)
  | none => none
theorem dw_and1 (ha : DT K X a tA mA) : DW K X (.BoolOp .And [a] pos) tA mA := ⟨ha.k, pw_and1 ha.p, ha.s⟩
theorem dw_or1 (ha : DT K X a tA mA) : DW K X (.BoolOp .Or [a] pos) tA mA := ⟨ha.k, pw_or1 ha.p, ha.s⟩
theorem dw_and (ha : DT K X a tA mA) (hb : DW K X (.BoolOp .And (b :: rest) pos) tB' mB) : DW K X (.BoolOp .And (a :: b :: rest) pos) (tAnd tA tB') (tandM mA mB) := ⟨ha.k, pw_and ha.p hb.p, by
  intro Φ σ H μ sg h d h' S rs e Q k
  unfold tandM at e
  split at e
  · rename_i h1 e1
    exact ha.s σ H μ sg h _ h1 S rs e1 _ fun H1 μ1 S1 l1 => iteT (hb.s σ H1 μ1 sg h1 d h' S1 (rs.mono l1) e Q fun H2 μ2 S2 l2 => k H2 μ2 S2 (l1.trans l2))
  · rename_i h1 e1
    cases e
    exact ha.s σ H μ sg h _ _ S rs e1 _ fun H1 μ1 S1 l1 => iteF (k H1 μ1 S1 l1)
  · cases e⟩
theorem dw_or (ha : DT K X a tA mA) (hb : DW K X (.BoolOp .Or (b :: rest) pos) tB' mB) : DW K X (.BoolOp .Or (a :: b :: rest) pos) (tOr tA tB') (torM mA mB) := ⟨ha.k, pw_or ha.p hb.p, by
  intro Φ σ H μ sg h d h' S rs e Q k
  unfold torM at e
  split at e
  · rename_i h1 e1
    cases e
    exact ha.s σ H μ sg h _ _ S rs e1 _ fun H1 μ1 S1 l1 => iteT (k H1 μ1 S1 l1)
  · rename_i h1 e1
    exact ha.s σ H μ sg h _ h1 S rs e1 _ fun H1 μ1 S1 l1 => iteF (hb.s σ H1 μ1 sg h1 d h' S1 (rs.mono l1) e Q fun H2 μ2 S2 l2 => k H2 μ2 S2 (l1.trans l2))
  · cases e⟩
theorem dt_w (h : DW K X a tA mA) : DT K X a tA mA := ⟨h.k, h.p.pt, h.s⟩
theorem dt_not (ha : DT K X a tA mA) : DT K X (.UnaryOp .Not a pos) (tNot tA) (tnotM mA) := ⟨ha.k, pt_not ha.p, by
  intro Φ σ H μ sg h d h' S rs e Q k
  unfold tnotM at e
  split at e
  · rename_i b h1 e1
    cases e
    exact ha.s σ H μ sg h _ _ S rs e1 _ fun H1 μ1 S1 l1 => k H1 μ1 S1 l1
  · cases e⟩
def ifM (c : MT) (a b : ME) : ME := fun sg h => match c sg h with
  | some (true, h1) => a sg h1
  | some (false, h1) => b sg h1
  | none => none
theorem de_if (hc : DT K X c tA mA) (ha : DE K X a ta ma) (hb : DE K X b tb mb) : DE K X (.IfExp c a b pos) (tIf tA ta tb) (ifM mA ma mb) := ⟨ha.k, pe_ifExp hc.p ha.p hb.p, by
  intro Φ σ H μ sg h d h' S rs e Q k
  unfold ifM at e
  split at e
  · rename_i h1 e1
    exact hc.s σ H μ sg h _ h1 S rs e1 _ fun H1 μ1 S1 l1 => iteT (ha.s σ H1 μ1 sg h1 d h' S1 (rs.mono l1) e Q fun v H2 μ2 S2 l2 r2 => k v H2 μ2 S2 (l1.trans l2) r2)
  · rename_i h1 e1
    exact hc.s σ H μ sg h _ h1 S rs e1 _ fun H1 μ1 S1 l1 => iteF (hb.s σ H1 μ1 sg h1 d h' S1 (rs.mono l1) e Q fun v H2 μ2 S2 l2 r2 => k v H2 μ2 S2 (l1.trans l2) r2)
  · cases e⟩
end
end DL

/-! DL3: + - * // % ** -x, comparisons, ==, in. -/
namespace DL
open PySem L2 PySem.Spec PyProof.Rows

section
variable {K : Kw} {X : Cx}
/-! ### + -/
def addD : G2 := fun x y h => match x, y with
  | .int i, .int j => some (.int (i + j), h)
  | .str a, .str b => if a.length + b.length ≤ LN then some (.str (a ++ b), h) else none
  | .tup a, .tup b => if a.length + b.length ≤ LN then some (.tup (a ++ b), h) else none
  | .at a, .at b => match h[a]?, h[b]? with
    | some (.lst xs), some (.lst ys) => if xs.length + ys.length ≤ LN then some (.at h.length, h ++ [.lst (xs ++ ys)]) else none
    | _, _ => none
  | .rol xs, .at b => match h[b]? with
    | some (.lst ys) => if xs.length + ys.length ≤ LN then some (.at h.length, h ++ [.lst (xs ++ ys)]) else none
    | _ => none
  | _, _ => none
def rAddS : R2 := fun x y H Q => ∃ i j, x = .str i ∧ y = .str j ∧ i.length + j.length ≤ sizeLine ∧ Q (.str (i ++ j)) H
/-- list + list, also of one that nobody writes at -/
def rCatL (K : Kw) : R2 := fun x y H Q => ∃ l b xs zs, x = .ref l ∧ y = .ref b ∧ SqL K H l xs ∧ SqL K H b zs ∧ xs.length + zs.length ≤ sizeLine ∧ ∀ p, H p = none → Q (.ref p) (upd H p (.lst (xs ++ zs)))
theorem op_catL : OpR X (binaryOp .Add) (rCatL (KOf X)) := by
  intro pins s σ H x y v u Q I rx ry h
  obtain ⟨l, b, xs, zs, rfl, rfl, hH, hB, hz, q⟩ := h
  cases rx
  cases ry
  obtain ⟨its, r, pl, h1⟩ := I.list hH
  obtain ⟨its2, r2, pl2, h2⟩ := I.list hB
  have hl := r.length
  have hl2 := r2.length
  obtain ⟨⟨cls, dd, data, sl⟩, ho, hc, n, hd⟩ := pl.isList
  obtain ⟨⟨cls2, dd2, data2, sl2⟩, ho2, hc2, n2, hd2⟩ := pl2.isList
  simp only at hc hd hc2 hd2
  subst hc hd hc2 hd2
  have e : its.toArray ++ its2.toArray = (its ++ its2).toArray := by simp
  refine concat_meets ⟨_, ho, rfl⟩ ⟨_, ho2, rfl⟩ noFill_list_add seq_list_add PySem.F.slot_list_add PySem.F.entry_list_add (PySem.F.args_list_add_2 _ _) (list_addW l b its.toArray its2.toArray n n2 dd dd2 sl sl2 (by simp only [List.size_toArray]; omega)) ⟨ho, ho2, ?_⟩
  rw [e]
  exact ⟨.ref _, _, I.lnew (t' := s.toks) (r.append r2) (by rw [List.length_append]; omega), rfl, q _ I.fresh⟩
def rAddU (K : Kw) : R2 := fun x y H Q => rI0 (fun i j => .int (i + j)) x y H Q ∨ rAddS x y H Q ∨ rCatA K x y H Q ∨ rCatL K x y H Q
theorem op_addU (hK : KOf X = K := by rfl) : OpR X (binaryOp .Add) (rAddU K) := by
  subst hK
  exact op_add.or (OpR.or (r := rAddS) op_add_str (op_catA.or op_catL))
theorem so_add : SO K (rAddU K) addD := by
  intro Φ H μ h x y v w d h' S r1 r2 e Q k
  unfold addD at e
  split at e
  · cases e
    exact .inl ⟨_, _, rp_int' r1, rp_int' r2, k _ H μ S Le.refl rp_int⟩
  · split at e
    · rename_i hz
      cases e
      exact .inr (.inl ⟨_, _, rp_str' r1, rp_str' r2, ln_of hz, k _ H μ S Le.refl rp_str⟩)
    · cases e
  · split at e
    · rename_i a b hz
      cases e
      obtain ⟨p, vs, rfl, q1, q2⟩ := rp_tup' r1
      obtain ⟨p2, vs2, rfl, q3, q4⟩ := rp_tup' r2
      refine .inr (.inr (.inl ⟨p, p2, vs, vs2, rfl, rfl, q1, q3, by rw [q2.len, q4.len]; exact ln_of hz, fun z => ?_, fun z z2 => ?_, fun z z2 p3 hp => ?_⟩))
      · subst z
        have ha : a = [] := by
          cases a with
          | nil => rfl
          | cons a1 a2 => obtain ⟨_, _, z, _⟩ := q2.cons'; cases z
        subst ha
        exact k _ H μ S Le.refl r2
      · subst z2
        have hb : b = [] := by
          cases b with
          | nil => rfl
          | cons a1 a2 => obtain ⟨_, _, z, _⟩ := q4.cons'; cases z
        subst hb
        exact k _ H μ S Le.refl (by rw [List.append_nil]; exact r1)
      · exact kn_tup S (q2.app q4) k p3 hp
    · cases e
  · split at e
    · rename_i a b xs ys e1 e2
      split at e
      · rename_i hz
        cases e
        obtain ⟨p, ea, rfl⟩ := rp_at' r1
        obtain ⟨p2, eb, rfl⟩ := rp_at' r2
        obtain ⟨vs, q1, q2⟩ := S.lst e1 ea
        obtain ⟨vs2, q3, q4⟩ := S.lst e2 eb
        exact .inr (.inr (.inr ⟨p, p2, vs, vs2, rfl, rfl, .of q1, .of q3, by rw [q2.len, q4.len]; exact ln_of hz, fun p3 hp => kn_lst S (q2.app q4) k p3 hp⟩))
      · cases e
    · cases e
  · split at e
    · rename_i xs b ys e2
      split at e
      · rename_i hz
        cases e
        obtain ⟨p, vs, rfl, q1, q2⟩ := rp_rol' r1
        obtain ⟨p2, eb, rfl⟩ := rp_at' r2
        obtain ⟨vs2, q3, q4⟩ := S.lst e2 eb
        exact .inr (.inr (.inr ⟨p, p2, vs, vs2, rfl, rfl, q1.l, .of q3, by rw [q2.len, q4.len]; exact ln_of hz, fun p3 hp => kn_lst S (q2.app q4) k p3 hp⟩))
      · cases e
    · cases e
  · cases e
/-! ### ints: - * // % ** -/
def subD : G2 := fun x y h => match x, y with
  | .int i, .int j => some (.int (i - j), h)
  | _, _ => none
theorem so_sub : SO K (rI0 fun i j => .int (i - j)) subD := by
  intro Φ H μ h x y v w d h' S r1 r2 e Q k
  unfold subD at e
  split at e
  · cases e
    exact ⟨_, _, rp_int' r1, rp_int' r2, k _ H μ S Le.refl rp_int⟩
  · cases e
/-- the text x, n times -/
def repS (x : Str) (n : Nat) : Str := ⟨(List.replicate n x.cps.toList).flatten.toArray⟩
def rMulS : R2 := fun x y H Q => ∃ (z : Str) (n : Int), x = .str z ∧ y = .int n ∧ 0 ≤ n ∧ n ≤ 1000000 ∧ z.length * n.toNat ≤ LN ∧ Q (.str (repS z n.toNat)) H
theorem foldl_repN (l : List Nat) : ∀ (k : Nat) (acc : List Nat), List.foldl (fun x1 x2 => x1 ++ x2) acc.toArray (List.replicate k l.toArray) = (acc ++ (List.replicate k l).flatten).toArray
  | 0, acc => by simp
  | k + 1, acc => by
    have e : acc.toArray ++ l.toArray = (acc ++ l).toArray := by simp
    have e2 : (acc ++ l) ++ (List.replicate k l).flatten = acc ++ (List.replicate (k + 1) l).flatten := by
      rw [List.replicate_succ, List.flatten_cons, List.append_assoc]
    rw [← e2, ← foldl_repN l k (acc ++ l), ← e, List.replicate_succ, List.foldl_cons]
theorem op_mulS : OpR X (binaryOp .Mult) rMulS := by
  intro pins s σ H x y v u Q I rx ry h
  obtain ⟨z, n, rfl, rfl, h0, h1, hz, q⟩ := h
  obtain ⟨t, rfl⟩ := rx
  obtain ⟨t', rfl⟩ := ry
  refine P.mul_str (by
      have h2 : ¬ n ≥ 2 ^ 63 := by omega
      have h3 : ¬ n < -(2 ^ 63 : Int) := by omega
      rw [decide_eq_false h2, decide_eq_false h3]; rfl) (fun c1 _ => ?_) (fun _ _ => ?_) ?_
  · have hp : 0 < n := by omega
    have : (z.length : Int) * n ≤ 2 ^ 63 - 1 := by
      have e : (z.length : Int) * n = ((z.length * n.toNat : Nat) : Int) := by
        rw [Int.natCast_mul]
        congr 1
        omega
      rw [e]
      have : (z.length * n.toNat : Nat) ≤ 16777216 := hz
      omega
    have := (Int.le_ediv_iff_mul_le hp).mpr this
    omega
  · unfold Builtin.Str.tooLong
    have : (z.length * n.toNat : Nat) ≤ sizeLine := ln_of hz
    exact decide_eq_false (by omega)
  · obtain ⟨⟨l⟩⟩ := z
    by_cases c1 : n < 1
    · rw [if_pos c1]
      have hn : n.toNat = 0 := by omega
      refine ⟨by decide, .str (repS ⟨⟨l⟩⟩ n.toNat), H, I.tok _, ⟨s.toks, ?_⟩, q⟩
      rw [hn]
      rfl
    · rw [if_neg c1]
      by_cases c2 : (n == 1 || (⟨⟨l⟩⟩ : Str).length == 0) = true
      · rw [if_pos c2]
        refine ⟨.str (repS ⟨⟨l⟩⟩ n.toNat), H, I, ⟨t, ?_⟩, q⟩
        have e : repS ⟨⟨l⟩⟩ n.toNat = ⟨⟨l⟩⟩ := by
          unfold repS
          rcases Bool.or_eq_true _ _ ▸ c2 with c | c
          · have : n.toNat = 1 := by
              have := eq_of_beq c
              omega
            rw [this]
            simp
          · have hl : l = [] := by
              have := eq_of_beq c
              simpa [Str.length] using this
            subst hl
            simp
        rw [e]
      · rw [if_neg c2]
        refine ⟨?_, .str (repS ⟨⟨l⟩⟩ n.toNat), H, I.tok _, ⟨s.toks, ?_⟩, q⟩
        · refine PySem.fits_reps ?_
          unfold Builtin.Str.tooLong
          have := ln_of hz
          exact decide_eq_false (by omega)
        · have := foldl_repN l n.toNat []
          rw [List.nil_append] at this
          unfold repS
          rw [← this]
def mulD : G2 := fun x y h => match x, y with
  | .int i, .int j => if (-(2 ^ 64) < i ∧ i < 2 ^ 64) ∨ (-(2 ^ 64) < j ∧ j < 2 ^ 64) ∨ i.natAbs.log2 + j.natAbs.log2 < 1000000 then some (.int (i * j), h) else none
  | .str z, .int n => if 0 ≤ n ∧ n ≤ 1000000 ∧ z.length * n.toNat ≤ LN then some (.str (repS z n.toNat), h) else none
  | .at a, .int n => match h[a]? with
    | some (.lst xs) => if 0 ≤ n ∧ n ≤ 1000000 ∧ xs.length * n.toNat ≤ LN then some (.at h.length, h ++ [.lst (List.replicate n.toNat xs).flatten]) else none
    | _ => none
  | .tup xs, .int n => if xs ≠ [] ∧ 2 ≤ n ∧ n ≤ 1000 ∧ xs.length ≤ 1000 then some (.tup (List.replicate n.toNat xs).flatten, h) else none
  | _, _ => none
def rMulU (K : Kw) : R2 := fun x y H Q => rI CMul (fun i j => .int (i * j)) x y H Q ∨ rI CMulW (fun i j => .int (i * j)) x y H Q ∨ rMulS x y H Q ∨ rRep x y H Q ∨ rRepT K x y H Q
theorem op_mulU (hK : KOf X = K := by rfl) : OpR X (binaryOp .Mult) (rMulU K) := by
  subst hK
  exact op_mul.or (op_mulW.or (op_mulS.or (op_rep.or op_repT)))
theorem Rps.rep {H : Hp} {μ : List Addr} {ds : List D} {vs : List V} (r : Rps K H μ ds vs) : ∀ n : Nat, Rps K H μ (List.replicate n ds).flatten (List.replicate n vs).flatten
  | 0 => Rps.nil
  | n + 1 => by
    rw [List.replicate_succ, List.replicate_succ, List.flatten_cons, List.flatten_cons]
    exact r.app (Rps.rep r n)
theorem so_mul : SO K (rMulU K) mulD := by
  intro Φ H μ h x y v w d h' S r1 r2 e Q k
  unfold mulD at e
  split at e
  · split at e
    · rename_i c
      cases e
      rcases c with c | c | c
      · exact .inl ⟨_, _, rp_int' r1, rp_int' r2, .inl c, k _ H μ S Le.refl rp_int⟩
      · exact .inl ⟨_, _, rp_int' r1, rp_int' r2, .inr c, k _ H μ S Le.refl rp_int⟩
      · exact .inr (.inl ⟨_, _, rp_int' r1, rp_int' r2, c, k _ H μ S Le.refl rp_int⟩)
    · cases e
  · split at e
    · rename_i c
      cases e
      exact .inr (.inr (.inl ⟨_, _, rp_str' r1, rp_int' r2, c.1, c.2.1, c.2.2, k _ H μ S Le.refl rp_str⟩))
    · cases e
  · split at e
    · rename_i e1
      split at e
      · rename_i c
        cases e
        obtain ⟨p, ea, rfl⟩ := rp_at' r1
        obtain ⟨vs, q1, q2⟩ := S.lst e1 ea
        exact .inr (.inr (.inr (.inl ⟨p, _, vs, rfl, rp_int' r2, q1, by omega, by omega, by rw [q2.len]; exact ln_of c.2.2, fun p3 hp => kn_lst S (q2.rep _) k p3 hp⟩)))
      · cases e
    · cases e
  · split at e
    · rename_i xs n c
      cases e
      obtain ⟨p, vs, rfl, q1, q2⟩ := rp_tup' r1
      refine .inr (.inr (.inr (.inr ⟨p, _, vs, rfl, rp_int' r2, q1, fun z => ?_, c.2.1, c.2.2.1, by rw [q2.len]; exact c.2.2.2, fun p3 hp => kn_tup S (q2.rep _) k p3 hp⟩)))
      subst z
      exact c.1 (by
        cases xs with
        | nil => rfl
        | cons a1 a2 => obtain ⟨_, _, z, _⟩ := q2.cons'; cases z)
    · cases e
  · cases e
def fdivD : G2 := fun x y h => match x, y with
  | .int i, .int j => if 0 < j ∧ j.natAbs.log2 < 9000 then some (.int (i / j), h) else none
  | _, _ => none
theorem so_fdiv : SO K (rI CDivW fun i j => .int (i / j)) fdivD := by
  intro Φ H μ h x y v w d h' S r1 r2 e Q k
  unfold fdivD at e
  split at e
  · split at e
    · rename_i c
      cases e
      exact ⟨_, _, rp_int' r1, rp_int' r2, c, k _ H μ S Le.refl rp_int⟩
    · cases e
  · cases e
def modD : G2 := fun x y h => match x, y with
  | .int i, .int j => if 0 < j then some (.int (i % j), h) else none
  | _, _ => none
theorem so_mod : SO K (rI (fun _ j => 0 < j) fun i j => .int (i % j)) modD := by
  intro Φ H μ h x y v w d h' S r1 r2 e Q k
  unfold modD at e
  split at e
  · split at e
    · rename_i c
      cases e
      exact ⟨_, _, rp_int' r1, rp_int' r2, c, k _ H μ S Le.refl rp_int⟩
    · cases e
  · cases e
def CPowW (i j : Int) : Prop := 0 ≤ j ∧ (Builtin.Int.intBits i : Int) * j ≤ 2 ^ 27
theorem op_powW : OpR X (binaryOp .Pow) (rI CPowW fun i j => .int (i ^ j.toNat)) := opI fun _ _ _ _ _ _ _ hc q => pow_int hc.1 hc.2 q
def powD : G2 := fun x y h => match x, y with
  | .int i, .int j => if 0 ≤ j ∧ (Builtin.Int.intBits i : Int) * j ≤ 2 ^ 27 then some (.int (i ^ j.toNat), h) else none
  | _, _ => none
theorem so_pow : SO K (rI CPowW fun i j => .int (i ^ j.toNat)) powD := by
  intro Φ H μ h x y v w d h' S r1 r2 e Q k
  unfold powD at e
  split at e
  · split at e
    · rename_i c
      cases e
      exact ⟨_, _, rp_int' r1, rp_int' r2, c, k _ H μ S Le.refl rp_int⟩
    · cases e
  · cases e
def negM (a : ME) : ME := fun sg h => match a sg h with
  | some (.int i, h1) => some (.int (-i), h1)
  | _ => none
theorem de_neg {pos : Pos} {a : Expr} {ta : TE} {ma : ME} (ha : DE K X a ta ma) : DE K X (.UnaryOp .USub a pos) (tUn (rU fun i => .int (-i)) ta) (negM ma) := ⟨ha.k, pe_un un_neg ha.p, by
  intro Φ σ H μ sg h d h' S rs e Q k
  unfold negM at e
  split at e
  · rename_i i h1 e1
    cases e
    exact ha.s σ H μ sg h _ _ S rs e1 _ fun v H1 μ1 S1 l1 r1 => ⟨_, rp_int' r1, k _ H1 μ1 S1 l1 rp_int⟩
  · cases e⟩
/-! ### < <= > >= -/
def ltS (a b : Str) : Bool := decide (a.cps.toList < b.cps.toList)
def ltD : G2 := fun x y h => match x, y with
  | .int i, .int j => some (.bl (decide (i < j)), h)
  | .str a, .str b => some (.bl (ltS a b), h)
  | _, _ => none
def leD : G2 := fun x y h => match x, y with
  | .int i, .int j => some (.bl (decide (i ≤ j)), h)
  | .str a, .str b => some (.bl (!ltS b a), h)
  | _, _ => none
def gtD : G2 := fun x y h => match x, y with
  | .int i, .int j => some (.bl (decide (j < i)), h)
  | .str a, .str b => some (.bl (ltS b a), h)
  | _, _ => none
def geD : G2 := fun x y h => match x, y with
  | .int i, .int j => some (.bl (decide (j ≤ i)), h)
  | .str a, .str b => some (.bl (!ltS a b), h)
  | _, _ => none
def rCmpS (g : Str → Str → Bool) : R2 := fun x y H Q => ∃ i j, x = .str i ∧ y = .str j ∧ Q (.bl (g i j)) H
def rCmpU (p : Int → Int → Bool) (g : Str → Str → Bool) : R2 := fun x y H Q => rI0 (fun i j => .bl (p i j)) x y H Q ∨ rCmpS g x y H Q
abbrev rLtU := rCmpU (fun i j => decide (i < j)) ltS
abbrev rLeU := rCmpU (fun i j => decide (i ≤ j)) fun a b => !ltS b a
abbrev rGtU := rCmpU (fun i j => decide (j < i)) fun a b => ltS b a
abbrev rGeU := rCmpU (fun i j => decide (j ≤ i)) fun a b => !ltS a b
theorem op_ltU : OpR X (compareOp .Lt) rLtU := op_lt.or (fun pins s σ H x y v u Q I a b c => op_lt_str pins s σ H x y v u Q I a b c)
theorem op_leU : OpR X (compareOp .LtE) rLeU := op_le.or (fun pins s σ H x y v u Q I a b c => op_le_str pins s σ H x y v u Q I a b c)
theorem op_gtU : OpR X (compareOp .Gt) rGtU := op_gt.or (fun pins s σ H x y v u Q I a b c => op_gt_str pins s σ H x y v u Q I a b c)
theorem op_geU : OpR X (compareOp .GtE) rGeU := op_ge.or (fun pins s σ H x y v u Q I a b c => op_ge_str pins s σ H x y v u Q I a b c)
theorem so_lt : SO K rLtU ltD := by
  intro Φ H μ h x y v w d h' S r1 r2 e Q k
  unfold ltD at e
  split at e
  · cases e; exact .inl ⟨_, _, rp_int' r1, rp_int' r2, k _ H μ S Le.refl rp_bl⟩
  · cases e; exact .inr ⟨_, _, rp_str' r1, rp_str' r2, k _ H μ S Le.refl rp_bl⟩
  · cases e
theorem so_le : SO K rLeU leD := by
  intro Φ H μ h x y v w d h' S r1 r2 e Q k
  unfold leD at e
  split at e
  · cases e; exact .inl ⟨_, _, rp_int' r1, rp_int' r2, k _ H μ S Le.refl rp_bl⟩
  · cases e; exact .inr ⟨_, _, rp_str' r1, rp_str' r2, k _ H μ S Le.refl rp_bl⟩
  · cases e
theorem so_gt : SO K rGtU gtD := by
  intro Φ H μ h x y v w d h' S r1 r2 e Q k
  unfold gtD at e
  split at e
  · cases e; exact .inl ⟨_, _, rp_int' r1, rp_int' r2, k _ H μ S Le.refl rp_bl⟩
  · cases e; exact .inr ⟨_, _, rp_str' r1, rp_str' r2, k _ H μ S Le.refl rp_bl⟩
  · cases e
theorem so_ge : SO K rGeU geD := by
  intro Φ H μ h x y v w d h' S r1 r2 e Q k
  unfold geD at e
  split at e
  · cases e; exact .inl ⟨_, _, rp_int' r1, rp_int' r2, k _ H μ S Le.refl rp_bl⟩
  · cases e; exact .inr ⟨_, _, rp_str' r1, rp_str' r2, k _ H μ S Le.refl rp_bl⟩
  · cases e
/-! ### == != -/
mutual
def toP (r : Nat → Option PyData) : D → Option PyData
  | .non => some .none
  | .bl b => some (.bool b)
  | .int i => some (.int i)
  | .str s => some (.str s)
  | .ty _ => none
  | .ad _ => none
  | .tup xs => match toPs r xs with
    | some ps => some (.tuple ps)
    | none => none
  | .rol xs => match toPs r xs with
    | some ps => some (.list ps)
    | none => none
  | .at n => r n
def toPs (r : Nat → Option PyData) : List D → Option (List PyData)
  | [] => some []
  | d :: ds => match toP r d with
    | some p => match toPs r ds with
      | some ps => some (p :: ps)
      | none => none
    | none => none
end
def rP : Nat → Hd → Nat → Option PyData
  | 0, _, _ => none
  | k + 1, h, n => match h[n]? with
    | some (.lst xs) => match toPs (rP k h) xs with
      | some ps => some (.list ps)
      | none => none
    | _ => none
mutual
theorem dp_of {H : Hp} {μ : List Addr} {r : Nat → Option PyData} (hr : ∀ n a p, μ[n]? = some a → r n = some p → Dp K H (.ref a) p) : ∀ (d : D) (v : V) (p : PyData), Rp K H μ d v → toP r d = some p → Dp K H v p
  | .non, v, p, h, e => by
    unfold toP at e
    cases e; rw [rp_non' h]; exact .non
  | .bl b, v, p, h, e => by
    unfold toP at e
    cases e; rw [rp_bl' h]; exact .bl b
  | .int b, v, p, h, e => by
    unfold toP at e
    cases e; rw [rp_int' h]; exact .int b
  | .str b, v, p, h, e => by
    unfold toP at e
    cases e; rw [rp_str' h]; exact .str b
  | .ty b, v, p, h, e => by
    unfold toP at e
    cases e
  | .ad b, v, p, h, e => by
    unfold toP at e
    cases e
  | .tup xs, v, p, h, e => by
    unfold toP at e
    split at e
    · rename_i ps q
      cases e
      obtain ⟨a, vs, rfl, b, c⟩ := rp_tup' h
      exact .tup b (dps_of hr xs vs ps c q)
    · cases e
  | .rol xs, v, p, h, e => by
    unfold toP at e
    split at e
    · rename_i ps q
      cases e
      obtain ⟨a, vs, rfl, b, c⟩ := rp_rol' h
      exact .lst b.l (dps_of hr xs vs ps c q)
    · cases e
  | .at n, v, p, h, e => by
    unfold toP at e
    obtain ⟨a, ea, rfl⟩ := rp_at' h
    exact hr n a p ea e
theorem dps_of {H : Hp} {μ : List Addr} {r : Nat → Option PyData} (hr : ∀ n a p, μ[n]? = some a → r n = some p → Dp K H (.ref a) p) : ∀ (ds : List D) (vs : List V) (ps : List PyData), Rps K H μ ds vs → toPs r ds = some ps → DpAll K H vs ps
  | [], vs, ps, h, e => by
    unfold toPs at e
    cases e; rw [h.nil']; exact .nil
  | d :: ds, vs, ps, h, e => by
    unfold toPs at e
    obtain ⟨v, vs', rfl, a, b⟩ := h.cons'
    split at e
    · rename_i p q
      split at e
      · rename_i ps' q'
        cases e
        exact .cons (dp_of hr d v p a q) (dps_of hr ds vs' ps' b q')
      · cases e
    · cases e
end
theorem rp_dp {H : Hp} {μ : List Addr} {h : Hd} (S : Sm Φ K H μ h) : ∀ (k n : Nat) (a : Addr) (p : PyData), μ[n]? = some a → rP k h n = some p → Dp K H (.ref a) p
  | 0, n, a, p, e, q => by
    unfold rP at q
    cases q
  | k + 1, n, a, p, e, q => by
    unfold rP at q
    split at q
    · rename_i xs e1
      split at q
      · rename_i ps e2
        cases q
        obtain ⟨vs, b, c⟩ := S.lst e1 e
        exact .lst (.of b) (dps_of (rp_dp S k) xs vs ps c e2)
      · cases q
    · cases q
def datD (h : Hd) (d : D) : Option PyData := toP (rP 3 h) d
theorem dat_of {H : Hp} {μ : List Addr} {h : Hd} {d : D} {v : V} {p : PyData} (S : Sm Φ K H μ h) (r : Rp K H μ d v) (e : datD h d = some p) : Dp K H v p := dp_of (rp_dp S 3) d v p r e
def rEqM (K : Kw) : R2 := fun x y H Q => (∃ d e, Dp K H x d ∧ Dp K H y e ∧ d.canLay0 = true ∧ e.canLay0 = true ∧ min d.depth e.depth ≤ 64 ∧ Q (.bl (PyData.eqv d e)) H) ∨ ∃ (a b : Addr) (xs ys : List V), x = .ref a ∧ y = .ref b ∧ SqL K H a xs ∧ SqL K H b ys ∧ xs.length ≠ ys.length ∧ Q (.bl false) H
def rNeM (K : Kw) : R2 := fun x y H Q => (∃ d e, Dp K H x d ∧ Dp K H y e ∧ d.canLay0 = true ∧ e.canLay0 = true ∧ min d.depth e.depth ≤ 64 ∧ Q (.bl (!PyData.eqv d e)) H) ∨ ∃ (a b : Addr) (xs ys : List V), x = .ref a ∧ y = .ref b ∧ SqL K H a xs ∧ SqL K H b ys ∧ xs.length ≠ ys.length ∧ Q (.bl true) H
theorem op_eqU (hu : X.A.units + 64 < cLine) (hK : KOf X = K := by rfl) : OpR X (compareOp .Eq) (rEqM K) := by
  subst hK
  intro pins s σ H x y v u Q I rx ry h
  obtain ⟨d, e, hd, he, sd, se, hm, q⟩ | ⟨a, b, xs, ys, rfl, rfl, ha, hb, hl, q⟩ := h
  · obtain ⟨as, r1⟩ := Dp.reads I d x v hd rx
    obtain ⟨bs, r2⟩ := Dp.reads I e y u he ry
    exact SeqAt.compareEq_reads r1 r2 sd se (by omega) ⟨.bl _, H, I, rfl, q⟩
  · cases rx
    cases ry
    obtain ⟨is, rv, ⟨o, n, ho, hc, _, hd⟩, _⟩ := I.list ha
    obtain ⟨js, rw', ⟨o', n', ho', hc', _, hd'⟩, _⟩ := I.list hb
    have l1 := rv.length
    have l2 := rw'.length
    exact SeqAt.RcAt.lists_lengths ⟨_, ho, hc, _, hd⟩ ⟨_, ho', hc', _, hd'⟩ (by simp; omega) (by omega) _ _ _ _ ⟨.bl _, H, I, rfl, q⟩
theorem op_neU (hu : X.A.units + 64 < cLine) (hK : KOf X = K := by rfl) : OpR X (compareOp .NotEq) (rNeM K) := by
  subst hK
  intro pins s σ H x y v u Q I rx ry h
  obtain ⟨d, e, hd, he, sd, se, hm, q⟩ | ⟨a, b, xs, ys, rfl, rfl, ha, hb, hl, q⟩ := h
  · obtain ⟨as, r1⟩ := Dp.reads I d x v hd rx
    obtain ⟨bs, r2⟩ := Dp.reads I e y u he ry
    exact SeqAt.compareNe_reads r1 r2 sd se (by omega) ⟨.bl _, H, I, rfl, q⟩
  · cases rx
    cases ry
    obtain ⟨is, rv, ⟨o, n, ho, hc, _, hd⟩, _⟩ := I.list ha
    obtain ⟨js, rw', ⟨o', n', ho', hc', _, hd'⟩, _⟩ := I.list hb
    have l1 := rv.length
    have l2 := rw'.length
    exact SeqAt.RcNeAt.lists_lengths ⟨_, ho, hc, _, hd⟩ ⟨_, ho', hc', _, hd'⟩ (by simp; omega) (by omega) _ _ _ _ ⟨.bl _, H, I, rfl, q⟩
/-- two lists of unlike lengths -/
def offD (h : Hd) : D → D → Bool
  | .at n, .at m => match h[n]?, h[m]? with
    | some (.lst xs), some (.lst ys) => decide (xs.length ≠ ys.length)
    | _, _ => false
  | _, _ => false
theorem off_of {Φ : Hp} {K : Kw} {H : Hp} {μ : List Addr} {h : Hd} {x y : D} {v w : V} (S : Sm Φ K H μ h) (r1 : Rp K H μ x v) (r2 : Rp K H μ y w) (e : offD h x y = true) : ∃ (a b : Addr) (xs ys : List V), v = .ref a ∧ w = .ref b ∧ SqL K H a xs ∧ SqL K H b ys ∧ xs.length ≠ ys.length := by
  unfold offD at e
  split at e
  · split at e
    · rename_i xs ys e1 e2
      obtain ⟨a, ea, rfl⟩ := rp_at' r1
      obtain ⟨b, eb, rfl⟩ := rp_at' r2
      obtain ⟨us, hu, ru⟩ := S.lst e1 ea
      obtain ⟨ws, hw, rw'⟩ := S.lst e2 eb
      have l1 := ru.len
      have l2 := rw'.len
      have := of_decide_eq_true e
      exact ⟨a, b, us, ws, rfl, rfl, SqL.of hu, SqL.of hw, by omega⟩
    · cases e
  · cases e
def eqD : G2 := fun x y h => match datD h x, datD h y with
  | some p, some q => if p.canLay0 = true ∧ q.canLay0 = true ∧ min p.depth q.depth ≤ 64 then some (.bl (PyData.eqv p q), h) else none
  | _, _ => if offD h x y = true then some (.bl false, h) else none
def neD : G2 := fun x y h => match datD h x, datD h y with
  | some p, some q => if p.canLay0 = true ∧ q.canLay0 = true ∧ min p.depth q.depth ≤ 64 then some (.bl (!PyData.eqv p q), h) else none
  | _, _ => if offD h x y = true then some (.bl true, h) else none
theorem so_eq : SO K (rEqM K) eqD := by
  intro Φ H μ h x y v w d h' S r1 r2 e Q k
  unfold eqD at e
  split at e
  · rename_i p q e1 e2
    split at e
    · rename_i c
      cases e
      exact .inl ⟨p, q, dat_of S r1 e1, dat_of S r2 e2, c.1, c.2.1, c.2.2, k _ H μ S Le.refl rp_bl⟩
    · cases e
  · split at e
    · rename_i c
      cases e
      obtain ⟨a, b, xs, ys, rfl, rfl, h1, h2, h3⟩ := off_of S r1 r2 c
      exact .inr ⟨a, b, xs, ys, rfl, rfl, h1, h2, h3, k _ H μ S Le.refl rp_bl⟩
    · cases e
theorem so_ne : SO K (rNeM K) neD := by
  intro Φ H μ h x y v w d h' S r1 r2 e Q k
  unfold neD at e
  split at e
  · rename_i p q e1 e2
    split at e
    · rename_i c
      cases e
      exact .inl ⟨p, q, dat_of S r1 e1, dat_of S r2 e2, c.1, c.2.1, c.2.2, k _ H μ S Le.refl rp_bl⟩
    · cases e
  · split at e
    · rename_i c
      cases e
      obtain ⟨a, b, xs, ys, rfl, rfl, h1, h2, h3⟩ := off_of S r1 r2 c
      exact .inr ⟨a, b, xs, ys, rfl, rfl, h1, h2, h3, k _ H μ S Le.refl rp_bl⟩
    · cases e
end
/-! ### in, not in: a sign in a text, a flat thing in a sequence -/
def flD : D → Option V
  | .non => some .non
  | .bl b => some (.bl b)
  | .int i => some (.int i)
  | .str s => some (.str s)
  | _ => none
def flDs : List D → Option (List V)
  | [] => some []
  | d :: ds => match flD d, flDs ds with
    | some v, some vs => some (v :: vs)
    | _, _ => none
theorem fl_of {K : Kw} {H : Hp} {μ : List Addr} {d : D} {v u : V} (r : Rp K H μ d v) (e : flD d = some u) : v = u ∧ flatV u = true := by
  unfold flD at e
  split at e <;> cases e
  · exact ⟨rp_non' r, rfl⟩
  · exact ⟨rp_bl' r, rfl⟩
  · exact ⟨rp_int' r, rfl⟩
  · exact ⟨rp_str' r, rfl⟩
theorem fls_of {K : Kw} {H : Hp} {μ : List Addr} : ∀ {ds : List D} {vs us : List V}, Rps K H μ ds vs → flDs ds = some us → vs = us ∧ us.all flatV = true
  | [], vs, us, r, e => by
    unfold flDs at e
    cases e
    exact ⟨r.nil', rfl⟩
  | d :: ds, vs, us, r, e => by
    unfold flDs at e
    obtain ⟨v, vs', rfl, a, b⟩ := r.cons'
    split at e
    · rename_i u us' e1 e2
      cases e
      obtain ⟨rfl, q1⟩ := fl_of a e1
      obtain ⟨rfl, q2⟩ := fls_of b e2
      exact ⟨rfl, by rw [List.all_cons, q1, q2]; rfl⟩
    · cases e
def inD (neg : Bool) : G2 := fun x y h => match y with
  | .str z => match x with
    | .str ⟨⟨[c]⟩⟩ => some (.bl (neg ^^ decide (c ∈ z.cps.toList)), h)
    | _ => none
  | y => match seqD h y with
    | some ys => match flD x, flDs ys with
      | some v, some vs => some (.bl (neg ^^ inV v vs), h)
      | _, _ => none
    | none => none
def rInSg (neg : Bool) : R2 := fun x y H Q => ∃ (c : Nat) (z : Str), x = .str ⟨#[c]⟩ ∧ y = .str z ∧ Q (.bl (neg ^^ decide (c ∈ z.cps.toList))) H
def rInU (K : Kw) (neg : Bool) : R2 := fun x y H Q => rInSg neg x y H Q ∨ rIn K neg x y H Q
section
variable {K : Kw} {X : Cx}
theorem op_inU (hK : KOf X = K := by rfl) : OpR X (compareOp .In) (rInU K false) := by
  subst hK
  refine OpR.or (r := rInSg false) (fun pins s σ H x y v u Q I a b c => ?_) op_in_seq
  obtain ⟨c, z, h1, h2, q⟩ := c
  exact op_in_sign pins s σ H x y v u Q I a b ⟨c, z, h1, h2, by simpa using q⟩
theorem op_niU (hK : KOf X = K := by rfl) : OpR X (compareOp .NotIn) (rInU K true) := by
  subst hK
  refine OpR.or (r := rInSg true) (fun pins s σ H x y v u Q I a b c => ?_) op_notIn_seq
  obtain ⟨c, z, h1, h2, q⟩ := c
  exact op_notIn_sign pins s σ H x y v u Q I a b ⟨c, z, h1, h2, by simpa using q⟩
theorem so_in (neg : Bool) : SO K (rInU K neg) (inD neg) := by
  intro Φ H μ h x y v w d h' S r1 r2 e Q k
  unfold inD at e
  split at e
  · split at e
    · cases e
      exact .inl ⟨_, _, rp_str' r1, rp_str' r2, k _ H μ S Le.refl rp_bl⟩
    · cases e
  · split at e
    · rename_i ys e1
      split at e
      · rename_i a vs e2 e3
        cases e
        obtain ⟨p, ws, rfl, q1, q2⟩ := seq_of S r2 e1
        obtain ⟨rfl, f1⟩ := fl_of r1 e2
        obtain ⟨rfl, f2⟩ := fls_of q2 e3
        refine .inr ⟨p, _, rfl, q1, f1, f2, ?_⟩
        have : (if neg = true then !inV v ws else inV v ws) = (neg ^^ inV v ws) := by cases neg <;> simp
        rw [this]
        exact k _ H μ S Le.refl rp_bl
      · cases e
    · cases e
end
end DL

/-! DMA: dicts whose keys are tuples of data, at any depth. -/
namespace DL
open PySem L2 PySem.Spec PyProof.Rows
mutual
def KeyV (K : PySem.W.Frag) (H : Hp) : NestedKey → V → Prop
  | .none, v => v = .non
  | .num i, v => v = .int i
  | .text s, v => v = .str s
  | .tup ks, v => ∃ p vs, v = .ref p ∧ SqT K H p vs ∧ KeyVs K H ks vs
def KeyVs (K : PySem.W.Frag) (H : Hp) : List NestedKey → List V → Prop
  | [], vs => vs = []
  | k :: ks, vs => ∃ v vs', vs = v :: vs' ∧ KeyV K H k v ∧ KeyVs K H ks vs'
end
section
variable {X : Cx} {pins : List (Addr × Obj)} {σ : L2.St} {H : Hp} {s : Shared}
mutual
theorem key_is (I : L2.Inv X pins σ H s) : ∀ (k : NestedKey) (v : V) (u : Value), KeyV X.K H k v → RelV v u → NestedIs s.heap k u
  | .none, v, u, h, r => by
    unfold KeyV at h
    subst h
    cases (show u = Value.none from r)
    exact .none
  | .num i, v, u, h, r => by
    unfold KeyV at h
    subst h
    obtain ⟨t, rfl⟩ := (show ∃ t, u = Value.int i t from r)
    exact .int i t
  | .text z, v, u, h, r => by
    unfold KeyV at h
    subst h
    obtain ⟨t, rfl⟩ := (show ∃ t, u = Value.str z t from r)
    exact .text z t
  | .tup ks, v, u, h, r => by
    unfold KeyV at h
    obtain ⟨p, vs, rfl, hs, hk⟩ := h
    cases (show u = Value.ref p from r)
    obtain ⟨its, rv, ⟨o, h1, h2, n, h3⟩, _⟩ := I.tuple hs
    exact .tup h1 h2 h3 (by simpa using keys_are I ks vs its hk rv)
theorem keys_are (I : L2.Inv X pins σ H s) : ∀ (ks : List NestedKey) (vs : List V) (us : List Value), KeyVs X.K H ks vs → Vals vs us → NestedAll s.heap ks us
  | [], vs, us, h, r => by
    unfold KeyVs at h
    subst h
    cases r
    exact .nil
  | k :: ks, vs, us, h, r => by
    unfold KeyVs at h
    obtain ⟨v, vs', rfl, h1, h2⟩ := h
    cases r with
    | cons a b => exact .cons (key_is I k v _ h1 a) (keys_are I ks vs' _ h2 b)
end
/-- at a stands a dict with the entries xs -/
structure NAt (K : Kw) (H : Hp) (a : Addr) (xs : List (NestedKey × Addr × Value)) : Prop where
  at_ : H a = some (.ext (NPhi K.w a xs))
  sy : (a == sysModules) = false
  nd : (xs.map (·.1)).Nodup
  ks : ∀ x ∈ xs, KeyV K.f H x.1 (.ref x.2.1) ∧ x.1.depth ≤ 8
  ln : xs.length ≤ sizeLine
theorem NAt.dict (I : L2.Inv X pins σ H s) {a : Addr} {xs : List (NestedKey × Addr × Value)} (n : NAt (KOf X) H a xs) : s.heap.DictOfH (nestedKind X.prog X.w) a xs := by
  obtain ⟨⟨o, es, ep, h1, h2, h3, h4⟩, _⟩ := (show ObjOk X.prog X.w H s.heap a (.ext (NPhi X.w a xs)) from I.hok a _ n.at_)
  exact ⟨o, es, ep, h1, h2, h3, h4, fun x hx => ⟨key_is I _ _ _ (n.ks x hx).1 rfl, (n.ks x hx).2⟩, n.nd⟩
theorem NAt.noDict (I : L2.Inv X pins σ H s) {a : Addr} {xs : List (NestedKey × Addr × Value)} (n : NAt (KOf X) H a xs) : ∀ b, Value.ref a = .ref b → ∃ ob, s.heap.get? b = some ob ∧ ob.dict = none := fun b q => by
  cases q
  obtain ⟨ob, _, _, h1, h2, _⟩ := n.dict I
  exact ⟨ob, h1, h2.2.1⟩
theorem nroom {A : Around} (hu : A.units + 64 < cLine) : (nestedKind X.prog X.w).room A.in1 := by
  have h1 : A.in1.units + 8 < cLine := by
    have h2 : A.in1.units ≤ A.units + 2 := by
      unfold Around.in1
      first | (simp [Around.units]; done) | (simp [Around.units]; omega)
    omega
  exact h1
end
end DL

/-! DL4: subscripts, slices, built-ins, methods. -/
namespace DL
open PySem L2 PySem.Spec PyProof.Rows

theorem PE.or {X : Cx} {e : Expr} {t u : TE} (h : PE X e t) (h' : PE X e u) : PE X e (fun σ H Q => t σ H Q ∨ u σ H Q) :=
  ⟨fun pins s σ H Q I q => q.elim (h.run pins s σ H Q I) (h'.run pins s σ H Q I)⟩

/-! ### dicts -/
def valD (kvs : List (Key × D)) (k : Key) : Option D := (kvs.find? fun kv => decide (kv.1 = k)).map (·.2)
def putD (kvs : List (Key × D)) (k : Key) (d : D) : List (Key × D) :=
  if (kvs.any fun kv => decide (kv.1 = k)) = true then kvs.map (fun kv => if kv.1 = k then (kv.1, d) else kv) else kvs ++ [(k, d)]
def keyD : D → Option Key
  | .int i => some (.inl i)
  | .str s => some (.inr s)
  | _ => none
section
variable {K : Kw} {H : Hp} {μ : List Addr}
theorem key_of {d : D} {v : V} {k : Key} (r : Rp K H μ d v) (e : keyD d = some k) : v = kV k := by
  unfold keyD at e
  split at e <;> cases e
  · exact rp_int' r
  · exact rp_str' r
/-- the pairs of a dict stand for those of another -/
def Rkv (K : Kw) (H : Hp) (μ : List Addr) (kvs : List (Key × D)) (kw : List (Key × V)) : Prop := kw.map (·.1) = kvs.map (·.1) ∧ Rps K H μ (kvs.map (·.2)) (kw.map (·.2))
theorem Rkv.nil : Rkv K H μ [] [] := ⟨rfl, Rps.nil⟩
theorem Rkv.nil' {kw : List (Key × V)} (r : Rkv K H μ [] kw) : kw = [] := by
  have := r.1
  simpa using this
theorem Rkv.cons' {k : Key} {d : D} {kvs : List (Key × D)} {kw : List (Key × V)} (r : Rkv K H μ ((k, d) :: kvs) kw) : ∃ v kw', kw = (k, v) :: kw' ∧ Rp K H μ d v ∧ Rkv K H μ kvs kw' := by
  obtain ⟨a, b⟩ := r
  cases kw with
  | nil => simp at a
  | cons p kw' =>
    obtain ⟨k', v⟩ := p
    simp only [List.map_cons, List.cons.injEq] at a b
    obtain ⟨w, ws, e, c1, c2⟩ := b.cons'
    cases e
    obtain ⟨rfl, a2⟩ := a
    exact ⟨v, kw', rfl, c1, a2, c2⟩
theorem Rkv.cons {k : Key} {d : D} {v : V} {kvs : List (Key × D)} {kw : List (Key × V)} (a : Rp K H μ d v) (r : Rkv K H μ kvs kw) : Rkv K H μ ((k, d) :: kvs) ((k, v) :: kw) :=
  ⟨by simp [r.1], Rps.cons a r.2⟩
theorem Rkv.val {k : Key} : ∀ {kvs : List (Key × D)} {kw : List (Key × V)}, Rkv K H μ kvs kw → (valD kvs k = none ∧ valV kw k = none) ∨ ∃ d v, valD kvs k = some d ∧ valV kw k = some v ∧ Rp K H μ d v
  | [], kw, r => by rw [r.nil']; exact .inl ⟨rfl, rfl⟩
  | (k', d) :: kvs, kw, r => by
    obtain ⟨v, kw', rfl, a, b⟩ := r.cons'
    by_cases e : k' = k
    · refine .inr ⟨d, v, ?_, valV_pos e, a⟩
      simp [valD, List.find?_cons, e]
    · rw [valV_neg (by exact e)]
      have : valD ((k', d) :: kvs) k = valD kvs k := by simp [valD, List.find?_cons, e]
      rw [this]
      exact Rkv.val b
theorem Rkv.any {k : Key} : ∀ {kvs : List (Key × D)} {kw : List (Key × V)}, Rkv K H μ kvs kw → (kvs.any fun kv => decide (kv.1 = k)) = (kw.any fun kv => decide (kv.1 = k))
  | [], kw, r => by rw [r.nil']; rfl
  | (k', d) :: kvs, kw, r => by
    obtain ⟨v, kw', rfl, a, b⟩ := r.cons'
    rw [List.any_cons, List.any_cons, Rkv.any b]
theorem Rkv.mapPut {k : Key} {d : D} {v : V} (a : Rp K H μ d v) : ∀ {kvs : List (Key × D)} {kw : List (Key × V)}, Rkv K H μ kvs kw → Rkv K H μ (kvs.map fun kv => if kv.1 = k then (kv.1, d) else kv) (kw.map fun kv => if kv.1 = k then (kv.1, v) else kv)
  | [], kw, r => by rw [r.nil']; exact Rkv.nil
  | (k', d') :: kvs, kw, r => by
    obtain ⟨v', kw', rfl, b, c⟩ := r.cons'
    rw [List.map_cons, List.map_cons]
    by_cases e : k' = k
    · rw [if_pos (show (k', d').1 = k from e), if_pos (show (k', v').1 = k from e)]
      exact Rkv.cons a (Rkv.mapPut a c)
    · rw [if_neg (show ¬ (k', d').1 = k from e), if_neg (show ¬ (k', v').1 = k from e)]
      exact Rkv.cons b (Rkv.mapPut a c)
theorem Rkv.app : ∀ {kvs kvs2 : List (Key × D)} {kw kw2 : List (Key × V)}, Rkv K H μ kvs kw → Rkv K H μ kvs2 kw2 → Rkv K H μ (kvs ++ kvs2) (kw ++ kw2)
  | [], kvs2, kw, kw2, r, q => by rw [r.nil']; exact q
  | (k', d') :: kvs, kvs2, kw, kw2, r, q => by
    obtain ⟨v', kw', rfl, b, c⟩ := r.cons'
    exact Rkv.cons b (Rkv.app c q)
theorem Rkv.put {k : Key} {d : D} {v : V} {kvs : List (Key × D)} {kw : List (Key × V)} (r : Rkv K H μ kvs kw) (a : Rp K H μ d v) : Rkv K H μ (putD kvs k d) (putK kw k v) := by
  unfold putD putK
  rw [Rkv.any r]
  split
  · exact Rkv.mapPut a r
  · exact Rkv.app r (Rkv.cons a Rkv.nil)
theorem Rkv.len {kvs : List (Key × D)} {kw : List (Key × V)} (r : Rkv K H μ kvs kw) : kw.length = kvs.length := by
  have := congrArg List.length r.1
  simpa using this
theorem Sm.dct {h : Hd} {n : Nat} {kvs : List (Key × D)} {a : Addr} (S : Sm Φ K H μ h) (e : h[n]? = some (.dct kvs)) (ea : μ[n]? = some a) : ∃ kw, H a = some (.dK kw) ∧ Rkv K H μ kvs kw := S.at ea e
end

/-! ### subscripts -/
def isDct (h : Hd) : D → Bool
  | .at n => match h[n]? with
    | some (.dct _) => true
    | _ => false
  | _ => false
def subsD : G2 := fun x y h => match x, y with
  | .str z, .int i => if z.length ≤ LN then match atI z.cps.toList i with
    | some c => some (.str ⟨#[c]⟩, h)
    | none => none else none
  | x, y => match seqD h x with
    | some xs => match y with
      | .int i => match atI xs i with
        | some d => some (d, h)
        | none => none
      | _ => none
    | none => match x with
      | .at n => match h[n]? with
        | some (.dct kvs) => match keyD y with
          | some k => match valD kvs k with
            | some d => some (d, h)
            | none => none
          | none => none
        | _ => none
      | _ => none
section
variable {K : Kw} {X : Cx} {pos : Pos} {a b : Expr} {ta tb : TE} {ma mb : ME}
theorem ix_U (hK : KOf X = K := by rfl) : IxR X (rIx K) := by subst hK; exact ix_seq
def tSub (K : Kw) (ta tb : TE) : TE := fun σ H Q => tOp (rIx K) ta tb σ H Q ∨ tDGet ta tb σ H Q
theorem atI_get {H : Hp} {μ : List Addr} {xs : List D} {vs : List V} {i : Int} {d : D} (r : Rps K H μ xs vs) (e : atI xs i = some d) : ∃ v, atI vs i = some v ∧ Rp K H μ d v := by
  unfold atI at e ⊢
  rw [r.len]
  cases q : ixN xs.length i with
  | none => rw [q] at e; cases e
  | some j =>
    rw [q] at e
    exact r.get e
theorem de_sub (ha : DE K X a ta ma) (hb : DE K X b tb mb) (hu : X.A.units + 1 < cLine) (hs : PlainIx b := by exact fun _ _ => rfl) (hs2 : NoSl b := by exact fun _ _ => rfl) : DE K X (.Subscript a b pos) (tSub K ta tb) (opM subsD ma mb) := ⟨ha.k, PE.or (pe_ix (ix_U ha.k) ha.p hb.p hs) (pe_dget hu ha.p hb.p hs2), by
  intro Φ σ H μ sg h d h' S rs e Q k
  unfold opM at e
  split at e
  · rename_i x h1 e1
    split at e
    · rename_i y h2 e2
      unfold subsD at e
      split at e
      · rename_i z i
        split at e
        · rename_i hz
          split at e
          · rename_i c q
            cases e
            refine .inl (ha.s σ H μ sg h _ h1 S rs e1 _ fun v H1 μ1 S1 l1 r1 => ?_)
            refine hb.s σ H1 μ1 sg h1 _ _ S1 (rs.mono l1) e2 _ fun w H2 μ2 S2 l2 r2 => ?_
            exact .inr (.inr ⟨z, i, c, rp_str' r1, rp_int' r2, ln_of hz, q, k _ H2 μ2 S2 (l1.trans l2) rp_str⟩)
          · cases e
        · cases e
      · split at e
        · rename_i xs q1
          split at e
          · rename_i i _
            split at e
            · rename_i d1 q2
              cases e
              refine .inl (ha.s σ H μ sg h _ h1 S rs e1 _ fun v H1 μ1 S1 l1 r1 => ?_)
              refine hb.s σ H1 μ1 sg h1 _ _ S1 (rs.mono l1) e2 _ fun w H2 μ2 S2 l2 r2 => ?_
              obtain ⟨p, vs, rfl, c1, c2⟩ := seq_of S2 (Rp.mono l2 _ _ r1) q1
              obtain ⟨u, c3, c4⟩ := atI_get c2 q2
              rcases c1 with c1 | c1
              · exact .inl ⟨p, vs, i, u, rfl, rp_int' r2, c1, c3, k _ H2 μ2 S2 (l1.trans l2) c4⟩
              · exact .inr (.inl ⟨p, vs, i, u, rfl, rp_int' r2, c1, c3, k _ H2 μ2 S2 (l1.trans l2) c4⟩)
            · cases e
          · cases e
        · split at e
          · rename_i n
            split at e
            · rename_i kvs q2
              split at e
              · rename_i kk q3
                split at e
                · rename_i d1 q4
                  cases e
                  refine .inr (ha.s σ H μ sg h _ h1 S rs e1 _ fun v H1 μ1 S1 l1 r1 => ?_)
                  refine hb.s σ H1 μ1 sg h1 _ _ S1 (rs.mono l1) e2 _ fun w H2 μ2 S2 l2 r2 => ?_
                  obtain ⟨p, ep, rfl⟩ := rp_at' (Rp.mono l2 _ _ r1)
                  obtain ⟨kw, c1, c2⟩ := S2.dct q2 ep
                  rcases c2.val (k := kk) with ⟨z, _⟩ | ⟨d2, u, z1, z2, z3⟩
                  · rw [q4] at z; cases z
                  · rw [q4] at z1
                    cases z1
                    refine ⟨p, u, rfl, ?_, k _ H2 μ2 S2 (l1.trans l2) z3⟩
                    rw [key_of r2 q3, ← z2]
                    exact DGet.k c1
                · cases e
              · cases e
            · cases e
          · cases e
    · cases e
  · cases e⟩
end

/-! ### slices -/
abbrev MO := Sg → Hd → Option (Option Int × Hd)
def SOp (K : Kw) (t : TO) (m : MO) : Prop := ∀ {Φ : Hp} (σ : L2.St) (H : Hp) (μ : List Addr) (sg : Sg) (h : Hd) (o : Option Int) (h' : Hd), Sm Φ K H μ h → Rs K H μ sg σ → m sg h = some (o, h') → ∀ Q : Option Int → Hp → Prop,
  (∀ (H' : Hp) (μ' : List Addr), Sm Φ K H' μ' h' → Le K H μ H' μ' → Q o H') → t σ H Q
structure DO (K : Kw) (X : Cx) (e : Option Expr) (t : TO) (m : MO) : Prop where
  k : KOf X = K
  p : PO X e t
  s : SOp K t m
def noM : MO := fun _ h => some (none, h)
def partM (a : ME) : MO := fun sg h => match a sg h with
  | some (.int i, h1) => some (some i, h1)
  | _ => none
def cutD (xs : List D) (lo hi : Option Int) : List D := (xs.drop (HT.sIx xs.length 0 lo)).take (HT.sIx xs.length xs.length hi - HT.sIx xs.length 0 lo)
def sliceD (x : D) (lo hi : Option Int) (h : Hd) : Option (D × Hd) := match x with
  | .str z => if z.length ≤ LN then some (.str (cutS z lo hi), h) else none
  | .tup xs => some (.tup (cutD xs lo hi), h)
  | .rol xs => some (.at h.length, h ++ [.lst (cutD xs lo hi)])
  | .at n => match h[n]? with
    | some (.lst xs) => some (.at h.length, h ++ [.lst (cutD xs lo hi)])
    | _ => none
  | _ => none
def slM (a : ME) (lo hi : MO) : ME := fun sg h => match a sg h with
  | some (x, h1) => match lo sg h1 with
    | some (l, h2) => match hi sg h2 with
      | some (u, h3) => sliceD x l u h3
      | none => none
    | none => none
  | none => none
def rSlU (K : Kw) : V → Option Int → Option Int → Hp → VK → Prop := fun x lo hi H Q => rSlA K x lo hi H Q ∨ rSlL K x lo hi H Q ∨ rSlS x lo hi H Q
section
variable {K : Kw} {X : Cx} {pos : Pos} {a : Expr} {ta : TE} {ma : ME} {lo hi : Option Expr} {tl th : TO} {ml mh : MO}
theorem do_none (hK : KOf X = K := by rfl) : DO K X none tNoPart noM := ⟨hK, po_none, fun {Φ} σ H μ sg h o h' S rs e Q k => by cases e; exact k H μ S Le.refl⟩
theorem do_some (ha : DE K X a ta ma) : DO K X (some a) (tPart ta) (partM ma) := ⟨ha.k, po_some ha.p, by
  intro Φ σ H μ sg h o h' S rs e Q k
  unfold partM at e
  split at e
  · rename_i i h1 e1
    cases e
    exact ha.s σ H μ sg h _ _ S rs e1 _ fun v H1 μ1 S1 l1 r1 => ⟨i, rp_int' r1, k H1 μ1 S1 l1⟩
  · cases e⟩
theorem sl_U (hK : KOf X = K := by rfl) : SlR X (rSlU K) := by subst hK; exact sl_tupA.or (sl_list.or sl_str)
theorem cut_of {H : Hp} {μ : List Addr} {xs : List D} {vs : List V} (r : Rps K H μ xs vs) (lo hi : Option Int) : Rps K H μ (cutD xs lo hi) (cutV vs lo hi) := by
  unfold cutD cutV
  rw [r.len]
  exact (r.drop _).take _
theorem de_slice {p2 : Pos} (ha : DE K X a ta ma) (hl : DO K X lo tl ml) (hh : DO K X hi th mh) : DE K X (.Subscript a (.Slice lo hi none p2) pos) (tSl (rSlU K) ta tl th) (slM ma ml mh) := ⟨ha.k, pe_slice (sl_U ha.k) ha.p hl.p hh.p, by
  intro Φ σ H μ sg h d h' S rs e Q k
  unfold slM at e
  split at e
  · rename_i x h1 e1
    split at e
    · rename_i l h2 e2
      split at e
      · rename_i u h3 e3
        refine ha.s σ H μ sg h x h1 S rs e1 _ fun v H1 μ1 S1 l1 r1 => ?_
        refine hl.s σ H1 μ1 sg h1 l h2 S1 (rs.mono l1) e2 _ fun H2 μ2 S2 l2 => ?_
        refine hh.s σ H2 μ2 sg h2 u h3 S2 (rs.mono (l1.trans l2)) e3 _ fun H3 μ3 S3 l3 => ?_
        have r3 := Rp.mono (l2.trans l3) _ _ r1
        have k3 : Kn Φ K H3 μ3 h' d Q := fun v H' μ' S' l' r' => k v H' μ' S' (((l1.trans l2).trans l3).trans l') r'
        unfold sliceD at e
        split at e
        · split at e
          · rename_i hz
            cases e
            exact .inr (.inr ⟨_, rp_str' r3, ln_of hz, k3 _ H3 μ3 S3 Le.refl rp_str⟩)
          · cases e
        · rename_i xs
          cases e
          obtain ⟨p, vs, rfl, c1, c2⟩ := rp_tup' r3
          refine .inl ⟨p, vs, rfl, c1, fun z => ?_, fun _ q hq => kn_tup S3 (cut_of c2 l u) k3 q hq⟩
          have : cutD xs l u = xs := by
            unfold cutD
            rw [c2.len] at z
            rw [z.1, z.2]
            simp
          rw [this] at k3
          exact k3 _ H3 μ3 S3 Le.refl r3
        · rename_i xs
          cases e
          obtain ⟨p, vs, rfl, c1, c2⟩ := rp_rol' r3
          exact .inr (.inl ⟨p, vs, rfl, c1.l, fun q hq => kn_lst S3 (cut_of c2 l u) k3 q hq⟩)
        · split at e
          · rename_i n _ xs q
            cases e
            obtain ⟨p, ep, rfl⟩ := rp_at' r3
            obtain ⟨vs, c1, c2⟩ := S3.lst q ep
            exact .inr (.inl ⟨p, vs, rfl, .of c1, fun q hq => kn_lst S3 (cut_of c2 l u) k3 q hq⟩)
          · cases e
        · cases e
      · cases e
    · cases e
  · cases e⟩
end
end DL

/-! DL5: calls of built-ins, methods of lists and dicts. -/
namespace DL
open PySem L2 PySem.Spec PyProof.Rows

/-! ### calls of built-ins by trees -/
abbrev GC := List D → Hd → Option (D × Hd)
def SC (K : Kw) (r : List V → Hp → VK → Prop) (g : GC) : Prop := ∀ {Φ : Hp} (H : Hp) (μ : List Addr) (h : Hd) (xs : List D) (vs : List V) (d : D) (h' : Hd), Sm Φ K H μ h → Rps K H μ xs vs → g xs h = some (d, h') → ∀ Q : VK, Kn Φ K H μ h' d Q → r vs H Q
def cbM (g : GC) (a : MA) : ME := fun sg h => match a sg h with
  | some (xs, h1) => g xs h1
  | none => none
section
variable {K : Kw} {X : Cx} {pos p : Pos} {e : Expr} {es : List Expr} {ta : TA} {ma : MA} {r : List V → Hp → VK → Prop} {g : GC}
theorem se_cb (hs : SC K r g) (ha : SA K ta ma) : SE K (tCB r ta) (cbM g ma) := by
  intro Φ σ H μ sg h d h' S rs e Q k
  unfold cbM at e
  split at e
  · rename_i xs h1 e1
    exact ha σ H μ sg h xs h1 S rs e1 _ fun vs H1 μ1 S1 l1 r1 => hs H1 μ1 h1 xs vs d h' S1 r1 e Q fun v H2 μ2 S2 l2 r2 => k v H2 μ2 S2 (l1.trans l2) r2
  · cases e
theorem de_callB {x : Str} {id : String} (hs : SC K r g) (hc : CallR X (.builtin id) r) (hm : X.mg x = none) (ha : DA K X (e :: es) ta ma) (hv : bootBuiltins x = some (.builtin id) := by decide +kernel) (hg : Gl X x := by rfl) (hn : x ≠ "__name__" := by decide) (hdb : (x == ("__debug__" : Str)) = false := by decide)
    (he : starEach (e :: es) X.env = (false, eval e X.env) :: starEach es X.env := by rfl) (hpl : (backTo pos (starEach es X.env)).any (·.1) = false := by rfl) : DE K X (.Call (.Name x p) (e :: es) [] pos) (tCB r ta) (cbM g ma) := ⟨ha.k, pe_callB hc hg hm hv ha.p hn hdb he hpl, se_cb hs ha.s⟩
theorem de_callTy {x : Str} {T : String} (hs : SC K r g) (hc : CallR X (.type T) r) (hm : X.mg x = none) (ha : DA K X (e :: es) ta ma) (hv : bootBuiltins x = some (.type T) := by decide +kernel) (hg : Gl X x := by rfl) (hn : x ≠ "__name__" := by decide) (hdb : (x == ("__debug__" : Str)) = false := by decide)
    (he : starEach (e :: es) X.env = (false, eval e X.env) :: starEach es X.env := by rfl) (hpl : (backTo pos (starEach es X.env)).any (·.1) = false := by rfl) : DE K X (.Call (.Name x p) (e :: es) [] pos) (tCB r ta) (cbM g ma) := ⟨ha.k, pe_callTy hc hg hm hv ha.p hn hdb he hpl, se_cb hs ha.s⟩
end
theorem rps1 {K : Kw} {H : Hp} {μ : List Addr} {d : D} {vs : List V} (r : Rps K H μ [d] vs) : ∃ v, vs = [v] ∧ Rp K H μ d v := by
  obtain ⟨v, vs', rfl, a, b⟩ := r.cons'
  rw [b.nil']
  exact ⟨v, rfl, a⟩
theorem rps2 {K : Kw} {H : Hp} {μ : List Addr} {d e : D} {vs : List V} (r : Rps K H μ [d, e] vs) : ∃ v w, vs = [v, w] ∧ Rp K H μ d v ∧ Rp K H μ e w := by
  obtain ⟨v, vs', rfl, a, b⟩ := r.cons'
  obtain ⟨w, rfl, c⟩ := rps1 b
  exact ⟨v, w, rfl, a, c⟩

section
variable {K : Kw} {X : Cx}
/-- len -/
def lenD : GC := fun xs h => match xs with
  | [.str s] => if s.length ≤ LN then some (.int s.length, h) else none
  | [.at n] => match h[n]? with
    | some (.lst ys) => some (.int ys.length, h)
    | some (.dct kvs) => some (.int kvs.length, h)
    | _ => none
  | [.tup ys] => some (.int ys.length, h)
  | [.rol ys] => some (.int ys.length, h)
  | _ => none
def rLenA (K : Kw) : List V → Hp → VK → Prop := fun xs H Q => ∃ x n, xs = [x] ∧ LenV K x H n ∧ Q (.int n) H
def rLenDd : List V → Hp → VK → Prop := fun xs H Q => ∃ a kvs, xs = [V.ref a] ∧ H a = some (.dK kvs) ∧ Q (.int kvs.length) H
def rLenU (K : Kw) : List V → Hp → VK → Prop := fun xs H Q => rLenA K xs H Q ∨ rLenDd xs H Q
theorem call_lenU (hK : KOf X = K := by rfl) : CallR X (.builtin "len") (rLenU K) := by
  subst hK
  exact CallR.or (r := rLenA (KOf X)) (r' := rLenDd) call_len call_lenD
theorem sc_len : SC K (rLenU K) lenD := by
  intro Φ H μ h xs vs d h' S r e Q k
  unfold lenD at e
  split at e
  · split at e
    · rename_i hz
      cases e
      obtain ⟨v, rfl, a⟩ := rps1 r
      rw [rp_str' a]
      exact .inl ⟨_, _, rfl, ⟨ln_of hz, rfl⟩, k _ H μ S Le.refl rp_int⟩
    · cases e
  · obtain ⟨v, rfl, a⟩ := rps1 r
    obtain ⟨p, ep, rfl⟩ := rp_at' a
    split at e
    · rename_i ys q
      cases e
      obtain ⟨ws, b, c⟩ := S.lst q ep
      refine .inl ⟨_, _, rfl, .inl ⟨ws, .of b, rfl⟩, ?_⟩
      rw [c.len]
      exact k _ H μ S Le.refl rp_int
    · rename_i kvs q
      cases e
      obtain ⟨kw, b, c⟩ := S.dct q ep
      refine .inr ⟨p, kw, rfl, b, ?_⟩
      rw [c.len]
      exact k _ H μ S Le.refl rp_int
    · cases e
  · cases e
    obtain ⟨v, rfl, a⟩ := rps1 r
    obtain ⟨p, ws, rfl, b, c⟩ := rp_tup' a
    refine .inl ⟨_, _, rfl, .inr ⟨ws, b, rfl⟩, ?_⟩
    rw [c.len]
    exact k _ H μ S Le.refl rp_int
  · cases e
    obtain ⟨v, rfl, a⟩ := rps1 r
    obtain ⟨p, ws, rfl, b, c⟩ := rp_rol' a
    refine .inl ⟨_, _, rfl, .inl ⟨ws, b.l, rfl⟩, ?_⟩
    rw [c.len]
    exact k _ H μ S Le.refl rp_int
  · cases e
/-- abs, int, ord, min and max of two -/
def absD : GC := fun xs h => match xs with
  | [.int i] => some (.int (if i < 0 then -i else i), h)
  | _ => none
theorem sc_abs : SC K (fun xs H Q => ∃ i, xs = [.int i] ∧ Q (.int (if i < 0 then -i else i)) H) absD := by
  intro Φ H μ h xs vs d h' S r e Q k
  unfold absD at e
  split at e
  · cases e
    obtain ⟨v, rfl, a⟩ := rps1 r
    rw [rp_int' a]
    exact ⟨_, rfl, k _ H μ S Le.refl rp_int⟩
  · cases e
def intD : GC := fun xs h => match xs with
  | [.int i] => some (.int i, h)
  | [.bl b] => some (.int (if b then 1 else 0), h)
  | _ => none
theorem sc_int : SC K (fun xs H Q => (∃ i, xs = [.int i] ∧ Q (.int i) H) ∨ ∃ k, xs = [.bl k] ∧ Q (.int (if k then 1 else 0)) H) intD := by
  intro Φ H μ h xs vs d h' S r e Q k
  unfold intD at e
  split at e
  · cases e
    obtain ⟨v, rfl, a⟩ := rps1 r
    rw [rp_int' a]
    exact .inl ⟨_, rfl, k _ H μ S Le.refl rp_int⟩
  · cases e
    obtain ⟨v, rfl, a⟩ := rps1 r
    rw [rp_bl' a]
    exact .inr ⟨_, rfl, k _ H μ S Le.refl rp_int⟩
  · cases e
def ordD : GC := fun xs h => match xs with
  | [.str ⟨⟨[c]⟩⟩] => some (.int c, h)
  | _ => none
theorem sc_ord : SC K (fun xs H Q => ∃ x, xs = [.str x] ∧ x.length = 1 ∧ Q (.int (x.cps.getD 0 0 : Nat)) H) ordD := by
  intro Φ H μ h xs vs d h' S r e Q k
  unfold ordD at e
  split at e
  · cases e
    obtain ⟨v, rfl, a⟩ := rps1 r
    rw [rp_str' a]
    exact ⟨_, rfl, rfl, k _ H μ S Le.refl rp_int⟩
  · cases e
/-- all, any of a list of bools -/
def blsD : List D → Option (List Bool)
  | [] => some []
  | .bl b :: ds => match blsD ds with
    | some bs => some (b :: bs)
    | none => none
  | _ => none
theorem bls_of {H : Hp} {μ : List Addr} : ∀ {ds : List D} {vs : List V} {bs : List Bool}, Rps K H μ ds vs → blsD ds = some bs → vs = bs.map V.bl
  | [], vs, bs, r, e => by
    unfold blsD at e
    cases e
    exact r.nil'
  | .bl b :: ds, vs, bs, r, e => by
    unfold blsD at e
    obtain ⟨v, vs', rfl, a, c⟩ := r.cons'
    split at e
    · rename_i bs' q
      cases e
      rw [rp_bl' a, bls_of c q]
      rfl
    · cases e
  | .non :: ds, vs, bs, r, e => by unfold blsD at e; cases e
  | .int _ :: ds, vs, bs, r, e => by unfold blsD at e; cases e
  | .str _ :: ds, vs, bs, r, e => by unfold blsD at e; cases e
  | .ty _ :: ds, vs, bs, r, e => by unfold blsD at e; cases e
  | .ad _ :: ds, vs, bs, r, e => by unfold blsD at e; cases e
  | .tup _ :: ds, vs, bs, r, e => by unfold blsD at e; cases e
  | .rol _ :: ds, vs, bs, r, e => by unfold blsD at e; cases e
  | .at _ :: ds, vs, bs, r, e => by unfold blsD at e; cases e
def allD : GC := fun xs h => match xs with
  | [.at n] => match h[n]? with
    | some (.lst ys) => match blsD ys with
      | some bs => some (.bl (bs.all id), h)
      | none => none
    | _ => none
  | _ => none
theorem sc_all : SC K (rAll K) allD := by
  intro Φ H μ h xs vs d h' S r e Q k
  unfold allD at e
  split at e
  · split at e
    · rename_i ys q
      split at e
      · rename_i bs q2
        cases e
        obtain ⟨v, rfl, a⟩ := rps1 r
        obtain ⟨p, ep, rfl⟩ := rp_at' a
        obtain ⟨ws, b, c⟩ := S.lst q ep
        exact ⟨p, bs, rfl, by rw [← bls_of c q2]; exact .of b, k _ H μ S Le.refl rp_bl⟩
      · cases e
    · cases e
  · cases e
theorem call_allU (hK : KOf X = K := by rfl) (hc : X.calm = true := by rfl) : CallR X (.builtin "all") (rAll K) := by subst hK; exact cr_all hc
/-- max, min: of two ints, of a list of ints -/
def intsD : List D → Option (List Int)
  | [] => some []
  | .int b :: ds => match intsD ds with
    | some bs => some (b :: bs)
    | none => none
  | _ => none
theorem ints_of {H : Hp} {μ : List Addr} : ∀ {ds : List D} {vs : List V} {bs : List Int}, Rps K H μ ds vs → intsD ds = some bs → vs = bs.map V.int
  | [], vs, bs, r, e => by
    unfold intsD at e
    cases e
    exact r.nil'
  | .int b :: ds, vs, bs, r, e => by
    unfold intsD at e
    obtain ⟨v, vs', rfl, a, c⟩ := r.cons'
    split at e
    · rename_i bs' q
      cases e
      rw [rp_int' a, ints_of c q]
      rfl
    · cases e
  | .non :: ds, vs, bs, r, e => by unfold intsD at e; cases e
  | .bl _ :: ds, vs, bs, r, e => by unfold intsD at e; cases e
  | .str _ :: ds, vs, bs, r, e => by unfold intsD at e; cases e
  | .ty _ :: ds, vs, bs, r, e => by unfold intsD at e; cases e
  | .ad _ :: ds, vs, bs, r, e => by unfold intsD at e; cases e
  | .tup _ :: ds, vs, bs, r, e => by unfold intsD at e; cases e
  | .rol _ :: ds, vs, bs, r, e => by unfold intsD at e; cases e
  | .at _ :: ds, vs, bs, r, e => by unfold intsD at e; cases e
def maxI : Int → List Int → Int
  | m, [] => m
  | m, x :: xs => maxI (if x > m then x else m) xs
theorem maxI_mem : ∀ (xs : List Int) (m : Int), maxI m xs ∈ m :: xs
  | [], m => by simp [maxI]
  | x :: xs, m => by
    unfold maxI
    have := maxI_mem xs (if x > m then x else m)
    by_cases c : x > m
    · rw [if_pos c] at this ⊢
      rcases List.mem_cons.mp this with q | q
      · rw [q]; simp
      · exact List.mem_cons_of_mem _ (List.mem_cons_of_mem _ q)
    · rw [if_neg c] at this ⊢
      rcases List.mem_cons.mp this with q | q
      · rw [q]; simp
      · exact List.mem_cons_of_mem _ (List.mem_cons_of_mem _ q)
theorem maxI_le : ∀ (xs : List Int) (m : Int), ∀ y ∈ m :: xs, y ≤ maxI m xs
  | [], m, y, h => by
    simp at h
    unfold maxI
    omega
  | x :: xs, m, y, h => by
    unfold maxI
    have q := maxI_le xs (if x > m then x else m)
    have q0 := q _ List.mem_cons_self
    rcases List.mem_cons.mp h with rfl | h
    · split at q0 <;> rename_i c
      · rw [if_pos c]; omega
      · rw [if_neg c]; omega
    · rcases List.mem_cons.mp h with rfl | h
      · split at q0 <;> rename_i c
        · rw [if_pos c]; omega
        · rw [if_neg c]; omega
      · exact q y (List.mem_cons_of_mem _ h)
def maxD : GC := fun xs h => match xs with
  | [.int i, .int j] => some (.int (if j > i then j else i), h)
  | [.at n] => match h[n]? with
    | some (.lst ys) => match intsD ys with
      | some (m :: ms) => some (.int (maxI m ms), h)
      | _ => none
    | _ => none
  | _ => none
def rMax2A : List V → Hp → VK → Prop := fun xs H Q => ∃ i j, xs = [.int i, .int j] ∧ Q (.int (if j > i then j else i)) H
def rMaxU (K : Kw) : List V → Hp → VK → Prop := fun xs H Q => rMax2A xs H Q ∨ rMax K xs H Q
theorem call_maxU (hK : KOf X = K := by rfl) (hc : X.calm = true := by rfl) : CallR X (.builtin "max") (rMaxU K) := by
  subst hK
  exact CallR.or (r := rMax2A) (call_max2 hc) (cr_max hc)
theorem sc_max : SC K (rMaxU K) maxD := by
  intro Φ H μ h xs vs d h' S r e Q k
  unfold maxD at e
  split at e
  · cases e
    obtain ⟨v, w, rfl, a, b⟩ := rps2 r
    rw [rp_int' a, rp_int' b]
    exact .inl ⟨_, _, rfl, k _ H μ S Le.refl rp_int⟩
  · split at e
    · rename_i ys q
      split at e
      · rename_i m ms q2
        cases e
        obtain ⟨v, rfl, a⟩ := rps1 r
        obtain ⟨p, ep, rfl⟩ := rp_at' a
        obtain ⟨ws, b, c⟩ := S.lst q ep
        refine .inr ⟨p, m :: ms, rfl, by rw [← ints_of c q2]; exact .of b, by simp, fun z hz hm => ?_⟩
        have h1 := hm _ (maxI_mem ms m)
        have h2 := maxI_le ms m z hz
        have : z = maxI m ms := by omega
        rw [this]
        exact k _ H μ S Le.refl rp_int
      · cases e
    · cases e
  · cases e
def minD : GC := fun xs h => match xs with
  | [.int i, .int j] => some (.int (if j < i then j else i), h)
  | _ => none
theorem sc_min : SC K (fun xs H Q => ∃ i j, xs = [.int i, .int j] ∧ Q (.int (if j < i then j else i)) H) minD := by
  intro Φ H μ h xs vs d h' S r e Q k
  unfold minD at e
  split at e
  · cases e
    obtain ⟨v, w, rfl, a, b⟩ := rps2 r
    rw [rp_int' a, rp_int' b]
    exact ⟨_, _, rfl, k _ H μ S Le.refl rp_int⟩
  · cases e
/-- isinstance(x, T), T a built-in type -/
def kdD (h : Hd) : D → Option String
  | .non => some "NoneType"
  | .bl _ => some "bool"
  | .int _ => some "int"
  | .str _ => some "str"
  | .tup _ => some "tuple"
  | .rol _ => some "list"
  | .at n => match h[n]? with
    | some (.lst _) => some "list"
    | some (.dct _) => some "dict"
    | _ => none
  | .ty _ => none
  | .ad _ => none
def isiD : GC := fun xs h => match xs with
  | [x, .ty T] => match kdD h x with
    | some k => match kitB k T with
      | some b => some (.bl b, h)
      | none => none
    | none => none
  | _ => none
theorem kd_of {H : Hp} {μ : List Addr} {h : Hd} {d : D} {v : V} {s : String} (S : Sm Φ K H μ h) (r : Rp K H μ d v) (e : kdD h d = some s) : TyX K H v (.type s) := by
  unfold kdD at e
  split at e
  · cases e; rw [rp_non' r]; exact .base .non
  · cases e; rw [rp_bl' r]; exact .base (.bl _)
  · cases e; rw [rp_int' r]; exact .base (.int _)
  · cases e; rw [rp_str' r]; exact .base (.str _)
  · cases e
    obtain ⟨p, ws, rfl, b, c⟩ := rp_tup' r
    rcases b with (b | ⟨ob, b⟩) | ⟨o, its, n, b, b2, _⟩
    · exact .base (.tup b)
    · exact .fTuple b
    · exact .kTuple b b2
  · cases e
    obtain ⟨p, ws, rfl, b, c⟩ := rp_rol' r
    rcases b with ⟨ob, b⟩ | ⟨o, its, n, b, b2, _⟩
    · exact .base (.frz b)
    · exact .kList b b2
  · obtain ⟨p, ep, rfl⟩ := rp_at' r
    split at e
    · rename_i ys q
      cases e
      obtain ⟨ws, b, c⟩ := S.lst q ep
      exact .base (.lst b)
    · rename_i ys q
      cases e
      obtain ⟨ws, b, c⟩ := S.dct q ep
      exact .base (.dK b)
    · cases e
  · cases e
  · cases e
theorem sc_isi : SC K (rIsi K) isiD := by
  intro Φ H μ h xs vs d h' S r e Q k
  unfold isiD at e
  split at e
  · split at e
    · rename_i kk q
      split at e
      · rename_i b q2
        cases e
        obtain ⟨v, w, rfl, a, c⟩ := rps2 r
        rw [rp_ty' c]
        exact ⟨v, _, _, _, b, rfl, .ty _, kd_of S a q, kit_ty q2, k _ H μ S Le.refl rp_bl⟩
      · cases e
    · cases e
  · cases e
theorem call_isiU (hK : KOf X = K := by rfl) : CallR X (.builtin "isinstance") (rIsi K) := by subst hK; exact call_isi
/-- tuple(x), list(x) -/
def tuplD : GC := fun xs h => match xs with
  | [.tup ys] => some (.tup ys, h)
  | [.rol ys] => some (.tup ys, h)
  | [.at n] => match h[n]? with
    | some (.lst ys) => some (.tup ys, h)
    | _ => none
  | _ => none
def rTupl (K : Kw) : List V → Hp → VK → Prop := fun xs H Q => ∃ p ys, xs = [.ref p] ∧ ((SqL K H p ys ∧ ∀ l, H l = none → Q (.ref l) (upd H l (.tup ys))) ∨ (SqT K H p ys ∧ Q (.ref p) H))
theorem call_tuplU (hK : KOf X = K := by rfl) : CallR X (.type "tuple") (rTupl K) := by subst hK; exact call_tuple_of
theorem sc_tupl : SC K (rTupl K) tuplD := by
  intro Φ H μ h xs vs d h' S r e Q k
  unfold tuplD at e
  split at e
  · cases e
    obtain ⟨v, rfl, a⟩ := rps1 r
    obtain ⟨p, ws, rfl, b, c⟩ := rp_tup' a
    exact ⟨p, ws, rfl, .inr ⟨b, k _ H μ S Le.refl a⟩⟩
  · cases e
    obtain ⟨v, rfl, a⟩ := rps1 r
    obtain ⟨p, ws, rfl, b, c⟩ := rp_rol' a
    exact ⟨p, ws, rfl, .inl ⟨b.l, fun l hl => kn_tup S c k l hl⟩⟩
  · split at e
    · rename_i ys q
      cases e
      obtain ⟨v, rfl, a⟩ := rps1 r
      obtain ⟨p, ep, rfl⟩ := rp_at' a
      obtain ⟨ws, b, c⟩ := S.lst q ep
      exact ⟨p, ws, rfl, .inl ⟨.of b, fun l hl => kn_tup S c k l hl⟩⟩
    · cases e
  · cases e
def kD : Key → D
  | .inl i => .int i
  | .inr s => .str s
theorem rps_keys {H : Hp} {μ : List Addr} : ∀ {kvs : List (Key × D)} {kw : List (Key × V)}, kw.map (·.1) = kvs.map (·.1) → Rps K H μ (kvs.map fun kv => kD kv.1) (kw.map fun kv => kV kv.1)
  | [], kw, e => by
    have : kw = [] := by simpa using e
    subst this
    exact Rps.nil
  | (k, d) :: kvs, [], e => by simp at e
  | (k, d) :: kvs, (k', v) :: kw, e => by
    simp only [List.map_cons, List.cons.injEq] at e
    obtain ⟨rfl, e⟩ := e
    refine Rps.cons ?_ (rps_keys e)
    cases k' with
    | inl i => exact rp_int
    | inr s => exact rp_str
def listD : GC := fun xs h => match xs with
  | [.tup ys] => some (.at h.length, h ++ [.lst ys])
  | [.rol ys] => some (.at h.length, h ++ [.lst ys])
  | [.at n] => match h[n]? with
    | some (.lst ys) => some (.at h.length, h ++ [.lst ys])
    | some (.dct kvs) => some (.at h.length, h ++ [.lst (kvs.map fun kv => kD kv.1)])
    | _ => none
  | _ => none
def rListA (K : Kw) : List V → Hp → VK → Prop := fun xs H Q => ∃ p ys, xs = [.ref p] ∧ (SqL K H p ys ∨ SqT K H p ys) ∧ ∀ l, H l = none → Q (.ref l) (upd H l (.lst ys))
def rListU (K : Kw) : List V → Hp → VK → Prop := fun xs H Q => rListA K xs H Q ∨ rListD xs H Q
theorem call_listU (hK : KOf X = K := by rfl) (hc : X.calm = true := by rfl) : CallR X (.type "list") (rListU K) := by
  subst hK
  exact CallR.or (r := rListA (KOf X)) call_list_of (call_list_dK hc)
theorem sc_list : SC K (rListU K) listD := by
  intro Φ H μ h xs vs d h' S r e Q k
  unfold listD at e
  split at e
  · cases e
    obtain ⟨v, rfl, a⟩ := rps1 r
    obtain ⟨p, ws, rfl, b, c⟩ := rp_tup' a
    exact .inl ⟨p, ws, rfl, .inr b, fun l hl => kn_lst S c k l hl⟩
  · cases e
    obtain ⟨v, rfl, a⟩ := rps1 r
    obtain ⟨p, ws, rfl, b, c⟩ := rp_rol' a
    exact .inl ⟨p, ws, rfl, .inl b.l, fun l hl => kn_lst S c k l hl⟩
  · obtain ⟨v, rfl, a⟩ := rps1 r
    obtain ⟨p, ep, rfl⟩ := rp_at' a
    split at e
    · rename_i ys q
      cases e
      obtain ⟨ws, b, c⟩ := S.lst q ep
      exact .inl ⟨p, ws, rfl, .inl (.of b), fun l hl => kn_lst S c k l hl⟩
    · rename_i kvs q
      cases e
      obtain ⟨kw, b, c⟩ := S.dct q ep
      exact .inr ⟨p, kw, rfl, b, fun l hl => kn_lst S (rps_keys c.1) k l hl⟩
    · cases e
  · cases e
/-- dict(list of pairs) -/
def pairsD : List D → Option (List (Key × D))
  | [] => some []
  | .tup [a, b] :: ds => match keyD a, pairsD ds with
    | some k, some ps => some ((k, b) :: ps)
    | _, _ => none
  | _ => none
def mergeD (kvs more : List (Key × D)) : List (Key × D) := more.foldl (fun acc kv => putD acc kv.1 kv.2) kvs
theorem pairs_of {H : Hp} {μ : List Addr} : ∀ {ds : List D} {vs : List V} {ps : List (Key × D)}, Rps K H μ ds vs → pairsD ds = some ps →
    ∃ (as : List Addr) (kw : List (Key × V)), vs = as.map V.ref ∧ Paired (fun p kv => SqT K H p [kV kv.1, kv.2]) as kw ∧ Rkv K H μ ps kw := by
  intro ds
  induction ds with
  | nil =>
    intro vs ps r e
    unfold pairsD at e
    cases e
    exact ⟨[], [], r.nil', .nil, Rkv.nil⟩
  | cons d ds ih =>
    intro vs ps r e
    unfold pairsD at e
    split at e
    · rename_i heq; cases heq
    · rename_i a b ds' heq
      cases heq
      split at e
      · rename_i k ps' q1 q2
        cases e
        obtain ⟨v, vs', rfl, c1, c2⟩ := r.cons'
        obtain ⟨as, kw, rfl, c3, c4⟩ := ih c2 q2
        obtain ⟨p, ws, rfl, c5, c6⟩ := rp_tup' c1
        obtain ⟨u, w, rfl, c7, c8⟩ := rps2 c6
        rw [key_of c7 q1] at c5
        exact ⟨p :: as, (k, w) :: kw, rfl, .cons c5 c3, Rkv.cons c8 c4⟩
      · cases e
    · cases e
theorem Rkv.merge {H : Hp} {μ : List Addr} : ∀ {ps kvs : List (Key × D)} {kw kz : List (Key × V)}, Rkv K H μ ps kw → Rkv K H μ kvs kz → Rkv K H μ (mergeD kvs ps) (mergeK kz kw)
  | [], kvs, kw, kz, r, q => by rw [r.nil']; exact q
  | (k, d) :: ps, kvs, kw, kz, r, q => by
    obtain ⟨v, kw', rfl, a, b⟩ := r.cons'
    show Rkv K H μ (mergeD (putD kvs k d) ps) (mergeK (putK kz k v) kw')
    exact Rkv.merge b (q.put a)
def dictD : GC := fun xs h => match xs with
  | [.at n] => match h[n]? with
    | some (.lst ys) => match pairsD ys with
      | some ps => some (.at h.length, h ++ [.dct (mergeD [] ps)])
      | none => none
    | _ => none
  | _ => none
theorem kn_dct {H : Hp} {μ : List Addr} {h : Hd} {Q : VK} {kvs : List (Key × D)} {kw : List (Key × V)} (S : Sm Φ K H μ h) (r : Rkv K H μ kvs kw) (k : Kn Φ K H μ (h ++ [.dct kvs]) (.at h.length) Q) (p : Addr) (hp : H p = none) : Q (.ref p) (upd H p (.dK kw)) := by
  have l : Le K H μ (upd H p (.dK kw)) (μ ++ [p]) := le_obj hp
  exact k (.ref p) (upd H p (.dK kw)) (μ ++ [p]) (S.obj hp ⟨kw, upd_same, r.1, Rps.mono l _ _ r.2⟩) l (rp_at (obj_at S rfl))
def rDictP (K : Kw) : List V → Hp → VK → Prop := fun xs H Q => ∃ (a : Addr) (ps : List Addr) (kvs : List (Key × V)), xs = [.ref a] ∧ SqL K H a (ps.map V.ref) ∧ Paired (fun p kv => SqT K H p [kV kv.1, kv.2]) ps kvs ∧ ∀ p, H p = none → Q (.ref p) (upd H p (.dK (mergeK [] kvs)))
theorem call_dictU (hK : KOf X = K := by rfl) (hc : X.calm = true := by rfl) : CallR X (.type "dict") (rDictP K) := by subst hK; exact call_dictP hc
theorem sc_dict : SC K (rDictP K) dictD := by
  intro Φ H μ h xs vs d h' S r e Q k
  unfold dictD at e
  split at e
  · split at e
    · rename_i ys q
      split at e
      · rename_i ps q2
        cases e
        obtain ⟨v, rfl, a⟩ := rps1 r
        obtain ⟨p, ep, rfl⟩ := rp_at' a
        obtain ⟨ws, b, c⟩ := S.lst q ep
        obtain ⟨as, kw, rfl, c3, c4⟩ := pairs_of c q2
        exact ⟨p, as, kw, rfl, .of b, c3, fun l hl => kn_dct S (Rkv.merge c4 Rkv.nil) k l hl⟩
      · cases e
    · cases e
  · cases e
end

/-! ### methods of lists -/
abbrev GM := D → List D → Hd → Option (D × Hd)
def SM (K : Kw) (r : V → List V → Hp → VK → Prop) (g : GM) : Prop := ∀ {Φ : Hp} (H : Hp) (μ : List Addr) (h : Hd) (x : D) (v : V) (xs : List D) (vs : List V) (d : D) (h' : Hd), Sm Φ K H μ h → Rp K H μ x v → Rps K H μ xs vs → g x xs h = some (d, h') → ∀ Q : VK, Kn Φ K H μ h' d Q → r v vs H Q
/-- the receiver's kind, seen ahead of the arguments -/
def kindD (T : String) (h : Hd) (x : D) : Bool := match x with
  | .str _ => T == "str"
  | .at n => match h[n]? with
    | some (.lst _) => T == "list"
    | some (.dct _) => T == "dict"
    | _ => false
  | .rol _ => T == "list"
  | _ => false
theorem kind_of {K : Kw} {H : Hp} {μ : List Addr} {h : Hd} {T : String} {x : D} {v : V} (S : Sm Φ K H μ h) (r : Rp K H μ x v) (e : kindD T h x = true) : tyV K T v H := by
  unfold kindD at e
  split at e
  · rw [rp_str' r]
    exact eq_of_beq e
  · obtain ⟨p, ep, rfl⟩ := rp_at' r
    split at e
    · rename_i ys q
      obtain ⟨ws, b, c⟩ := S.lst q ep
      exact .inl ⟨eq_of_beq e, ws, .of b⟩
    · rename_i ys q
      obtain ⟨ws, b, c⟩ := S.dct q ep
      exact .inr (.inr (.inl ⟨eq_of_beq e, .inl ⟨ws, b⟩⟩))
    · cases e
  · obtain ⟨p, ws, rfl, b, c⟩ := rp_rol' r
    exact .inl ⟨eq_of_beq e, ws, b.l⟩
  · cases e
def bmM (T : String) (g : GM) (o : ME) (a : MA) : ME := fun sg h => match o sg h with
  | some (x, h1) => if kindD T h1 x = true then match a sg h1 with
    | some (xs, h2) => g x xs h2
    | none => none else none
  | none => none
section
variable {K : Kw} {X : Cx} {apos cpos : Pos} {o e : Expr} {es : List Expr} {to : TE} {mo : ME} {ta : TA} {ma : MA} {r : V → List V → Hp → VK → Prop} {g : GM} {T id : String} {name : Str}
theorem de_bm (hs : SM K r g) (pa : PlainAttrs T) (slot : Slot T name id) (hty : typeOf (.builtin id) = pure (.type "method_descriptor")) (hm : MtR X id r) (ho : DE K X o to mo) (ha : DA K X (e :: es) ta ma)
    (hbase : attributeBase o name X.env (eval o X.env) = eval o X.env := by rfl)
    (hfew : ((backTo cpos (starEach (e :: es) X.env)).all (fun x => !x.1) && (backToKw cpos (keywordEach [] X.env)).all (fun x => x.1.isSome)
      && decide ((e :: es).length + ([] : List Keyword).length + (if ([] : List Keyword).isEmpty then 0 else 1) < 30)) = true := by rfl)
    (hline : (apos.endLine == cpos.line) = true := by rfl) (hs1 : starEach (e :: es) X.env = (false, eval e X.env) :: starEach es X.env := by rfl) (hplain : (backTo cpos (starEach es X.env)).any (·.1) = false := by rfl) :
    DE K X (.Call (.Attribute o name apos) (e :: es) [] cpos) (tBM K T r to ta) (bmM T g mo ma) := ⟨ho.k, by
  have hk := ho.k
  subst hk
  exact pe_bm pa slot hty hm ho.p ha.p hbase hfew hline hs1 hplain, by
  intro Φ σ H μ sg h d h' S rs e Q k
  unfold bmM at e
  split at e
  · rename_i x h1 e1
    split at e
    · rename_i hk
      split at e
      · rename_i xs h2 e2
        refine ho.s σ H μ sg h x h1 S rs e1 _ fun v H1 μ1 S1 l1 r1 => ⟨kind_of S1 r1 hk, ?_⟩
        refine ha.s σ H1 μ1 sg h1 xs h2 S1 (rs.mono l1) e2 _ fun vs H2 μ2 S2 l2 r2 => ?_
        exact hs H2 μ2 h2 x v xs vs d h' S2 (Rp.mono l2 _ _ r1) r2 e Q fun v H3 μ3 S3 l3 r3 => k v H3 μ3 S3 ((l1.trans l2).trans l3) r3
      · cases e
    · cases e
  · cases e⟩
theorem de_bm0 (hs : SM K r g) (pa : PlainAttrs T) (slot : Slot T name id) (hty : typeOf (.builtin id) = pure (.type "method_descriptor")) (hm : MtR X id r) (ho : DE K X o to mo)
    (hbase : attributeBase o name X.env (eval o X.env) = eval o X.env := by rfl) (hline : (apos.endLine == cpos.line) = true := by rfl) :
    DE K X (.Call (.Attribute o name apos) [] [] cpos) (tBM0 K T r to) (bmM T g mo nilM) := ⟨ho.k, by
  have hk := ho.k
  subst hk
  exact pe_bm0 pa slot hty hm ho.p hbase hline, by
  intro Φ σ H μ sg h d h' S rs e Q k
  unfold bmM at e
  split at e
  · rename_i x h1 e1
    split at e
    · rename_i hk
      split at e
      · rename_i xs h2 e2
        cases e2
        refine ho.s σ H μ sg h x h1 S rs e1 _ fun v H1 μ1 S1 l1 r1 => ⟨kind_of S1 r1 hk, ?_⟩
        exact hs H1 μ1 h1 x v [] [] d h' S1 r1 Rps.nil e Q fun v H3 μ3 S3 l3 r3 => k v H3 μ3 S3 (l1.trans l3) r3
      · cases e
    · cases e
  · cases e⟩
def appendD : GM := fun x xs h => match x, xs with
  | .at n, [y] => match h[n]? with
    | some (.lst ys) => if ys.length < LN then some (.non, h.set n (.lst (ys ++ [y]))) else none
    | _ => none
  | _, _ => none
theorem ln_lt {n : Nat} (h : n < LN) : n < sizeLine := by rw [sizeLine_eq]; exact h
theorem sm_append : SM K rAppend appendD := by
  intro Φ H μ h x v xs vs d h' S r1 r2 e Q k
  unfold appendD at e
  split at e
  · split at e
    · rename_i ys q
      split at e
      · rename_i hz
        cases e
        obtain ⟨p, ep, rfl⟩ := rp_at' r1
        obtain ⟨w, rfl, a⟩ := rps1 r2
        obtain ⟨ws, b, c⟩ := S.lst q ep
        exact ⟨p, ws, w, rfl, rfl, b, by rw [c.len]; exact ln_lt hz, kn_set S ep (c.app (Rps.cons a Rps.nil)) rp_non k⟩
      · cases e
    · cases e
  · cases e
def popD : GM := fun x xs h => match x, xs with
  | .at n, [] => match h[n]? with
    | some (.lst ys) => match ys[ys.length - 1]? with
      | some y => some (y, h.set n (.lst ys.dropLast))
      | none => none
    | _ => none
  | _, _ => none
theorem Rps.dropLast {H : Hp} {μ : List Addr} {ds : List D} {vs : List V} (r : Rps K H μ ds vs) : Rps K H μ ds.dropLast vs.dropLast := by
  rw [List.dropLast_eq_take, List.dropLast_eq_take, r.len]
  exact r.take _
theorem sm_pop : SM K rPop popD := by
  intro Φ H μ h x v xs vs d h' S r1 r2 e Q k
  unfold popD at e
  split at e
  · split at e
    · rename_i ys q
      split at e
      · rename_i y q2
        cases e
        obtain ⟨p, ep, rfl⟩ := rp_at' r1
        obtain ⟨ws, b, c⟩ := S.lst q ep
        obtain ⟨w, c1, c2⟩ := c.get q2
        exact ⟨p, ws, w, rfl, r2.nil', b, by rw [c.len]; exact c1, kn_set S ep c.dropLast c2 k⟩
      · cases e
    · cases e
  · cases e
end
end DL

namespace PySem
open Sem Builtin
theorem list_extend_list_tup (l : Addr) (items : Array Value) (n : Nat) (b : Addr) (items2 : Array Value) (n2 : Nat) (dd : Option Addr) (sl : Array (Option Value)) (hs0 : ¬(!items.isEmpty && Builtin.List.listTooLong (items.size + items2.size)) = true) (hs1 : items.size ≤ sizeLine) (hs2 : items.size + items2.size ≤ sizeLine + 1) :
    Meets (Builtin.«list.extend» ⟨[.ref l, .ref b], []⟩) (fun _ R s => s.heap.get? l = some { cls := .type "list", dict := none, data := .seq items n, slots := #[] } ∧ s.heap.get? b = some { cls := .type "tuple", dict := dd, data := .seq items2 n2, slots := sl } ∧ R (.ok (.ret Value.none)) { s with heap := s.heap.update l (Obj.mapSeq fun x => x ++ items2), toks := s.toks }) :=
  .of_wp fun prog w A R s h => by
    obtain ⟨hp, g, d, tk, os⟩ := s; obtain ⟨hl, hb, h⟩ := h; have f1 := AutoSeq1.idx_int; have f2 := AutoSeq1.sub_tuple_tuple; have f3 := AutoSeq1.sub_list_list; have f4 := AutoSeq1.sub_tuple_list; have f5 := AutoSeq1.sub_list_tuple;
    have hz' : (items ++ items2).size ≤ sizeLine + 1 := by rw [Array.size_append]; exact hs2
    wp_walk using (wpAny_updateSeq hl rfl (hz := hs1) (_hz' := hz')), wpAny_loadPart' hl, wpAny_loadPart' hb; exact ⟨_, rfl, h⟩
end PySem
namespace DL
open PySem L2 PySem.Spec PyProof.Rows
section
variable {K : Kw} {X : Cx}
/-- xs.extend(a list, a tuple) -/
def rExtT (K : Kw) : V → List V → Hp → VK → Prop := fun x vs H Q => ∃ l b xs zs, x = .ref l ∧ vs = [.ref b] ∧ H l = some (.lst xs) ∧ SqT K H b zs ∧ xs.length + zs.length ≤ sizeLine ∧ Q .non (upd H l (.lst (xs ++ zs)))
theorem mt_extT : MtR X "list.extend" (rExtT (KOf X)) := by
  intro pins s σ H x vs v us Q I rx rv h
  obtain ⟨l, b, xs, zs, rfl, rfl, hH, hB, hz, q⟩ := h
  cases rx
  obtain ⟨u, rfl, ru⟩ := rv.one
  cases ru
  obtain ⟨z, its, n, r, hl, e⟩ := I.lstM hH
  obtain ⟨its2, r2, ⟨⟨cls2, dd2, data2, sl2⟩, ho2, hc2, n2, hd2⟩, hz2⟩ := I.tuple hB
  simp only at hc2 hd2
  subst hc2 hd2
  have hl2 := r2.length
  have hsz : its.toArray.size + its2.toArray.size ≤ sizeLine := by rw [List.size_toArray, List.size_toArray]; omega
  have hlong : ¬ (!its.toArray.isEmpty && Builtin.List.listTooLong (its.toArray.size + its2.toArray.size)) = true := by
    rw [notLongL hsz, Bool.and_false]
    exact Bool.false_ne_true
  refine call_meets F.slot_list_extend ⟨_, e, rfl⟩ F.entry_list_extend (F.args_list_extend_2 _ _)
    (PySem.list_extend_list_tup l its.toArray n b its2.toArray n2 dd2 sl2 hlong (by rw [List.size_toArray]; omega) (by omega)) ⟨e, ho2, ?_⟩
  refine ⟨.non, _, I.lset (its' := its ++ its2) hH e (by simp) (r.append r2) ?_, rfl, q⟩
  rw [List.length_append]
  omega
def rExtU (K : Kw) : V → List V → Hp → VK → Prop := fun x xs H Q => rExtend x xs H Q ∨ rExtT K x xs H Q
theorem mt_extU (hK : KOf X = K := by rfl) : MtR X "list.extend" (rExtU K) := by
  subst hK
  exact MtR.or (r := rExtend) (r' := rExtT (KOf X)) mt_extend mt_extT
def extendD : GM := fun x xs h => match x, xs with
  | .at n, [.tup zs] => match h[n]? with
    | some (.lst ys) => if ys.length + zs.length ≤ LN then some (.non, h.set n (.lst (ys ++ zs))) else none
    | _ => none
  | .at n, [.at m] => match h[n]?, h[m]? with
    | some (.lst ys), some (.lst zs) => if ys.length + zs.length ≤ LN then some (.non, h.set n (.lst (ys ++ zs))) else none
    | _, _ => none
  | _, _ => none
theorem sm_extend : SM K (rExtU K) extendD := by
  intro Φ H μ h x v xs vs d h' S r1 r2 e Q k
  unfold extendD at e
  split at e
  · split at e
    · rename_i ys q
      split at e
      · rename_i hz
        cases e
        obtain ⟨p, ep, rfl⟩ := rp_at' r1
        obtain ⟨w, rfl, a⟩ := rps1 r2
        obtain ⟨ws, b, c⟩ := S.lst q ep
        obtain ⟨p2, ws2, rfl, b2, c2⟩ := rp_tup' a
        exact .inr ⟨p, p2, ws, ws2, rfl, rfl, b, b2, by rw [c.len, c2.len]; exact ln_of hz, kn_set S ep (c.app c2) rp_non k⟩
      · cases e
    · cases e
  · split at e
    · rename_i ys zs q q2
      split at e
      · rename_i hz
        cases e
        obtain ⟨p, ep, rfl⟩ := rp_at' r1
        obtain ⟨w, rfl, a⟩ := rps1 r2
        obtain ⟨ws, b, c⟩ := S.lst q ep
        obtain ⟨p2, ep2, rfl⟩ := rp_at' a
        obtain ⟨ws2, b2, c2⟩ := S.lst q2 ep2
        exact .inl ⟨p, p2, ws, ws2, rfl, rfl, b, b2, by rw [c.len, c2.len]; exact ln_of hz, kn_set S ep (c.app c2) rp_non k⟩
      · cases e
    · cases e
  · cases e
end
/-! ### d.get(k), d.get(k, x) -/
def getD2 (o a b : ME) : ME := fun sg h => match o sg h with
  | some (.at n, h1) => if isDct h1 (.at n) = true then match a sg h1 with
    | some (y, h2) => match b sg h2 with
      | some (z, h3) => match h3[n]? with
        | some (.dct kvs) => match keyD y with
          | some k => some ((valD kvs k).getD z, h3)
          | none => none
        | _ => none
      | none => none
    | none => none else none
  | _ => none
def getD1 (o a : ME) : ME := getD2 o a (cM .non)
section
variable {K : Kw} {X : Cx} {apos cpos : Pos} {o a b : Expr} {to ta tb : TE} {mo ma mb : ME}
theorem is_dct {H : Hp} {μ : List Addr} {h : Hd} {n : Nat} {p : Addr} (S : Sm Φ K H μ h) (ep : μ[n]? = some p) (e : isDct h (.at n) = true) : IsD H p := by
  unfold isDct at e
  simp only at e
  split at e
  · rename_i kvs q
    obtain ⟨kw, b, c⟩ := S.dct q ep
    exact .inl ⟨kw, .of b⟩
  · cases e
theorem de_get2 (hu : X.A.units + 1 < cLine) (ho : DE K X o to mo) (ha : DE K X a ta ma) (hb : DE K X b tb mb) (m : M2 X o "get" apos a b cpos := by exact ⟨rfl, rfl, rfl, rfl⟩) :
    DE K X (.Call (.Attribute o "get" apos) [a, b] [] cpos) (tDGet2 to ta tb) (getD2 mo ma mb) := ⟨ho.k, pe_dget2 hu ho.p ha.p hb.p m, by
  intro Φ σ H μ sg h d h' S rs e Q k
  unfold getD2 at e
  split at e
  · rename_i n h1 e1
    split at e
    · rename_i hd
      split at e
      · rename_i y h2 e2
        split at e
        · rename_i z h3 e3
          split at e
          · rename_i kvs q
            split at e
            · rename_i kk q2
              cases e
              refine ho.s σ H μ sg h _ h1 S rs e1 _ fun v H1 μ1 S1 l1 r1 => ?_
              obtain ⟨p, ep, rfl⟩ := rp_at' r1
              refine ⟨p, rfl, is_dct S1 ep hd, ?_⟩
              refine ha.s σ H1 μ1 sg h1 y h2 S1 (rs.mono l1) e2 _ fun w H2 μ2 S2 l2 r2 => ?_
              refine hb.s σ H2 μ2 sg h2 z _ S2 (rs.mono (l1.trans l2)) e3 _ fun u H3 μ3 S3 l3 r3 => ?_
              have ep3 := (l2.trans l3).get ep
              obtain ⟨kw, c1, c2⟩ := S3.dct q ep3
              refine ⟨valV kw kk, ?_, ?_⟩
              · rw [key_of (Rp.mono l3 _ _ r2) q2]
                exact DGet.k c1
              · rcases c2.val (k := kk) with ⟨z1, z2⟩ | ⟨d2, u2, z1, z2, z3⟩
                · rw [z2]
                  rw [z1] at k
                  exact k u H3 μ3 S3 ((l1.trans l2).trans l3) r3
                · rw [z2]
                  rw [z1] at k
                  exact k u2 H3 μ3 S3 ((l1.trans l2).trans l3) z3
            · cases e
          · cases e
        · cases e
      · cases e
    · cases e
  · cases e⟩
theorem de_get1 (hu : X.A.units + 1 < cLine) (ho : DE K X o to mo) (ha : DE K X a ta ma) (m : M1 X o "get" apos a cpos := by exact ⟨rfl, rfl, rfl, rfl⟩) :
    DE K X (.Call (.Attribute o "get" apos) [a] [] cpos) (tDGet1 to ta) (getD1 mo ma) := ⟨ho.k, pe_dget1 hu ho.p ha.p m, by
  intro Φ σ H μ sg h d h' S rs e Q k
  unfold getD1 getD2 at e
  split at e
  · rename_i n h1 e1
    split at e
    · rename_i hd
      split at e
      · rename_i y h2 e2
        split at e
        · rename_i z h3 e3
          cases e3
          split at e
          · rename_i kvs q
            split at e
            · rename_i kk q2
              cases e
              refine ho.s σ H μ sg h _ h1 S rs e1 _ fun v H1 μ1 S1 l1 r1 => ?_
              obtain ⟨p, ep, rfl⟩ := rp_at' r1
              refine ⟨p, rfl, is_dct S1 ep hd, ?_⟩
              refine ha.s σ H1 μ1 sg h1 y _ S1 (rs.mono l1) e2 _ fun w H2 μ2 S2 l2 r2 => ?_
              have ep3 := l2.get ep
              obtain ⟨kw, c1, c2⟩ := S2.dct q ep3
              refine ⟨valV kw kk, ?_, ?_⟩
              · rw [key_of r2 q2]
                exact DGet.k c1
              · rcases c2.val (k := kk) with ⟨z1, z2⟩ | ⟨d2, u2, z1, z2, z3⟩
                · rw [z2]
                  rw [z1] at k
                  exact k .non H2 μ2 S2 (l1.trans l2) rp_non
                · rw [z2]
                  rw [z1] at k
                  exact k u2 H2 μ2 S2 (l1.trans l2) z3
            · cases e
          · cases e
        · cases e
      · cases e
    · cases e
  · cases e⟩
/-- {} -/
def dnewM : ME := fun _ h => some (.at h.length, h ++ [.dct []])
theorem de_dnew {pos : Pos} (hK : KOf X = K := by rfl) : DE K X (.Dict [] [] pos) tDNewK dnewM := ⟨hK, pe_dnewK, by
  intro Φ σ H μ sg h d h' S rs e Q k
  cases e
  exact fun p hp => kn_dct S Rkv.nil k p hp⟩
end
end DL

/-! DL6: statements, targets, loops, comprehensions. -/
namespace DL
open PySem L2 PySem.Spec PyProof.Rows

inductive Fl where
  | nx (sg : Sg) | rt (d : D) | bk (sg : Sg) | ct (sg : Sg)
abbrev MS := Sg → Hd → Option (Fl × Hd)
def Ek (Φ : Hp) (K : Kw) (H : Hp) (μ : List Addr) (h' : Hd) (f : Fl) (E : Ends) : Prop := match f with
  | .nx sg' => ∀ (σ' : L2.St) (H' : Hp) (μ' : List Addr), Sm Φ K H' μ' h' → Le K H μ H' μ' → Rs K H' μ' sg' σ' → E.nx σ' H'
  | .rt d => ∀ (v : V) (H' : Hp) (μ' : List Addr), Sm Φ K H' μ' h' → Le K H μ H' μ' → Rp K H' μ' d v → E.rt v H'
  | .bk sg' => ∀ (σ' : L2.St) (H' : Hp) (μ' : List Addr), Sm Φ K H' μ' h' → Le K H μ H' μ' → Rs K H' μ' sg' σ' → E.bk σ' H'
  | .ct sg' => ∀ (σ' : L2.St) (H' : Hp) (μ' : List Addr), Sm Φ K H' μ' h' → Le K H μ H' μ' → Rs K H' μ' sg' σ' → E.ct σ' H'
def SS (K : Kw) (t : TS) (m : MS) : Prop := ∀ {Φ : Hp} (σ : L2.St) (H : Hp) (μ : List Addr) (sg : Sg) (h : Hd) (f : Fl) (h' : Hd), Sm Φ K H μ h → Rs K H μ sg σ → m sg h = some (f, h') → ∀ E : Ends, Ek Φ K H μ h' f E → t E σ H
structure DS (K : Kw) (X : Cx) (st : Stmt) (t : TS) (m : MS) : Prop where
  k : KOf X = K
  p : PS X st t
  s : SS K t m
structure DSs (K : Kw) (X : Cx) (st : List Stmt) (t : TS) (m : MS) : Prop where
  k : KOf X = K
  p : PSs X st t
  s : SS K t m
theorem Ek.le {K : Kw} {H H1 : Hp} {μ μ1 : List Addr} {h' : Hd} {f : Fl} {E : Ends} (l : Le K H μ H1 μ1) (k : Ek Φ K H μ h' f E) : Ek Φ K H1 μ1 h' f E := by
  cases f <;> exact fun a b c d e g => k a b c d (l.trans e) g

/-! ### targets -/
abbrev MG := D → Sg → Hd → Option (Sg × Hd)
abbrev MGs := List D → Sg → Hd → Option (Sg × Hd)
def SG (K : Kw) (t : TG) (m : MG) : Prop := ∀ {Φ : Hp} (σ : L2.St) (H : Hp) (μ : List Addr) (sg : Sg) (h : Hd) (x : D) (v : V) (sg' : Sg) (h' : Hd), Sm Φ K H μ h → Rs K H μ sg σ → Rp K H μ x v → m x sg h = some (sg', h') →
  ∀ Q : L2.St → Hp → Prop, (∀ (σ' : L2.St) (H' : Hp) (μ' : List Addr), Sm Φ K H' μ' h' → Le K H μ H' μ' → Rs K H' μ' sg' σ' → Q σ' H') → t v σ H Q
def SGs (K : Kw) (t : TGs) (m : MGs) : Prop := ∀ {Φ : Hp} (σ : L2.St) (H : Hp) (μ : List Addr) (sg : Sg) (h : Hd) (xs : List D) (vs : List V) (sg' : Sg) (h' : Hd), Sm Φ K H μ h → Rs K H μ sg σ → Rps K H μ xs vs → m xs sg h = some (sg', h') →
  ∀ Q : L2.St → Hp → Prop, (∀ (σ' : L2.St) (H' : Hp) (μ' : List Addr), Sm Φ K H' μ' h' → Le K H μ H' μ' → Rs K H' μ' sg' σ' → Q σ' H') → t vs σ H Q
/-- what a target leaves of the slots vs of a comprehension -/
def Only (vs : List Nat) (t : TG) : Prop := ∀ (v : V) (σ : L2.St) (H : Hp) (Q : L2.St → Hp → Prop), t v σ H Q → t v σ H fun σ2 H2 => wipe σ2 vs = wipe σ vs ∧ Q σ2 H2
def Onlys (vs : List Nat) (t : TGs) : Prop := ∀ (v : List V) (σ : L2.St) (H : Hp) (Q : L2.St → Hp → Prop), t v σ H Q → t v σ H fun σ2 H2 => wipe σ2 vs = wipe σ vs ∧ Q σ2 H2
structure DG (K : Kw) (X : Cx) (e : Expr) (t : TG) (m : MG) : Prop where
  k : KOf X = K
  p : PG X e t
  s : SG K t m
structure DGs (K : Kw) (X : Cx) (e : List Expr) (t : TGs) (m : MGs) : Prop where
  k : KOf X = K
  p : PGs X e t
  s : SGs K t m
def nameG (i : Nat) : MG := fun d sg h => some (sg.set i (some d), h)
def nilG : MGs := fun ds sg h => match ds with
  | [] => some (sg, h)
  | _ => none
def consG (a : MG) (b : MGs) : MGs := fun ds sg h => match ds with
  | d :: ds => match a d sg h with
    | some (sg1, h1) => b ds sg1 h1
    | none => none
  | [] => none
def tupG (n : Nat) (a : MGs) : MG := fun d sg h => match d with
  | .tup xs => if xs.length = n then a xs sg h else none
  | _ => none
section
variable {K : Kw} {X : Cx} {pos : Pos}
theorem sg_name (i : Nat) : SG K (gName i) (nameG i) := by
  intro Φ σ H μ sg h x v sg' h' S rs r e Q k
  cases e
  exact k _ H μ S Le.refl (rs.put i r)
theorem dg_name (i : Nat) {x : Str} (hN : X.N.Nodup) (hi : X.N[i]? = some x := by rfl) (hx : Loc X.env.scope x := by first | exact Or.inl rfl | exact Or.inr rfl) (hf : X.fn x = true ∨ X.env.scope.names.lookup x = some .local := by first | exact .inl rfl | exact .inr rfl) (hK : KOf X = K := by rfl) :
    DG K X (.Name x pos) (gName i) (nameG i) := ⟨hK, pg_name hN hi hx hf, sg_name i⟩
theorem dgs_nil (hK : KOf X = K := by rfl) : DGs K X [] gNil nilG := ⟨hK, pgs_nil, by
  intro Φ σ H μ sg h x v sg' h' S rs r e Q k
  unfold nilG at e
  split at e
  · cases e
    exact ⟨r.nil', k σ H μ S Le.refl rs⟩
  · cases e⟩
theorem dgs_cons {e : Expr} {es : List Expr} {t : TG} {u : TGs} {m : MG} {n : MGs} (a : DG K X e t m) (b : DGs K X es u n) (hs : (assignEach (e :: es) X.env).map (·.2) = assign e X.env :: (assignEach es X.env).map (·.2) := by rfl) : DGs K X (e :: es) (gCons t u) (consG m n) := ⟨a.k, pgs_cons a.p b.p hs, by
  intro Φ σ H μ sg h x v sg' h' S rs r e Q k
  unfold consG at e
  split at e
  · split at e
    · rename_i sg1 h1 e1
      obtain ⟨w, ws, rfl, r1, r2⟩ := r.cons'
      refine ⟨w, ws, rfl, a.s σ H μ sg h _ w sg1 h1 S rs r1 e1 _ fun σ1 H1 μ1 S1 l1 rs1 => ?_⟩
      exact b.s σ1 H1 μ1 sg1 h1 _ ws sg' h' S1 rs1 (Rps.mono l1 _ _ r2) e Q fun σ2 H2 μ2 S2 l2 rs2 => k σ2 H2 μ2 S2 (l1.trans l2) rs2
    · cases e
  · cases e⟩
theorem dg_tup {es : List Expr} {k0 : Nat} {t : TGs} {m : MGs} {n : Nat} (a : DGs K X es t m) (hn : (assignEach es X.env).length = n := by rfl) (hst : (assignEach es X.env).findIdx? (·.1) = none := by rfl) (hc : X.calm = true := by rfl) :
    DG K X (.Tuple es k0 pos) (gTup K n t) (tupG n m) := ⟨a.k, by
  have hk := a.k
  subst hk
  exact pg_tup hc a.p hn hst, by
  intro Φ σ H μ sg h x v sg' h' S rs r e Q k
  unfold tupG at e
  split at e
  · split at e
    · rename_i hl
      obtain ⟨p, vs, rfl, b, c⟩ := rp_tup' r
      exact ⟨p, vs, rfl, b, by rw [c.len]; exact hl, a.s σ H μ sg h _ vs sg' h' S rs c e Q k⟩
    · cases e
  · cases e⟩
theorem wipe_set {σ : L2.St} {i : Nat} {o : Option V} : ∀ {vs : List Nat}, i ∈ vs → wipe (σ.set i o) vs = wipe σ vs
  | v :: vs, h => by
    unfold wipe
    by_cases e : i ∈ vs
    · rw [wipe_set e]
    · have : i = v := by
        rcases List.mem_cons.mp h with q | q
        · exact q
        · exact absurd q e
      subst this
      have : ∀ ws : List Nat, i ∉ ws → wipe (σ.set i o) ws = (wipe σ ws).set i o := by
        intro ws
        induction ws with
        | nil => intro _; rfl
        | cons w ws ih =>
          intro hn
          unfold wipe
          rw [ih (fun q => hn (List.mem_cons_of_mem _ q)), List.set_comm]
          intro z
          exact hn (by rw [z]; exact List.mem_cons_self)
      rw [this vs e, List.set_set]
theorem wipe_idem (σ : L2.St) : ∀ vs : List Nat, wipe (wipe σ vs) vs = wipe σ vs := by
  have key : ∀ (vs us : List Nat), (∀ i ∈ us, i ∈ vs) → wipe (wipe σ us) vs = wipe σ vs := by
    intro vs us
    induction us with
    | nil => intro _; rfl
    | cons u us ih =>
      intro h
      show wipe ((wipe σ us).set u none) vs = wipe σ vs
      rw [wipe_set (h u List.mem_cons_self)]
      exact ih fun i hi => h i (List.mem_cons_of_mem _ hi)
  exact fun vs => key vs vs fun i h => h
theorem only_name {i : Nat} {vs : List Nat} (h : i ∈ vs) : Only vs (gName i) := fun v σ H Q q => ⟨wipe_set h, q⟩
theorem onlys_nil {vs : List Nat} : Onlys vs gNil := fun v σ H Q q => ⟨q.1, rfl, q.2⟩
theorem onlys_cons {vs : List Nat} {t : TG} {u : TGs} (a : Only vs t) (b : Onlys vs u) (mono : ∀ v σ H (Q Q' : L2.St → Hp → Prop), t v σ H Q → (∀ σ' H', Q σ' H' → Q' σ' H') → t v σ H Q') : Onlys vs (gCons t u) := fun v σ H Q q => by
  obtain ⟨w, r, e, q⟩ := q
  refine ⟨w, r, e, mono _ _ _ _ _ (a _ _ _ _ q) fun σ1 H1 ⟨z1, z2⟩ => ?_⟩
  have := b _ _ _ _ z2
  rw [z1] at this
  exact this
theorem only_tup {vs : List Nat} {n : Nat} {t : TGs} (a : Onlys vs t) : Only vs (gTup K n t) := fun v σ H Q q => by
  obtain ⟨p, xs, e, h1, h2, q⟩ := q
  exact ⟨p, xs, e, h1, h2, a _ _ _ _ q⟩
theorem mono_name {i : Nat} : ∀ v σ H (Q Q' : L2.St → Hp → Prop), gName i v σ H Q → (∀ σ' H', Q σ' H' → Q' σ' H') → gName i v σ H Q' := fun v σ H Q Q' q f => f _ _ q
end

/-! ### statements -/
def passM : MS := fun sg h => some (.nx sg, h)
def brkM : MS := fun sg h => some (.bk sg, h)
def cntM : MS := fun sg h => some (.ct sg, h)
def exprM (a : ME) : MS := fun sg h => match a sg h with
  | some (_, h1) => some (.nx sg, h1)
  | none => none
def retM (a : ME) : MS := fun sg h => match a sg h with
  | some (d, h1) => some (.rt d, h1)
  | none => none
def asgM (a : ME) (g : MG) : MS := fun sg h => match a sg h with
  | some (d, h1) => match g d sg h1 with
    | some (sg', h2) => some (.nx sg', h2)
    | none => none
  | none => none
def seqM (a b : MS) : MS := fun sg h => match a sg h with
  | some (.nx sg1, h1) => b sg1 h1
  | r => r
def ifSM (c : MT) (a b : MS) : MS := fun sg h => match c sg h with
  | some (true, h1) => a sg h1
  | some (false, h1) => b sg h1
  | none => none
def neverM : MS := fun _ _ => none
def augM (i : Nat) (g : G2) (a : ME) : MS := fun sg h => match sg[i]? with
  | some (some x) => match a sg h with
    | some (y, h1) => match g x y h1 with
      | some (z, h2) => some (.nx (sg.set i (some z)), h2)
      | none => none
    | none => none
  | _ => none
def parM (i j : Nat) (a : MA) : MS := fun sg h => match a sg h with
  | some ([x, y], h1) => some (.nx ((sg.set i (some x)).set j (some y)), h1)
  | _ => none
section
variable {K : Kw} {X : Cx} {pos pos' : Pos} {e : Expr} {te : TE} {me : ME} {st : Stmt} {rest : List Stmt} {t u : TS} {m n : MS} {c : Expr} {tc : TT} {mc : MT}
theorem dss_nil (hK : KOf X = K := by rfl) : DSs K X [] tNext passM := ⟨hK, pss_nil, fun {Φ} σ H μ sg h f h' S rs e E k => by cases e; exact k σ H μ S Le.refl rs⟩
theorem ss_seq (a : SS K t m) (b : SS K u n) : SS K (tSeq t u) (seqM m n) := by
  intro Φ σ H μ sg h f h' S rs e E k
  unfold seqM at e
  split at e
  · rename_i sg1 h1 e1
    exact a σ H μ sg h _ h1 S rs e1 _ fun σ1 H1 μ1 S1 l1 rs1 => b σ1 H1 μ1 sg1 h1 f h' S1 rs1 e E (k.le l1)
  · rename_i hn
    refine a σ H μ sg h f h' S rs e _ ?_
    cases f with
    | nx sg1 => exact absurd e (hn sg1 h')
    | rt d => exact k
    | bk sg1 => exact k
    | ct sg1 => exact k
theorem dss_cons (a : DS K X st t m) (b : DSs K X rest u n) : DSs K X (st :: rest) (tSeq t u) (seqM m n) := ⟨a.k, pss_cons a.p b.p, ss_seq a.s b.s⟩
theorem dss_one (a : DS K X st t m) : DSs K X [st] t m := ⟨a.k, pss_one a.p, a.s⟩
theorem ds_pass (hK : KOf X = K := by rfl) : DS K X (.Pass pos) tNext passM := ⟨hK, ps_pass, fun {Φ} σ H μ sg h f h' S rs e E k => by cases e; exact k σ H μ S Le.refl rs⟩
theorem ds_break (hK : KOf X = K := by rfl) : DS K X (.Break pos) tBreak brkM := ⟨hK, ps_break, fun {Φ} σ H μ sg h f h' S rs e E k => by cases e; exact k σ H μ S Le.refl rs⟩
theorem ds_cont (hK : KOf X = K := by rfl) : DS K X (.Continue pos) tCont cntM := ⟨hK, ps_continue, fun {Φ} σ H μ sg h f h' S rs e E k => by cases e; exact k σ H μ S Le.refl rs⟩
theorem ss_expr (a : SE K te me) : SS K (tDrop te) (exprM me) := by
  intro Φ σ H μ sg h f h' S rs e E k
  unfold exprM at e
  split at e
  · rename_i d h1 e1
    cases e
    exact a σ H μ sg h d _ S rs e1 _ fun v H1 μ1 S1 l1 r1 => k σ H1 μ1 S1 l1 (rs.mono l1)
  · cases e
theorem ds_expr (a : DE K X e te me) (hs : swapsWith e none pos.line X.env = pure false := by rfl) : DS K X (.Expr e pos) (tDrop te) (exprM me) := ⟨a.k, ps_expr a.p hs, ss_expr a.s⟩
theorem ss_ret (a : SE K te me) : SS K (tRet te) (retM me) := by
  intro Φ σ H μ sg h f h' S rs e E k
  unfold retM at e
  split at e
  · rename_i d h1 e1
    cases e
    exact a σ H μ sg h d _ S rs e1 _ fun v H1 μ1 S1 l1 r1 => k v H1 μ1 S1 l1 r1
  · cases e
theorem ds_ret (a : DE K X e te me) : DS K X (.Return (some e) pos) (tRet te) (retM me) := ⟨a.k, ps_ret a.p, ss_ret a.s⟩
theorem ds_retN (hK : KOf X = K := by rfl) : DS K X (.Return none pos) tRetN (fun sg h => some (.rt .non, h)) := ⟨hK, ps_retN, fun {Φ} σ H μ sg h f h' S rs e E k => by cases e; exact k .non H μ S Le.refl rp_non⟩
theorem ss_asg {tg : TG} {mg : MG} (a : SE K te me) (g : SG K tg mg) : SS K (tAsg te tg) (asgM me mg) := by
  intro Φ σ H μ sg h f h' S rs e E k
  unfold asgM at e
  split at e
  · rename_i d h1 e1
    split at e
    · rename_i sg2 h2 e2
      cases e
      exact a σ H μ sg h d h1 S rs e1 _ fun v H1 μ1 S1 l1 r1 => g σ H1 μ1 sg h1 d v sg2 _ S1 (rs.mono l1) r1 e2 _ fun σ2 H2 μ2 S2 l2 rs2 => k σ2 H2 μ2 S2 (l1.trans l2) rs2
    · cases e
  · cases e
theorem ds_asg {tg : Expr} {gt : TG} {mg : MG} (a : DE K X e te me) (g : DG K X tg gt mg) (hs : swapsWithSole [tg] e pos.line X.env = pure false := by rfl) (hw : swappedStores [tg] e X.env = pure none := by rfl)
    (h1 : (assignEach [tg] X.env).map (·.2) = [assign tg X.env] := by rfl) : DS K X (.Assign [tg] e pos) (tAsg te gt) (asgM me mg) := ⟨a.k, ps_asg a.p g.p hs hw h1, ss_asg a.s g.s⟩
theorem ds_set (i : Nat) {x : Str} (a : DE K X e te me) (hN : X.N.Nodup) (hi : X.N[i]? = some x := by rfl) (hx : Loc X.env.scope x := by first | exact Or.inl rfl | exact Or.inr rfl) (hs : swapsWith e (some (.Name x pos')) pos.line X.env = pure false := by rfl)
    (hf : X.fn x = true ∨ X.env.scope.names.lookup x = some .local := by first | exact .inl rfl | exact .inr rfl) : DS K X (.Assign [.Name x pos'] e pos) (tAsg te (gName i)) (asgM me (nameG i)) := ⟨a.k, ps_set hN hi hx a.p hs hf, ss_asg a.s (sg_name i)⟩
theorem ss_if (hc : ST K tc mc) (a : SS K t m) (b : SS K u n) : SS K (tIfS tc t u) (ifSM mc m n) := by
  intro Φ σ H μ sg h f h' S rs e E k
  unfold ifSM at e
  split at e
  · rename_i h1 e1
    exact hc σ H μ sg h _ h1 S rs e1 _ fun H1 μ1 S1 l1 => iteT (a σ H1 μ1 sg h1 f h' S1 (rs.mono l1) e E (k.le l1))
  · rename_i h1 e1
    exact hc σ H μ sg h _ h1 S rs e1 _ fun H1 μ1 S1 l1 => iteF (b σ H1 μ1 sg h1 f h' S1 (rs.mono l1) e E (k.le l1))
  · cases e
theorem ds_if {p q : List Stmt} (hc : DT K X c tc mc) (a : DSs K X p t m) (b : DSs K X q u n) : DS K X (.If c p q pos) (tIfS tc t u) (ifSM mc m n) := ⟨a.k, ps_if hc.p a.p b.p, ss_if hc.s a.s b.s⟩
theorem ds_never (hK : KOf X = K := by rfl) : DS K X st tNever neverM := ⟨hK, ps_never, fun {Φ} σ H μ sg h f h' S rs e E k => by cases e⟩
theorem ds_aug (i : Nat) {x : Str} {op : Operator} {ti : TIp} {g : G2} (hs : SO K ti g) (ho : PIp X op ti) (a : DE K X e te me) (hN : X.N.Nodup) (hi : X.N[i]? = some x := by rfl) (hx : Loc X.env.scope x := by first | exact Or.inl rfl | exact Or.inr rfl)
    (hf : X.fn x = true ∨ X.env.scope.names.lookup x = some .local := by first | exact .inl rfl | exact .inr rfl) : DS K X (.AugAssign (.Name x pos') op e pos) (tAug i te ti) (augM i g me) := ⟨a.k, ps_aug hN hi hx a.p ho hf, by
  intro Φ σ H μ sg h f h' S rs e E k
  unfold augM at e
  split at e
  · rename_i x q
    split at e
    · rename_i y h1 e1
      split at e
      · rename_i z h2 e2
        cases e
        obtain ⟨v, q1, q2⟩ := rs.2 i x q
        refine ⟨v, q1, a.s σ H μ sg h y h1 S rs e1 _ fun w H1 μ1 S1 l1 r1 => ?_⟩
        exact hs H1 μ1 h1 x y v w z _ S1 (Rp.mono l1 _ _ q2) r1 e2 _ fun u H2 μ2 S2 l2 r2 => k _ H2 μ2 S2 (l1.trans l2) ((rs.mono (l1.trans l2)).put i r2)
      · cases e
    · cases e
  · cases e⟩
theorem ds_par (i j : Nat) {x y : Str} {a b : Expr} {ta : TA} {ma : MA} {px py pt : Pos} {kt k2 pt2} (d : DA K X [a, b] ta ma) (hN : X.N.Nodup) (hi : X.N[i]? = some x := by rfl) (hj : X.N[j]? = some y := by rfl) (hij : i ≠ j := by decide)
    (hx : X.env.scope.names.lookup x = some .local := by rfl) (hy : X.env.scope.names.lookup y = some .local := by rfl)
    (hw : swappedStores [.Tuple [.Name x px, .Name y py] kt pt] (.Tuple [a, b] k2 pt2) X.env = pure (some [x, y]) := by rfl)
    (hs : swapsWithSole [.Tuple [.Name x px, .Name y py] kt pt] (.Tuple [a, b] k2 pt2) pos.line X.env = pure false := by rfl) (hc : X.calm = true := by rfl) :
    DS K X (.Assign [.Tuple [.Name x px, .Name y py] kt pt] (.Tuple [a, b] k2 pt2) pos) (tPar i j ta) (parM i j ma) := ⟨d.k, ps_par hc hN hi hj hij hx hy d.p hw hs, by
  intro Φ σ H μ sg h f h' S rs e E k
  unfold parM at e
  split at e
  · rename_i x y h1 e1
    cases e
    refine d.s σ H μ sg h _ _ S rs e1 _ fun vs H1 μ1 S1 l1 r1 => ?_
    obtain ⟨v, w, rfl, r2, r3⟩ := rps2 r1
    exact ⟨v, w, rfl, k _ H1 μ1 S1 l1 (((rs.mono l1).put i r2).put j r3)⟩
  · cases e⟩
/-- o[i] = v, a list's or a dict's -/
def setD (o i v : ME) : MS := fun sg h => match v sg h with
  | some (z, h1) => match o sg h1 with
    | some (.at n, h2) => match i sg h2 with
      | some (y, h3) => match h3[n]? with
        | some (.lst xs) => match y with
          | .int j => match ixN xs.length j with
            | some q => some (.nx sg, h3.set n (.lst (xs.set q z)))
            | none => none
          | _ => none
        | some (.dct kvs) => match keyD y with
          | some k => if kvs.length < LN then some (.nx sg, h3.set n (.dct (putD kvs k z))) else none
          | none => none
        | _ => none
      | none => none
    | _ => none
  | none => none
def tSetL (to ti tv : TE) : TS := tAsg tv (gSub to ti rSetL)
def tSetU (to ti tv : TE) : TS := fun E σ H => tSetL to ti tv E σ H ∨ sDPut to ti tv E σ H
theorem PS.or {t u : TS} (h : PS X st t) (h' : PS X st u) : PS X st (fun E σ H => t E σ H ∨ u E σ H) := ⟨fun pins s σ H E I q => q.elim (h.run pins s σ H E I) (h'.run pins s σ H E I)⟩
theorem ds_put {o i v : Expr} {to ti tv : TE} {mo mi mv : ME} (ho : DE K X o to mo) (hi : DE K X i ti mi) (hv : DE K X v tv mv) (hu : X.A.units + 1 < cLine) (hs : swapsWith v (some (.Subscript o i pos')) pos.line X.env = pure false := by rfl)
    (hs2 : swapsWithSole [.Subscript o i pos'] v pos.line X.env = pure false := by rfl) (hw : swappedStores [.Subscript o i pos'] v X.env = pure none := by rfl) (h1 : (assignEach [.Subscript o i pos'] X.env).map (·.2) = [assign (.Subscript o i pos') X.env] := by rfl)
    (ha : ∀ v, assign (.Subscript o i pos') X.env v = (do
      let ov ← holding [v] (eval o X.env)
      let iv ← holding [v, ov] (eval i X.env)
      standAt pos'
      holding [v, ov, iv] (setItem ov iv v)
      release [v, ov, iv] []) := by intro _; rfl) :
    DS K X (.Assign [.Subscript o i pos'] v pos) (tSetU to ti tv) (setD mo mi mv) := ⟨ho.k, PS.or (ps_asg hv.p (pg_sub ho.p hi.p set_list ha) hs2 hw h1) (ps_dput hu ho.p hi.p hv.p hs), by
  intro Φ σ H μ sg h f h' S rs e E k
  unfold setD at e
  split at e
  · rename_i z h1 e1
    split at e
    · rename_i n h2 e2
      split at e
      · rename_i y h3 e3
        split at e
        · rename_i xs q
          split at e
          · rename_i j
            split at e
            · rename_i qq e4
              cases e
              refine .inl (hv.s σ H μ sg h z h1 S rs e1 _ fun v H1 μ1 S1 l1 r1 => ?_)
              refine ho.s σ H1 μ1 sg h1 _ h2 S1 (rs.mono l1) e2 _ fun w H2 μ2 S2 l2 r2 => ?_
              refine hi.s σ H2 μ2 sg h2 _ _ S2 (rs.mono (l1.trans l2)) e3 _ fun u H3 μ3 S3 l3 r3 => ?_
              obtain ⟨p, ep, rfl⟩ := rp_at' (Rp.mono l3 _ _ r2)
              obtain ⟨ws, b, c⟩ := S3.lst q ep
              have rz := Rp.mono (l2.trans l3) _ _ r1
              refine ⟨p, ws, j, qq, rfl, rp_int' r3, b, by rw [c.len]; exact e4, ?_⟩
              have l4 : Le K H3 μ3 (upd H3 p (.lst (ws.set qq v))) μ3 := le_set S3 ep
              exact k σ _ μ3 (S3.set ep ⟨_, upd_same, Rps.mono l4 _ _ (c.set qq rz)⟩) (((l1.trans l2).trans l3).trans l4) (rs.mono (((l1.trans l2).trans l3).trans l4))
            · cases e
          · cases e
        · rename_i kvs q
          split at e
          · rename_i kk e4
            split at e
            · rename_i hz
              cases e
              refine .inr (hv.s σ H μ sg h z h1 S rs e1 _ fun v H1 μ1 S1 l1 r1 => ?_)
              refine ho.s σ H1 μ1 sg h1 _ h2 S1 (rs.mono l1) e2 _ fun w H2 μ2 S2 l2 r2 => ?_
              refine hi.s σ H2 μ2 sg h2 _ _ S2 (rs.mono (l1.trans l2)) e3 _ fun u H3 μ3 S3 l3 r3 => ?_
              obtain ⟨p, ep, rfl⟩ := rp_at' (Rp.mono l3 _ _ r2)
              obtain ⟨kw, b, c⟩ := S3.dct q ep
              have rz := Rp.mono (l2.trans l3) _ _ r1
              refine ⟨p, _, rfl, by rw [key_of r3 e4]; exact DPut.k b (by rw [c.len]; exact ln_lt hz), ?_⟩
              have l4 : Le K H3 μ3 (upd H3 p (.dK (putK kw kk v))) μ3 := le_set S3 ep
              have c2 := c.put (k := kk) rz
              exact k σ _ μ3 (S3.set ep ⟨_, upd_same, c2.1, Rps.mono l4 _ _ c2.2⟩) (((l1.trans l2).trans l3).trans l4) (rs.mono (((l1.trans l2).trans l3).trans l4))
            · cases e
          · cases e
        · cases e
      · cases e
    · cases e
  · cases e⟩
end

/-! ### while -/
def whileM (c : MT) (b : MS) : Nat → MS
  | 0 => fun _ _ => none
  | k + 1 => fun sg h => match c sg h with
    | some (true, h1) => match b sg h1 with
      | some (.nx sg2, h2) => whileM c b k sg2 h2
      | some (.ct sg2, h2) => whileM c b k sg2 h2
      | some (.bk sg2, h2) => some (.nx sg2, h2)
      | some (.rt d, h2) => some (.rt d, h2)
      | none => none
    | some (false, h1) => some (.nx sg, h1)
    | none => none
section
variable {K : Kw} {X : Cx} {pos : Pos} {c : Expr} {tc : TT} {mc : MT} {body : List Stmt} {tb : TS} {mb : MS}
theorem ss_while (N : Nat) (hc : ST K tc mc) (hb : SS K tb mb) : SS K (tWhile tc tb) (whileM mc mb N) := by
  intro Φ σ H μ sg h f h' S rs e E k
  refine ⟨fun m σ1 H1 => ∃ μ1 sg1 h1, Sm Φ K H1 μ1 h1 ∧ Le K H μ H1 μ1 ∧ Rs K H1 μ1 sg1 σ1 ∧ whileM mc mb m sg1 h1 = some (f, h'), ⟨N, μ, sg, h, S, Le.refl, rs, e⟩, ?_⟩
  rintro m σ1 H1 ⟨μ1, sg1, h1, S1, l1, rs1, e1⟩
  cases m with
  | zero => cases e1
  | succ m =>
    unfold whileM at e1
    split at e1
    · rename_i h2 e2
      refine hc σ1 H1 μ1 sg1 h1 _ h2 S1 rs1 e2 _ fun H2 μ2 S2 l2 => iteT ?_
      refine ⟨fun σ3 H3 => ∃ μ3 sg3 h3, Sm Φ K H3 μ3 h3 ∧ Le K H μ H3 μ3 ∧ Rs K H3 μ3 sg3 σ3 ∧ whileM mc mb m sg3 h3 = some (f, h'), fun σ3 H3 q => ⟨m, Nat.lt_succ_self _, q⟩, ?_⟩
      split at e1
      · rename_i sg3 h3 e3
        exact hb σ1 H2 μ2 sg1 h2 _ h3 S2 (rs1.mono l2) e3 _ fun σ3 H3 μ3 S3 l3 rs3 => ⟨μ3, sg3, h3, S3, (l1.trans l2).trans l3, rs3, e1⟩
      · rename_i sg3 h3 e3
        exact hb σ1 H2 μ2 sg1 h2 _ h3 S2 (rs1.mono l2) e3 _ fun σ3 H3 μ3 S3 l3 rs3 => ⟨μ3, sg3, h3, S3, (l1.trans l2).trans l3, rs3, e1⟩
      · rename_i sg3 h3 e3
        cases e1
        exact hb σ1 H2 μ2 sg1 h2 _ _ S2 (rs1.mono l2) e3 _ fun σ3 H3 μ3 S3 l3 rs3 => k σ3 H3 μ3 S3 ((l1.trans l2).trans l3) rs3
      · rename_i d h3 e3
        cases e1
        exact hb σ1 H2 μ2 sg1 h2 _ _ S2 (rs1.mono l2) e3 _ fun v H3 μ3 S3 l3 r3 => k v H3 μ3 S3 ((l1.trans l2).trans l3) r3
      · cases e1
    · rename_i h2 e2
      cases e1
      exact hc σ1 H1 μ1 sg1 h1 _ _ S1 rs1 e2 _ fun H2 μ2 S2 l2 => iteF (k σ1 H2 μ2 S2 (l1.trans l2) (rs1.mono l2))
    · cases e1
theorem ds_while (N : Nat) (hp : PassesOwn (model X.prog X.w) X.A X.env X.xe) (hc : DT K X c tc mc) (hb : DSs K X body tb mb) : DS K X (.While c body [] pos) (tWhile tc tb) (whileM mc mb N) := ⟨hc.k, ps_while hp hc.p hb.p, ss_while N hc.s hb.s⟩
end

/-! ### what a for walks -/
inductive Src where
  | fix (xs : List D) | obj (n : Nat) | enu (xs : List D) (n : Option Nat)
def Src.nxt (h : Hd) : Src → Nat → Option (Option D)
  | .fix xs, i => some xs[i]?
  | .obj n, i => match h[n]? with
    | some (.lst xs) => some xs[i]?
    | _ => none
  | .enu xs none, i => some (xs[i]?.map fun d => .tup [.int (i : Nat), d])
  | .enu _ (some n), i => match h[n]? with
    | some (.lst xs) => some (xs[i]?.map fun d => .tup [.int (i : Nat), d])
    | _ => none
abbrev MI := Sg → Hd → Option (Src × Hd)
def JOk (Φ : Hp) (K : Kw) (J : It) (s : Src) (H0 : Hp) (μ0 : List Addr) : Prop := ∀ (i : Nat) (H : Hp) (μ : List Addr) (h : Hd), Sm Φ K H μ h → Le K H0 μ0 H μ →
  (∀ d, s.nxt h i = some (some d) → J.go i H ∧ ∀ x H', J.yld i H x H' → Sm Φ K H' μ h ∧ Le K H μ H' μ ∧ Rp K H' μ d x) ∧ (s.nxt h i = some none → J.stop i H)
def SI (K : Kw) (t : TI) (m : MI) : Prop := ∀ {Φ : Hp} (σ : L2.St) (H : Hp) (μ : List Addr) (sg : Sg) (h : Hd) (s : Src) (h' : Hd), Sm Φ K H μ h → Rs K H μ sg σ → m sg h = some (s, h') → ∀ R : It → Hp → Prop,
  (∀ (J : It) (H' : Hp) (μ' : List Addr), Sm Φ K H' μ' h' → Le K H μ H' μ' → JOk Φ K J s H' μ' → R J H') → t σ H R
structure DI (K : Kw) (X : Cx) (tg e : Expr) (t : TI) (m : MI) : Prop where
  k : KOf X = K
  p : PI X tg e t
  s : SI K t m
def seqI (a : ME) : MI := fun sg h => match a sg h with
  | some (.tup xs, h1) => some (.fix xs, h1)
  | some (.rol xs, h1) => some (.fix xs, h1)
  | some (.at n, h1) => match h1[n]? with
    | some (.lst _) => some (.obj n, h1)
    | _ => none
  | some (.str s, h1) => some (.fix (s.cps.toList.map fun c => .str ⟨⟨[c]⟩⟩), h1)
  | _ => none
def iSeq (K : Kw) (te : TE) : TI := fun σ H R => iList K te σ H R ∨ iTup K te σ H R ∨ iStr te σ H R
theorem PI.or {X : Cx} {tg e : Expr} {t u : TI} (h : PI X tg e t) (h' : PI X tg e u) : PI X tg e (fun σ H R => t σ H R ∨ u σ H R) := ⟨fun pins s σ H R I q => q.elim (h.run pins s σ H R I) (h'.run pins s σ H R I)⟩
section
variable {K : Kw} {X : Cx} {pos p : Pos} {tg e : Expr} {te : TE} {me : ME} {ta : TA} {ma : MA}
theorem j_lst {a : Addr} {n : Nat} {H0 : Hp} {μ0 : List Addr} (ea : μ0[n]? = some a) : JOk Φ K (Itl K a) (.obj n) H0 μ0 := by
  intro i H μ h S l
  have ep := l.get ea
  refine ⟨fun d q => ?_, fun q => ?_⟩
  · unfold Src.nxt at q
    simp only at q
    split at q
    · rename_i xs e1
      obtain ⟨vs, b, c⟩ := S.lst e1 ep
      obtain ⟨v, c1, c2⟩ := c.get (Option.some.inj q)
      refine ⟨⟨vs, v, .of b, c1⟩, fun x H' y => ?_⟩
      obtain ⟨rfl, y⟩ := y
      have := y vs (.of b)
      rw [c1] at this
      cases this
      exact ⟨S, Le.refl, c2⟩
    · cases q
  · unfold Src.nxt at q
    simp only at q
    split at q
    · rename_i xs e1
      obtain ⟨vs, b, c⟩ := S.lst e1 ep
      refine ⟨vs, .of b, ?_⟩
      rw [c.len]
      exact List.getElem?_eq_none_iff.mp (Option.some.inj q)
    · cases q
theorem j_frz {a : Addr} {xs : List D} {vs : List V} {H0 : Hp} {μ0 : List Addr} (b : SqF K H0 a vs) (c : Rps K H0 μ0 xs vs) : JOk Φ K (Itl K a) (.fix xs) H0 μ0 := by
  intro i H μ h S l
  have b' := (l.frz _ _ b).l
  have c' := Rps.mono l _ _ c
  refine ⟨fun d q => ?_, fun q => ?_⟩
  · obtain ⟨v, c1, c2⟩ := c'.get (Option.some.inj q)
    refine ⟨⟨vs, v, b', c1⟩, fun x H' y => ?_⟩
    obtain ⟨rfl, y⟩ := y
    have := y vs b'
    rw [c1] at this
    cases this
    exact ⟨S, Le.refl, c2⟩
  · refine ⟨vs, b', ?_⟩
    rw [c'.len]
    exact List.getElem?_eq_none_iff.mp (Option.some.inj q)
theorem j_tup {a : Addr} {xs : List D} {vs : List V} {H0 : Hp} {μ0 : List Addr} (b : SqT K H0 a vs) (c : Rps K H0 μ0 xs vs) : JOk Φ K (Itt K a) (.fix xs) H0 μ0 := by
  intro i H μ h S l
  have b' := l.tup _ _ b
  have c' := Rps.mono l _ _ c
  refine ⟨fun d q => ?_, fun q => ?_⟩
  · obtain ⟨v, c1, c2⟩ := c'.get (Option.some.inj q)
    refine ⟨⟨vs, v, b', c1⟩, fun x H' y => ?_⟩
    obtain ⟨rfl, y⟩ := y
    have := y vs b'
    rw [c1] at this
    cases this
    exact ⟨S, Le.refl, c2⟩
  · refine ⟨vs, b', ?_⟩
    rw [c'.len]
    exact List.getElem?_eq_none_iff.mp (Option.some.inj q)
theorem j_str {s : Str} {H0 : Hp} {μ0 : List Addr} : JOk Φ K (Its s) (.fix (s.cps.toList.map fun c => .str ⟨⟨[c]⟩⟩)) H0 μ0 := by
  intro i H μ h S l
  refine ⟨fun d q => ?_, fun q => ?_⟩
  · have q := Option.some.inj q
    rw [List.getElem?_map] at q
    cases q2 : s.cps.toList[i]? with
    | none => rw [q2] at q; cases q
    | some c =>
      rw [q2] at q
      cases q
      refine ⟨by
        have := (List.getElem?_eq_some_iff.mp q2).1
        show i < s.cps.size
        simpa using this, fun x H' y => ?_⟩
      obtain ⟨rfl, c', y1, rfl⟩ := y
      have : c' = c := by
        rw [← Array.getElem?_toList, q2] at y1
        exact (Option.some.inj y1).symm
      subst this
      exact ⟨S, Le.refl, rp_str⟩
  · have q := List.getElem?_eq_none_iff.mp (Option.some.inj q)
    show s.cps.size ≤ i
    simpa using q
theorem di_seq (a : DE K X e te me) : DI K X tg e (iSeq K te) (seqI me) := ⟨a.k, by
  have hk := a.k
  subst hk
  exact PI.or (pi_list a.p) (PI.or (pi_tup a.p) (pi_str a.p)), by
  intro Φ σ H μ sg h s h' S rs e R k
  unfold seqI at e
  split at e
  · rename_i xs h1 e1
    cases e
    refine .inr (.inl (a.s σ H μ sg h _ _ S rs e1 _ fun v H1 μ1 S1 l1 r1 => ?_))
    obtain ⟨p, vs, rfl, b, c⟩ := rp_tup' r1
    exact ⟨p, rfl, ⟨vs, b⟩, k _ H1 μ1 S1 l1 (j_tup b c)⟩
  · rename_i xs h1 e1
    cases e
    refine .inl (a.s σ H μ sg h _ _ S rs e1 _ fun v H1 μ1 S1 l1 r1 => ?_)
    obtain ⟨p, vs, rfl, b, c⟩ := rp_rol' r1
    exact ⟨p, rfl, ⟨vs, b.l⟩, k _ H1 μ1 S1 l1 (j_frz b c)⟩
  · rename_i n h1 e1
    split at e
    · rename_i xs q
      cases e
      refine .inl (a.s σ H μ sg h _ _ S rs e1 _ fun v H1 μ1 S1 l1 r1 => ?_)
      obtain ⟨p, ep, rfl⟩ := rp_at' r1
      obtain ⟨vs, b, c⟩ := S1.lst q ep
      exact ⟨p, rfl, ⟨vs, .of b⟩, k _ H1 μ1 S1 l1 (j_lst ep)⟩
    · cases e
  · rename_i s h1 e1
    cases e
    refine .inr (.inr (a.s σ H μ sg h _ _ S rs e1 _ fun v H1 μ1 S1 l1 r1 => ?_))
    exact ⟨s, rp_str' r1, k _ H1 μ1 S1 l1 j_str⟩
  · cases e⟩
/-- range(n), range(a, b) -/
def rngD (lo : Int) (n : Nat) : Src := .fix ((List.range n).map fun i => .int (lo + (i : Nat)))
def rngI (a : MA) : MI := fun sg h => match a sg h with
  | some ([.int j], h1) => if -(2 ^ 62) ≤ j ∧ j < 2 ^ 62 then some (rngD 0 j.toNat, h1) else none
  | _ => none
def rng2I (a : MA) : MI := fun sg h => match a sg h with
  | some ([.int i, .int j], h1) => if -(2 ^ 62) ≤ i ∧ i < 2 ^ 62 ∧ -(2 ^ 62) ≤ j ∧ j < 2 ^ 62 then some (rngD i (j - i).toNat, h1) else none
  | _ => none
theorem j_rng {lo : Int} {n : Nat} {H0 : Hp} {μ0 : List Addr} : JOk Φ K (Itr lo n) (rngD lo n) H0 μ0 := by
  intro i H μ h S l
  refine ⟨fun d q => ?_, fun q => ?_⟩
  · have q := Option.some.inj q
    rw [List.getElem?_map] at q
    by_cases hi : i < n
    · rw [List.getElem?_range hi] at q
      cases q
      refine ⟨hi, fun x H' y => ?_⟩
      obtain ⟨rfl, rfl⟩ := y
      exact ⟨S, Le.refl, rp_int⟩
    · rw [List.getElem?_eq_none (by simp; omega)] at q
      cases q
  · have q := List.getElem?_eq_none_iff.mp (Option.some.inj q)
    show n ≤ i
    simpa using q
theorem di_range1 {a : Expr} (ha : DA K X [a] ta ma) (hm : X.mg "range" = none) (hg : Gl X "range" := by rfl) (hs : starEach [a] X.env = [(false, eval a X.env)] := by rfl) : DI K X tg (.Call (.Name "range" p) [a] [] pos) (iRng1 ta) (rngI ma) := ⟨ha.k, pi_range1 hg hm ha.p hs, by
  intro Φ σ H μ sg h s h' S rs e R k
  unfold rngI at e
  split at e
  · rename_i j h1 e1
    split at e
    · rename_i hj
      cases e
      refine ha.s σ H μ sg h _ _ S rs e1 _ fun vs H1 μ1 S1 l1 r1 => ?_
      obtain ⟨v, rfl, r2⟩ := rps1 r1
      rw [rp_int' r2]
      exact ⟨j, rfl, hj.1, hj.2, k _ H1 μ1 S1 l1 j_rng⟩
    · cases e
  · cases e⟩
theorem di_range2 {a b : Expr} (ha : DA K X [a, b] ta ma) (hm : X.mg "range" = none) (hg : Gl X "range" := by rfl) (hs : starEach [a, b] X.env = [(false, eval a X.env), (false, eval b X.env)] := by rfl) (hs2 : starEach [b] X.env = [(false, eval b X.env)] := by rfl) : DI K X tg (.Call (.Name "range" p) [a, b] [] pos) (iRng2 ta) (rng2I ma) := ⟨ha.k, pi_range2 hg hm ha.p hs hs2, by
  intro Φ σ H μ sg h s h' S rs e R k
  unfold rng2I at e
  split at e
  · rename_i i j h1 e1
    split at e
    · rename_i hj
      cases e
      refine ha.s σ H μ sg h _ _ S rs e1 _ fun vs H1 μ1 S1 l1 r1 => ?_
      obtain ⟨v, w, rfl, r2, r3⟩ := rps2 r1
      rw [rp_int' r2, rp_int' r3]
      exact ⟨i, j, rfl, hj, k _ H1 μ1 S1 l1 j_rng⟩
    · cases e
  · cases e⟩
/-- enumerate(a list) -/
def enuI (a : MA) : MI := fun sg h => match a sg h with
  | some ([.at n], h1) => match h1[n]? with
    | some (.lst _) => some (.enu [] (some n), h1)
    | _ => none
  | some ([.rol xs], h1) => some (.enu xs none, h1)
  | _ => none
theorem j_enuL {a : Addr} {n : Nat} {H0 : Hp} {μ0 : List Addr} (ea : μ0[n]? = some a) : JOk Φ K (Ite K a) (.enu [] (some n)) H0 μ0 := by
  intro i H μ h S l
  have ep := l.get ea
  refine ⟨fun d q => ?_, fun q => ?_⟩
  · unfold Src.nxt at q
    simp only at q
    split at q
    · rename_i xs e1
      obtain ⟨vs, b, c⟩ := S.lst e1 ep
      cases q2 : xs[i]? with
      | none => rw [q2] at q; cases q
      | some d' =>
        rw [q2] at q
        cases q
        obtain ⟨v, c1, c2⟩ := c.get q2
        refine ⟨⟨vs, v, .of b, c1⟩, fun x H' y => ?_⟩
        obtain ⟨T, x', rfl, hT, rfl, y⟩ := y
        have := y vs (.of b)
        rw [c1] at this
        cases this
        have l4 : Le K H μ (upd H T (.tup [.int (i : Nat), v])) μ := le_new hT
        exact ⟨S.new hT, l4, rp_tup (SqT.of upd_same) (Rps.cons rp_int (Rps.cons (Rp.mono l4 _ _ c2) Rps.nil))⟩
    · cases q
  · unfold Src.nxt at q
    simp only at q
    split at q
    · rename_i xs e1
      obtain ⟨vs, b, c⟩ := S.lst e1 ep
      refine ⟨vs, .of b, ?_⟩
      rw [c.len]
      have := Option.some.inj q
      simpa using this
    · cases q
theorem j_enuF {a : Addr} {xs : List D} {vs : List V} {H0 : Hp} {μ0 : List Addr} (b : SqF K H0 a vs) (c : Rps K H0 μ0 xs vs) : JOk Φ K (Ite K a) (.enu xs none) H0 μ0 := by
  intro i H μ h S l
  have b' := (l.frz _ _ b).l
  have c' := Rps.mono l _ _ c
  refine ⟨fun d q => ?_, fun q => ?_⟩
  · have q := Option.some.inj q
    cases q2 : xs[i]? with
    | none => rw [q2] at q; cases q
    | some d' =>
      rw [q2] at q
      cases q
      obtain ⟨v, c1, c2⟩ := c'.get q2
      refine ⟨⟨vs, v, b', c1⟩, fun x H' y => ?_⟩
      obtain ⟨T, x', rfl, hT, rfl, y⟩ := y
      have := y vs b'
      rw [c1] at this
      cases this
      have l4 : Le K H μ (upd H T (.tup [.int (i : Nat), v])) μ := le_new hT
      exact ⟨S.new hT, l4, rp_tup (SqT.of upd_same) (Rps.cons rp_int (Rps.cons (Rp.mono l4 _ _ c2) Rps.nil))⟩
  · refine ⟨vs, b', ?_⟩
    rw [c'.len]
    have := Option.some.inj q
    simpa using this
theorem di_enum {elts : List Expr} {kk : Nat} {tpos : Pos} (ha : DA K X [e] ta ma) (hm : X.mg "enumerate" = none) (hg : Gl X "enumerate" := by rfl) (hs : starEach [e] X.env = [(false, eval e X.env)] := by rfl) :
    DI K X (.Tuple elts kk tpos) (.Call (.Name "enumerate" p) [e] [] pos) (iEnum K ta) (enuI ma) := ⟨ha.k, by
  have hk := ha.k
  subst hk
  exact pi_enum hg hm ha.p hs, by
  intro Φ σ H μ sg h s h' S rs e R k
  unfold enuI at e
  split at e
  · rename_i n h1 e1
    split at e
    · rename_i xs q
      cases e
      refine ha.s σ H μ sg h _ _ S rs e1 _ fun vs H1 μ1 S1 l1 r1 => ?_
      obtain ⟨v, rfl, r2⟩ := rps1 r1
      obtain ⟨p, ep, rfl⟩ := rp_at' r2
      obtain ⟨ws, b, c⟩ := S1.lst q ep
      exact ⟨p, ws, rfl, .of b, k _ H1 μ1 S1 l1 (j_enuL ep)⟩
    · cases e
  · rename_i xs h1 e1
    cases e
    refine ha.s σ H μ sg h _ _ S rs e1 _ fun vs H1 μ1 S1 l1 r1 => ?_
    obtain ⟨v, rfl, r2⟩ := rps1 r1
    obtain ⟨p, ws, rfl, b, c⟩ := rp_rol' r2
    exact ⟨p, ws, rfl, b.l, k _ H1 μ1 S1 l1 (j_enuF b c)⟩
  · cases e⟩
end

/-! ### for -/
def forM (s : Src) (g : MG) (b : MS) : Nat → Nat → MS
  | 0, _ => fun _ _ => none
  | k + 1, i => fun sg h => match s.nxt h i with
    | some (some d) => match g d sg h with
      | some (sg1, h1) => match b sg1 h1 with
        | some (.nx sg2, h2) => forM s g b k (i + 1) sg2 h2
        | some (.ct sg2, h2) => forM s g b k (i + 1) sg2 h2
        | some (.bk sg2, h2) => some (.nx sg2, h2)
        | some (.rt d, h2) => some (.rt d, h2)
        | none => none
      | none => none
    | some none => some (.nx sg, h)
    | none => none
def forSM (it : MI) (g : MG) (b : MS) (N : Nat) : MS := fun sg h => match it sg h with
  | some (s, h1) => forM s g b N 0 sg h1
  | none => none
section
variable {K : Kw} {X : Cx} {pos : Pos} {tg it : Expr} {ti : TI} {mi : MI} {gt : TG} {mg : MG} {body : List Stmt} {tb : TS} {mb : MS}
theorem ss_for (N : Nat) (hi : SI K ti mi) (hg : SG K gt mg) (hb : SS K tb mb) : SS K (tFor ti gt tb) (forSM mi mg mb N) := by
  intro Φ σ H μ sg h f h' S rs e E k
  unfold forSM at e
  split at e
  · rename_i s h0 e0
    refine hi σ H μ sg h s h0 S rs e0 _ fun J H0 μ0 S0 l0 hJ => ?_
    refine ⟨fun i m σ1 H1 => ∃ μ1 sg1 h1, Sm Φ K H1 μ1 h1 ∧ Le K H0 μ0 H1 μ1 ∧ Rs K H1 μ1 sg1 σ1 ∧ forM s mg mb m i sg1 h1 = some (f, h'), ⟨N, μ0, sg, h0, S0, Le.refl, rs.mono l0, e⟩, ?_⟩
    rintro i m σ1 H1 ⟨μ1, sg1, h1, S1, l1, rs1, e1⟩
    cases m with
    | zero => cases e1
    | succ m =>
      unfold forM at e1
      obtain ⟨j1, j2⟩ := hJ i H1 μ1 h1 S1 l1
      split at e1
      · rename_i d q
        obtain ⟨go, yld⟩ := j1 d q
        refine .inr ⟨go, fun σ3 H3 => ∃ μ3 sg3 h3, Sm Φ K H3 μ3 h3 ∧ Le K H0 μ0 H3 μ3 ∧ Rs K H3 μ3 sg3 σ3 ∧ forM s mg mb m (i + 1) sg3 h3 = some (f, h'), fun σ3 H3 q => ⟨m, Nat.lt_succ_self _, q⟩, fun x H2 y => ?_⟩
        obtain ⟨S2, l2, r2⟩ := yld x H2 y
        split at e1
        · rename_i sg3 h3 e3
          refine hg σ1 H2 μ1 sg1 h1 d x sg3 h3 S2 (rs1.mono l2) r2 e3 _ fun σ3 H3 μ3 S3 l3 rs3 => ?_
          split at e1
          · rename_i sg4 h4 e4
            exact hb σ3 H3 μ3 sg3 h3 _ h4 S3 rs3 e4 _ fun σ4 H4 μ4 S4 l4 rs4 => ⟨μ4, sg4, h4, S4, ((l1.trans l2).trans l3).trans l4, rs4, e1⟩
          · rename_i sg4 h4 e4
            exact hb σ3 H3 μ3 sg3 h3 _ h4 S3 rs3 e4 _ fun σ4 H4 μ4 S4 l4 rs4 => ⟨μ4, sg4, h4, S4, ((l1.trans l2).trans l3).trans l4, rs4, e1⟩
          · rename_i sg4 h4 e4
            cases e1
            exact hb σ3 H3 μ3 sg3 h3 _ _ S3 rs3 e4 _ fun σ4 H4 μ4 S4 l4 rs4 => k σ4 H4 μ4 S4 ((((l0.trans l1).trans l2).trans l3).trans l4) rs4
          · rename_i d4 h4 e4
            cases e1
            exact hb σ3 H3 μ3 sg3 h3 _ _ S3 rs3 e4 _ fun v H4 μ4 S4 l4 r4 => k v H4 μ4 S4 ((((l0.trans l1).trans l2).trans l3).trans l4) r4
          · cases e1
        · cases e1
      · rename_i q
        cases e1
        exact .inl ⟨j2 q, k σ1 H1 μ1 S1 (l0.trans l1) rs1⟩
      · cases e1
  · cases e
theorem ds_for (N : Nat) (hp : PassesOwn (model X.prog X.w) X.A X.env X.xe) (hi : DI K X tg it ti mi) (hg : DG K X tg gt mg) (hb : DSs K X body tb mb) (hs : ∀ x, foldedSetIterable it X.env x = pure x := by intro _; rfl) (hc : X.calm = true := by rfl) :
    DS K X (.For tg it body [] pos) (tFor ti gt tb) (forSM mi mg mb N) := ⟨hi.k, ps_for hp hc hi.p hg.p hb.p hs, ss_for N hi.s hg.s hb.s⟩

end

/-! ### [e for x in xs if c] -/
def lcM' (s : Src) (g : MG) (c : MT) (a : ME) (D0 : Nat) (sg0 : Sg) : Nat → Nat → Hd → Option Hd
  | 0, _ => fun _ => none
  | k + 1, i => fun h => match s.nxt h i with
    | some (some d) => match g d sg0 h with
      | some (sg1, h1) => match c sg1 h1 with
        | some (true, h2) => match a sg1 h2 with
          | some (y, h3) => match h3[D0]? with
            | some (.lst acc) => if acc.length < LN then lcM' s g c a D0 sg0 k (i + 1) (h3.set D0 (.lst (acc ++ [y]))) else none
            | _ => none
          | none => none
        | some (false, h2) => lcM' s g c a D0 sg0 k (i + 1) h2
        | none => none
      | none => none
    | some none => some h
    | none => none
def lcM (it : MI) (g : MG) (c : MT) (a : ME) (vs : List Nat) (N : Nat) : ME := fun sg h => match it sg h with
  | some (s, h1) => match lcM' s g c a h1.length (wipeD sg vs) N 0 (h1 ++ [.lst []]) with
    | some h2 => some (.at h1.length, h2)
    | none => none
  | none => none
def yesM : MT := fun _ h => some (true, h)
structure DTs (K : Kw) (X : Cx) (ifs : List Expr) (t : TT) (m : MT) : Prop where
  k : KOf X = K
  p : PTs X ifs t
  s : ST K t m
section
variable {K : Kw} {X : Cx} {pos : Pos} {tg it elt : Expr} {ifs : List Expr} {ti : TI} {mi : MI} {gt : TG} {mg : MG} {tt : TT} {mt : MT} {te : TE} {me : ME} {scope : Scope} {own : List (Str × Nat)}
theorem dts_nil (hK : KOf X = K := by rfl) : DTs K X [] tYes yesM := ⟨hK, pts_nil, fun {Φ} σ H μ sg h b h' S rs e Q k => by cases e; exact k H μ S Le.refl⟩
theorem dts_one {c : Expr} {t : TT} {m : MT} (a : DT K X c t m) : DTs K X [c] t m := ⟨a.k, pts_one a.p, a.s⟩
theorem de_lc (N : Nat) (hN : X.N.Nodup) (hi : DI K X tg it ti mi) (ok : BlkOk X.N X.env.scope scope own) (ho : Only (own.map (·.2)) gt)
    (hg : ∀ (s : Shared) (H : Hp) (C : Addr) (cl : List (Str × Addr)) (fp : List Addr), DG K (X.blk s H scope (compEnvC scope cl C X.env) fp) tg gt mg)
    (ht : ∀ (s : Shared) (H : Hp) (C : Addr) (cl : List (Str × Addr)) (fp : List Addr), DTs K (X.blk s H scope (compEnvC scope cl C X.env) fp) ifs tt mt)
    (he : ∀ (s : Shared) (H : Hp) (C : Addr) (cl : List (Str × Addr)) (fp : List Addr), DE K (X.blk s H scope (compEnvC scope cl C X.env) fp) elt te me) (hs : ∀ x, foldedSetIterable it X.env x = pure x := by intro _; rfl) (hc : X.calm = true := by rfl) :
    DE K X (.ListComp elt [⟨tg, it, ifs, 0⟩] scope pos) (tLc ti gt tt te (own.map (·.2))) (lcM mi mg mt me (own.map (·.2)) N) := ⟨hi.k, pe_lc hc hN hi.p ok (fun s H C cl fp => (hg s H C cl fp).p) (fun s H C cl fp => (ht s H C cl fp).p) (fun s H C cl fp => (he s H C cl fp).p) hs, by
  have sg_ : SG K gt mg := (hg X.s_0 X.H_0 0 [] []).s
  have st_ : ST K tt mt := (ht X.s_0 X.H_0 0 [] []).s
  have se_ : SE K te me := (he X.s_0 X.H_0 0 [] []).s
  intro Φ σ H μ sg h d h' S rs e Q k
  unfold lcM at e
  split at e
  · rename_i s h0 e0
    split at e
    · rename_i h9 e9
      cases e
      refine hi.s σ H μ sg h s h0 S rs e0 _ fun J H0 μ0 S0 l0 hJ => fun D hD => ?_
      have lD : Le K H0 μ0 (upd H0 D (.lst [])) (μ0 ++ [D]) := le_obj hD
      have SD : Sm Φ K (upd H0 D (.lst [])) (μ0 ++ [D]) (h0 ++ [.lst []]) := S0.obj hD ⟨[], upd_same, Rps.nil⟩
      have eD : (μ0 ++ [D])[h0.length]? = some D := obj_at S0 rfl
      refine ⟨fun i m H1 => ∃ μ1 h1, Sm Φ K H1 μ1 h1 ∧ Le K (upd H0 D (.lst [])) (μ0 ++ [D]) H1 μ1 ∧ lcM' s mg mt me h0.length (wipeD sg (own.map (·.2))) m i h1 = some h', ⟨N, μ0 ++ [D], _, SD, Le.refl, e9⟩, ?_⟩
      rintro i m H1 ⟨μ1, h1, S1, l1, e1⟩
      cases m with
      | zero => cases e1
      | succ m =>
        unfold lcM' at e1
        obtain ⟨j1, j2⟩ := hJ i H1 μ1 h1 S1 (lD.trans l1)
        have w0 : Rs K H1 μ1 (wipeD sg (own.map (·.2))) (wipe σ (own.map (·.2))) := (rs.mono ((l0.trans lD).trans l1)).wipe _
        split at e1
        · rename_i d q
          obtain ⟨go, yld⟩ := j1 d q
          refine .inr ⟨go, fun H3 => ∃ μ3 h3, Sm Φ K H3 μ3 h3 ∧ Le K (upd H0 D (.lst [])) (μ0 ++ [D]) H3 μ3 ∧ lcM' s mg mt me h0.length (wipeD sg (own.map (·.2))) m (i + 1) h3 = some h', fun H3 q => ⟨m, Nat.lt_succ_self _, q⟩, fun x H2 y => ?_⟩
          obtain ⟨S2, l2, r2⟩ := yld x H2 y
          split at e1
          · rename_i sg3 h3 e3
            rw [← wipe_idem σ (own.map (·.2))]
            have w1 : Rs K H2 μ1 (wipeD sg (own.map (·.2))) (wipe (wipe σ (own.map (·.2))) (own.map (·.2))) := by rw [wipe_idem]; exact w0.mono l2
            have q3 := ho x (wipe (wipe σ (own.map (·.2))) (own.map (·.2))) H2 (fun σ2 H2 => tt σ2 H2 fun b H3 => if b = true then te σ2 H3 fun y H4 => ∃ acc, H4 D = some (.lst acc) ∧ acc.length < sizeLine ∧ (fun H3 => ∃ μ3 h3, Sm Φ K H3 μ3 h3 ∧ Le K (upd H0 D (.lst [])) (μ0 ++ [D]) H3 μ3 ∧ lcM' s mg mt me h0.length (wipeD sg (own.map (·.2))) m (i + 1) h3 = some h') (upd H4 D (.lst (acc ++ [y]))) else (fun H3 => ∃ μ3 h3, Sm Φ K H3 μ3 h3 ∧ Le K (upd H0 D (.lst [])) (μ0 ++ [D]) H3 μ3 ∧ lcM' s mg mt me h0.length (wipeD sg (own.map (·.2))) m (i + 1) h3 = some h') H3)
              (sg_ _ H2 μ1 _ h1 d x sg3 h3 S2 w1 r2 e3 _ fun σ3 H3 μ3 S3 l3 rs3 => ?_)
            · rw [wipe_idem] at q3 ⊢
              rw [wipe_idem] at q3
              exact q3
            split at e1
            · rename_i h4 e4
              refine st_ σ3 H3 μ3 sg3 h3 _ h4 S3 rs3 e4 _ fun H4 μ4 S4 l4 => iteT ?_
              split at e1
              · rename_i y h5 e5
                refine se_ σ3 H4 μ4 sg3 h4 y h5 S4 (rs3.mono l4) e5 _ fun v H5 μ5 S5 l5 r5 => ?_
                split at e1
                · rename_i acc q5
                  split at e1
                  · rename_i hz
                    have lA := (((l1.trans l2).trans l3).trans l4).trans l5
                    have ep := lA.get eD
                    obtain ⟨ws, b, c⟩ := S5.lst q5 ep
                    have lB : Le K H5 μ5 (upd H5 D (.lst (ws ++ [v]))) μ5 := le_set S5 ep
                    have SB : Sm Φ K (upd H5 D (.lst (ws ++ [v]))) μ5 (h5.set h0.length (.lst (acc ++ [y]))) := S5.set ep ⟨_, upd_same, Rps.mono lB _ _ (c.app (Rps.cons r5 Rps.nil))⟩
                    exact ⟨ws, b, by rw [c.len]; exact ln_lt hz, μ5, _, SB, lA.trans lB, e1⟩
                  · cases e1
                · cases e1
              · cases e1
            · rename_i h4 e4
              refine st_ σ3 H3 μ3 sg3 h3 _ h4 S3 rs3 e4 _ fun H4 μ4 S4 l4 => iteF ?_
              exact ⟨μ4, h4, S4, ((l1.trans l2).trans l3).trans l4, e1⟩
            · cases e1
          · cases e1
        · rename_i q
          cases e1
          refine .inl ⟨j2 q, k _ H1 μ1 S1 ((l0.trans lD).trans l1) (rp_at (l1.get eD))⟩
        · cases e1
    · cases e
  · cases e⟩
end
end DL

/-! DM7: defs and their calls, with what they raise; slices backwards; the end. -/
namespace DL
open PySem L2 PySem.Spec PyProof.Rows

/-! ### room, and no repr that runs -/
structure RoomG (k : Nat) (A : Around) : Prop where
  r : Room k A
  g : A.guards = some []
theorem RoomG.mono {j k : Nat} {A : Around} (r : RoomG k A) (h : j ≤ k) : RoomG j A := ⟨r.r.mono h, r.g⟩
theorem hu1 {A : Around} {k : Nat} (hr : RoomG k A) : A.units + 1 < cLine := hu_of hr.r
theorem hu64 {A : Around} {k : Nat} (hr : RoomG k A) : A.units + 64 < cLine := by have := hr.r.un; omega

/-! ### a def's promise, given no repr that runs -/
structure FnG (P : Program) (w : World) (K : PySem.W.Frag) (mg : Str → Option Value) (base : Heap) (CX : CXT) (k : Nat) (f : Addr) (fd : FuncData) (ps : List Str) (sp : Sp) : Prop where
  len : ∀ vs H Q E, sp vs H Q E → vs.length = ps.length
  run : ∀ (A : Around) (outer : List Env) (s : Shared) (H : Hp) (args : Args) (us : List Value) (vs : List V) (Q : VK) (E : XK), RoomG k A → Env0 P w K mg base A outer s H → BindsTo s fd args (ps.zip us) → Vals vs us → sp vs H Q E →
    codeAny (model P w) A (.call (.ref f) args) (CR CX outer P w H s Q E) s
theorem FnG.mono {P : Program} {w : World} {K : PySem.W.Frag} {mg : Str → Option Value} {base : Heap} {CX : CXT} {j k : Nat} {f : Addr} {fd : FuncData} {ps : List Str} {sp : Sp} (F : FnG P w K mg base CX j f fd ps sp) (h : j ≤ k) :
    FnG P w K mg base CX k f fd ps sp := ⟨F.len, fun A outer s H args us vs Q E hr => F.run A outer s H args us vs Q E (hr.mono h)⟩
theorem fng_of {CX : CXT} {P : Program} {w : World} {K : PySem.W.Frag} {mg : Str → Option Value} {base : Heap} {k : Nat} {f : Addr} {name qual : Str} {params : Arguments} {body : List Stmt} {scope : Scope} {dV kV doc pm cdv ct oc : Value} {an od : Option Addr}
    {osl : Array (Option Value)} {N ps : List Str} {sp : Sp} (lk : K.lookup f = some ⟨oc, od, .func (PySem.W.fnOf name qual params body scope dV kV doc pm an cdv ct), osl⟩) (hcd : PySem.W.codeIn K cdv qual = true) (S : FnScope N ps scope)
    (len : ∀ vs H Q E, sp vs H Q E → vs.length = ps.length)
    (hbody : ∀ (A : Around) (outer : List Env) (s : Shared) (H : Hp) (vs : List V) (Q : VK) (E : XK), RoomG k (A.deeper (envOfC qual scope s.heap.objs.size f cdv)) → sp vs H Q E →
      ∃ t, PSs (cxOf CX P w K mg base N qual scope f cdv A outer s H E) body t ∧ t { nx := fun _ H' => Q .non H', rt := Q } (start N vs) H) :
    FnG P w K mg base CX (k + 1) f (PySem.W.fnOf name qual params body scope dV kV doc pm an cdv ct) ps sp := by
  refine ⟨len, fun A outer s H args us vs Q E hr e0 hb r hsp => ?_⟩
  have hl := len _ _ _ _ hsp
  have KX : K.In s.heap := e0.mod.kin.keeps fun b o e => (e0.bs b o e).1
  have lim : s.heap.NoLimit := e0.mod.nolimit.keeps fun b o e => (e0.bs b o e).1
  have hkind : ∀ y ∈ ps.zip us, scope.names.lookup y.1 = some .local ∨ (scope.names.lookup y.1 = some .cell ∧ ((cellsFrom (s.heap.objs.size + 1) scope.names []).lookup y.1).isSome = true) := fun ⟨n, v⟩ hy => by
    rcases S.par n (List.of_mem_zip hy).1 with q | q
    · exact .inl q
    · exact .inr ⟨q, PySem.W.cellsFrom_some _ _ _ (.inl q)⟩
  refine codeAny_call_function hr.r.depth (KX _ _ lk) rfl S.co S.gen rfl (PySem.W.codeRec_of KX hcd) (hb _ _ _ _ ?_)
  refine wpAny_newFunctionEnv_cells S.kind hkind fun env he s1 x => ?_
  subst he
  refine ⟨lim.keeps x.toInCall.keep, codeAny_func ?_⟩
  obtain ⟨t, ht, hq⟩ := hbody A outer s H vs Q E ⟨hr.r.deeper _, hr.g⟩ hsp
  have I : Inv (cxOf CX P w K mg base N qual scope f cdv A outer s H E) [] (start N vs) H s1 := inv_start S hr.r.hd e0 hl r x
  refine wpAny_mono (ht.run [] s1 (start N vs) H _ I hq) (fun fl s' hs => ?_) fun e s' hs => hs
  have fin : ∀ {σ' : L2.St} {H' : Hp} {v : V} {u : Value}, Inv (cxOf CX P w K mg base N qual scope f cdv A outer s H E) [] σ' H' s' → RelV v u → Q v H' → CE outer P w H s Q u s' :=
    fun {σ' H' v u} J rv q => ⟨v, H', J.os, J.bare, J.base, J.hok, rv, q⟩
  cases fl with
  | ret u =>
    obtain ⟨v, σ', H', J, rv, q⟩ := hs
    exact fin J rv q
  | next =>
    obtain ⟨σ', H', J, q⟩ := hs
    exact fin (v := V.non) (u := Value.none) J rfl q
  | brk =>
    obtain ⟨_, _, _, q⟩ := hs
    exact False.elim q
  | cont =>
    obtain ⟨_, _, _, q⟩ := hs
    exact False.elim q
section
variable {X : Cx} {CX : CXT} {k : Nat} {f : Addr} {fd : FuncData} {ps : List Str} {sp : Sp} {dvs : List V} {ds : List Value} {E : L2.St → XK} {x : Str} {p pos : Pos} {e : Expr} {es : List Expr} {t : TA}
theorem run_fnG {pins : List (Addr × Obj)} {σ : L2.St} {H : Hp} {s : Shared} {Q : VK} {us : List Value} {vs : List V} (F : FnG X.prog X.w X.K X.mg X.base CX k f fd ps sp) (hr : RoomG k X.A) (hb : Binds X.K fd ps ds) (hd : Vals dvs ds) (hx : PassesAt CX X σ (E σ))
    (I : Inv X pins σ H s) (r : Vals vs us) (h : sp (vs ++ dvs) H Q (E σ)) : wpAny (model X.prog X.w) X.A (call (.ref f) us) (EP X pins σ Q) X.xe s := by
  have r2 : Vals (vs ++ dvs) (us ++ ds) := r.append hd
  have hl : (us ++ ds).length = ps.length := by rw [← r2.length]; exact F.len _ _ _ _ h
  refine wpAny_call (codeAny_mono (F.run X.A X.stack s H ⟨us, []⟩ (us ++ ds) (vs ++ dvs) Q (E σ) hr I.env0 (hb s us I.kIn hl) r2 h) fun r s' hq => ?_)
  cases r with
  | error e => exact hx pins H s e s' I hq
  | ok fl =>
    cases fl with
    | ret u => exact I.after hq
    | next => exact False.elim hq
    | brk => exact False.elim hq
    | cont => exact False.elim hq
theorem pe_callG (F : FnG X.prog X.w X.K X.mg X.base CX k f fd ps sp) (hr : RoomG k X.A) (hg : Gl X x) (hm : X.mg x = some (.ref f)) (hk : PySem.W.keepIn X.K (.ref f) = true) (hb : Binds X.K fd ps ds) (hd : Vals dvs ds) (hx : ∀ σ, PassesAt CX X σ (E σ))
    (ha : PA X (e :: es) t) (hdb : (x == ("__debug__" : Str)) = false := by decide) (he : starEach (e :: es) X.env = (false, eval e X.env) :: starEach es X.env := by rfl) (hpl : (backTo pos (starEach es X.env)).any (·.1) = false := by rfl) :
    PE X (.Call (.Name x p) (e :: es) [] pos) (tCallSD sp dvs E t) := by
  refine ⟨fun pins s σ H Q I h => ?_⟩
  refine wpAny_Call_Name_kw (ld_glob I hg hm ?_ hdb)
  refine PySem.W.callWith_K (h₀ := X.base) I.ok.mod.kin hk (thn (ha.run pos pins s σ H _ I h) fun us s1 ⟨vs, H1, I1, r, q⟩ => ⟨I1.kIn, ?_⟩) he hpl
  exact run_fnG F hr hb hd (hx σ) I1 r q
theorem pe_callG0 (F : FnG X.prog X.w X.K X.mg X.base CX k f fd ps sp) (hr : RoomG k X.A) (hg : Gl X x) (hm : X.mg x = some (.ref f)) (hk : PySem.W.keepIn X.K (.ref f) = true) (hb : Binds X.K fd ps ds) (hd : Vals dvs ds) (hx : ∀ σ, PassesAt CX X σ (E σ))
    (hdb : (x == ("__debug__" : Str)) = false := by decide) : PE X (.Call (.Name x p) [] [] pos) (tCallSD sp dvs E tNil) := by
  refine ⟨fun pins s σ H Q I h => ?_⟩
  refine wpAny_Call_Name_kw (ld_glob I hg hm ?_ hdb)
  exact PySem.W.callWith_K0 I.kIn hk (run_fnG (us := []) F hr hb hd (hx σ) I .nil h)
theorem passE0 (σ : L2.St) : PassesAt (L2.CX X.prog X.w) X σ ((fun _ => E0) σ) := fun pins H s e s' I h => passL pins σ H s e s' I h
end

/-! ### what is raised -/
structure Xn where
  cls : Str
  fs : List (Str × D)
abbrev GX := List D → Hd → Option (Xn × Hd)
abbrev MX := Sg → Hd → Option (Xn × Sg × Hd)
def noX : MX := fun _ _ => none
def noGX : GX := fun _ _ => none
/-- the exception x is borne by the class cls and the dict d -/
def RX (K : Kw) (mg : Str → Option Value) (H : Hp) (μ : List Addr) (x : Xn) (cls : Value) (d : Option Addr) : Prop :=
  ∃ (C dx : Addr) (vs : List V), mg x.cls = some (.ref C) ∧ cls = .ref C ∧ d = some dx ∧ H dx = some (.xd ((x.fs.map (·.1)).zip vs)) ∧ Rps K H μ (x.fs.map (·.2)) vs
theorem RX.mono {K : Kw} {mg : Str → Option Value} {H H' : Hp} {μ μ' : List Addr} {x : Xn} {cls : Value} {d : Option Addr} (l : Le K H μ H' μ') (r : RX K mg H μ x cls d) : RX K mg H' μ' x cls d := by
  obtain ⟨C, dx, vs, h1, h2, h3, h4, h5⟩ := r
  exact ⟨C, dx, vs, h1, h2, h3, l.xdt _ _ h4, Rps.mono l _ _ h5⟩
def Wk (Φ : Hp) (K : Kw) (mg : Str → Option Value) (H : Hp) (μ : List Addr) (h' : Hd) (sg' : Sg) (x : Xn) (W : WX) : Prop :=
  ∀ (σ' : L2.St) (H' : Hp) (μ' : List Addr) (cls : Value) (d : Option Addr), Sm Φ K H' μ' h' → Le K H μ H' μ' → Rs K H' μ' sg' σ' → RX K mg H' μ' x cls d → W cls d σ' H'
theorem Wk.le {Φ : Hp} {K : Kw} {mg : Str → Option Value} {H H1 : Hp} {μ μ1 : List Addr} {h' : Hd} {sg' : Sg} {x : Xn} {W : WX} (l : Le K H μ H1 μ1) (k : Wk Φ K mg H μ h' sg' x W) : Wk Φ K mg H1 μ1 h' sg' x W :=
  fun σ' H' μ' cls d S l' rs r => k σ' H' μ' cls d S (l.trans l') rs r
def XEx (K : Kw) (mg : Str → Option Value) (W : WX) (t : TE) (x : MX) : Prop := ∀ {Φ : Hp} (σ : L2.St) (H : Hp) (μ : List Addr) (sg : Sg) (h : Hd) (xn : Xn) (sg' : Sg) (h' : Hd), Sm Φ K H μ h → Rs K H μ sg σ → x sg h = some (xn, sg', h') → Wk Φ K mg H μ h' sg' xn W → ∀ Q : VK, t σ H Q
def XSt (K : Kw) (mg : Str → Option Value) (W : WX) (t : TS) (x : MX) : Prop := ∀ {Φ : Hp} (σ : L2.St) (H : Hp) (μ : List Addr) (sg : Sg) (h : Hd) (xn : Xn) (sg' : Sg) (h' : Hd), Sm Φ K H μ h → Rs K H μ sg σ → x sg h = some (xn, sg', h') → Wk Φ K mg H μ h' sg' xn W → ∀ E : Ends, t E σ H
structure DEX (K : Kw) (mg : Str → Option Value) (X : Cx) (W : WX) (e : Expr) (t : TE) (m : ME) (x : MX) : Prop where
  k : KOf X = K
  p : Takes X W → PE X e t
  s : SE K t m
  x : XEx K mg W t x
structure DSX (K : Kw) (mg : Str → Option Value) (X : Cx) (W : WX) (st : Stmt) (t : TS) (m : MS) (x : MX) : Prop where
  k : KOf X = K
  p : Takes X W → PassesOwn (model X.prog X.w) X.A X.env X.xe → PS X st t
  s : SS K t m
  x : XSt K mg W t x
structure DSsX (K : Kw) (mg : Str → Option Value) (X : Cx) (W : WX) (st : List Stmt) (t : TS) (m : MS) (x : MX) : Prop where
  k : KOf X = K
  p : Takes X W → PassesOwn (model X.prog X.w) X.A X.env X.xe → PSs X st t
  s : SS K t m
  x : XSt K mg W t x
theorem xst_no {K : Kw} {mg : Str → Option Value} {W : WX} {t : TS} : XSt K mg W t noX := by
  intro Φ σ H μ sg h xn sg' h' S rs e
  cases e
theorem DSs.x {K : Kw} {mg : Str → Option Value} {X : Cx} {W : WX} {st : List Stmt} {t : TS} {m : MS} (d : DSs K X st t m) : DSsX K mg X W st t m noX := ⟨d.k, fun _ _ => d.p, d.s, xst_no⟩
theorem DS.x {K : Kw} {mg : Str → Option Value} {X : Cx} {W : WX} {st : Stmt} {t : TS} {m : MS} (d : DS K X st t m) : DSX K mg X W st t m noX := ⟨d.k, fun _ _ => d.p, d.s, xst_no⟩

/-! ### what a def keeps -/
def spX (K : Kw) (mg : Str → Option Value) (n : Nat) (m : GC) (x : GX) : Sp := fun vs H Q E => ∃ (Φ : Hp) (μ : List Addr) (ds : List D) (h : Hd), Sm Φ K H μ h ∧ Rps K H μ ds vs ∧ ds.length = n ∧
  ((∃ (d : D) (h' : Hd), m ds h = some (d, h') ∧ Kn Φ K H μ h' d Q) ∨
    ∃ (xn : Xn) (h' : Hd), x ds h = some (xn, h') ∧ ∀ (H' : Hp) (μ' : List Addr) (cls : Value) (d : Option Addr), Sm Φ K H' μ' h' → Le K H μ H' μ' → RX K mg H' μ' xn cls d → E cls d H')
def startD (n : Nat) (ds : List D) : Sg := ds.map some ++ List.replicate (n - ds.length) none
def bodyM (n : Nat) (ms : MS) : GC := fun ds h => match ms (startD n ds) h with
  | some (.nx _, h') => some (.non, h')
  | some (.rt d, h') => some (d, h')
  | _ => none
def bodyX (n : Nat) (x : MX) : GX := fun ds h => match x (startD n ds) h with
  | some (xn, _, h') => some (xn, h')
  | none => none
theorem rs_start {K : Kw} {H : Hp} {μ : List Addr} {N : List Str} {ds : List D} {vs : List V} (r : Rps K H μ ds vs) : Rs K H μ (startD N.length ds) (L2.start N vs) := by
  unfold startD L2.start
  rw [r.len]
  refine ⟨by simp [r.len], fun i d e => ?_⟩
  rw [List.getElem?_append] at e ⊢
  rw [List.length_map] at e
  rw [List.length_map, r.len]
  split at e
  · rename_i hi
    rw [if_pos hi]
    rw [List.getElem?_map] at e ⊢
    cases q : ds[i]? with
    | none => rw [q] at e; cases e
    | some d' =>
      rw [q] at e
      cases e
      obtain ⟨v, a, b⟩ := r.get q
      exact ⟨v, by rw [a]; rfl, b⟩
  · rename_i hi
    rw [List.getElem?_replicate] at e
    split at e <;> cases e
section
variable {P : Program} {w : World} {K : PySem.W.Frag} {KK : Kw} {mg : Str → Option Value} {base : Heap}
theorem body_ok {N : List Str} {X : Cx} {body : List Stmt} {t : TS} {ms : MS} {xs : MX} {vs : List V} {H : Hp} {Q : VK} {E : XK} {n : Nat} (d : DSsX KK mg X (fun cls d _ H => E cls d H) body t ms xs)
    (h : spX KK mg n (bodyM N.length ms) (bodyX N.length xs) vs H Q E) : t { nx := fun _ H' => Q .non H', rt := Q } (L2.start N vs) H := by
  obtain ⟨Φ, μ, ds, h0, S, r, _, ⟨dd, h', e, k⟩ | ⟨xn, h', e, k⟩⟩ := h
  · unfold bodyM at e
    split at e
    · rename_i sg' h1 e1
      cases e
      exact d.s _ H μ _ h0 _ _ S (rs_start r) e1 _ fun σ' H' μ' S' l' r' => k .non H' μ' S' l' rp_non
    · rename_i d1 h1 e1
      cases e
      exact d.s _ H μ _ h0 _ _ S (rs_start r) e1 _ k
    · cases e
  · unfold bodyX at e
    split at e
    · rename_i xn1 sg1 h1 e1
      cases e
      exact d.x _ H μ _ h0 _ _ _ S (rs_start r) e1 (fun σ' H' μ' cls dd S' l' _ rx => k H' μ' cls dd S' l' rx) _
    · cases e
theorem sp_len {n : Nat} {m : GC} {x : GX} {vs : List V} {H : Hp} {Q : VK} {E : XK} (h : spX KK mg n m x vs H Q E) : vs.length = n := by
  obtain ⟨Φ, μ, ds, h0, S, r, hl, _⟩ := h
  rw [r.len, hl]
/-- the wish of a body, and what passes through it -/
abbrev BdW (E : XK) : WX := fun cls d _ H => E cls d H
theorem fn_M {x qual : Str} {st : Stmt} {f : Addr} {fd : FuncData} {N ps : List Str} {k : Nat} {ms : MS} {xs : MX} (F : Fun K x qual st f fd) (S : FnScope N ps (defScope st))
    (hb : ∀ (cdv : Value) (A : Around) (outer : List Env) (s : Shared) (H : Hp) (E : XK), RoomG k (A.deeper (envOfC qual (defScope st) s.heap.objs.size f cdv)) →
      ∃ t, DSsX ⟨K, w⟩ mg (cxOf (L2.CX P w) P w K mg base N qual (defScope st) f cdv A outer s H E) (BdW E) (defBody st) t ms xs) : FnG P w K mg base (L2.CX P w) (k + 1) f fd ps (spX ⟨K, w⟩ mg ps.length (bodyM N.length ms) (bodyX N.length xs)) := by
  obtain ⟨oc, od, kV, doc, pm, an, cdv, ct, osl, rfl, lk, hcd⟩ := F.ex
  refine fng_of lk hcd S (fun vs H Q E h => sp_len h) fun A outer s H vs Q E hr h => ?_
  obtain ⟨t, d⟩ := hb cdv A outer s H E hr
  exact ⟨t, d.p (takes_of rfl rfl rfl rfl) (passes_of rfl), body_ok d h⟩
theorem fn_MD {x qual : Str} {pa : Arguments} {bd : List Stmt} {sc : Scope} {dvs : List V} {kws : List (Str × V)} {f : Addr} {fd : FuncData} {N ps : List Str} {k : Nat} {ms : MS} {xs : MX} (F : FunD K x qual pa bd sc dvs kws f fd) (S : FnScope N ps sc)
    (hb : ∀ (cdv : Value) (A : Around) (outer : List Env) (s : Shared) (H : Hp) (E : XK), RoomG k (A.deeper (envOfC qual sc s.heap.objs.size f cdv)) →
      ∃ t, DSsX ⟨K, w⟩ mg (cxOf (L2.CX P w) P w K mg base N qual sc f cdv A outer s H E) (BdW E) bd t ms xs) : FnG P w K mg base (L2.CX P w) (k + 1) f fd ps (spX ⟨K, w⟩ mg ps.length (bodyM N.length ms) (bodyX N.length xs)) := by
  obtain ⟨oc, od, dV, kV, doc, pm, an, cdv, ct, osl, rfl, lk, hcd, _, _⟩ := F.ex
  refine fng_of lk hcd S (fun vs H Q E h => sp_len h) fun A outer s H vs Q E hr h => ?_
  obtain ⟨t, d⟩ := hb cdv A outer s H E hr
  exact ⟨t, d.p (takes_of rfl rfl rfl rfl) (passes_of rfl), body_ok d h⟩
theorem fn_none {f : Addr} {fd : FuncData} {ps : List Str} {k n : Nat} : FnG P w K mg base (L2.CX P w) k f fd ps (spX ⟨K, w⟩ mg n (fun _ _ => none) noGX) :=
  ⟨fun vs H Q E h => (by
    obtain ⟨_, _, _, _, _, _, _, ⟨_, _, e, _⟩ | ⟨_, _, e, _⟩⟩ := h <;> cases e), fun A outer s H args us vs Q E _ _ _ _ h => (by
    obtain ⟨_, _, _, _, _, _, _, ⟨_, _, e, _⟩ | ⟨_, _, e, _⟩⟩ := h <;> cases e)⟩

/-- the def x keeps: called with n things it does what m says, or raises what xg says -/
structure CalM (P : Program) (w : World) (K : PySem.W.Frag) (mg : Str → Option Value) (base : Heap) (k : Nat) (x : Str) (n : Nat) (m : GC) (xg : GX) (dd : List D) : Prop where
  ex : ∃ (f : Addr) (fd : FuncData) (ps : List Str) (ds : List Value) (dvs : List V), FnG P w K mg base (L2.CX P w) k f fd ps (spX ⟨K, w⟩ mg n m xg) ∧ mg x = some (.ref f) ∧ PySem.W.keepIn K (.ref f) = true ∧ Binds K fd ps ds ∧ Vals dvs ds ∧ ∀ H μ, Rps ⟨K, w⟩ H μ dd dvs
theorem CalM.mono {j k : Nat} {x : Str} {n : Nat} {m : GC} {xg : GX} {dd : List D} (c : CalM P w K mg base j x n m xg dd) (h : j ≤ k) : CalM P w K mg base k x n m xg dd := by
  obtain ⟨f, fd, ps, ds, dvs, F, r⟩ := c.ex
  exact ⟨f, fd, ps, ds, dvs, F.mono h, r⟩
theorem rps_nil0 : ∀ H μ, Rps ⟨K, w⟩ H μ [] ([] : List V) := fun _ _ => Rps.nil
end
def callM (n : Nat) (m : GC) (dd : List D) (a : MA) : ME := fun sg h => match a sg h with
  | some (xs, h1) => if (xs ++ dd).length = n then m (xs ++ dd) h1 else none
  | none => none
def callX (n : Nat) (x : GX) (dd : List D) (a : MA) : MX := fun sg h => match a sg h with
  | some (xs, h1) => if (xs ++ dd).length = n then match x (xs ++ dd) h1 with
    | some (xn, h2) => some (xn, sg, h2)
    | none => none else none
  | none => none
def tcM (K : Kw) (mg : Str → Option Value) (n : Nat) (m : GC) (xg : GX) (dd : List D) (E : L2.St → XK) (ta : TA) : TE := fun σ H Q => ∀ dvs : List V, (∀ H μ, Rps K H μ dd dvs) → tCallSD (spX K mg n m xg) dvs E ta σ H Q
section
variable {P : Program} {w : World} {K : Kw} {mg : Str → Option Value} {base : Heap} {X : Cx} {pos p : Pos} {e : Expr} {es : List Expr} {ta : TA} {ma : MA} {x : Str} {n j k : Nat} {m : GC} {xg : GX} {dd : List D} {E : L2.St → XK} {W : WX}
theorem se_call (ha : SA K ta ma) : SE K (tcM K mg n m xg dd E ta) (callM n m dd ma) := by
  intro Φ σ H μ sg h d h' S rs e Q kk dvs hd
  unfold callM at e
  split at e
  · rename_i xs h1 e1
    split at e
    · rename_i hl
      exact ha σ H μ sg h xs h1 S rs e1 _ fun vs H1 μ1 S1 l1 r1 => ⟨Φ, μ1, xs ++ dd, h1, S1, r1.app (hd H1 μ1), hl, .inl ⟨d, h', e, fun v H2 μ2 S2 l2 r2 => kk v H2 μ2 S2 (l1.trans l2) r2⟩⟩
    · cases e
  · cases e
theorem xe_call (ha : SA K ta ma) : XEx K mg W (tcM K mg n m xg dd (WE W) ta) (callX n xg dd ma) := by
  intro Φ σ H μ sg h xn sg' h' S rs e kk Q dvs hd
  unfold callX at e
  split at e
  · rename_i xs h1 e1
    split at e
    · rename_i hl
      split at e
      · rename_i xn2 h2 e2
        cases e
        exact ha σ H μ sg h xs h1 S rs e1 _ fun vs H1 μ1 S1 l1 r1 => ⟨Φ, μ1, xs ++ dd, h1, S1, r1.app (hd H1 μ1), hl, .inr ⟨xn, h', e2, fun H2 μ2 cls d S2 l2 rx => kk σ H2 μ2 cls d S2 (l1.trans l2) (rs.mono (l1.trans l2)) rx⟩⟩
      · cases e
    · cases e
  · cases e
theorem de_call (c : CalM X.prog X.w K.f mg X.base j x n m xg dd) (hr : RoomG k X.A) (ha : DA K X (e :: es) ta ma) (hj : j ≤ k := by omega) (hmg : X.mg = mg := by rfl) (hg : Gl X x := by rfl)
    (hdb : (x == ("__debug__" : Str)) = false := by decide) (he : starEach (e :: es) X.env = (false, eval e X.env) :: starEach es X.env := by rfl) (hpl : (backTo pos (starEach es X.env)).any (·.1) = false := by rfl) :
    DE K X (.Call (.Name x p) (e :: es) [] pos) (tcM K mg n m xg dd (fun _ => E0) ta) (callM n m dd ma) := ⟨ha.k, by
  have hk := ha.k
  subst hk
  subst hmg
  obtain ⟨f, fd, ps, ds, dvs, F, h1, h2, h3, h4, h5⟩ := c.ex
  exact ⟨fun pins s σ H Q I q => (pe_callG F (hr.mono hj) hg h1 h2 h3 h4 (fun σ => passE0 σ) ha.p hdb he hpl).run pins s σ H Q I (q dvs h5)⟩, se_call ha.s⟩
theorem de_call0 (c : CalM X.prog X.w K.f mg X.base j x n m xg dd) (hr : RoomG k X.A) (hj : j ≤ k := by omega) (hmg : X.mg = mg := by rfl) (hg : Gl X x := by rfl)
    (hdb : (x == ("__debug__" : Str)) = false := by decide) (hK : KOf X = K := by rfl) :
    DE K X (.Call (.Name x p) [] [] pos) (tcM K mg n m xg dd (fun _ => E0) tNil) (callM n m dd nilM) := ⟨hK, by
  have hk := hK
  subst hk
  subst hmg
  obtain ⟨f, fd, ps, ds, dvs, F, h1, h2, h3, h4, h5⟩ := c.ex
  exact ⟨fun pins s σ H Q I q => (pe_callG0 F (hr.mono hj) hg h1 h2 h3 h4 (fun σ => passE0 σ) hdb).run pins s σ H Q I (q dvs h5)⟩, se_call (da_nil (X := X) hK).s⟩
theorem dx_call (c : CalM X.prog X.w K.f mg X.base j x n m xg dd) (hr : RoomG k X.A) (ha : DA K X (e :: es) ta ma) (hj : j ≤ k := by omega) (hmg : X.mg = mg := by rfl) (hg : Gl X x := by rfl)
    (hdb : (x == ("__debug__" : Str)) = false := by decide) (he : starEach (e :: es) X.env = (false, eval e X.env) :: starEach es X.env := by rfl) (hpl : (backTo pos (starEach es X.env)).any (·.1) = false := by rfl) :
    DEX K mg X W (.Call (.Name x p) (e :: es) [] pos) (tcM K mg n m xg dd (WE W) ta) (callM n m dd ma) (callX n xg dd ma) := ⟨ha.k, fun tk => by
  subst hmg
  have hk := ha.k
  subst hk
  obtain ⟨f, fd, ps, ds, dvs, F, h1, h2, h3, h4, h5⟩ := c.ex
  exact ⟨fun pins s σ H Q I q => (pe_callG F (hr.mono hj) hg h1 h2 h3 h4 (passAt tk) ha.p hdb he hpl).run pins s σ H Q I (q dvs h5)⟩, se_call ha.s, xe_call ha.s⟩
theorem dx_call0 (c : CalM X.prog X.w K.f mg X.base j x n m xg dd) (hr : RoomG k X.A) (hj : j ≤ k := by omega) (hmg : X.mg = mg := by rfl) (hg : Gl X x := by rfl)
    (hdb : (x == ("__debug__" : Str)) = false := by decide) (hK : KOf X = K := by rfl) :
    DEX K mg X W (.Call (.Name x p) [] [] pos) (tcM K mg n m xg dd (WE W) tNil) (callM n m dd nilM) (callX n xg dd nilM) := ⟨hK, fun tk => by
  subst hmg
  have hk := hK
  subst hk
  obtain ⟨f, fd, ps, ds, dvs, F, h1, h2, h3, h4, h5⟩ := c.ex
  exact ⟨fun pins s σ H Q I q => (pe_callG0 F (hr.mono hj) hg h1 h2 h3 h4 (passAt tk) hdb).run pins s σ H Q I (q dvs h5)⟩, se_call (da_nil (X := X) hK).s, xe_call (da_nil (X := X) hK).s⟩
end

/-! ### t[:0:-1], xs[::-1] -/
/-- the items from the last one down to the one behind the place hi -/
def backs {α : Type} (xs : List α) (hi : Option Int) : List α := match hi with
  | none => xs.reverse
  | some _ => (xs.drop 1).reverse
def TS3 := V → Option Int → Hp → VK → Prop
def rBackT (K : Kw) : V → Option Int → Hp → VK → Prop := fun x hi H Q => ∃ a xs, x = .ref a ∧ (hi = none ∨ hi = some 0) ∧ SqT K H a xs ∧ ∀ p, H p = none → Q (.ref p) (upd H p (.tup (backs xs hi)))
def rBackL (K : Kw) : V → Option Int → Hp → VK → Prop := fun x hi H Q => ∃ a xs, x = .ref a ∧ (hi = none ∨ hi = some 0) ∧ SqL K H a xs ∧ ∀ p, H p = none → Q (.ref p) (upd H p (.lst (backs xs hi)))
def tBack (r : V → Option Int → Hp → VK → Prop) (te : TE) (th : TO) (ts : TO) : TE := fun σ H Q => te σ H fun x H1 => th σ H1 fun u H2 => ts σ H2 fun st H3 => st = some (-1) ∧ r x u H3 Q
/-- x[:hi:-1] by values -/
def BkR (X : Cx) (r : V → Option Int → Hp → VK → Prop) : Prop :=
  ∀ (pins : List (Addr × Obj)) (s : Shared) (σ : L2.St) (H : Hp) (x : V) (v vu vs : Value) (hi : Option Int) (sl : Addr) (Q : VK), Inv X pins σ H s → RelV x v → s.heap.IsSliceOf sl .none vu vs → IsPart vu hi → IsPart vs (some (-1)) → r x hi H Q →
    ∃ T id, typeLookup (.type T) "__getitem__" = pure (some (.builtin id)) ∧ s.TypeIs v T ∧ wpAny (model X.prog X.w) X.A (getItem v (.ref sl)) (EP X pins σ Q) X.xe s
theorem pe_back {X : Cx} {e st : Expr} {hi : Option Expr} {p2 pos : Pos} {te : TE} {th ts : TO} {r : V → Option Int → Hp → VK → Prop} (hr : BkR X r) (he : PE X e te) (hu : PO X hi th) (hs : PO X (some st) ts) : PE X (.Subscript e (.Slice none hi (some st) p2) pos) (tBack r te th ts) := by
  refine ⟨fun pins s σ H Q I h => ?_⟩
  refine Subscript_ (thn (he.run pins s σ H _ I h) fun v s1 ⟨x, H1, I1, r1, q1⟩ => ?_)
  refine wpAny_Slice ?_
  rw [evalPart_none]
  refine wpAny_pure ?_
  refine thn (hu.run pins s1 σ H1 _ I1 q1) fun vu s3 ⟨u, H3, I3, pu, q3⟩ => ?_
  refine thn (hs.run pins s3 σ H3 _ I3 q3) fun vs s4 ⟨k, H4, I4, ps, ek, q4⟩ => ?_
  subst ek
  have I5 : Inv X pins σ H4 { s4 with heap := s4.heap.push { cls := .type "slice", data := .fields #[.none, vu, vs] } } := I4.kept (t' := s4.toks) fun b ob q => Heap.get?_push_of_some _ q
  obtain ⟨T, id, hT, ht, hg⟩ := hr pins { s4 with heap := s4.heap.push { cls := .type "slice", data := .fields #[.none, vu, vs] } } σ H4 x v vu vs u s4.heap.objs.size Q I5 r1 (Heap.IsSliceOf.new ..) pu ps q4
  show wpAny (model X.prog X.w) X.A (subscriptTail e (.Slice none hi (some st) p2) v (.ref s4.heap.objs.size)) (EP X pins σ Q) X.xe { s4 with heap := s4.heap.push { cls := .type "slice", data := .fields #[.none, vu, vs] } }
  exact tail_any (ops := [v, .ref s4.heap.objs.size]) ht hT hg (by with_unfolding_all rfl)
theorem fm_congr {α β : Type} {f g : α → Option β} : ∀ l : List α, (∀ x ∈ l, f x = g x) → l.filterMap f = l.filterMap g
  | [], _ => rfl
  | a :: l, h => by
    rw [List.filterMap_cons, List.filterMap_cons, h a List.mem_cons_self, fm_congr l fun x hx => h x (List.mem_cons_of_mem _ hx)]
theorem range_get (l : List Value) : ∀ n, (List.range n).filterMap (fun m => l[m]?) = l.take n
  | 0 => by simp
  | n + 1 => by
    rw [List.range_succ, List.filterMap_append, range_get l n, List.take_add_one]
    simp [List.filterMap_cons]
    cases l[n]? <;> simp
theorem backs_pick (l : List Value) (j : Nat) : (List.range (l.length - j)).filterMap (fun (m : Nat) => l.toArray[((l.length : Int) - 1 + (m : Int) * (-1)).toNat]?) = (l.drop j).reverse := by
  have e : (List.range (l.length - j)).filterMap (fun (m : Nat) => l.toArray[((l.length : Int) - 1 + (m : Int) * (-1)).toNat]?) = (List.range (l.length - j)).filterMap (fun m => l.reverse[m]?) := by
    refine fm_congr _ fun m hm => ?_
    have hm := List.mem_range.mp hm
    have h1 : ((l.length : Int) - 1 + (m : Int) * (-1)).toNat = l.length - 1 - m := by omega
    rw [h1, List.getElem?_toArray, List.getElem?_reverse (by omega)]
  rw [e, range_get]
  rw [List.reverse_drop]
theorem adjust_back {hi : Option Int} (h : hi = none ∨ hi = some 0) (n : Nat) : ∃ j : Nat, Builtin.Slice.sliceAdjust none hi (-1) (n : Int) = ((n : Int) - 1, (j : Int) - 1) ∧ Builtin.Slice.slicePlaces ((n : Int) - 1) ((j : Int) - 1) (-1) = n - j ∧ ∀ {α : Type} (xs : List α), xs.length = n → (xs.drop j).reverse = backs xs hi := by
  have h1 : ((-1 : Int) < 0) := by omega
  have pl : ∀ j : Nat, Builtin.Slice.slicePlaces ((n : Int) - 1) ((j : Int) - 1) (-1) = n - j := fun j => by
    unfold Builtin.Slice.slicePlaces
    have h2 : ¬ ((-1 : Int) > 0) := by omega
    simp only [h2, if_false]
    have h3 : (- (-1 : Int)) = 1 := by omega
    rw [h3, Int.ediv_one]
    split <;> omega
  rcases h with rfl | rfl
  · refine ⟨0, ?_, pl 0, fun xs _ => rfl⟩
    unfold Builtin.Slice.sliceAdjust
    simp only [h1, if_true]
    rfl
  · cases n with
    | zero =>
      refine ⟨0, ?_, pl 0, fun xs hx => ?_⟩
      · rfl
      · have : xs = [] := List.length_eq_zero_iff.mp hx
        subst this
        rfl
    | succ n =>
      refine ⟨1, ?_, pl 1, fun xs _ => rfl⟩
      unfold Builtin.Slice.sliceAdjust
      simp only [h1, if_true]
      have h2 : ¬ ((0 : Int) < 0) := by omega
      simp only [h2, if_false]
      refine Prod.ext rfl ?_
      show min (0 : Int) (((n + 1 : Nat) : Int) - 1) = ((1 : Nat) : Int) - 1
      omega
section
variable {prog : Program} {w : World} {A : Around} {E : Value → Shared → Prop} {s : Shared}
theorem sliceApplied_back {sl : Addr} {vu vs : Value} {hi : Option Int} {n j : Nat} {Q : Int × Int × Nat → Shared → Prop} (hs : s.heap.IsSliceOf sl .none vu vs) (pu : IsPart vu hi) (ps : IsPart vs (some (-1)))
    (ha : Builtin.Slice.sliceAdjust none hi (-1) (n : Int) = ((n : Int) - 1, (j : Int) - 1)) (hp : Builtin.Slice.slicePlaces ((n : Int) - 1) ((j : Int) - 1) (-1) = n - j)
    (h : Q ((n : Int) - 1, -1, n - j) s) : wpAny (model prog w) A (Builtin.Slice.sliceApplied (.ref sl) (pure (n : Int))) Q E s := by
  obtain ⟨os, hos, hcs, hds⟩ := id hs
  unfold Builtin.Slice.sliceApplied Builtin.Slice.sliceFields
  refine wpAny_bind (wpAny_bind (wpAny_field hos hds (x := .none) rfl (wpAny_bind (wpAny_field hos hds (x := vu) rfl (wpAny_bind (wpAny_field hos hds (x := vs) rfl (wpAny_pure ?_)))))))
  refine wpAny_bind (HT.slicePart_ ps ?_)
  show wpAny _ _ (if ((-1 : Int) == 0) = true then _ else _) _ _ s
  rw [if_neg (by decide)]
  refine wpAny_bind (HT.slicePart_ .none (wpAny_bind (HT.slicePart_ pu (wpAny_bind (wpAny_pure ?_)))))
  show wpAny _ _ (match Builtin.Slice.sliceAdjust none hi (-1) (n : Int) with | (lo, hi) => pure (lo, (-1 : Int), Builtin.Slice.slicePlaces lo hi (-1))) _ _ s
  rw [ha]
  show wpAny _ _ (pure ((n : Int) - 1, (-1 : Int), Builtin.Slice.slicePlaces ((n : Int) - 1) ((j : Int) - 1) (-1))) _ _ s
  rw [hp]
  exact wpAny_pure h
theorem getItem_tuple_back {t sl : Addr} {items : List Value} {vu vs : Value} {hi : Option Int} {Q : Value → Shared → Prop} (ht : IsTup s.heap t items.toArray) (hs : s.heap.IsSliceOf sl .none vu vs) (pu : IsPart vu hi) (ps : IsPart vs (some (-1))) (hh : hi = none ∨ hi = some 0)
    (h : Q (.ref s.heap.objs.size) { s with heap := s.heap.push { cls := .type "tuple", data := .seq (backs items hi).toArray } })
    (hsz : items.length ≤ sizeLine) : wpAny (model prog w) A (getItem (.ref t) (.ref sl)) Q E s := by
  obtain ⟨j, ha, hp, hb⟩ := adjust_back hh items.length
  have hb := hb items rfl
  have htake : sizeOk (.seq (backs items hi).toArray) := by
    show (backs items hi).toArray.size ≤ sizeLine
    rw [← hb, List.size_toArray, List.length_reverse, List.length_drop]
    omega
  obtain ⟨os, hos, hcs, hds⟩ := id hs
  have hTs : s.TypeIs (.ref sl) "slice" := ⟨os, hos, hcs⟩
  unfold getItem
  try with_reducible refine wpAny_holding ?_
  first | refine wpAny_bind (wpAny_pure ?_) | skip
  refine wpAny_bind (wpAny_sequenceKey ht.typeIs (by decide) ?_)
  refine wpAny_bind (wpAny_callSpecial?_slot (name := Str.ofString "__getitem__") ht.typeIs PyProof.Rows.slot_tuple_getitem
    (wpAny_call_entry PyProof.Rows.slot_tuple_getitem ht.typeIs entry_tuple_getitem ?_ (args_tuple_getitem _ _)))
  show wpAny _ _ (Builtin.Tuple.tupleItemsOf (.ref t) >>= _) _ _ s
  refine wpAny_bind (tupleItemsOf_ ht ?_)
  refine wpAny_bind (wpAny_typeOf hTs ?_)
  rw [if_pos (by decide)]
  rw [List.size_toArray]
  refine wpAny_bind (sliceApplied_back hs pu ps ha hp ?_)
  show wpAny _ _ (if (((items.length : Int) - 1) == 0 && (-1 : Int) == 1 && (items.length - j) == items.length) = true then _ else _) _ _ s
  rw [if_neg (by
    intro q
    rw [Bool.and_eq_true, Bool.and_eq_true] at q
    exact absurd q.1.2 (by decide)), backs_pick, hb]
  first
    | exact wpAny_bind (m := Builtin.Tuple.tupleExact _) (wpAny_newObj_type (wpAny_pure ⟨_, rfl, wpAny_pure h⟩) htake)
    | exact wpAny_bind (m := Builtin.Tuple.tupleExact _) (wpAny_newObj_type (wpAny_bind (wpAny_pure (wpAny_pure ⟨_, rfl, wpAny_pure h⟩))) htake)
    | exact wpAny_bind (wpAny_bind (m := Builtin.Tuple.tupleExact _) (wpAny_newObj_type (wpAny_pure (wpAny_pure ⟨_, rfl, wpAny_pure h⟩)) htake))
    | exact wpAny_bind (wpAny_bind (m := Builtin.Tuple.tupleExact _) (wpAny_newObj_type (wpAny_pure ⟨_, rfl, wpAny_pure h⟩) htake))
end
section
variable {X : Cx} {K : Kw}
theorem vals_backs {hi : Option Int} {xs : List V} {us : List Value} (r : Vals xs us) : Vals (backs xs hi) (backs us hi) := by
  cases hi with
  | none => exact Vals.reverse r
  | some i => exact Vals.reverse (r.drop 1)
theorem backs_length {α : Type} (xs : List α) (hi : Option Int) : (backs xs hi).length ≤ xs.length := by
  cases hi <;> simp [backs]
theorem bk_tup : BkR X (rBackT (KOf X)) := by
  intro pins s σ H x v vu vs hi sl Q I rx hs pu ps h
  obtain ⟨a, xs, rfl, hh, hx, q⟩ := h
  cases rx
  obtain ⟨its, r, ht, hz⟩ := I.tuple hx
  refine ⟨"tuple", _, PyProof.Rows.slot_tuple_getitem.lookup, ht.typeIs, ?_⟩
  refine getItem_tuple_back ht hs pu ps hh ?_ (by rw [← r.length]; exact hz)
  refine ⟨.ref s.heap.objs.size, _, I.laid (t' := s.toks) (o := .tup (backs xs hi)) (fun b ob q => Heap.get?_push_of_some _ q) (Nat.le_refl _) ?_, rfl, q _ (I.hok.fresh (Nat.le_refl _))⟩
  exact ⟨Nat.le_trans (backs_length xs hi) hz, _, vals_backs r, IsTup.new _ _⟩
theorem bk_list : BkR X (fun x hi H Q => hi = none ∧ rBackL (KOf X) x hi H Q) := by
  intro pins s σ H x v vu vs hi sl Q I rx hs pu ps h
  obtain ⟨rfl, a, xs, rfl, hh, hx, q⟩ := h
  cases rx
  obtain ⟨its, r, ht, hz⟩ := I.list hx
  have hlen := r.length
  refine ⟨"list", _, slot_list_getitem.lookup, ht.isList.typeIs, ?_⟩
  refine wpAny_getItem_list_slice ht.isList hs .none pu ps (by simp) ?_ (by rw [List.size_toArray] <;> omega)
  rw [PySem.W.krv_pick]
  refine ⟨.ref s.heap.objs.size, _, I.laid (t' := s.toks) (o := .lst (backs xs none)) (fun b ob q => Heap.get?_push_of_some _ q) (Nat.le_refl _) ?_, rfl, q _ (I.hok.fresh (Nat.le_refl _))⟩
  exact ⟨Nat.le_trans (backs_length xs none) hz, _, 0, Vals.reverse r, Heap.get?_push_size _ rfl⟩
def rBackU (K : Kw) : V → Option Int → Hp → VK → Prop := fun x hi H Q => rBackT K x hi H Q ∨ (hi = none ∧ rBackL K x hi H Q)
theorem bk_U (hK : KOf X = K := by rfl) : BkR X (rBackU K) := by
  subst hK
  intro pins s σ H x v vu vs hi sl Q I rx hs pu ps h
  rcases h with h | h
  · exact bk_tup pins s σ H x v vu vs hi sl Q I rx hs pu ps h
  · exact bk_list pins s σ H x v vu vs hi sl Q I rx hs pu ps h
def backD (x : D) (hi : Option Int) (h : Hd) : Option (D × Hd) := match x with
  | .tup xs => match hi with
    | none => some (.tup (backs xs none), h)
    | some i => if i = 0 then some (.tup (backs xs (some 0)), h) else none
  | .rol xs => match hi with
    | none => some (.at h.length, h ++ [.lst xs.reverse])
    | some _ => none
  | .at n => match hi with
    | none => match h[n]? with
      | some (.lst xs) => some (.at h.length, h ++ [.lst xs.reverse])
      | _ => none
    | some _ => none
  | _ => none
def backM (a : ME) (hi st : MO) : ME := fun sg h => match a sg h with
  | some (x, h1) => match hi sg h1 with
    | some (u, h2) => match st sg h2 with
      | some (some k, h3) => if k = -1 then backD x u h3 else none
      | _ => none
    | none => none
  | none => none
theorem rps_backs {H : Hp} {μ : List Addr} {ds : List D} {vs : List V} (r : Rps K H μ ds vs) (hi : Option Int) : Rps K H μ (backs ds hi) (backs vs hi) := by
  cases hi with
  | none => exact r.rev
  | some i => exact (r.drop 1).rev
theorem de_back {a : Expr} {ta : TE} {ma : ME} {hi : Option Expr} {st : Expr} {th ts : TO} {mh ms : MO} {p2 pos : Pos} (ha : DE K X a ta ma) (hh : DO K X hi th mh) (hs : DO K X (some st) ts ms) : DE K X (.Subscript a (.Slice none hi (some st) p2) pos) (tBack (rBackU K) ta th ts) (backM ma mh ms) := ⟨ha.k, pe_back (bk_U ha.k) ha.p hh.p hs.p, by
  intro Φ σ H μ sg h d h' S rs e Q k
  unfold backM at e
  split at e
  · rename_i x h1 e1
    split at e
    · rename_i u h2 e2
      split at e
      · rename_i kk h3 e3
        split at e
        · rename_i hk
          subst hk
          refine ha.s σ H μ sg h x h1 S rs e1 _ fun v H1 μ1 S1 l1 r1 => ?_
          refine hh.s σ H1 μ1 sg h1 u h2 S1 (rs.mono l1) e2 _ fun H2 μ2 S2 l2 => ?_
          refine hs.s σ H2 μ2 sg h2 _ h3 S2 (rs.mono (l1.trans l2)) e3 _ fun H3 μ3 S3 l3 => ⟨rfl, ?_⟩
          have r3 := Rp.mono (l2.trans l3) _ _ r1
          have k3 : Kn Φ K H3 μ3 h' d Q := fun v H' μ' S' l' r' => k v H' μ' S' (((l1.trans l2).trans l3).trans l') r'
          unfold backD at e
          split at e
          · obtain ⟨p, vs, rfl, c1, c2⟩ := rp_tup' r3
            split at e
            · cases e
              exact .inl ⟨p, vs, rfl, .inl rfl, c1, fun q hq => kn_tup S3 (rps_backs c2 none) k3 q hq⟩
            · split at e
              · rename_i hi0
                subst hi0
                cases e
                exact .inl ⟨p, vs, rfl, .inr rfl, c1, fun q hq => kn_tup S3 (rps_backs c2 (some 0)) k3 q hq⟩
              · cases e
          · obtain ⟨p, vs, rfl, c1, c2⟩ := rp_rol' r3
            split at e
            · cases e
              exact .inr ⟨rfl, p, vs, rfl, .inl rfl, c1.l, fun q hq => kn_lst S3 (rps_backs c2 none) k3 q hq⟩
            · cases e
          · obtain ⟨p, ep, rfl⟩ := rp_at' r3
            split at e
            · split at e
              · rename_i xs q
                cases e
                obtain ⟨vs, c1, c2⟩ := S3.lst q ep
                exact .inr ⟨rfl, p, vs, rfl, .inl rfl, .of c1, fun q hq => kn_lst S3 (rps_backs c2 none) k3 q hq⟩
              · cases e
            · cases e
          · cases e
        · cases e
      · cases e
    · cases e
  · cases e⟩
end
/-! ### x += e of ints -/
def addID : G2 := fun x y h => match x, y with
  | .int i, .int j => some (.int (i + j), h)
  | _, _ => none
theorem so_addI {K : Kw} : SO K (rI0 fun i j => .int (i + j)) addID := by
  intro Φ H μ h x y v w d h' S r1 r2 e Q k
  unfold addID at e
  split at e
  · cases e
    exact ⟨_, _, rp_int' r1, rp_int' r2, k _ H μ S Le.refl rp_int⟩
  · cases e

/-! ### what the top has left of a def -/
structure Got (K : PySem.W.Frag) (mg : Str → Option Value) (x : Str) (st : Stmt) (ps : List Str) : Prop where
  ex : ∃ (f : Addr) (fd : FuncData), Fun K x x st f fd ∧ mg x = some (.ref f) ∧ Binds K fd ps []
theorem Got.cal {P : Program} {w : World} {K : PySem.W.Frag} {mg : Str → Option Value} {base : Heap} {k : Nat} {x : Str} {st : Stmt} {ps N : List Str} {ms : MS} {xs : MX} (g : Got K mg x st ps) (S : FnScope N ps (defScope st))
    (hb : ∀ (f : Addr) (cdv : Value) (A : Around) (outer : List Env) (s : Shared) (H : Hp) (E : XK), RoomG k (A.deeper (envOfC x (defScope st) s.heap.objs.size f cdv)) →
      ∃ t, DSsX ⟨K, w⟩ mg (cxOf (L2.CX P w) P w K mg base N x (defScope st) f cdv A outer s H E) (BdW E) (defBody st) t ms xs) : CalM P w K mg base (k + 1) x ps.length (bodyM N.length ms) (bodyX N.length xs) [] := by
  obtain ⟨f, fd, F, hm, hb0⟩ := g.ex
  exact ⟨f, fd, ps, [], [], fn_M F S (fun cdv A outer s H E hr => hb f cdv A outer s H E hr), hm, F.kp, hb0, .nil, fun _ _ => Rps.nil⟩
theorem Got.none {P : Program} {w : World} {K : PySem.W.Frag} {mg : Str → Option Value} {base : Heap} {k n : Nat} {x : Str} {st : Stmt} {ps : List Str} (g : Got K mg x st ps) : CalM P w K mg base k x n (fun _ _ => none) noGX [] := by
  obtain ⟨f, fd, F, hm, hb0⟩ := g.ex
  exact ⟨f, fd, ps, [], [], fn_none, hm, F.kp, hb0, .nil, fun _ _ => Rps.nil⟩
/-- one with defaults -/
structure GotD (K : PySem.W.Frag) (mg : Str → Option Value) (x : Str) (st : Stmt) (ps : List Str) (dvs : List V) : Prop where
  ex : ∃ (f : Addr) (fd : FuncData), FunD K x x (defArgs st) (defBody st) (defScope st) dvs [] f fd ∧ mg x = some (.ref f) ∧ Binds K fd ps [] ∧ ∃ ds, Vals dvs ds ∧ Binds K fd ps ds
theorem GotD.cal {P : Program} {w : World} {K : PySem.W.Frag} {mg : Str → Option Value} {base : Heap} {k : Nat} {x : Str} {st : Stmt} {ps N : List Str} {dvs : List V} {ms : MS} {xs : MX} (g : GotD K mg x st ps dvs) (S : FnScope N ps (defScope st))
    (hb : ∀ (f : Addr) (cdv : Value) (A : Around) (outer : List Env) (s : Shared) (H : Hp) (E : XK), RoomG k (A.deeper (envOfC x (defScope st) s.heap.objs.size f cdv)) →
      ∃ t, DSsX ⟨K, w⟩ mg (cxOf (L2.CX P w) P w K mg base N x (defScope st) f cdv A outer s H E) (BdW E) (defBody st) t ms xs) : CalM P w K mg base (k + 1) x ps.length (bodyM N.length ms) (bodyX N.length xs) [] := by
  obtain ⟨f, fd, F, hm, hb0, ds, h1, h2⟩ := g.ex
  exact ⟨f, fd, ps, [], [], fn_MD F S (fun cdv A outer s H E hr => hb f cdv A outer s H E hr), hm, F.kp, hb0, .nil, fun _ _ => Rps.nil⟩
theorem GotD.cald {P : Program} {w : World} {K : PySem.W.Frag} {mg : Str → Option Value} {base : Heap} {k : Nat} {x : Str} {st : Stmt} {ps N : List Str} {dvs : List V} {dd : List D} {ms : MS} {xs : MX} (g : GotD K mg x st ps dvs) (hd : ∀ H μ, Rps ⟨K, w⟩ H μ dd dvs) (S : FnScope N ps (defScope st))
    (hb : ∀ (f : Addr) (cdv : Value) (A : Around) (outer : List Env) (s : Shared) (H : Hp) (E : XK), RoomG k (A.deeper (envOfC x (defScope st) s.heap.objs.size f cdv)) →
      ∃ t, DSsX ⟨K, w⟩ mg (cxOf (L2.CX P w) P w K mg base N x (defScope st) f cdv A outer s H E) (BdW E) (defBody st) t ms xs) : CalM P w K mg base (k + 1) x ps.length (bodyM N.length ms) (bodyX N.length xs) dd := by
  obtain ⟨f, fd, F, hm, hb0, ds, h1, h2⟩ := g.ex
  exact ⟨f, fd, ps, ds, dvs, fn_MD F S (fun cdv A outer s H E hr => hb f cdv A outer s H E hr), hm, F.kp, h2, h1, hd⟩

/-! ### the end -/
theorem law_end {K : Kw} {mg : Str → Option Value} {m : GC} {x : GX} {H : Hp} {a : Addr} {ns : List Int} (hm : ∃ h', m [.rol (ns.map D.int)] [] = some (.bl true, h')) (hO : L2.Only H) (hS : SqL K H a (ns.map V.int)) :
    spX K mg 1 m x [.ref a] H (fun v _ => v = .bl true) fun _ _ _ => False := by
  obtain ⟨h', hm⟩ := hm
  have hF : SqF K H a (ns.map V.int) := by
    rcases hS with (h | h) | h
    · rcases hO a with q | ⟨o, xs, q⟩ <;> rw [q] at h <;> cases h
    · exact .inl h
    · exact .inr h
  have rI : ∀ ns : List Int, Rps K H [] (ns.map D.int) (ns.map V.int) := by
    intro ns
    induction ns with
    | nil => exact Rps.nil
    | cons n ns ih => exact Rps.cons rp_int ih
  refine ⟨fun _ => none, [], [.rol (ns.map D.int)], [], ⟨rfl, fun n m a e => by simp at e, fun n o e => by simp at e, fun a o e => by cases e⟩, ?_, rfl, .inl ⟨.bl true, h', hm, fun v H' μ' _ _ r => rp_bl' r⟩⟩
  refine Rps.cons ?_ Rps.nil
  unfold Rp
  exact ⟨a, _, rfl, hF, rI ns⟩
/-- the law's call, where the promise wants no repr that runs (as the hand layer's law_call) -/
theorem law_callG {P : Program} {w : World} {K : PySem.W.Frag} {mg mb : Str → Option Value} {CX : CXT} {k : Nat} {fa a : Addr} {fd : FuncData} {x : Str} {sp : Sp} {s₁ : Shared} {vs : List Value} {ns : List Int}
    (KX : K.In s₁.heap) (hns : s₁.heap.Ns mainGlobals mg) (hb : s₁.heap.Ns builtinsNs mb) (hbb : ∀ x : Str, x ≠ "__name__" → mb x = bootBuiltins x) (hlim : s₁.heap.NoLimit) (hg : s₁.gens = #[])
    (ha : s₁.heap.get? a = some { cls := .type "list", data := .seq vs.toArray }) (hi : IntsAre vs ns) (hl : ns.length ≤ sizeLine) (hr : Room k callerA)
    (F : ∀ base : Heap, K.In base → base.Ns mainGlobals mg → FnG P w K mg base CX k fa fd [x] sp) (hbind : ∀ (s : Shared) (u : Value), BindsTo s fd ⟨[u], []⟩ [(x, u)])
    (hsp : ∀ H : Hp, L2.Only H → SqL K H a (ns.map V.int) → sp [.ref a] H (fun v _ => v = .bl true) fun _ _ _ => False)
    (hCX : ∀ H e s', CX [] H s₁ (fun _ _ _ => False) e s' → False) :
    codeAny (model P w) callerA (.call (.ref fa) ⟨[.ref a], []⟩) (fun r s' => r = .ok (.ret (.bool true)) ∧ OldK s₁.heap s'.heap ∧ s'.os = s₁.os ∧ AllBare s'.gens) s₁ := by
  have rv := vals_ints hi
  have lenV := hi.length
  -- from an abstract heap in which nothing but the script may be tracked
  have core : ∀ H : Hp, L2.Only H → SqL K H a (ns.map V.int) → HOk P w H s₁.heap → (∀ b, H b ≠ none → b = a) → (H a ≠ none → K.lookup a = none) →
      codeAny (model P w) callerA (.call (.ref fa) ⟨[.ref a], []⟩) (fun r s' => r = .ok (.ret (.bool true)) ∧ OldK s₁.heap s'.heap ∧ s'.os = s₁.os ∧ AllBare s'.gens) s₁ := by
    intro H hO hS hok hA hK
    have base_of : ∀ {b : Addr} {o : Obj}, s₁.heap.get? b = some o → H b = none → (hidT s₁.heap H).get? b = some o := fun e n => hidT_get e n
    have noA : ∀ {b : Addr} {o : Obj} {es : Array DictEntry} {ep : Nat}, s₁.heap.get? b = some o → o.data = .dict es ep → H b = none := fun {b o es ep} e d => by
      cases q : H b with
      | none => rfl
      | some u =>
        have e' : b = a := hA b (by rw [q]; simp)
        subst e'
        rw [ha] at e; cases e
        have d' : Data.seq vs.toArray _ = Data.dict es ep := d
        cases d'
    have nsK : ∀ {b : Addr} {m : Str → Option Value}, s₁.heap.Ns b m → (hidT s₁.heap H).Ns b m := fun {b m} ⟨o, es, ep, e, d, r⟩ => ⟨o, es, ep, base_of e (noA e d), d, r⟩
    have hKb : K.In (hidT s₁.heap H) := fun b o e => base_of (KX b o e) (by
      cases q : H b with
      | none => rfl
      | some u =>
        have e' : b = a := hA b (by rw [q]; simp)
        subst e'
        rw [hK (by rw [q]; simp)] at e; cases e)
    have hM : Mod K mg (hidT s₁.heap H) := ⟨hKb, nsK hns, ⟨mb, nsK hb, hbb⟩, let ⟨mc, h1, h2⟩ := hlim; ⟨mc, nsK h1, h2⟩⟩
    have e0 : Env0 P w K mg (hidT s₁.heap H) callerA [] s₁ H := ⟨rfl, hM, fun b o e => of_hidT e, Nat.le_of_eq (hidT_size _ _), trivial, fun b hb => absurd (show b ∈ ([] : List Addr) from hb) (by simp), hok, .of_eq hg⟩
    refine codeAny_mono ((F _ hKb (nsK hns)).run callerA [] s₁ H ⟨[.ref a], []⟩ [.ref a] [.ref a] _ _ ⟨hr, rfl⟩ e0 (hbind s₁ (.ref a)) (.cons rfl .nil) (hsp H hO hS)) fun r s' h => ?_
    cases r with
    | error e => exact (hCX H e s' h).elim
    | ok fl =>
      cases fl with
      | next => exact False.elim h
      | brk => exact False.elim h
      | cont => exact False.elim h
      | ret u =>
        obtain ⟨v, H', os, bare, un, hok', r', q⟩ := h
        have q' : v = .bl true := q
        subst q'
        obtain rfl : u = Value.bool true := r'
        refine ⟨rfl, OldK.of_keep fun b o e => ?_, os, bare⟩
        cases q : H b with
        | none => exact un.keep b o e q (by intro z; exact absurd (show b ∈ ([] : List Addr) from z) (by simp)) (by simp)
        | some u =>
          rcases hO b with z | ⟨ob, xs, z⟩
          · rw [q] at z; cases z
          · have z2 := un.frzs b ob _ z
            obtain ⟨e1, _⟩ := hok b _ z
            obtain ⟨e2, _⟩ := hok' b _ z2
            rw [e] at e1; cases e1
            exact e2
  cases hk : K.lookup a with
  | some o =>
    -- the script is one of the module's own objects
    have e := KX a o hk
    rw [ha] at e
    cases e
    refine core (fun _ => none) (fun _ => .inl rfl) (.inr ⟨_, vs.toArray, _, hk, rfl, rfl, rfl, by rw [List.size_toArray, lenV]; exact hl, by simpa using rv⟩) (fun b u z => by have z' : (none : Option HO) = some u := z; cases z') (fun b z => absurd rfl z) fun z => absurd rfl z
  | none =>
    refine core (fun b => if b = a then some (.frz { cls := .type "list", data := .seq vs.toArray } (.lst (ns.map V.int))) else none) (fun b => ?_) (.inl (.inr ⟨{ cls := .type "list", data := .seq vs.toArray }, if_pos rfl⟩)) (fun b u z => ?_) (fun b z => ?_) fun _ => hk
    · by_cases hb : b = a
      · exact .inr ⟨_, _, if_pos hb⟩
      · exact .inl (if_neg hb)
    · by_cases hb : b = a
      · have z' := (if_pos hb).symm.trans z
        cases z'
        subst hb
        exact ⟨ha, by rw [List.length_map]; exact hl, vs, _, rv, ha⟩
      · have z' := (if_neg hb).symm.trans z
        cases z'
    · by_cases hb : b = a
      · exact hb
      · exact absurd (if_neg hb) z
/-- the end, as the hand layer's walk_of -/
theorem walk_G {l : PySem.W.OpenLaw} {n k : Nat} {q : Program} {loose : List Str} {XP : (Str → Option Value) → Heap → Prop} {YP : World → Heap → Prop} {d : DefRec} {K : Params → PySem.W.Frag} {CX : World → CXT} {sp : World → Sp} {x : Str}
    (hn : l.most = some n) (hn2 : n ≤ sizeLine) (hdf : d.params.defaults = []) (hr : Room k callerA)
    (hY : ∀ (w : World) (h : Heap), YP w h → (K w.params).In h)
    (F : ∀ (w : World) (mg : Str → Option Value) (fa : Addr) (h : Heap), (K w.params).In h → h.Ns mainGlobals mg → mg d.name = some (.ref fa) →
      ∃ fd : FuncData, (∀ (s : Shared) (u : Value), BindsTo s fd ⟨[u], []⟩ [(x, u)]) ∧
        ∀ base : Heap, (K w.params).In base → base.Ns mainGlobals mg → FnG l.prog w (K w.params) mg base (CX w) k fa fd [x] (sp w))
    (hsp : ∀ (w : World) (H : Hp) (a : Addr) (ns : List Int), ns.length ≤ n → L2.Only H → SqL (K w.params) H a (ns.map V.int) → sp w [.ref a] H (fun v _ => v = .bl true) fun _ _ _ => False)
    (hCX : ∀ (w : World) (H : Hp) (s : Shared) (e : Value) (s' : Shared), CX w [] H s (fun _ _ _ => False) e s' → False) :
    PySem.W.WalkO q loose XP YP l.row.toRowW d [] (fun f vs => PySem.call f vs) := by
  refine Att.attach_call hn hdf fun w s₀ s₁ mg mb fa o pm cd doc a vs ns G Y ho hd hcd hmg hobj hints hlen hg => ?_
  have KX := hY w _ Y
  obtain ⟨fd, hb, hF⟩ := F w mg fa _ KX G.T.g hmg
  exact law_callG KX G.T.g G.T.b G.T.builtins G.T.nolimit hg hobj hints (Nat.le_trans hlen hn2) hr hF hb (fun H hO hS => hsp w H a ns hlen hO hS) fun H e s' => hCX w H s₁ e s'
end DL

/-! DL8: three assigned at once, is None, constants of the module. -/
namespace DL
open PySem L2 PySem.Spec PyProof.Rows
theorem rps3 {K : Kw} {H : Hp} {μ : List Addr} {d e f : D} {vs : List V} (r : Rps K H μ [d, e, f] vs) : ∃ v w u, vs = [v, w, u] ∧ Rp K H μ d v ∧ Rp K H μ e w ∧ Rp K H μ f u := by
  obtain ⟨v, vs', rfl, a, b⟩ := r.cons'
  obtain ⟨w, u, rfl, c, d⟩ := rps2 b
  exact ⟨v, w, u, rfl, a, c, d⟩
def par3M (i j l : Nat) (a : MA) : MS := fun sg h => match a sg h with
  | some ([x, y, z], h1) => some (.nx (((sg.set i (some x)).set j (some y)).set l (some z)), h1)
  | _ => none
section
variable {K : Kw} {X : Cx} {pos : Pos}
theorem ds_par3 (i j l : Nat) {x y z : Str} {a b c : Expr} {ta : TA} {ma : MA} {px py pz pt : Pos} {kt k2 pt2} (d : DA K X [a, b, c] ta ma) (hN : X.N.Nodup) (hi : X.N[i]? = some x := by rfl) (hj : X.N[j]? = some y := by rfl) (hl : X.N[l]? = some z := by rfl) (hij : i ≠ j := by decide) (hil : i ≠ l := by decide) (hjl : j ≠ l := by decide)
    (hx : X.env.scope.names.lookup x = some .local := by rfl) (hy : X.env.scope.names.lookup y = some .local := by rfl) (hz : X.env.scope.names.lookup z = some .local := by rfl)
    (hw : swappedStores [.Tuple [.Name x px, .Name y py, .Name z pz] kt pt] (.Tuple [a, b, c] k2 pt2) X.env = pure (some [x, y, z]) := by rfl)
    (hs : swapsWithSole [.Tuple [.Name x px, .Name y py, .Name z pz] kt pt] (.Tuple [a, b, c] k2 pt2) pos.line X.env = pure false := by rfl) (hc : X.calm = true := by rfl) :
    DS K X (.Assign [.Tuple [.Name x px, .Name y py, .Name z pz] kt pt] (.Tuple [a, b, c] k2 pt2) pos) (tPar3 i j l ta) (par3M i j l ma) := ⟨d.k, ps_par3 hc hN hi hj hl hij hil hjl hx hy hz d.p hw hs, by
  intro Φ σ H μ sg h f h' S rs e E k
  unfold par3M at e
  split at e
  · rename_i x y z h1 e1
    cases e
    refine d.s σ H μ sg h _ _ S rs e1 _ fun vs H1 μ1 S1 l1 r1 => ?_
    obtain ⟨v, w, u, rfl, r2, r3, r4⟩ := rps3 r1
    exact ⟨v, w, u, rfl, k _ H1 μ1 S1 l1 ((((rs.mono l1).put i r2).put j r3).put l r4)⟩
  · cases e⟩
/-- x is None, x is not None -/
def isNonD : D → Bool
  | .non => true
  | _ => false
def isD : G2 := fun x y h => match y with
  | .non => some (.bl (isNonD x), h)
  | _ => none
def isntD : G2 := fun x y h => match y with
  | .non => some (.bl (!isNonD x), h)
  | _ => none
def rIsNo : R2 := fun x y H Q => y = .non ∧ Q (.bl (decide (x = .non))) H
def rIsntNo : R2 := fun x y H Q => y = .non ∧ Q (.bl (!decide (x = .non))) H
theorem is_non {H : Hp} {μ : List Addr} {x : D} {v : V} (r : Rp K H μ x v) : decide (v = .non) = isNonD x := by
  cases x with
  | non => rw [rp_non' r]; rfl
  | bl b => rw [rp_bl' r]; rfl
  | int b => rw [rp_int' r]; rfl
  | str b => rw [rp_str' r]; rfl
  | ty b => rw [rp_ty' r]; rfl
  | tup b => obtain ⟨p, vs, rfl, _⟩ := rp_tup' r; rfl
  | rol b => obtain ⟨p, vs, rfl, _⟩ := rp_rol' r; rfl
  | «at» b => obtain ⟨p, _, rfl⟩ := rp_at' r; rfl
  | ad a => rw [rp_ad' r]; rfl
theorem so_is : SO K rIsNo isD := by
  intro Φ H μ h x y v w d h' S r1 r2 e Q k
  unfold isD at e
  split at e
  · cases e
    exact ⟨rp_non' r2, by rw [is_non r1]; exact k _ H μ S Le.refl rp_bl⟩
  · cases e
theorem so_isnt : SO K rIsntNo isntD := by
  intro Φ H μ h x y v w d h' S r1 r2 e Q k
  unfold isntD at e
  split at e
  · cases e
    exact ⟨rp_non' r2, by rw [is_non r1]; exact k _ H μ S Le.refl rp_bl⟩
  · cases e
theorem op_is0 : OpR X (compareOp .Is) rIsNo := op_isN
theorem op_isnt0 : OpR X (compareOp .IsNot) rIsntNo := op_notN
/-- a constant of the module: what the name holds -/
structure Kst (K : Kw) (mg : Str → Option Value) (x : Str) (d : D) : Prop where
  ex : ∃ (u : Value) (v : V), mg x = some u ∧ RelV v u ∧ ∀ H μ, Rp K H μ d v
def tKst (K : Kw) (d : D) : TE := fun _ H Q => ∀ v : V, (∀ H μ, Rp K H μ d v) → Q v H
theorem Kst.de {x : Str} {d : D} (c : Kst K X.mg x d) (hK : KOf X = K := by rfl) (hg : Gl X x := by rfl) (hd : (x == ("__debug__" : Str)) = false := by decide) : DE K X (.Name x pos) (tKst K d) (cM d) := ⟨hK, by
  obtain ⟨u, v, h1, h2, h3⟩ := c.ex
  exact ⟨fun pins s σ H Q I q => (pe_glob hg h1 h2 hd).run pins s σ H Q I (q v h3)⟩, by
  intro Φ σ H μ sg h d h' S rs e Q k
  cases e
  exact fun v hv => k v H μ S Le.refl (hv H μ)⟩
theorem Kst.int {mg : Str → Option Value} {x : Str} {i : Int} (h : ∃ t, mg x = some (.int i t)) : Kst K mg x (.int i) := by
  obtain ⟨t, h⟩ := h
  exact ⟨_, .int i, h, ⟨t, rfl⟩, fun _ _ => rp_int⟩
theorem Kst.str {mg : Str → Option Value} {x : Str} {i : Str} (h : ∃ t, mg x = some (.str i t)) : Kst K mg x (.str i) := by
  obtain ⟨t, h⟩ := h
  exact ⟨_, .str i, h, ⟨t, rfl⟩, fun _ _ => rp_str⟩
end
end DL

namespace DL
open PySem L2
/-! ### what a run gives, told from its end -/
def Ev {α : Type} (r : Option (α × Hd)) (Q : α → Hd → Prop) : Prop := ∃ d h', r = some (d, h') ∧ Q d h'
def Rt {α : Type} (r : Option (α × Hd)) (d : α) (P : Hd → Prop) : Prop := ∃ h', r = some (d, h') ∧ P h'
section
variable {α : Type} {r : Option (α × Hd)} {Q : α → Hd → Prop} {d : α} {h h' : Hd} {P : Hd → Prop}
theorem ev_eq (e : r = some (d, h')) (q : Q d h') : Ev r Q := ⟨d, h', e, q⟩
theorem ev_of (a : Rt r d P) (q : ∀ h', P h' → Q d h') : Ev r Q := by
  obtain ⟨h', e, p⟩ := a
  exact ⟨d, h', e, q h' p⟩
theorem rt_of (a : Ev r fun d' h' => d' = d ∧ P h') : Rt r d P := by
  obtain ⟨d', h', e, rfl, p⟩ := a
  exact ⟨h', e, p⟩
theorem Ev.mono {R : α → Hd → Prop} (a : Ev r Q) (k : ∀ d h', Q d h' → R d h') : Ev r R := by
  obtain ⟨d', h', e, p⟩ := a
  exact ⟨d', h', e, k _ _ p⟩
theorem Rt.mono {R : Hd → Prop} (a : Rt r d P) (k : ∀ h', P h' → R h') : Rt r d R := by
  obtain ⟨h', e, p⟩ := a
  exact ⟨h', e, k _ p⟩
def Br (t : Bool) (A B : Prop) : Prop := (t = true → A) ∧ (t = false → B)
theorem br {t : Bool} {A B : Prop} (a : t = true → A) (b : t = false → B) : Br t A B := ⟨a, b⟩
theorem br_t {t : Bool} {A B : Prop} (e : t = true) (a : A) : Br t A B := ⟨fun _ => a, fun f => by rw [e] at f; cases f⟩
theorem br_f {t : Bool} {A B : Prop} (e : t = false) (b : B) : Br t A B := ⟨fun f => (by rw [e] at f; cases f), fun _ => b⟩
def TrK (h : Hd) (x : D) (A : Bool → Prop) : Prop := ∃ t, truD h x = some t ∧ A t
def BlK (x : D) (A : Bool → Prop) : Prop := ∃ t, x = .bl t ∧ A t
def ItK (x : D) (A : Int → Prop) : Prop := ∃ t, x = .int t ∧ A t
def P2K (xs : List D) (A : D → D → Prop) : Prop := ∃ x y, xs = [x, y] ∧ A x y
def P3K (xs : List D) (A : D → D → D → Prop) : Prop := ∃ x y z, xs = [x, y, z] ∧ A x y z
def M1K (k : Option Int) (A : Prop) : Prop := k = some (-1) ∧ A
def KdK (T : String) (h : Hd) (x : D) (A : Prop) : Prop := kindD T h x = true ∧ A
theorem tr_bl {h : Hd} {b : Bool} {A : Bool → Prop} (q : A b) : TrK h (.bl b) A := ⟨b, rfl, q⟩
theorem tr_int {h : Hd} {i : Int} {A : Bool → Prop} (q : A (i != 0)) : TrK h (.int i) A := ⟨_, rfl, q⟩
theorem tr_tup {h : Hd} {xs : List D} {A : Bool → Prop} (q : A (!xs.isEmpty)) : TrK h (.tup xs) A := ⟨_, rfl, q⟩
theorem tr_non {h : Hd} {A : Bool → Prop} (q : A false) : TrK h .non A := ⟨_, rfl, q⟩
theorem tr_str {h : Hd} {s : Str} {A : Bool → Prop} (l : s.length ≤ LN) (q : A ((s.length : Int) != 0)) : TrK h (.str s) A := ⟨_, by simp only [truD, if_pos l], q⟩
theorem tr_lst {h : Hd} {n : Nat} {xs : List D} {A : Bool → Prop} (e : h[n]? = some (.lst xs)) (q : A (!xs.isEmpty)) : TrK h (.at n) A := ⟨_, by simp only [truD, e], q⟩
theorem tr_dct {h : Hd} {n : Nat} {xs : List (Key × D)} {A : Bool → Prop} (e : h[n]? = some (.dct xs)) (q : A (!xs.isEmpty)) : TrK h (.at n) A := ⟨_, by simp only [truD, e], q⟩
theorem blk {b : Bool} {A : Bool → Prop} (q : A b) : BlK (.bl b) A := ⟨b, rfl, q⟩
theorem itk {b : Int} {A : Int → Prop} (q : A b) : ItK (.int b) A := ⟨b, rfl, q⟩
theorem p2k {x y : D} {A : D → D → Prop} (q : A x y) : P2K [x, y] A := ⟨x, y, rfl, q⟩
theorem p3k {x y z : D} {A : D → D → D → Prop} (q : A x y z) : P3K [x, y, z] A := ⟨x, y, z, rfl, q⟩
theorem m1k {A : Prop} (q : A) : M1K (some (-1)) A := ⟨rfl, q⟩
theorem kd_lst {h : Hd} {n : Nat} {ws : List D} {A : Prop} (e : h[n]? = some (.lst ws)) (q : A) : KdK "list" h (.at n) A := ⟨by
  unfold kindD
  simp [e], q⟩
theorem br_tt {A B : Prop} (a : A) : Br true A B := br_t rfl a
theorem br_ff {A B : Prop} (b : B) : Br false A B := br_f rfl b
end
section
variable {sg : Sg} {h : Hd} {Q : D → Hd → Prop} {a b c : ME} {g g' : G2}
theorem ev_var {i : Nat} {d : D} (e : sg[i]? = some (some d)) (q : Q d h) : Ev (varM i sg h) Q := ⟨d, h, by simp only [varM, e], q⟩
theorem ev_c {d : D} (q : Q d h) : Ev (cM d sg h) Q := ⟨d, h, rfl, q⟩
theorem ev_op (q : Ev (a sg h) fun x h1 => Ev (b sg h1) fun y h2 => Ev (g x y h2) Q) : Ev (opM g a b sg h) Q := by
  obtain ⟨x, h1, e1, y, h2, e2, d, h3, e3, q⟩ := q
  exact ⟨d, h3, by simp only [opM, e1, e2, e3], q⟩
theorem ev_chain (q : Ev (a sg h) fun x h1 => Ev (b sg h1) fun y h2 => Ev (g x y h2) fun d h3 => BlK d fun t => Br t (Ev (c sg h3) fun z h4 => Ev (g' y z h4) Q) (Q (.bl false) h3)) : Ev (chainM g g' a b c sg h) Q := by
  obtain ⟨x, h1, e1, y, h2, e2, d, h3, e3, t, rfl, q1, q2⟩ := q
  cases t with
  | true =>
    obtain ⟨z, h4, e4, d, h5, e5, q⟩ := q1 rfl
    exact ⟨d, h5, by simp only [chainM, e1, e2, e3, e4, e5], q⟩
  | false => exact ⟨_, _, by simp only [chainM, e1, e2, e3], q2 rfl⟩
theorem ev_neg (q : Ev (a sg h) fun x h1 => ItK x fun i => Q (.int (-i)) h1) : Ev (negM a sg h) Q := by
  obtain ⟨x, h1, e1, i, rfl, q⟩ := q
  exact ⟨_, h1, by simp only [negM, e1], q⟩
theorem ev_and (q : Ev (a sg h) fun x h1 => TrK h1 x fun t => Br t (Ev (b sg h1) Q) (Q x h1)) : Ev (DL.andM a b sg h) Q := by
  obtain ⟨x, h1, e1, t, e2, q1, q2⟩ := q
  cases t with
  | true =>
    obtain ⟨d, h2, e3, q⟩ := q1 rfl
    exact ⟨d, h2, by simp only [DL.andM, e1, e2, e3], q⟩
  | false => exact ⟨x, h1, by simp only [DL.andM, e1, e2], q2 rfl⟩
theorem ev_or (q : Ev (a sg h) fun x h1 => TrK h1 x fun t => Br t (Q x h1) (Ev (b sg h1) Q)) : Ev (DL.orM a b sg h) Q := by
  obtain ⟨x, h1, e1, t, e2, q1, q2⟩ := q
  cases t with
  | false =>
    obtain ⟨d, h2, e3, q⟩ := q2 rfl
    exact ⟨d, h2, by simp only [DL.orM, e1, e2, e3], q⟩
  | true => exact ⟨x, h1, by simp only [DL.orM, e1, e2], q1 rfl⟩
theorem ev_not (q : Ev (a sg h) fun x h1 => TrK h1 x fun t => Q (.bl (!t)) h1) : Ev (DL.notM a sg h) Q := by
  obtain ⟨x, h1, e1, t, e2, q⟩ := q
  exact ⟨_, h1, by simp only [DL.notM, e1, e2], q⟩
theorem ev_ifE {t : MT} (q : Ev (t sg h) fun b0 h1 => Br b0 (Ev (a sg h1) Q) (Ev (b sg h1) Q)) : Ev (ifM t a b sg h) Q := by
  obtain ⟨x, h1, e1, q1, q2⟩ := q
  cases x with
  | true =>
    obtain ⟨d, h2, e3, q⟩ := q1 rfl
    exact ⟨d, h2, by simp only [ifM, e1, e3], q⟩
  | false =>
    obtain ⟨d, h2, e3, q⟩ := q2 rfl
    exact ⟨d, h2, by simp only [ifM, e1, e3], q⟩
end
section
variable {sg : Sg} {h : Hd} {Q : Bool → Hd → Prop} {a : ME} {s t : MT}
theorem ev_test (q : Ev (a sg h) fun x h1 => BlK x fun b => Q b h1) : Ev (testM a sg h) Q := by
  obtain ⟨x, h1, e1, b, rfl, q⟩ := q
  exact ⟨b, h1, by simp only [testM, e1], q⟩
theorem ev_tru (q : Ev (a sg h) fun x h1 => TrK h1 x fun b => Q b h1) : Ev (truM a sg h) Q := by
  obtain ⟨x, h1, e1, b, e2, q⟩ := q
  exact ⟨b, h1, by simp only [truM, e1, e2], q⟩
theorem ev_tand (q : Ev (s sg h) fun b h1 => Br b (Ev (t sg h1) Q) (Q false h1)) : Ev (tandM s t sg h) Q := by
  obtain ⟨x, h1, e1, q1, q2⟩ := q
  cases x with
  | true =>
    obtain ⟨d, h2, e3, q⟩ := q1 rfl
    exact ⟨d, h2, by simp only [tandM, e1, e3], q⟩
  | false => exact ⟨false, h1, by simp only [tandM, e1], q2 rfl⟩
theorem ev_tor (q : Ev (s sg h) fun b h1 => Br b (Q true h1) (Ev (t sg h1) Q)) : Ev (torM s t sg h) Q := by
  obtain ⟨x, h1, e1, q1, q2⟩ := q
  cases x with
  | false =>
    obtain ⟨d, h2, e3, q⟩ := q2 rfl
    exact ⟨d, h2, by simp only [torM, e1, e3], q⟩
  | true => exact ⟨true, h1, by simp only [torM, e1], q1 rfl⟩
theorem ev_tnot (q : Ev (s sg h) fun b h1 => Q (!b) h1) : Ev (tnotM s sg h) Q := by
  obtain ⟨x, h1, e1, q⟩ := q
  exact ⟨_, h1, by simp only [tnotM, e1], q⟩
theorem ev_yes (q : Q true h) : Ev (yesM sg h) Q := ⟨_, _, rfl, q⟩
end
section
variable {sg : Sg} {h : Hd} {Q : List D → Hd → Prop} {a : ME} {b : MA}
theorem ev_nil (q : Q [] h) : Ev (nilM sg h) Q := ⟨_, _, rfl, q⟩
theorem ev_cons (q : Ev (a sg h) fun x h1 => Ev (b sg h1) fun xs h2 => Q (x :: xs) h2) : Ev (consM a b sg h) Q := by
  obtain ⟨x, h1, e1, xs, h2, e2, q⟩ := q
  exact ⟨_, _, by simp only [consM, e1, e2], q⟩
end
section
variable {sg : Sg} {h : Hd} {Q : D → Hd → Prop} {a o : ME} {b : MA} {lo hi st : MO} {g : GC} {gm : GM}
def LnK (n : Nat) (A : Prop) : Prop := n ≤ LN ∧ A
theorem ln_k {n : Nat} {A : Prop} (e : n ≤ LN) (q : A) : LnK n A := ⟨e, q⟩
theorem ev_tup (q : Ev (b sg h) fun xs h1 => LnK xs.length (Q (.tup xs) h1)) : Ev (tupM b sg h) Q := by
  obtain ⟨xs, h1, e1, l, q⟩ := q
  exact ⟨_, h1, by simp only [tupM, e1, if_pos l], q⟩
theorem ev_lst (q : Ev (b sg h) fun xs h1 => LnK xs.length (Q (.at h1.length) (h1 ++ [.lst xs]))) : Ev (lstM b sg h) Q := by
  obtain ⟨xs, h1, e1, l, q⟩ := q
  exact ⟨_, _, by simp only [lstM, e1, if_pos l], q⟩
theorem ev_dnew (q : Q (.at h.length) (h ++ [.dct []])) : Ev (dnewM sg h) Q := ⟨_, _, rfl, q⟩
theorem ev_cb (q : Ev (b sg h) fun xs h1 => Ev (g xs h1) Q) : Ev (cbM g b sg h) Q := by
  obtain ⟨xs, h1, e1, d, h2, e2, q⟩ := q
  exact ⟨_, _, by simp only [cbM, e1, e2], q⟩
theorem ev_bm {T : String} (q : Ev (o sg h) fun x h1 => KdK T h1 x <| Ev (b sg h1) fun xs h2 => Ev (gm x xs h2) Q) : Ev (bmM T gm o b sg h) Q := by
  obtain ⟨x, h1, e1, k, xs, h2, e2, d, h3, e3, q⟩ := q
  exact ⟨_, _, by simp only [bmM, e1, if_pos k, e2, e3], q⟩
theorem ev_no {Q : Option Int → Hd → Prop} (q : Q none h) : Ev (noM sg h) Q := ⟨_, _, rfl, q⟩
theorem ev_part {Q : Option Int → Hd → Prop} (q : Ev (a sg h) fun x h1 => ItK x fun i => Q (some i) h1) : Ev (partM a sg h) Q := by
  obtain ⟨x, h1, e1, i, rfl, q⟩ := q
  exact ⟨_, h1, by simp only [partM, e1], q⟩
theorem ev_sl (q : Ev (a sg h) fun x h1 => Ev (lo sg h1) fun l h2 => Ev (hi sg h2) fun u h3 => Ev (sliceD x l u h3) Q) : Ev (slM a lo hi sg h) Q := by
  obtain ⟨x, h1, e1, l, h2, e2, u, h3, e3, d, h4, e4, q⟩ := q
  exact ⟨_, _, by simp only [slM, e1, e2, e3, e4], q⟩
theorem ev_back (q : Ev (a sg h) fun x h1 => Ev (hi sg h1) fun u h2 => Ev (st sg h2) fun k h3 => M1K k <| Ev (backD x u h3) Q) : Ev (backM a hi st sg h) Q := by
  obtain ⟨x, h1, e1, l, h2, e2, u, h3, e3, rfl, d, h4, e4, q⟩ := q
  exact ⟨_, _, by simp only [backM, e1, e2, e3, if_true, e4], q⟩
def ClK (n : Nat) (m : GC) (xs : List D) (h : Hd) (Q : D → Hd → Prop) : Prop := xs.length = n ∧ Ev (m xs h) Q
theorem cl_k {n : Nat} {m : GC} {xs : List D} (e : xs.length = n) (q : Ev (m xs h) Q) : ClK n m xs h Q := ⟨e, q⟩
theorem ev_call {n : Nat} {m : GC} {dd : List D} (q : Ev (b sg h) fun xs h1 => ClK n m (xs ++ dd) h1 Q) : Ev (callM n m dd b sg h) Q := by
  obtain ⟨xs, h1, e1, l, d, h2, e2, q⟩ := q
  exact ⟨_, _, by simp only [callM, e1, if_pos l, e2], q⟩
end
section
variable {sg : Sg} {h : Hd} {Q : Fl → Hd → Prop} {a o i : ME} {m n : MS} {g : MG} {t : MT}
theorem ev_pass (q : Q (.nx sg) h) : Ev (passM sg h) Q := ⟨_, _, rfl, q⟩
theorem ev_brk (q : Q (.bk sg) h) : Ev (brkM sg h) Q := ⟨_, _, rfl, q⟩
theorem ev_cnt (q : Q (.ct sg) h) : Ev (cntM sg h) Q := ⟨_, _, rfl, q⟩
theorem ev_expr (q : Ev (a sg h) fun _ h1 => Q (.nx sg) h1) : Ev (exprM a sg h) Q := by
  obtain ⟨x, h1, e1, q⟩ := q
  exact ⟨_, _, by simp only [exprM, e1], q⟩
theorem ev_ret (q : Ev (a sg h) fun d h1 => Q (.rt d) h1) : Ev (retM a sg h) Q := by
  obtain ⟨x, h1, e1, q⟩ := q
  exact ⟨_, _, by simp only [retM, e1], q⟩
theorem ev_asg (q : Ev (a sg h) fun d h1 => Ev (g d sg h1) fun sg' h2 => Q (.nx sg') h2) : Ev (asgM a g sg h) Q := by
  obtain ⟨x, h1, e1, sg', h2, e2, q⟩ := q
  exact ⟨_, _, by simp only [asgM, e1, e2], q⟩
def SqK (n : MS) (Q : Fl → Hd → Prop) : Fl → Hd → Prop
  | .nx sg, h => Ev (n sg h) Q
  | f, h => Q f h
theorem sq_nx (q : Ev (n sg h) Q) : SqK n Q (.nx sg) h := q
theorem sq_rt {d : D} (q : Q (.rt d) h) : SqK n Q (.rt d) h := q
theorem sq_bk (q : Q (.bk sg) h) : SqK n Q (.bk sg) h := q
theorem sq_ct (q : Q (.ct sg) h) : SqK n Q (.ct sg) h := q
theorem ev_seq (q : Ev (m sg h) fun f h1 => SqK n Q f h1) : Ev (seqM m n sg h) Q := by
  obtain ⟨f, h1, e1, q⟩ := q
  cases f with
  | nx sg1 =>
    obtain ⟨f2, h2, e2, q⟩ := q
    exact ⟨_, _, by simp only [seqM, e1, e2], q⟩
  | rt d => exact ⟨_, _, by simp only [seqM, e1], q⟩
  | bk d => exact ⟨_, _, by simp only [seqM, e1], q⟩
  | ct d => exact ⟨_, _, by simp only [seqM, e1], q⟩
theorem ev_ifS (q : Ev (t sg h) fun b0 h1 => Br b0 (Ev (m sg h1) Q) (Ev (n sg h1) Q)) : Ev (ifSM t m n sg h) Q := by
  obtain ⟨x, h1, e1, q1, q2⟩ := q
  cases x with
  | true =>
    obtain ⟨d, h2, e3, q⟩ := q1 rfl
    exact ⟨d, h2, by simp only [ifSM, e1, e3], q⟩
  | false =>
    obtain ⟨d, h2, e3, q⟩ := q2 rfl
    exact ⟨d, h2, by simp only [ifSM, e1, e3], q⟩
theorem ev_aug {i : Nat} {g : G2} {x : D} (e : sg[i]? = some (some x)) (q : Ev (a sg h) fun y h1 => Ev (g x y h1) fun z h2 => Q (.nx (sg.set i (some z))) h2) : Ev (augM i g a sg h) Q := by
  obtain ⟨y, h1, e1, z, h2, e2, q⟩ := q
  exact ⟨_, _, by simp only [augM, e, e1, e2], q⟩
theorem ev_par {i j : Nat} {b : MA} (q : Ev (b sg h) fun xs h1 => P2K xs fun x y => Q (.nx ((sg.set i (some x)).set j (some y))) h1) : Ev (parM i j b sg h) Q := by
  obtain ⟨xs, h1, e1, x, y, rfl, q⟩ := q
  exact ⟨_, _, by simp only [parM, e1], q⟩
theorem ev_par3 {i j l : Nat} {b : MA} (q : Ev (b sg h) fun xs h1 => P3K xs fun x y z => Q (.nx (((sg.set i (some x)).set j (some y)).set l (some z))) h1) : Ev (par3M i j l b sg h) Q := by
  obtain ⟨xs, h1, e1, x, y, z, rfl, q⟩ := q
  exact ⟨_, _, by simp only [par3M, e1], q⟩
theorem ev_setL {v : ME} {Q : Fl → Hd → Prop} (q : Ev (v sg h) fun z h1 => Ev (o sg h1) fun x h2 => Ev (i sg h2) fun y h3 => ∃ n xs j p, x = .at n ∧ h3[n]? = some (.lst xs) ∧ y = .int j ∧ ixN xs.length j = some p ∧ Q (.nx sg) (h3.set n (.lst (xs.set p z)))) : Ev (setD o i v sg h) Q := by
  obtain ⟨z, h1, e1, x, h2, e2, y, h3, e3, n, xs, j, p, rfl, e4, rfl, e5, q⟩ := q
  exact ⟨_, _, by simp only [setD, e1, e2, e3, e4, e5], q⟩
theorem ev_setK {v : ME} {Q : Fl → Hd → Prop} (q : Ev (v sg h) fun z h1 => Ev (o sg h1) fun x h2 => Ev (i sg h2) fun y h3 => ∃ n kvs k, x = .at n ∧ h3[n]? = some (.dct kvs) ∧ keyD y = some k ∧ kvs.length < LN ∧ Q (.nx sg) (h3.set n (.dct (putD kvs k z)))) : Ev (setD o i v sg h) Q := by
  obtain ⟨z, h1, e1, x, h2, e2, y, h3, e3, n, kvs, k, rfl, e4, e5, l, q⟩ := q
  exact ⟨_, _, by simp only [setD, e1, e2, e3, e4, e5, if_pos l], q⟩
theorem ev_get2 {a b : ME} {Q : D → Hd → Prop} (q : Ev (o sg h) fun x h1 => ∃ n, x = .at n ∧ isDct h1 (.at n) = true ∧ Ev (a sg h1) fun y h2 => Ev (b sg h2) fun z h3 => ∃ kvs k, h3[n]? = some (.dct kvs) ∧ keyD y = some k ∧ Q ((valD kvs k).getD z) h3) : Ev (getD2 o a b sg h) Q := by
  obtain ⟨x, h1, e1, n, rfl, k0, y, h2, e2, z, h3, e3, kvs, k, e4, e5, q⟩ := q
  exact ⟨_, _, by simp only [getD2, e1, if_pos k0, e2, e3, e4, e5], q⟩
end
section
variable {sg : Sg} {h : Hd} {Q : Sg → Hd → Prop}
theorem ev_name {i : Nat} {d : D} (q : Q (sg.set i (some d)) h) : Ev (nameG i d sg h) Q := ⟨_, _, rfl, q⟩
theorem ev_nilG (q : Q sg h) : Ev (nilG [] sg h) Q := ⟨_, _, rfl, q⟩
theorem ev_consG {a : MG} {b : MGs} {d : D} {ds : List D} (q : Ev (a d sg h) fun sg1 h1 => Ev (b ds sg1 h1) Q) : Ev (consG a b (d :: ds) sg h) Q := by
  obtain ⟨sg1, h1, e1, sg2, h2, e2, q⟩ := q
  exact ⟨_, _, by simp only [consG, e1, e2], q⟩
theorem ev_tupG {n : Nat} {a : MGs} {xs : List D} (l : xs.length = n) (q : Ev (a xs sg h) Q) : Ev (tupG n a (.tup xs) sg h) Q := by
  obtain ⟨sg1, h1, e1, q⟩ := q
  exact ⟨_, _, by simp only [tupG, if_pos l, e1], q⟩
end
section
variable {h : Hd} {Q : D → Hd → Prop} {ms : MS} {n : Nat} {ds : List D}
def BdK (Q : D → Hd → Prop) : Fl → Hd → Prop
  | .nx _, h => Q .non h
  | .rt d, h => Q d h
  | _, _ => False
theorem bd_nx {sg : Sg} (q : Q .non h) : BdK Q (.nx sg) h := q
theorem bd_rt {d : D} (q : Q d h) : BdK Q (.rt d) h := q
theorem ev_body (q : Ev (ms (startD n ds) h) (BdK Q)) : Ev (bodyM n ms ds h) Q := by
  obtain ⟨f, h1, e1, q⟩ := q
  cases f with
  | nx sg => exact ⟨_, _, by simp only [bodyM, e1], q⟩
  | rt d => exact ⟨_, _, by simp only [bodyM, e1], q⟩
  | bk sg => exact q.elim
  | ct sg => exact q.elim
end
/-! ### sources -/
section
variable {sg : Sg} {h : Hd} {Q : Src → Hd → Prop} {a : ME} {b : MA}
def sqS (x : D) (h : Hd) : Option (Src × Hd) := match x with
  | .tup xs => some (.fix xs, h)
  | .rol xs => some (.fix xs, h)
  | .at n => match h[n]? with
    | some (.lst _) => some (.obj n, h)
    | _ => none
  | .str s => some (.fix (s.cps.toList.map fun c => .str ⟨⟨[c]⟩⟩), h)
  | _ => none
theorem ev_seqI (q : Ev (a sg h) fun x h1 => Ev (sqS x h1) Q) : Ev (seqI a sg h) Q := by
  obtain ⟨x, h1, e1, s, h2, e2, q⟩ := q
  refine ⟨s, h2, ?_, q⟩
  rw [← e2]
  simp only [seqI, e1, sqS]
  cases x <;> rfl
theorem ev_rngI (q : Ev (b sg h) fun xs h1 => ∃ j, xs = [.int j] ∧ (-(2 ^ 62) ≤ j ∧ j < 2 ^ 62) ∧ Q (rngD 0 j.toNat) h1) : Ev (rngI b sg h) Q := by
  obtain ⟨xs, h1, e1, j, rfl, c, q⟩ := q
  exact ⟨_, _, by simp only [rngI, e1, if_pos c], q⟩
theorem ev_enuI (q : Ev (b sg h) fun xs h1 => ∃ n ys, xs = [.at n] ∧ h1[n]? = some (.lst ys) ∧ Q (.enu [] (some n)) h1) : Ev (enuI b sg h) Q := by
  obtain ⟨xs, h1, e1, n, ys, rfl, e2, q⟩ := q
  exact ⟨_, _, by simp only [enuI, e1, e2], q⟩
end
/-! ### loops -/
def LpK (Q : Fl → Hd → Prop) (I : Sg → Hd → Prop) : Fl → Hd → Prop
  | .nx sg, h => I sg h
  | .ct sg, h => I sg h
  | .bk sg, h => Q (.nx sg) h
  | .rt d, h => Q (.rt d) h
theorem lp_nx {Q : Fl → Hd → Prop} {I : Sg → Hd → Prop} {sg : Sg} {h : Hd} (q : I sg h) : LpK Q I (.nx sg) h := q
theorem lp_ct {Q : Fl → Hd → Prop} {I : Sg → Hd → Prop} {sg : Sg} {h : Hd} (q : I sg h) : LpK Q I (.ct sg) h := q
theorem lp_bk {Q : Fl → Hd → Prop} {I : Sg → Hd → Prop} {sg : Sg} {h : Hd} (q : Q (.nx sg) h) : LpK Q I (.bk sg) h := q
theorem lp_rt {Q : Fl → Hd → Prop} {I : Sg → Hd → Prop} {d : D} {h : Hd} (q : Q (.rt d) h) : LpK Q I (.rt d) h := q
theorem ev_while {c : MT} {b : MS} {Q : Fl → Hd → Prop} (I : Nat → Sg → Hd → Prop)
    (step : ∀ n sg h, I n sg h → Ev (c sg h) fun t h1 => Br t (Ev (b sg h1) (LpK Q fun sg2 h2 => ∃ m, m < n ∧ I m sg2 h2)) (Q (.nx sg) h1)) :
    ∀ (N n : Nat) (sg : Sg) (h : Hd), I n sg h → n < N → Ev (whileM c b N sg h) Q
  | 0, n, sg, h, i, l => by omega
  | N + 1, n, sg, h, i, l => by
    obtain ⟨t, h1, e1, q1, q2⟩ := step n sg h i
    cases t with
    | false => exact ⟨_, _, by simp only [whileM, e1], q2 rfl⟩
    | true =>
      obtain ⟨f, h2, e2, q⟩ := q1 rfl
      cases f with
      | nx sg2 =>
        obtain ⟨m, hm, i2⟩ := q
        obtain ⟨f3, h3, e3, q3⟩ := ev_while I step N m sg2 h2 i2 (by omega)
        exact ⟨_, _, by simp only [whileM, e1, e2, e3], q3⟩
      | ct sg2 =>
        obtain ⟨m, hm, i2⟩ := q
        obtain ⟨f3, h3, e3, q3⟩ := ev_while I step N m sg2 h2 i2 (by omega)
        exact ⟨_, _, by simp only [whileM, e1, e2, e3], q3⟩
      | bk sg2 => exact ⟨_, _, by simp only [whileM, e1, e2], q⟩
      | rt d => exact ⟨_, _, by simp only [whileM, e1, e2], q⟩
/-- what a source yields, for as long as I holds -/
def Yields (s : Src) (xs : List D) (h : Hd) : Prop := ∀ i, s.nxt h i = some xs[i]?
theorem yl_fix {xs : List D} {h : Hd} : Yields (.fix xs) xs h := fun i => rfl
theorem yl_obj {xs : List D} {n : Nat} {h : Hd} (e : h[n]? = some (.lst xs)) : Yields (.obj n) xs h := fun i => by simp only [Src.nxt, e]
def enuL (xs : List D) : List D := xs.mapIdx fun i d => .tup [.int (i : Nat), d]
theorem yl_enu {xs : List D} {n : Nat} {h : Hd} (e : h[n]? = some (.lst xs)) : Yields (.enu [] (some n)) (enuL xs) h := fun i => by
  simp only [Src.nxt, e, enuL, List.getElem?_mapIdx]
theorem ev_forM {s : Src} {g : MG} {b : MS} {Q : Fl → Hd → Prop} {xs : List D} (I : List D → Sg → Hd → Prop)
    (hy : ∀ as sg h, I as sg h → Yields s xs h)
    (step : ∀ as x bs sg h, xs = as ++ x :: bs → I as sg h → Ev (g x sg h) fun sg1 h1 => Ev (b sg1 h1) (LpK Q (I (as ++ [x]))))
    (fin : ∀ sg h, I xs sg h → Q (.nx sg) h) :
    ∀ (N : Nat) (as bs : List D) (sg : Sg) (h : Hd), xs = as ++ bs → I as sg h → bs.length < N → Ev (forM s g b N as.length sg h) Q
  | 0, as, bs, sg, h, e, i, l => by omega
  | N + 1, as, [], sg, h, e, i, l => by
    have hn := hy as sg h i as.length
    rw [List.append_nil] at e
    subst e
    rw [List.getElem?_eq_none (Nat.le_refl _)] at hn
    exact ⟨_, _, by simp only [forM, hn], fin _ _ i⟩
  | N + 1, as, x :: bs, sg, h, e, i, l => by
    have hn := hy as sg h i as.length
    have hx : xs[as.length]? = some x := by
      rw [e]
      simp
    rw [hx] at hn
    obtain ⟨sg1, h1, e1, f, h2, e2, q⟩ := step as x bs sg h e i
    have e' : xs = (as ++ [x]) ++ bs := by simp [e]
    have hlen : (as ++ [x]).length = as.length + 1 := by simp
    simp only [List.length_cons] at l
    cases f with
    | nx sg2 =>
      have ih := ev_forM I hy step fin N (as ++ [x]) bs sg2 h2 e' q (by omega)
      rw [hlen] at ih
      obtain ⟨f3, h3, e3, q3⟩ := ih
      exact ⟨_, _, by simp only [forM, hn, e1, e2, e3], q3⟩
    | ct sg2 =>
      have ih := ev_forM I hy step fin N (as ++ [x]) bs sg2 h2 e' q (by omega)
      rw [hlen] at ih
      obtain ⟨f3, h3, e3, q3⟩ := ih
      exact ⟨_, _, by simp only [forM, hn, e1, e2, e3], q3⟩
    | bk sg2 => exact ⟨_, _, by simp only [forM, hn, e1, e2], q⟩
    | rt d => exact ⟨_, _, by simp only [forM, hn, e1, e2], q⟩
theorem ev_forS {it : MI} {g : MG} {b : MS} {N : Nat} {sg : Sg} {h : Hd} {Q : Fl → Hd → Prop} (q : Ev (it sg h) fun s h1 => Ev (forM s g b N 0 sg h1) Q) : Ev (forSM it g b N sg h) Q := by
  obtain ⟨s, h1, e1, f, h2, e2, q⟩ := q
  exact ⟨_, _, by simp only [forSM, e1, e2], q⟩
theorem ev_for {s : Src} {g : MG} {b : MS} {Q : Fl → Hd → Prop} {xs : List D} {N : Nat} {sg : Sg} {h : Hd} (I : List D → Sg → Hd → Prop) (i : I [] sg h) (l : xs.length < N)
    (hy : ∀ as sg h, I as sg h → Yields s xs h)
    (step : ∀ as x bs sg h, xs = as ++ x :: bs → I as sg h → Ev (g x sg h) fun sg1 h1 => Ev (b sg1 h1) (LpK Q (I (as ++ [x]))))
    (fin : ∀ sg h, I xs sg h → Q (.nx sg) h) : Ev (forM s g b N 0 sg h) Q := ev_forM I hy step fin N [] xs sg h rfl i l
/-! ### comprehensions -/
theorem ev_lcM' {s : Src} {g : MG} {c : MT} {a : ME} {D0 : Nat} {sg0 : Sg} {xs : List D} (I : List D → List D → Hd → Prop)
    (hy : ∀ as ys h, I as ys h → h[D0]? = some (.lst ys) → Yields s xs h)
    (step : ∀ as x bs ys h, xs = as ++ x :: bs → I as ys h → h[D0]? = some (.lst ys) → Ev (g x sg0 h) fun sg1 h1 => Ev (c sg1 h1) fun t h2 => Br t (Ev (a sg1 h2) fun y h3 => h3[D0]? = some (.lst ys) ∧ I (as ++ [x]) (ys ++ [y]) (h3.set D0 (.lst (ys ++ [y])))) (h2[D0]? = some (.lst ys) ∧ I (as ++ [x]) ys h2)) :
    ∀ (N : Nat) (as bs ys : List D) (h : Hd), xs = as ++ bs → I as ys h → h[D0]? = some (.lst ys) → bs.length < N → ys.length + bs.length ≤ LN →
      ∃ h' zs, lcM' s g c a D0 sg0 N as.length h = some h' ∧ h'[D0]? = some (.lst zs) ∧ I xs zs h'
  | 0, as, bs, ys, h, e, i, d, l, l2 => by omega
  | N + 1, as, [], ys, h, e, i, d, l, l2 => by
    have hn := hy as ys h i d as.length
    rw [List.append_nil] at e
    subst e
    rw [List.getElem?_eq_none (Nat.le_refl _)] at hn
    exact ⟨h, ys, by simp only [lcM', hn], d, i⟩
  | N + 1, as, x :: bs, ys, h, e, i, d, l, l2 => by
    have hn := hy as ys h i d as.length
    have hx : xs[as.length]? = some x := by
      rw [e]
      simp
    rw [hx] at hn
    obtain ⟨sg1, h1, e1, t, h2, e2, q1, q2⟩ := step as x bs ys h e i d
    have e' : xs = (as ++ [x]) ++ bs := by simp [e]
    have hlen : (as ++ [x]).length = as.length + 1 := by simp
    simp only [List.length_cons] at l l2
    cases t with
    | true =>
      obtain ⟨y, h3, e3, d3, i3⟩ := q1 rfl
      have d4 : (h3.set D0 (O.lst (ys ++ [y])))[D0]? = some (.lst (ys ++ [y])) := by rw [List.getElem?_set_self (List.getElem?_eq_some_iff.mp d3).1]
      obtain ⟨h', zs, e4, q⟩ := ev_lcM' I hy step N (as ++ [x]) bs (ys ++ [y]) _ e' i3 d4 (by omega) (by simp; omega)
      rw [hlen] at e4
      exact ⟨h', zs, by simp only [lcM', hn, e1, e2, e3, d3]; rw [if_pos (by show _ < 16777216; have : LN = 16777216 := rfl; omega)]; exact e4, q⟩
    | false =>
      obtain ⟨d3, i3⟩ := q2 rfl
      obtain ⟨h', zs, e4, q⟩ := ev_lcM' I hy step N (as ++ [x]) bs ys _ e' i3 d3 (by omega) (by omega)
      rw [hlen] at e4
      exact ⟨h', zs, by simp only [lcM', hn, e1, e2]; exact e4, q⟩
theorem ev_lc {it : MI} {g : MG} {c : MT} {a : ME} {vs : List Nat} {N : Nat} {sg : Sg} {h : Hd} {Q : D → Hd → Prop}
    (q : Ev (it sg h) fun s h1 => ∃ (xs : List D) (I : List D → List D → Hd → Prop), xs.length < N ∧ xs.length ≤ LN ∧ I [] [] (h1 ++ [.lst []]) ∧
      (∀ as ys h, I as ys h → h[h1.length]? = some (.lst ys) → Yields s xs h) ∧
      (∀ as x bs ys h, xs = as ++ x :: bs → I as ys h → h[h1.length]? = some (.lst ys) → Ev (g x (wipeD sg vs) h) fun sg1 h1' => Ev (c sg1 h1') fun t h2 => Br t (Ev (a sg1 h2) fun y h3 => h3[h1.length]? = some (.lst ys) ∧ I (as ++ [x]) (ys ++ [y]) (h3.set h1.length (.lst (ys ++ [y])))) (h2[h1.length]? = some (.lst ys) ∧ I (as ++ [x]) ys h2)) ∧
      (∀ zs h', h'[h1.length]? = some (.lst zs) → I xs zs h' → Q (.at h1.length) h')) : Ev (lcM it g c a vs N sg h) Q := by
  obtain ⟨s, h1, e1, xs, I, l1, l2, i0, hy, st, fin⟩ := q
  obtain ⟨h', zs, e2, d, i⟩ := ev_lcM' I hy st N [] xs [] _ rfl i0 (by simp) l1 (by simpa using l2)
  exact ⟨_, _, by simp only [lcM, e1]; rw [show (0 : Nat) = ([] : List D).length from rfl, e2], fin zs h' d i⟩
/-! ### kinds of built-in things -/
theorem kb1 : kitB "tuple" "int" = some false := by decide +kernel
theorem kb2 : kitB "int" "int" = some true := by decide +kernel
theorem kb3 : kitB "str" "int" = some false := by decide +kernel
theorem kb4 : kitB "bool" "int" = some true := by decide +kernel
theorem kb5 : kitB "tuple" "bool" = some false := by decide +kernel
theorem kb6 : kitB "int" "bool" = some false := by decide +kernel
theorem kb7 : kitB "str" "bool" = some false := by decide +kernel
theorem kb8 : kitB "bool" "bool" = some true := by decide +kernel
theorem kb9 : kitB "tuple" "tuple" = some true := by decide +kernel
theorem kb10 : kitB "int" "tuple" = some false := by decide +kernel
theorem kb11 : kitB "str" "tuple" = some false := by decide +kernel
theorem kb12 : kitB "bool" "tuple" = some false := by decide +kernel
theorem kb13 : kitB "tuple" "str" = some false := by decide +kernel
theorem kb14 : kitB "int" "str" = some false := by decide +kernel
theorem kb15 : kitB "str" "str" = some true := by decide +kernel
theorem kb16 : kitB "bool" "str" = some false := by decide +kernel
theorem kbN1 : kitB "NoneType" "int" = some false := by decide +kernel
theorem kbN2 : kitB "NoneType" "bool" = some false := by decide +kernel
theorem kbN3 : kitB "NoneType" "tuple" = some false := by decide +kernel
theorem kbN4 : kitB "NoneType" "str" = some false := by decide +kernel
theorem eq_ii (i j : Int) (h : Hd) : eqD (.int i) (.int j) h = some (.bl (decide (i = j)), h) := by
  unfold eqD datD
  simp only [toP, PyData.canLay0, PyData.depth, PyData.eqv, true_and, Nat.min_self, Nat.zero_le, if_true]
  rw [Bool.beq_eq_decide_eq]
theorem ne_ii (i j : Int) (h : Hd) : neD (.int i) (.int j) h = some (.bl (!decide (i = j)), h) := by
  unfold neD datD
  simp only [toP, PyData.canLay0, PyData.depth, PyData.eqv, true_and, Nat.min_self, Nat.zero_le, if_true]
  rw [Bool.beq_eq_decide_eq]
/-! ### what the built-in things give -/
section
variable {h : Hd} {Q : D → Hd → Prop} {i j : Int} {s : Str} {xs ys zs ws : List D} {n m : Nat} {d : D}
theorem lf_isi {x : D} {k T : String} {b : Bool} (e1 : kdD h x = some k) (e2 : kitB k T = some b) (q : Q (.bl b) h) : Ev (isiD [x, .ty T] h) Q := ⟨_, _, by simp only [isiD, e1, e2], q⟩
theorem lf_addI (q : Q (.int (i + j)) h) : Ev (addD (.int i) (.int j) h) Q := ⟨_, _, rfl, q⟩
theorem lf_addT (l : xs.length + ys.length ≤ LN) (q : Q (.tup (xs ++ ys)) h) : Ev (addD (.tup xs) (.tup ys) h) Q := ⟨_, _, by simp only [addD, if_pos l], q⟩
theorem lf_addL (e1 : h[n]? = some (.lst xs)) (e2 : h[m]? = some (.lst ys)) (l : xs.length + ys.length ≤ LN) (q : Q (.at h.length) (h ++ [.lst (xs ++ ys)])) : Ev (addD (.at n) (.at m) h) Q := ⟨_, _, by simp only [addD, e1, e2, if_pos l], q⟩
theorem lf_addIDI (q : Q (.int (i + j)) h) : Ev (addID (.int i) (.int j) h) Q := ⟨_, _, by simp [addID], q⟩
theorem lf_subI (q : Q (.int (i - j)) h) : Ev (subD (.int i) (.int j) h) Q := ⟨_, _, rfl, q⟩
theorem lf_mulI (c : (-(2 ^ 64) < i ∧ i < 2 ^ 64) ∨ (-(2 ^ 64) < j ∧ j < 2 ^ 64) ∨ i.natAbs.log2 + j.natAbs.log2 < 1000000) (q : Q (.int (i * j)) h) : Ev (mulD (.int i) (.int j) h) Q := ⟨_, _, by simp only [mulD, if_pos c], q⟩
theorem lf_fdiv (c : 0 < j ∧ j.natAbs.log2 < 9000) (q : Q (.int (i / j)) h) : Ev (fdivD (.int i) (.int j) h) Q := ⟨_, _, by simp only [fdivD, if_pos c], q⟩
theorem lf_pow (c : 0 ≤ j ∧ (Builtin.Int.intBits i : Int) * j ≤ 2 ^ 27) (q : Q (.int (i ^ j.toNat)) h) : Ev (powD (.int i) (.int j) h) Q := ⟨_, _, by simp only [powD, if_pos c], q⟩
theorem lf_mulS (c : 0 ≤ j ∧ j ≤ 1000000 ∧ s.length * j.toNat ≤ LN) (q : Q (.str (repS s j.toNat)) h) : Ev (mulD (.str s) (.int j) h) Q := ⟨_, _, by simp only [mulD, if_pos c], q⟩
theorem lf_mulL (e : h[n]? = some (.lst xs)) (c : 0 ≤ j ∧ j ≤ 1000000 ∧ xs.length * j.toNat ≤ LN) (q : Q (.at h.length) (h ++ [.lst (List.replicate j.toNat xs).flatten])) : Ev (mulD (.at n) (.int j) h) Q := ⟨_, _, by simp only [mulD, e, if_pos c], q⟩
theorem lf_mod (c : 0 < j) (q : Q (.int (i % j)) h) : Ev (modD (.int i) (.int j) h) Q := ⟨_, _, by simp only [modD, if_pos c], q⟩
theorem lf_lt (q : Q (.bl (decide (i < j))) h) : Ev (ltD (.int i) (.int j) h) Q := ⟨_, _, rfl, q⟩
theorem lf_le (q : Q (.bl (decide (i ≤ j))) h) : Ev (leD (.int i) (.int j) h) Q := ⟨_, _, rfl, q⟩
theorem lf_gt (q : Q (.bl (decide (j < i))) h) : Ev (gtD (.int i) (.int j) h) Q := ⟨_, _, rfl, q⟩
theorem lf_ge (q : Q (.bl (decide (j ≤ i))) h) : Ev (geD (.int i) (.int j) h) Q := ⟨_, _, rfl, q⟩
theorem lf_eqI (q : Q (.bl (decide (i = j))) h) : Ev (eqD (.int i) (.int j) h) Q := ⟨_, _, eq_ii i j h, q⟩
theorem lf_neI (q : Q (.bl (!decide (i = j))) h) : Ev (neD (.int i) (.int j) h) Q := ⟨_, _, ne_ii i j h, q⟩
theorem lf_lenT (q : Q (.int xs.length) h) : Ev (lenD [.tup xs] h) Q := ⟨_, _, rfl, q⟩
theorem lf_lenR (q : Q (.int xs.length) h) : Ev (lenD [.rol xs] h) Q := ⟨_, _, rfl, q⟩
theorem lf_lenS (l : s.length ≤ LN) (q : Q (.int s.length) h) : Ev (lenD [.str s] h) Q := ⟨_, _, by simp only [lenD, if_pos l], q⟩
theorem lf_lenL (e : h[n]? = some (.lst xs)) (q : Q (.int xs.length) h) : Ev (lenD [.at n] h) Q := ⟨_, _, by simp only [lenD, e], q⟩
theorem lf_abs (q : Q (.int (if i < 0 then -i else i)) h) : Ev (absD [.int i] h) Q := ⟨_, _, rfl, q⟩
theorem lf_intI (q : Q (.int i) h) : Ev (intD [.int i] h) Q := ⟨_, _, rfl, q⟩
theorem lf_intB {b : Bool} (q : Q (.int (if b then 1 else 0)) h) : Ev (intD [.bl b] h) Q := ⟨_, _, rfl, q⟩
theorem lf_max (q : Q (.int (if j > i then j else i)) h) : Ev (maxD [.int i, .int j] h) Q := ⟨_, _, rfl, q⟩
theorem lf_min (q : Q (.int (if j < i then j else i)) h) : Ev (minD [.int i, .int j] h) Q := ⟨_, _, rfl, q⟩
theorem lf_tuplT (q : Q (.tup xs) h) : Ev (tuplD [.tup xs] h) Q := ⟨_, _, rfl, q⟩
theorem lf_tuplL (e : h[n]? = some (.lst xs)) (q : Q (.tup xs) h) : Ev (tuplD [.at n] h) Q := ⟨_, _, by simp only [tuplD, e], q⟩
theorem lf_ix (e : atI xs i = some d) (q : Q d h) : Ev (subsD (.tup xs) (.int i) h) Q := ⟨_, _, by simp only [subsD, seqD, e], q⟩
theorem lf_ixR (e : atI xs i = some d) (q : Q d h) : Ev (subsD (.rol xs) (.int i) h) Q := ⟨_, _, by simp only [subsD, seqD, e], q⟩
theorem lf_ixL (e0 : h[n]? = some (.lst xs)) (e : atI xs i = some d) (q : Q d h) : Ev (subsD (.at n) (.int i) h) Q := ⟨_, _, by simp only [subsD, seqD, e0, e], q⟩
theorem lf_ixD {kvs : List (Key × D)} {x : D} {k : Key} (e0 : h[n]? = some (.dct kvs)) (e1 : keyD x = some k) (e : valD kvs k = some d) (q : Q d h) : Ev (subsD (.at n) x h) Q := ⟨_, _, by simp only [subsD, seqD, e0, e1, e], q⟩
theorem lf_pop (e : h[n]? = some (.lst (ws ++ [d]))) (q : Q d (h.set n (.lst ws))) : Ev (popD (.at n) [] h) Q := ⟨_, _, by unfold popD; simp [e], q⟩
theorem lf_append (e : h[n]? = some (.lst ws)) (l : ws.length < LN) (q : Q .non (h.set n (.lst (ws ++ [d])))) : Ev (appendD (.at n) [d] h) Q := ⟨_, _, by simp only [appendD, e, if_pos l], q⟩
theorem lf_extendT (e : h[n]? = some (.lst ws)) (l : ws.length + zs.length ≤ LN) (q : Q .non (h.set n (.lst (ws ++ zs)))) : Ev (extendD (.at n) [.tup zs] h) Q := ⟨_, _, by simp only [extendD, e, if_pos l], q⟩
theorem lf_extendL (e : h[n]? = some (.lst ws)) (e2 : h[m]? = some (.lst zs)) (l : ws.length + zs.length ≤ LN) (q : Q .non (h.set n (.lst (ws ++ zs)))) : Ev (extendD (.at n) [.at m] h) Q := ⟨_, _, by simp only [extendD, e, e2, if_pos l], q⟩
theorem lf_slT {lo hi : Option Int} (q : Q (.tup (cutD xs lo hi)) h) : Ev (sliceD (.tup xs) lo hi h) Q := ⟨_, _, rfl, q⟩
theorem lf_slL {lo hi : Option Int} (e : h[n]? = some (.lst xs)) (q : Q (.at h.length) (h ++ [.lst (cutD xs lo hi)])) : Ev (sliceD (.at n) lo hi h) Q := ⟨_, _, by simp only [sliceD, e], q⟩
theorem lf_backT0 (q : Q (.tup (backs xs (some 0))) h) : Ev (backD (.tup xs) (some 0) h) Q := ⟨_, _, rfl, q⟩
theorem lf_listL (e : h[n]? = some (.lst xs)) (q : Q (.at h.length) (h ++ [.lst xs])) : Ev (listD [.at n] h) Q := ⟨_, _, by simp only [listD, e], q⟩
theorem lf_listD {kvs : List (Key × D)} (e : h[n]? = some (.dct kvs)) (q : Q (.at h.length) (h ++ [.lst (kvs.map fun kv => kD kv.1)])) : Ev (listD [.at n] h) Q := ⟨_, _, by simp only [listD, e], q⟩
theorem lf_dictL {ps : List (Key × D)} (e : h[n]? = some (.lst xs)) (e2 : pairsD xs = some ps) (q : Q (.at h.length) (h ++ [.dct (mergeD [] ps)])) : Ev (dictD [.at n] h) Q := ⟨_, _, by simp only [dictD, e, e2], q⟩
theorem sq_fix {Q : Src → Hd → Prop} (q : Q (.fix xs) h) : Ev (sqS (.tup xs) h) Q := ⟨_, _, rfl, q⟩
theorem sq_rol {Q : Src → Hd → Prop} (q : Q (.fix xs) h) : Ev (sqS (.rol xs) h) Q := ⟨_, _, rfl, q⟩
theorem sq_obj {Q : Src → Hd → Prop} (e : h[n]? = some (.lst xs)) (q : Q (.obj n) h) : Ev (sqS (.at n) h) Q := ⟨_, _, by simp only [sqS, e], q⟩
theorem sq_str {Q : Src → Hd → Prop} (q : Q (.fix (s.cps.toList.map fun c => .str ⟨⟨[c]⟩⟩)) h) : Ev (sqS (.str s) h) Q := ⟨_, _, rfl, q⟩
theorem at0 {α : Type} (x : α) (xs : List α) : L2.atI (x :: xs) 0 = some x := by
  unfold L2.atI L2.ixN
  simp
end
end DL

/-! DL10: bits, division by negative numbers, reversed, dict displays, tuples of the module. -/
namespace DL
open PySem L2 RT
/-! ### numbers -/
def CDivZ (i j : Int) : Prop := j ≠ 0 ∧ j.natAbs.log2 < 9000
section
variable {K : Kw} {X : Cx}
theorem op_fdivZ : OpR X (binaryOp .FloorDiv) (rI CDivZ fun i j => .int (i.fdiv j)) := opI fun i j _ _ _ _ _ hc q => PyProof.Rows.floordiv_int hc.1 q (.inl (PyProof.noPylong_of_log2 hc.2))
def fdivZD : G2 := fun x y h => match x, y with
  | .int i, .int j => if j ≠ 0 ∧ j.natAbs.log2 < 9000 then some (.int (i.fdiv j), h) else none
  | _, _ => none
theorem so_fdivZ : SO K (rI CDivZ fun i j => .int (i.fdiv j)) fdivZD := by
  intro Φ H μ h x y v w d h' S r1 r2 e Q k
  unfold fdivZD at e
  split at e
  · split at e
    · rename_i c
      cases e
      exact ⟨_, _, rp_int' r1, rp_int' r2, c, k _ H μ S Le.refl rp_int⟩
    · cases e
  · cases e
def modZD : G2 := fun x y h => match x, y with
  | .int i, .int j => if j ≠ 0 then some (.int (i.fmod j), h) else none
  | _, _ => none
theorem so_modZ : SO K (rI (fun _ j => j ≠ 0) fun i j => .int (i.fmod j)) modZD := by
  intro Φ H μ h x y v w d h' S r1 r2 e Q k
  unfold modZD at e
  split at e
  · split at e
    · rename_i c
      cases e
      exact ⟨_, _, rp_int' r1, rp_int' r2, c, k _ H μ S Le.refl rp_int⟩
    · cases e
  · cases e
def shlD : G2 := fun x y h => match x, y with
  | .int i, .int j => if 0 ≤ j ∧ (Builtin.Int.intBits i : Int) + j ≤ 2 ^ 27 then some (.int (i * 2 ^ j.toNat), h) else none
  | _, _ => none
theorem so_shl : SO K (rI CShl fun i j => .int (i * 2 ^ j.toNat)) shlD := by
  intro Φ H μ h x y v w d h' S r1 r2 e Q k
  unfold shlD at e
  split at e
  · split at e
    · rename_i c
      cases e
      exact ⟨_, _, rp_int' r1, rp_int' r2, c, k _ H μ S Le.refl rp_int⟩
    · cases e
  · cases e
def shrD : G2 := fun x y h => match x, y with
  | .int i, .int j => if 0 ≤ j then some (.int (i / 2 ^ j.toNat), h) else none
  | _, _ => none
theorem so_shr : SO K (rI (fun _ j => 0 ≤ j) fun i j => .int (i / 2 ^ j.toNat)) shrD := by
  intro Φ H μ h x y v w d h' S r1 r2 e Q k
  unfold shrD at e
  split at e
  · split at e
    · rename_i c
      cases e
      exact ⟨_, _, rp_int' r1, rp_int' r2, c, k _ H μ S Le.refl rp_int⟩
    · cases e
  · cases e
def bitD (f : Int → Int → Int) : G2 := fun x y h => match x, y with
  | .int i, .int j => some (.int (f i j), h)
  | _, _ => none
theorem so_bit (f : Int → Int → Int) : SO K (rI0 fun i j => .int (f i j)) (bitD f) := by
  intro Φ H μ h x y v w d h' S r1 r2 e Q k
  unfold bitD at e
  split at e
  · cases e
    exact ⟨_, _, rp_int' r1, rp_int' r2, k _ H μ S Le.refl rp_int⟩
  · cases e
abbrev andBD : G2 := bitD Builtin.bitAnd
abbrev orBD : G2 := bitD Builtin.bitOr
abbrev xorBD : G2 := bitD Builtin.bitXor
/-- x.bit_length() -/
def bitsM (a : ME) : ME := fun sg h => match a sg h with
  | some (.int i, h1) => some (.int (Builtin.Int.intBits i : Nat), h1)
  | _ => none
theorem de_bits {o : Expr} {to : TE} {mo : ME} {apos pos : Pos} (ho : DE K X o to mo) (hbase : attributeBase o "bit_length" X.env (eval o X.env) = eval o X.env := by rfl) (hline : (apos.endLine == pos.line) = true := by rfl) :
    DE K X (.Call (.Attribute o "bit_length" apos) [] [] pos) (tBits to) (bitsM mo) := ⟨ho.k, pe_bits ho.p hbase hline, by
  intro Φ σ H μ sg h d h' S rs e Q k
  unfold bitsM at e
  split at e
  · rename_i i h1 e1
    cases e
    exact ho.s σ H μ sg h _ _ S rs e1 _ fun v H1 μ1 S1 l1 r1 => ⟨i, rp_int' r1, k _ H1 μ1 S1 l1 rp_int⟩
  · cases e⟩
/-! ### reversed -/
def revI (a : ME) : MI := fun sg h => match a sg h with
  | some (.tup xs, h1) => some (.fix xs.reverse, h1)
  | some (.rol xs, h1) => some (.fix xs.reverse, h1)
  | _ => none
theorem rev_get {α : Type} {xs : List α} {i : Nat} (h : i < xs.length) : xs.reverse[i]? = xs[xs.length - 1 - i]? := List.getElem?_reverse h
theorem j_revT {a : Addr} {xs : List D} {vs : List V} {H0 : Hp} {μ0 : List Addr} (b : SqT K H0 a vs) (c : Rps K H0 μ0 xs vs) : JOk Φ K (ItvT K a vs.length) (.fix xs.reverse) H0 μ0 := by
  intro i H μ h S l
  have b' := l.tup _ _ b
  have c' := Rps.mono l _ _ c
  have hlen := c'.len
  refine ⟨fun d q => ?_, fun q => ?_⟩
  · have q := Option.some.inj q
    have hi : i < xs.length := by
      have := (List.getElem?_eq_some_iff.mp q).1
      simpa using this
    rw [rev_get hi] at q
    obtain ⟨v, c1, c2⟩ := c'.get q
    rw [← hlen] at c1
    refine ⟨⟨by rw [hlen]; exact hi, vs, v, b', c1⟩, fun x H' y => ?_⟩
    obtain ⟨rfl, y⟩ := y
    have := y vs b'
    rw [c1] at this
    cases this
    exact ⟨S, Le.refl, c2⟩
  · have := List.getElem?_eq_none_iff.mp (Option.some.inj q)
    rw [List.length_reverse] at this
    show vs.length ≤ i
    rw [hlen]
    exact this
theorem j_revF {a : Addr} {xs : List D} {vs : List V} {H0 : Hp} {μ0 : List Addr} (b : SqF K H0 a vs) (c : Rps K H0 μ0 xs vs) : JOk Φ K (Itv K a vs.length) (.fix xs.reverse) H0 μ0 := by
  intro i H μ h S l
  have b' := (l.frz _ _ b).l
  have c' := Rps.mono l _ _ c
  have hlen := c'.len
  refine ⟨fun d q => ?_, fun q => ?_⟩
  · have q := Option.some.inj q
    have hi : i < xs.length := by
      have := (List.getElem?_eq_some_iff.mp q).1
      simpa using this
    rw [rev_get hi] at q
    obtain ⟨v, c1, c2⟩ := c'.get q
    rw [← hlen] at c1
    refine ⟨⟨by rw [hlen]; exact hi, vs, v, b', c1⟩, fun x H' y => ?_⟩
    obtain ⟨rfl, y⟩ := y
    have := y vs b'
    rw [c1] at this
    cases this
    exact ⟨S, Le.refl, c2⟩
  · have := List.getElem?_eq_none_iff.mp (Option.some.inj q)
    rw [List.length_reverse] at this
    show vs.length ≤ i
    rw [hlen]
    exact this
theorem di_rev {tg e : Expr} {te : TE} {me : ME} {p pos : Pos} (a : DE K X e te me) (hm : X.mg "reversed" = none) (hg : Gl X "reversed" := by rfl) (hs : starEach [e] X.env = (false, eval e X.env) :: starEach [] X.env := by rfl) :
    DI K X tg (.Call (.Name "reversed" p) [e] [] pos) (iRevA K te) (revI me) := ⟨a.k, by
  have hk := a.k
  subst hk
  exact pi_revA hg hm a.p hs, by
  intro Φ σ H μ sg h s h' S rs e R k
  unfold revI at e
  split at e
  · rename_i xs h1 e1
    cases e
    refine a.s σ H μ sg h _ _ S rs e1 _ fun v H1 μ1 S1 l1 r1 => ?_
    obtain ⟨p, vs, rfl, b, c⟩ := rp_tup' r1
    exact ⟨p, vs, rfl, .inr ⟨b, k _ H1 μ1 S1 l1 (j_revT b c)⟩⟩
  · rename_i xs h1 e1
    cases e
    refine a.s σ H μ sg h _ _ S rs e1 _ fun v H1 μ1 S1 l1 r1 => ?_
    obtain ⟨p, vs, rfl, b, c⟩ := rp_rol' r1
    exact ⟨p, vs, rfl, .inl ⟨b.l, k _ H1 μ1 S1 l1 (j_revF b c)⟩⟩
  · cases e⟩
/-! ### several names from a tuple or a list -/
theorem PG.or {tg : Expr} {t u : TG} (h : PG X tg t) (h' : PG X tg u) : PG X tg (fun v σ H Q => t v σ H Q ∨ u v σ H Q) := ⟨fun pins s σ H v w Q I r q => q.elim (h.run pins s σ H v w Q I r) (h'.run pins s σ H v w Q I r)⟩
def uplG (n : Nat) (a : MGs) : MG := fun d sg h => match d with
  | .tup xs => if xs.length = n then a xs sg h else none
  | .at l => match h[l]? with
    | some (.lst xs) => if xs.length = n then a xs sg h else none
    | _ => none
  | _ => none
theorem dg_upl {es : List Expr} {k0 : Nat} {t : TGs} {m : MGs} {n : Nat} {pos : Pos} (a : DGs K X es t m) (hn : (assignEach es X.env).length = n := by rfl) (hst : (assignEach es X.env).findIdx? (·.1) = none := by rfl) (hc : X.calm = true := by rfl) :
    DG K X (.Tuple es k0 pos) (fun v σ H Q => gTup K n t v σ H Q ∨ gLst K n t v σ H Q) (uplG n m) := ⟨a.k, by
  have hk := a.k
  subst hk
  exact PG.or (pg_tup hc a.p hn hst) (pg_lst hc a.p hn hst), by
  intro Φ σ H μ sg h x v sg' h' S rs r e Q k
  unfold uplG at e
  split at e
  · split at e
    · rename_i hl
      obtain ⟨p, vs, rfl, b, c⟩ := rp_tup' r
      exact .inl ⟨p, vs, rfl, b, by rw [c.len]; exact hl, a.s σ H μ sg h _ vs sg' h' S rs c e Q k⟩
    · cases e
  · split at e
    · rename_i q
      split at e
      · rename_i hl
        obtain ⟨p, ep, rfl⟩ := rp_at' r
        obtain ⟨vs, b, c⟩ := S.lst q ep
        exact .inr ⟨p, vs, rfl, .of b, by rw [c.len]; exact hl, a.s σ H μ sg h _ vs sg' h' S rs c e Q k⟩
      · cases e
    · cases e
  · cases e⟩
/-! ### dict displays -/
abbrev MP := Sg → Hd → Option (List (Key × D) × Hd)
def SPr (K : Kw) (trs : List (TE × TE)) (m : MP) : Prop := ∀ {Φ : Hp} (σ : L2.St) (H : Hp) (μ : List Addr) (sg : Sg) (h : Hd) (kvs : List (Key × D)) (h' : Hd), Sm Φ K H μ h → Rs K H μ sg σ → m sg h = some (kvs, h') → ∀ Q : List (V × V) → Hp → Prop,
  (∀ (kw : List (Key × V)) (H' : Hp) (μ' : List Addr), Sm Φ K H' μ' h' → Le K H μ H' μ' → Rkv K H' μ' kvs kw → Q (kw.map fun kv => (kV kv.1, kv.2)) H') → tPairs trs σ H Q
structure DP (K : Kw) (X : Cx) (pos : Pos) (keys : List (Option Expr)) (values : List Expr) (trs : List (TE × TE)) (m : MP) : Prop where
  k : KOf X = K
  p : PPs X pos keys values trs
  s : SPr K trs m
def pnilM : MP := fun _ h => some ([], h)
def pconsM (a b : ME) (r : MP) : MP := fun sg h => match a sg h with
  | some (x, h1) => match keyD x with
    | some k => match b sg h1 with
      | some (y, h2) => match r sg h2 with
        | some (kvs, h3) => some ((k, y) :: kvs, h3)
        | none => none
      | none => none
    | none => none
  | none => none
theorem dp_nil {pos : Pos} (hK : KOf X = K := by rfl) : DP K X pos [] [] [] pnilM := ⟨hK, pps_nil, by
  intro Φ σ H μ sg h kvs h' S rs e Q k
  cases e
  exact k [] H μ S Le.refl Rkv.nil⟩
theorem dp_cons {pos : Pos} {ke ve : Expr} {keys : List (Option Expr)} {values : List Expr} {tk tv : TE} {mk mv : ME} {trs : List (TE × TE)} {mr : MP} (ha : DE K X ke tk mk) (hb : DE K X ve tv mv) (hr : DP K X pos keys values trs mr) :
    DP K X pos (some ke :: keys) (ve :: values) ((tk, tv) :: trs) (pconsM mk mv mr) := ⟨ha.k, pps_cons ha.p hb.p hr.p, by
  intro Φ σ H μ sg h kvs h' S rs e Q k
  unfold pconsM at e
  split at e
  · rename_i x h1 e1
    split at e
    · rename_i kk ek
      split at e
      · rename_i y h2 e2
        split at e
        · rename_i kvs' h3 e3
          cases e
          refine ha.s σ H μ sg h x h1 S rs e1 _ fun v H1 μ1 S1 l1 r1 => ?_
          refine hb.s σ H1 μ1 sg h1 y h2 S1 (rs.mono l1) e2 _ fun w H2 μ2 S2 l2 r2 => ?_
          refine hr.s σ H2 μ2 sg h2 kvs' _ S2 (rs.mono (l1.trans l2)) e3 _ fun kw H3 μ3 S3 l3 r3 => ?_
          rw [key_of r1 ek]
          exact k ((kk, w) :: kw) H3 μ3 S3 ((l1.trans l2).trans l3) ⟨by simp [r3.1], Rps.cons (Rp.mono l3 _ _ r2) r3.2⟩
        · cases e
      · cases e
    · cases e
  · cases e⟩
def dispM (r : MP) : ME := fun sg h => match r sg (h ++ [.dct []]) with
  | some (kvs, h2) => match h2[h.length]? with
    | some (.dct []) => if kvs.length ≤ 15 then some (.at h.length, h2.set h.length (.dct (mergeD [] kvs))) else none
    | _ => none
  | none => none
theorem de_disp {pos : Pos} {keys : List (Option Expr)} {values : List Expr} {trs : List (TE × TE)} {mr : MP} (hr : DP K X pos keys values trs mr) (hall : keys.all (·.isSome) = true := by rfl) (hl : keys.length = values.length := by rfl) (h0 : keys ≠ [] := by simp)
    (h15 : keys.length ≤ 15 := by decide) : DE K X (.Dict keys values pos) (tDisp trs) (dispM mr) := ⟨hr.k, pe_disp hr.p hall hl h0 h15, by
  intro Φ σ H μ sg h d h' S rs e Q k
  unfold dispM at e
  split at e
  · rename_i kvs h2 e2
    split at e
    · rename_i q
      split at e
      · rename_i hlen
        cases e
        intro p hp
        have l0 : Le K H μ (upd H p (.dK [])) (μ ++ [p]) := le_obj hp
        have S0 : Sm Φ K (upd H p (.dK [])) (μ ++ [p]) (h ++ [.dct []]) := S.obj hp ⟨[], upd_same, Rkv.nil⟩
        refine hr.s σ _ _ sg _ kvs h2 S0 (rs.mono l0) e2 _ fun kw H2 μ2 S2 l2 r2 => ?_
        have ep := l2.get (obj_at S rfl)
        obtain ⟨kw0, b, c⟩ := S2.dct q ep
        have hk0 : kw0 = [] := by
          have := c.len
          cases kw0 with
          | nil => rfl
          | cons _ _ => simp at this
        subst hk0
        refine ⟨b, kw, rfl, ?_, ?_⟩
        · have := congrArg List.length r2.1
          simp at this
          omega
        have l4 : Le K H2 μ2 (upd H2 p (.dK (mergeK [] kw))) μ2 := le_set S2 ep
        have c2 := Rkv.merge r2 (Rkv.nil (K := K) (H := H2) (μ := μ2))
        exact k _ _ μ2 (S2.set ep ⟨_, upd_same, c2.1, Rps.mono l4 _ _ c2.2⟩) ((l0.trans l2).trans l4) (rp_at ep)
      · cases e
    · cases e
  · cases e⟩
end
/-- a tuple of texts in the module -/
theorem Kst.strs {K : Kw} {mg : Str → Option Value} {x : Str} {a : Addr} {od : Option Addr} {n : Nat} {sl : Array (Option Value)} {arr : Array Value} (h : mg x = some (.ref a)) (l : K.lookup a = some ⟨.type "tuple", od, .seq arr n, sl⟩) (ss : List Str) (e : Vals (ss.map V.str) arr.toList) (hz : arr.size ≤ 16777216) :
    Kst K mg x (.tup (ss.map D.str)) := ⟨.ref a, .ref a, h, rfl, fun H μ => by
  have r : Rps K H μ (ss.map D.str) (ss.map V.str) := by
    clear e
    induction ss with
    | nil => exact Rps.nil
    | cons s ss ih => exact Rps.cons rp_str ih
  exact rp_tup (.inr ⟨_, arr, n, l, rfl, rfl, by rw [sizeLine_eq]; exact hz, e⟩) r⟩
/-! ### rules told from the end -/
section
variable {sg : Sg} {h : Hd} {Q : D → Hd → Prop} {a b : ME} {r : MP} {i j : Int} {xs : List D}
theorem ev_bits (q : Ev (a sg h) fun x h1 => ItK x fun i => Q (.int (Builtin.Int.intBits i : Nat)) h1) : Ev (bitsM a sg h) Q := by
  obtain ⟨x, h1, e1, i, rfl, q⟩ := q
  exact ⟨_, h1, by simp only [bitsM, e1], q⟩
theorem ev_uplT {n : Nat} {m : MGs} {Q : Sg → Hd → Prop} (l : xs.length = n) (q : Ev (m xs sg h) Q) : Ev (uplG n m (.tup xs) sg h) Q := by
  obtain ⟨sg1, h1, e1, q⟩ := q
  exact ⟨_, _, by simp only [uplG, if_pos l, e1], q⟩
theorem ev_uplL {n k : Nat} {m : MGs} {Q : Sg → Hd → Prop} (e : h[k]? = some (.lst xs)) (l : xs.length = n) (q : Ev (m xs sg h) Q) : Ev (uplG n m (.at k) sg h) Q := by
  obtain ⟨sg1, h1, e1, q⟩ := q
  exact ⟨_, _, by simp only [uplG, e, if_pos l, e1], q⟩
theorem lf_fdivZ (c : j ≠ 0 ∧ j.natAbs.log2 < 9000) (q : Q (.int (i.fdiv j)) h) : Ev (fdivZD (.int i) (.int j) h) Q := ⟨_, _, by simp only [fdivZD]; rw [if_pos c], q⟩
theorem lf_modZ (c : j ≠ 0) (q : Q (.int (i.fmod j)) h) : Ev (modZD (.int i) (.int j) h) Q := ⟨_, _, by simp only [modZD]; rw [if_pos c], q⟩
theorem lf_fdivZp (c : 0 < j ∧ j.natAbs.log2 < 9000) (q : Q (.int (i / j)) h) : Ev (fdivZD (.int i) (.int j) h) Q := lf_fdivZ ⟨by omega, c.2⟩ (by rw [Int.fdiv_eq_ediv_of_nonneg i (by omega)]; exact q)
theorem lf_modZp (c : 0 < j) (q : Q (.int (i % j)) h) : Ev (modZD (.int i) (.int j) h) Q := lf_modZ (by omega) (by rw [Int.fmod_eq_emod_of_nonneg i (by omega)]; exact q)
theorem lf_shl (c : 0 ≤ j ∧ (Builtin.Int.intBits i : Int) + j ≤ 2 ^ 27) (q : Q (.int (i * 2 ^ j.toNat)) h) : Ev (shlD (.int i) (.int j) h) Q := ⟨_, _, by simp only [shlD]; rw [if_pos c], q⟩
theorem lf_shr (c : 0 ≤ j) (q : Q (.int (i / 2 ^ j.toNat)) h) : Ev (shrD (.int i) (.int j) h) Q := ⟨_, _, by simp only [shrD]; rw [if_pos c], q⟩
theorem lf_bit {f : Int → Int → Int} (q : Q (.int (f i j)) h) : Ev (bitD f (.int i) (.int j) h) Q := ⟨_, _, rfl, q⟩
def rvS (x : D) (h : Hd) : Option (Src × Hd) := match x with
  | .tup xs => some (.fix xs.reverse, h)
  | .rol xs => some (.fix xs.reverse, h)
  | _ => none
theorem ev_revI {Q : Src → Hd → Prop} (q : Ev (a sg h) fun x h1 => Ev (rvS x h1) Q) : Ev (revI a sg h) Q := by
  obtain ⟨x, h1, e1, s, h2, e2, q⟩ := q
  refine ⟨s, h2, ?_, q⟩
  rw [← e2]
  simp only [revI, e1, rvS]
  cases x <;> rfl
theorem rv_tup {Q : Src → Hd → Prop} (q : Q (.fix xs.reverse) h) : Ev (rvS (.tup xs) h) Q := ⟨_, _, rfl, q⟩
def KyK (x : D) (A : Key → Prop) : Prop := ∃ k, keyD x = some k ∧ A k
theorem ky_int {A : Key → Prop} (q : A (.inl i)) : KyK (.int i) A := ⟨_, rfl, q⟩
theorem ky_str {A : Key → Prop} {s : Str} (q : A (.inr s)) : KyK (.str s) A := ⟨_, rfl, q⟩
theorem ev_pnil {Q : List (Key × D) → Hd → Prop} (q : Q [] h) : Ev (pnilM sg h) Q := ⟨_, _, rfl, q⟩
theorem ev_pcons {Q : List (Key × D) → Hd → Prop} (q : Ev (a sg h) fun x h1 => KyK x fun k => Ev (b sg h1) fun y h2 => Ev (r sg h2) fun kvs h3 => Q ((k, y) :: kvs) h3) : Ev (pconsM a b r sg h) Q := by
  obtain ⟨x, h1, e1, k, e2, y, h2, e3, kvs, h3, e4, q⟩ := q
  exact ⟨_, _, by simp only [pconsM, e1, e2, e3, e4], q⟩
theorem ev_disp (q : Ev (r sg (h ++ [.dct []])) fun kvs h2 => h2[h.length]? = some (.dct []) ∧ kvs.length ≤ 15 ∧ Q (.at h.length) (h2.set h.length (.dct (mergeD [] kvs)))) : Ev (dispM r sg h) Q := by
  obtain ⟨kvs, h2, e1, e2, l, q⟩ := q
  exact ⟨_, _, by simp only [dispM, e1, e2, if_pos l], q⟩
end
end DL

/-! DM11: what is raised goes through statements; raise; try; own exceptions with their own __init__. -/
namespace PySem.W
open PySem PySem.Calls PyProof.Rows
section
variable {prog : Program} {w : World} {A : Around} {E : Value → Shared → Prop} {s : Shared} {K : Frag} {name : Str}
/-- C.name, called: a class of the text -/
theorem method_ref {C : Addr} {v : Value} {pl : Sem Bool} {Q : Value × List Value → Shared → Prop} (X : K.In s.heap) (hr : readsIn K C (.type "type") = true) (e : findCls K (.ref C) (.type "type") name = some (.val v)) (hh : handedIn v = true)
    (h : Q (v, []) { s with toks := s.toks + 1 }) : wpAny (model prog w) A (getMethod (.ref C) name pl) Q E s := by
  have hr' := hr
  simp only [readsIn, Bool.and_eq_true, beq_iff_eq] at hr'
  obtain ⟨⟨⟨⟨_, b⟩, c'⟩, _⟩, _⟩ := hr'
  have L0 := looks_typeIn (M := model prog w) X b
  unfold getMethod specialOf
  refine wpAny_bind (wpAny_bind (L0.here ((looks_findIn X c').here ?_)))
  dsimp only
  rw [if_pos canon_tga]
  refine wpAny_bind (wpAny_mono (Q := fun v => Q (v, [])) (E := E) ?_ (fun _ _ z => wpAny_pure z) fun _ _ z => z)
  exact cls_value X hr e hh h
end
end PySem.W
namespace DL
open PySem L2 PySem.Spec PyProof.Rows

/-! ### through statements -/
def seqX (ax : MX) (a : MS) (bx : MX) : MX := fun sg h => match ax sg h with
  | some r => some r
  | none => match a sg h with
    | some (.nx sg1, h1) => bx sg1 h1
    | _ => none
def ifX (c : MT) (ax bx : MX) : MX := fun sg h => match c sg h with
  | some (true, h1) => ax sg h1
  | some (false, h1) => bx sg h1
  | none => none
def whileX (c : MT) (b : MS) (bx : MX) : Nat → MX
  | 0 => noX
  | k + 1 => fun sg h => match c sg h with
    | some (true, h1) => match bx sg h1 with
      | some r => some r
      | none => match b sg h1 with
        | some (.nx sg2, h2) => whileX c b bx k sg2 h2
        | some (.ct sg2, h2) => whileX c b bx k sg2 h2
        | _ => none
    | _ => none
def forX (s : Src) (g : MG) (b : MS) (bx : MX) : Nat → Nat → MX
  | 0, _ => noX
  | k + 1, i => fun sg h => match s.nxt h i with
    | some (some d) => match g d sg h with
      | some (sg1, h1) => match bx sg1 h1 with
        | some r => some r
        | none => match b sg1 h1 with
          | some (.nx sg2, h2) => forX s g b bx k (i + 1) sg2 h2
          | some (.ct sg2, h2) => forX s g b bx k (i + 1) sg2 h2
          | _ => none
      | none => none
    | _ => none
def forSX (it : MI) (g : MG) (b : MS) (bx : MX) (N : Nat) : MX := fun sg h => match it sg h with
  | some (s, h1) => forX s g b bx N 0 sg h1
  | none => none
section
variable {K : Kw} {mg : Str → Option Value} {X : Cx} {W : WX} {pos pos' : Pos} {e : Expr} {te : TE} {me : ME} {xe : MX} {st : Stmt} {rest : List Stmt} {t u : TS} {m n : MS} {x y : MX} {c : Expr} {tc : TT} {mc : MT}
theorem dssx_one (a : DSX K mg X W st t m x) : DSsX K mg X W [st] t m x := ⟨a.k, fun tk po => pss_one (a.p tk po), a.s, a.x⟩
theorem dssx_nil (hK : KOf X = K := by rfl) : DSsX K mg X W [] tNext passM noX := (dss_nil hK).x
theorem xst_seq (as : SS K t m) (ax : XSt K mg W t x) (bx : XSt K mg W u y) : XSt K mg W (tSeq t u) (seqX x m y) := by
  intro Φ σ H μ sg h xn sg' h' S rs e k E
  unfold seqX at e
  split at e
  · rename_i r e1
    cases e
    exact ax σ H μ sg h xn sg' h' S rs e1 k _
  · split at e
    · rename_i sg1 h1 e1
      exact as σ H μ sg h _ h1 S rs e1 _ fun σ1 H1 μ1 S1 l1 rs1 => bx σ1 H1 μ1 sg1 h1 xn sg' h' S1 rs1 e (k.le l1) E
    · cases e
theorem dssx_cons (a : DSX K mg X W st t m x) (b : DSsX K mg X W rest u n y) : DSsX K mg X W (st :: rest) (tSeq t u) (seqM m n) (seqX x m y) := ⟨a.k, fun tk po => pss_cons (a.p tk po) (b.p tk po), ss_seq a.s b.s, xst_seq a.s a.x b.x⟩
theorem dsx_expr (a : DEX K mg X W e te me xe) (hs : swapsWith e none pos.line X.env = pure false := by rfl) : DSX K mg X W (.Expr e pos) (tDrop te) (exprM me) xe :=
  ⟨a.k, fun tk _ => ps_expr (a.p tk) hs, ss_expr a.s, fun {Φ} σ H μ sg h xn sg' h' S rs e k E => a.x σ H μ sg h xn sg' h' S rs e k _⟩
theorem dsx_ret (a : DEX K mg X W e te me xe) : DSX K mg X W (.Return (some e) pos) (tRet te) (retM me) xe :=
  ⟨a.k, fun tk _ => ps_ret (a.p tk), ss_ret a.s, fun {Φ} σ H μ sg h xn sg' h' S rs e k E => a.x σ H μ sg h xn sg' h' S rs e k _⟩
theorem xst_asg {tg : TG} (a : XEx K mg W te xe) : XSt K mg W (tAsg te tg) xe := fun {Φ} σ H μ sg h xn sg' h' S rs e k E => a σ H μ sg h xn sg' h' S rs e k _
theorem dsx_asg {tg : Expr} {gt : TG} {mg' : MG} (a : DEX K mg X W e te me xe) (g : DG K X tg gt mg') (hs : swapsWithSole [tg] e pos.line X.env = pure false := by rfl) (hw : swappedStores [tg] e X.env = pure none := by rfl)
    (h1 : (assignEach [tg] X.env).map (·.2) = [assign tg X.env] := by rfl) : DSX K mg X W (.Assign [tg] e pos) (tAsg te gt) (asgM me mg') xe := ⟨a.k, fun tk _ => ps_asg (a.p tk) g.p hs hw h1, ss_asg a.s g.s, xst_asg a.x⟩
theorem dsx_set (i : Nat) {x : Str} (a : DEX K mg X W e te me xe) (hN : X.N.Nodup) (hi : X.N[i]? = some x := by rfl) (hx : Loc X.env.scope x := by first | exact Or.inl rfl | exact Or.inr rfl) (hs : swapsWith e (some (.Name x pos')) pos.line X.env = pure false := by rfl)
    (hf : X.fn x = true ∨ X.env.scope.names.lookup x = some .local := by first | exact .inl rfl | exact .inr rfl) : DSX K mg X W (.Assign [.Name x pos'] e pos) (tAsg te (gName i)) (asgM me (nameG i)) xe := ⟨a.k, fun tk _ => ps_set hN hi hx (a.p tk) hs hf, ss_asg a.s (sg_name i), xst_asg a.x⟩
theorem dsx_if {p q : List Stmt} (hc : DT K X c tc mc) (a : DSsX K mg X W p t m x) (b : DSsX K mg X W q u n y) : DSX K mg X W (.If c p q pos) (tIfS tc t u) (ifSM mc m n) (ifX mc x y) := ⟨a.k, fun tk po => ps_if hc.p (a.p tk po) (b.p tk po), ss_if hc.s a.s b.s, by
  intro Φ σ H μ sg h xn sg' h' S rs e k E
  unfold ifX at e
  split at e
  · rename_i h1 e1
    exact hc.s σ H μ sg h _ h1 S rs e1 _ fun H1 μ1 S1 l1 => iteT (a.x σ H1 μ1 sg h1 xn sg' h' S1 (rs.mono l1) e (k.le l1) E)
  · rename_i h1 e1
    exact hc.s σ H μ sg h _ h1 S rs e1 _ fun H1 μ1 S1 l1 => iteF (b.x σ H1 μ1 sg h1 xn sg' h' S1 (rs.mono l1) e (k.le l1) E)
  · cases e⟩
theorem dsx_while {body : List Stmt} {tb : TS} {mb : MS} {xb : MX} (N : Nat) (hc : DT K X c tc mc) (hb : DSsX K mg X W body tb mb xb) : DSX K mg X W (.While c body [] pos) (tWhile tc tb) (whileM mc mb N) (whileX mc mb xb N) := ⟨hc.k, fun tk po => ps_while po hc.p (hb.p tk po), ss_while N hc.s hb.s, by
  intro Φ σ H μ sg h xn sg' h' S rs e k E
  refine ⟨fun m σ1 H1 => ∃ μ1 sg1 h1, Sm Φ K H1 μ1 h1 ∧ Le K H μ H1 μ1 ∧ Rs K H1 μ1 sg1 σ1 ∧ whileX mc mb xb m sg1 h1 = some (xn, sg', h'), ⟨N, μ, sg, h, S, Le.refl, rs, e⟩, ?_⟩
  rintro m σ1 H1 ⟨μ1, sg1, h1, S1, l1, rs1, e1⟩
  cases m with
  | zero => cases e1
  | succ m =>
    unfold whileX at e1
    split at e1
    · rename_i h2 e2
      refine hc.s σ1 H1 μ1 sg1 h1 _ h2 S1 rs1 e2 _ fun H2 μ2 S2 l2 => iteT ?_
      refine ⟨fun σ3 H3 => ∃ μ3 sg3 h3, Sm Φ K H3 μ3 h3 ∧ Le K H μ H3 μ3 ∧ Rs K H3 μ3 sg3 σ3 ∧ whileX mc mb xb m sg3 h3 = some (xn, sg', h'), fun σ3 H3 q => ⟨m, Nat.lt_succ_self _, q⟩, ?_⟩
      split at e1
      · rename_i r e3
        cases e1
        exact hb.x σ1 H2 μ2 sg1 h2 xn sg' h' S2 (rs1.mono l2) e3 ((k.le l1).le l2) _
      · split at e1
        · rename_i sg3 h3 e3
          exact hb.s σ1 H2 μ2 sg1 h2 _ h3 S2 (rs1.mono l2) e3 _ fun σ3 H3 μ3 S3 l3 rs3 => ⟨μ3, sg3, h3, S3, (l1.trans l2).trans l3, rs3, e1⟩
        · rename_i sg3 h3 e3
          exact hb.s σ1 H2 μ2 sg1 h2 _ h3 S2 (rs1.mono l2) e3 _ fun σ3 H3 μ3 S3 l3 rs3 => ⟨μ3, sg3, h3, S3, (l1.trans l2).trans l3, rs3, e1⟩
        · cases e1
    · cases e1⟩
theorem dsx_for {tg it : Expr} {ti : TI} {mi : MI} {gt : TG} {mg' : MG} {body : List Stmt} {tb : TS} {mb : MS} {xb : MX} (N : Nat) (hi : DI K X tg it ti mi) (hg : DG K X tg gt mg') (hb : DSsX K mg X W body tb mb xb) (hs : ∀ x, foldedSetIterable it X.env x = pure x := by intro _; rfl) (hc : X.calm = true := by rfl) :
    DSX K mg X W (.For tg it body [] pos) (tFor ti gt tb) (forSM mi mg' mb N) (forSX mi mg' mb xb N) := ⟨hi.k, fun tk po => ps_for po hc hi.p hg.p (hb.p tk po) hs, ss_for N hi.s hg.s hb.s, by
  intro Φ σ H μ sg h xn sg' h' S rs e k E
  unfold forSX at e
  split at e
  · rename_i s h0 e0
    refine hi.s σ H μ sg h s h0 S rs e0 _ fun J H0 μ0 S0 l0 hJ => ?_
    refine ⟨fun i m σ1 H1 => ∃ μ1 sg1 h1, Sm Φ K H1 μ1 h1 ∧ Le K H0 μ0 H1 μ1 ∧ Rs K H1 μ1 sg1 σ1 ∧ forX s mg' mb xb m i sg1 h1 = some (xn, sg', h'), ⟨N, μ0, sg, h0, S0, Le.refl, rs.mono l0, e⟩, ?_⟩
    rintro i m σ1 H1 ⟨μ1, sg1, h1, S1, l1, rs1, e1⟩
    cases m with
    | zero => cases e1
    | succ m =>
      unfold forX at e1
      obtain ⟨j1, j2⟩ := hJ i H1 μ1 h1 S1 l1
      split at e1
      · rename_i d q
        obtain ⟨go, yld⟩ := j1 d q
        refine .inr ⟨go, fun σ3 H3 => ∃ μ3 sg3 h3, Sm Φ K H3 μ3 h3 ∧ Le K H0 μ0 H3 μ3 ∧ Rs K H3 μ3 sg3 σ3 ∧ forX s mg' mb xb m (i + 1) sg3 h3 = some (xn, sg', h'), fun σ3 H3 q => ⟨m, Nat.lt_succ_self _, q⟩, fun x H2 y => ?_⟩
        obtain ⟨S2, l2, r2⟩ := yld x H2 y
        split at e1
        · rename_i sg3 h3 e3
          refine hg.s σ1 H2 μ1 sg1 h1 d x sg3 h3 S2 (rs1.mono l2) r2 e3 _ fun σ3 H3 μ3 S3 l3 rs3 => ?_
          split at e1
          · rename_i r e4
            cases e1
            exact hb.x σ3 H3 μ3 sg3 h3 xn sg' h' S3 rs3 e4 ((((k.le l0).le l1).le l2).le l3) _
          · split at e1
            · rename_i sg4 h4 e4
              exact hb.s σ3 H3 μ3 sg3 h3 _ h4 S3 rs3 e4 _ fun σ4 H4 μ4 S4 l4 rs4 => ⟨μ4, sg4, h4, S4, ((l1.trans l2).trans l3).trans l4, rs4, e1⟩
            · rename_i sg4 h4 e4
              exact hb.s σ3 H3 μ3 sg3 h3 _ h4 S3 rs3 e4 _ fun σ4 H4 μ4 S4 l4 rs4 => ⟨μ4, sg4, h4, S4, ((l1.trans l2).trans l3).trans l4, rs4, e1⟩
            · cases e1
        · cases e1
      · cases e1
  · cases e⟩
end

/-! ### an own exception's own __init__ -/
/-- what the written part says of a base class whose __init__ is called by its name -/
structure BasC (K : PySem.W.Frag) (mg : Str → Option Value) (x : Str) : Prop where
  ex : ∃ C : Addr, mg x = some (.ref C) ∧ PySem.W.readsIn K C (.type "type") = true ∧ PySem.W.findCls K (.ref C) (.type "type") "__init__" = some (.val (.builtin "ValueError.__init__"))
section
variable {X : Cx} {x : Str} {e : Expr} {es : List Expr} {ta : TA} {p1 p2 pos : Pos}
theorem pe_binit {pl : Sem Bool} (b : BasC X.K X.mg x) (hg : Gl X x) (ha : PA X (e :: es) ta) (hdb : (x == ("__debug__" : Str)) = false := by decide)
    (hc : eval (.Call (.Attribute (.Name x p1) "__init__" p2) (e :: es) [] pos) X.env = (do
      let ov ← eval (.Name x p1) X.env
      standAt p2.atName
      let (f, first) ← holding [ov] (getMethod ov "__init__" pl)
      callWith pos f first (backTo pos (starEach (e :: es) X.env)) (backToKw pos (keywordEach [] X.env))) := by rfl)
    (he : starEach (e :: es) X.env = (false, eval e X.env) :: starEach es X.env := by rfl) (hpl : (backTo pos (starEach es X.env)).any (·.1) = false := by rfl) :
    PE X (.Call (.Attribute (.Name x p1) "__init__" p2) (e :: es) [] pos) (tVeI X.K ta) := by
  obtain ⟨CB, hm, hr, hf⟩ := b.ex
  refine ⟨fun pins s σ H Q I h => ?_⟩
  refine PySem.W.methodCall_KW (ld_glob I hg hm ?_ hdb) hc
  refine PySem.W.method_ref I.kIn hr hf (by decide +kernel) ?_
  show wpAny _ _ (callWith pos (Value.builtin "ValueError.__init__") [] (backTo pos (starEach (e :: es) X.env)) []) _ _ _
  refine PyProof.Rows.callWith_method1 (thn (ha.run pos pins _ σ H _ (I.tok _) h) fun us s1 ⟨vs, H1, I1, r1, a, C, ws, ev, hl, T, ea, q⟩ => ?_) he hpl
  subst ev
  cases r1 with
  | @cons _ u0 _ ur ra rw' =>
    obtain rfl : u0 = Value.ref a := ra
    have hlen : ur.length ≤ sizeLine := by
      rw [← Paired.length rw', sizeLine_eq]
      omega
    exact oinit_ok T I1 ea hlen fun s' J => ⟨.non, H1, J, rfl, q⟩
end
end DL

/-! DM12: several except clauses, with names or without. -/
namespace DL
open PySem L2 PySem.Spec PyProof.Rows
/-- one clause: its class, the slot of its name, its suite -/
structure Hs where
  c : Value
  i : Option Nat
  ts : Addr → Value → Option Addr → TS
def putI (i : Option Nat) (σ : L2.St) (o : Option V) : L2.St := match i with
  | some i => σ.set i o
  | none => σ
def endI (i : Option Nat) (D : Ends) : Ends := { nx := fun σ' H' => D.nx (putI i σ' none) H', rt := D.rt, bk := fun σ' H' => D.bk (putI i σ' none) H', ct := fun σ' H' => D.ct (putI i σ' none) H' }
/-- what the clauses wish of an exception of the body, one after the other -/
def wHs (K : Kw) (Wout : WX) (D : Ends) : List Hs → WX
  | [] => Wout
  | q :: r => fun cls d σ H => ∃ b, PySem.W.exmOne K cls q.c = some b ∧ (b = true → ∀ a, H a = none → q.ts a cls d (endI q.i D) (putI q.i σ (some (.ref a))) H) ∧ (b = false → wHs K Wout D r cls d σ H)
inductive HsOk (X : Cx) : List ExceptHandler → List Hs → Prop
  | nil : HsOk X [] []
  | cons {x : Str} {c : Value} {ts : Addr → Value → Option Addr → TS} {b₀ : Stmt} {suite : List Stmt} {np pos' : Pos} {hds : List ExceptHandler} {l : List Hs} (hc : Names X x c)
      (hsu : ∀ (a : Addr) (oe : Obj) (cls : Value) (d : Option Addr) (pn : List (Addr × Obj)), Zc cls d oe → (∃ vs, oe.data = .fields vs) → PSs (X.suite a ((a, oe) :: pn)) (b₀ :: suite) (ts a cls d)) (r : HsOk X hds l) :
      HsOk X (.ExceptHandler (some (.Name x np)) none (b₀ :: suite) pos' :: hds) (⟨c, none, ts⟩ :: l)
  | consA {x n : Str} {i : Nat} {c : Value} {ts : Addr → Value → Option Addr → TS} {b₀ : Stmt} {suite : List Stmt} {np pos' : Pos} {hds : List ExceptHandler} {l : List Hs} (hc : Names X x c) (hi : X.N[i]? = some n) (hln : X.env.kindOf n = some .local)
      (hsu : ∀ (a : Addr) (oe : Obj) (cls : Value) (d : Option Addr) (pn : List (Addr × Obj)), Zc cls d oe → (∃ vs, oe.data = .fields vs) → PSs (X.suite a ((a, oe) :: pn)) (b₀ :: suite) (ts a cls d)) (r : HsOk X hds l) :
      HsOk X (.ExceptHandler (some (.Name x np)) (some n) (b₀ :: suite) pos' :: hds) (⟨c, some i, ts⟩ :: l)
section
variable {X : Cx} {body : List Stmt} {h₀ : ExceptHandler} {hds : List ExceptHandler} {l : List Hs} {pos : Pos} {tb : WX → TS} {Wout : WX}
theorem ps_try_hs (hs : X.stack = X.env :: X.outer) (hf : X.env.frame = some X.env.locals) (hN : X.N.Nodup) (tk : Takes X Wout)
    (hb : ∀ (W : WX) (pn : List (Addr × Obj)) (xe : Value → Shared → Prop), Takes (X.tr pn xe) W → PassesOwn (model X.prog X.w) X.A X.env xe → PSs (X.tr pn xe) body (tb W))
    (hh : HsOk X (h₀ :: hds) l) : PS X (.Try body (h₀ :: hds) [] [] pos) (fun D σ H => tb (wHs (KOf X) Wout D l) D σ H) := by
  refine ⟨fun pins s σ H D I h => ?_⟩
  have ok := I.ok
  have hfr : X.A.frames = some (X.env :: X.outer) := by rw [ok.frames, hs]
  refine wpAny_Try_except ?_
  refine wpAny_mono ((hb (wHs (KOf X) Wout D l) (X.pn ++ pins) (fun e s₁ => wpAny (model X.prog X.w) X.A (noteFrame e X.env) (fun _ s₂ => wpAny (model X.prog X.w) X.A (setFlight e none) (fun _ s₃ =>
    wpAny (model X.prog X.w) X.A (handleBy e X.env (h₀ :: hds)) (SP X pins D) X.xe s₃) X.xe s₂) X.xe s₁) (fun u s' xx => ?_) PassesOwn.looking).run [] s σ H D (I.toTry _) h) (fun f s1 hsp => ?_) (fun e s1 he => he)
  · obtain ⟨a, B, sI, pins', σ', H', cls, d, rfl, J', nb, up, sky, na, os, ag, w⟩ := xx
    have J : Inv X pins σ' H' sI := J'.ofTry ok
    have sky' : Sky B (X.env :: X.outer) a (Zc cls d) X.env.locals s'.heap := by rw [← hs]; exact sky
    show wpAny (model X.prog X.w) X.A (noteFrame (.ref a) X.env) _ _ _
    refine Sky.land Zc.steady hfr hf sky' fun h3 fl3 up3 => ?_
    have J3 : Inv X pins σ' H' { s' with heap := h3 } := J.landed nb fl3.1 (up.trans up3) os ag
    obtain ⟨oe3, vs3, he3, hz3, hd3⟩ := fl3.there
    have nfr : a ∉ frs (X.env :: X.outer) := fun hm => by
      obtain ⟨_, o', e', hnf⟩ := fl3.2.2.1.mem hm
      rw [he3] at e'; cases e'
      exact hnf _ hd3
    have nL : a ≠ X.env.locals := fun z => nfr (List.mem_filterMap.mpr ⟨X.env, List.mem_cons_self, by rw [hf, z]⟩)
    have nF : a ∉ X.fs := fun hm => by
      obtain ⟨e, he, q⟩ := List.mem_filterMap.mp hm
      exact nfr (List.mem_filterMap.mpr ⟨e, List.mem_cons_of_mem _ he, q⟩)
    have S3 := J3.suite he3 hd3 na nL nF
    have LT : PySem.W.Looks (model X.prog X.w) h3 (typeOf (.ref a)) cls := fun A Q E s k q => wpAny_typeOf_ref (k _ _ he3) (by rw [hz3.1]; exact q)
    have test : ∀ {x : Str} {c : Value} {np : Pos}, Names X x c → ∀ {Q : Value → Shared → Prop} {E : Value → Shared → Prop}, Q c { s' with heap := h3 } → wpAny (model X.prog X.w) (X.A.mark (some (.ref a))) (eval (.Name x np) X.env) Q E { s' with heap := h3 } := fun {x c np} hc {Q E} q => by
      obtain ⟨hg, hdbg, hm | ⟨hm, hv, hnn⟩⟩ := hc
      · exact ld_glob (X := X.suite a ((a, oe3) :: (X.pn ++ pins))) S3 hg hm q hdbg
      · exact ld_blt (X := X.suite a ((a, oe3) :: (X.pn ++ pins))) S3 hg hm hv q hnn hdbg
    have go : ∀ {hds' : List ExceptHandler} {l' : List Hs}, HsOk X hds' l' → wHs (KOf X) Wout D l' cls d σ' H' → wpAny (model X.prog X.w) X.A (handleBy (.ref a) X.env hds') (SP X pins D) X.xe { s' with heap := h3 } := by
      intro hds' l' hk
      induction hk with
      | nil =>
        intro w
        refine wpAny_handleBy_nil ?_
        obtain ⟨k1, k2, k3, oe, vs, T, oT, ts', he, hz, hd, h1, hr⟩ := id fl3
        unfold PySem.passOn
        refine wpAny_bind (wpAny_field he hd h1 ?_)
        rw [if_neg (show ¬ ((Value.ref T == Value.none) = true) from by simp)]
        have fin : wpAny (model X.prog X.w) X.A (setFlight (.ref a) X.env.frame) (fun _ s4 => wpAny (model X.prog X.w) X.A (throw (.ref a) : Sem Flow) (SP X pins D) X.xe s4) X.xe { s' with heap := h3 } := by
          rw [hf]
          refine HandSPX.setFlight_upZ fl3 fun h4 hh4 up4 => wpAny_throw (tk _ _ ?_)
          exact ⟨a, B, sI, pins, σ', H', cls, d, rfl, J, nb, (up.trans up3).trans up4, .inr (.inr (by rw [hs]; exact hh4)), na, os, ag, w⟩
        first
          | exact wpAny_bind (wpAny_pure (wpAny_bind fin))
          | exact wpAny_bind fin
      | @cons x c ts b₀ suite np pos' hds2 l2 hc hsu r ih =>
        intro w
        obtain ⟨b, hb1, hyes, hno⟩ := w
        refine wpAny_handleBy_cons (codeAny_handlers_test ?_) (by intro q; cases q)
        refine test hc ((PySem.W.exm_one (M := model X.prog X.w) (J3.kIn) LT hb1).here ?_)
        cases b with
        | true =>
          refine codeAny_handlers_suite ?_
          refine HandSPX.lands_againZ fl3 fun h4 fl4 up4 => ?_
          have J4 : Inv X pins σ' H' { s' with heap := h4 } := J.landed nb fl4.1 ((up.trans up3).trans up4) os ag
          obtain ⟨oe4, vs4, he4, hz4, hd4⟩ := fl4.there
          have S4 := J4.suite he4 hd4 na nL nF
          refine wpAny_mono ((hsu a oe4 cls d (X.pn ++ pins) hz4 ⟨_, hd4⟩).run [] _ _ H' _ S4 (hyes rfl a na)) (fun f s6 hsp => ?_) (fun _ _ z => False.elim z)
          cases f with
          | next =>
            obtain ⟨σ6, H6, S6, q6⟩ := hsp
            exact ⟨_, _, S6.unsuite ok, q6⟩
          | brk =>
            obtain ⟨σ6, H6, S6, q6⟩ := hsp
            exact ⟨_, _, S6.unsuite ok, q6⟩
          | cont =>
            obtain ⟨σ6, H6, S6, q6⟩ := hsp
            exact ⟨_, _, S6.unsuite ok, q6⟩
          | ret u =>
            obtain ⟨v6, σ6, H6, S6, r6, q6⟩ := hsp
            exact ⟨_, _, _, S6.unsuite ok, r6, q6⟩
        | false =>
          show wpAny _ X.A (handleBy (.ref a) X.env hds2) _ _ _
          exact ih (hno rfl)
      | @consA x n i c ts b₀ suite np pos' hds2 l2 hc hi hln hsu r ih =>
        intro w
        obtain ⟨b, hb1, hyes, hno⟩ := w
        refine wpAny_handleBy_cons (codeAny_handlers_test ?_) (by intro q; cases q)
        refine test hc ((PySem.W.exm_one (M := model X.prog X.w) (J3.kIn) LT hb1).here ?_)
        cases b with
        | true =>
          refine codeAny_handlers_suite_as ?_
          refine HandSPX.lands_againZ fl3 fun h4 fl4 up4 => ?_
          have J4 : Inv X pins σ' H' { s' with heap := h4 } := J.landed nb fl4.1 ((up.trans up3).trans up4) os ag
          obtain ⟨oe4, vs4, he4, hz4, hd4⟩ := fl4.there
          have S4 := J4.suite he4 hd4 na nL nF
          refine store_ok (X := X.suite a ((a, oe4) :: (X.pn ++ pins))) (v := .ref a) S4 hN hi (.inl hln) rfl (fun s5 S5 => ?_) (.inr hln)
          refine wpAny_mono ((hsu a oe4 cls d (X.pn ++ pins) hz4 ⟨_, hd4⟩).run [] s5 _ H' _ S5 (hyes rfl a na)) (fun f s6 hsp => ?_) (fun _ _ z => False.elim z)
          have end_ : ∀ {σ6 : L2.St} {H6 : Hp} {Q : Shared → Prop}, Inv (X.suite a ((a, oe4) :: (X.pn ++ pins))) [] σ6 H6 s6 → (∀ s7, Inv X pins (σ6.set i none) H6 s7 → Q s7) →
              wpAny (model X.prog X.w) X.A (do bindName X.env n .none; unbindBehindTheSuite X.env n pos') (fun _ s7 => Q s7) X.xe s6 := fun {σ6 H6 Q} S6 hq => gone_ok (S6.unsuite ok) hN hi hln hq
          cases f with
          | next =>
            obtain ⟨σ6, H6, S6, q6⟩ := hsp
            exact end_ S6 fun s7 J7 => ⟨_, _, J7, q6⟩
          | brk =>
            obtain ⟨σ6, H6, S6, q6⟩ := hsp
            exact end_ S6 fun s7 J7 => ⟨_, _, J7, q6⟩
          | cont =>
            obtain ⟨σ6, H6, S6, q6⟩ := hsp
            exact end_ S6 fun s7 J7 => ⟨_, _, J7, q6⟩
          | ret u =>
            obtain ⟨v6, σ6, H6, S6, r6, q6⟩ := hsp
            exact end_ S6 fun s7 J7 => ⟨_, _, _, J7, r6, q6⟩
        | false =>
          show wpAny _ X.A (handleBy (.ref a) X.env hds2) _ _ _
          exact ih (hno rfl)
    exact go hh w
  · cases f with
    | next =>
      obtain ⟨σ', H', J', q⟩ := hsp
      exact wpAny_execs_nil ⟨σ', H', J'.ofTry ok, q⟩
    | brk =>
      obtain ⟨σ', H', J', q⟩ := hsp
      exact ⟨σ', H', J'.ofTry ok, q⟩
    | cont =>
      obtain ⟨σ', H', J', q⟩ := hsp
      exact ⟨σ', H', J'.ofTry ok, q⟩
    | ret u =>
      obtain ⟨v, σ', H', J', r, q⟩ := hsp
      exact ⟨v, σ', H', J'.ofTry ok, r, q⟩
end
end DL

/-! DM13: raise C(..); own exceptions; suites; try. -/
namespace DL
open PySem L2 PySem.Spec PyProof.Rows

/-! ### what an own __init__ keeps -/
def spI (K : PySem.W.Frag) (C : Addr) (fs : List Str) : Sp := fun vs H Q _ => ∃ (a : Addr) (ys : List V), vs = .ref a :: ys ∧ ys.length = fs.length ∧ H a = some (exo a C none) ∧
  ∀ (H' : Hp) (dx : Addr), H dx = none → dx ≠ a → H' a = some (exo a C (some dx)) → H' dx = some (exd dx (fs.zip ys).reverse) → (∀ b, b ≠ a → b ≠ dx → H' b = H b) → Q .non H'
theorem spI_len {K : PySem.W.Frag} {C : Addr} {fs : List Str} {vs : List V} {H : Hp} {Q : VK} {E : XK} (h : spI K C fs vs H Q E) : vs.length = fs.length + 1 := by
  obtain ⟨a, ys, rfl, hl, _⟩ := h
  rw [List.length_cons, hl]
section
variable {K : PySem.W.Frag} {C : Addr} {N : List Str} {H : Hp} {Q : VK} {E : XK} {vs : List V}
theorem ini1 {f : Str} (T : OexC K C) (hno : PySem.W.findIn K (.ref C) f = some none) (h : spI K C [f] vs H Q E) :
    tSeq (tDrop (tVeI K (tCons (tVar 0) tNil))) (tOst K f (tVar 0) (tVar 1)) { nx := fun _ H' => Q .non H', rt := Q } (L2.start [("self" : Str), f] vs) H := by
  obtain ⟨a, ys, rfl, hl, ha, k⟩ := h
  match ys, hl with
  | [y], _ =>
    refine ⟨_, rfl, a, C, [], rfl, by decide, T, ha, y, rfl, _, rfl, a, C, rfl, T, hno, .inl ⟨ha, fun dx hd hne => ?_⟩⟩
    exact k _ dx hd hne upd_same (by rw [upd_ne hne]; exact upd_same) fun b hb hb2 => by rw [upd_ne hb, upd_ne hb2]
theorem ini2 {f g : Str} (T : OexC K C) (hno : PySem.W.findIn K (.ref C) f = some none) (hno2 : PySem.W.findIn K (.ref C) g = some none) (h : spI K C [f, g] vs H Q E) :
    tSeq (tDrop (tVeI K (tCons (tVar 0) tNil))) (tSeq (tOst K f (tVar 0) (tVar 1)) (tOst K g (tVar 0) (tVar 2))) { nx := fun _ H' => Q .non H', rt := Q } (L2.start [("self" : Str), f, g] vs) H := by
  obtain ⟨a, ys, rfl, hl, ha, k⟩ := h
  match ys, hl with
  | [y, z], _ =>
    refine ⟨_, rfl, a, C, [], rfl, by decide, T, ha, y, rfl, _, rfl, a, C, rfl, T, hno, .inl ⟨ha, fun dx hd hne => ?_⟩⟩
    refine ⟨z, rfl, _, rfl, a, C, rfl, T, hno2, .inr ⟨dx, _, upd_same, by rw [upd_ne hne]; exact upd_same, by simp, ?_⟩⟩
    exact k _ dx hd hne (by rw [upd_ne fun z => hne z.symm]; exact upd_same) upd_same fun b hb hb2 => by rw [upd_ne hb2, upd_ne hb, upd_ne hb2]
end
/-- what the text says of an own exception class with fields fs -/
structure ExT (K : PySem.W.Frag) (mg : Str → Option Value) (x : Str) (fs : List Str) : Prop where
  ex : ∃ (C fI : Addr) (fd : FuncData), mg x = some (.ref C) ∧ OexC K C ∧ PySem.W.findIn K (.ref C) "__init__" = some (some (.ref fI)) ∧ PySem.W.typeIn K (.ref fI) = some (.type "function") ∧
    (∀ (P : Program) (w : World) (base : Heap), FnOk P w K mg base (L2.CX P w) 1 fI fd ("self" :: fs) (spI K C fs)) ∧ Binds K fd ("self" :: fs) [] ∧ XfC K C ∧ ∀ f ∈ fs, PySem.W.findIn K (.ref C) f = some none

/-! ### raise -/
def raiseX (x : Str) (fs : List Str) (a : MA) : MX := fun sg h => match a sg h with
  | some (ds, h1) => if ds.length = fs.length ∧ fs.length ≤ 1000 then some (⟨x, (fs.zip ds).reverse⟩, sg, h1) else none
  | none => none
def tRaise (K : Kw) (mg : Str → Option Value) (x : Str) (fs : List Str) (W : WX) (ta : TA) : TS := fun _ σ H => ∀ C, mg x = some (.ref C) → tMkO C (spI K C fs) [] ta σ H fun cls d H' => W cls d σ H'
theorem zip_rev {α β : Type} : ∀ {as : List α} {bs : List β}, as.length = bs.length → (as.zip bs).reverse = as.reverse.zip bs.reverse
  | [], [], _ => rfl
  | a :: as, b :: bs, h => by
    have h' : as.length = bs.length := by simpa using h
    rw [List.zip_cons_cons, List.reverse_cons, zip_rev h', List.reverse_cons, List.reverse_cons, List.zip_append (by simp [h'])]
    rfl
theorem le_xd {K : Kw} {H : Hp} {μ : List Addr} {p : Addr} {o : HO} (hp : H p = none) : Le K H μ (upd H p o) μ := le_new hp
section
variable {K : Kw} {mg : Str → Option Value} {X : Cx} {W : WX} {x : Str} {fs : List Str} {e : Expr} {es : List Expr} {ta : TA} {ma : MA} {p pos pos' : Pos} {k : Nat}
theorem dsx_raise (T : ExT K.f mg x fs) (hr : RoomG (k + 2) X.A) (ha : DA K X (e :: es) ta ma) (hmg : X.mg = mg := by rfl) (hc : X.calm = true := by rfl) (hg : Gl X x := by rfl) (hdb : (x == ("__debug__" : Str)) = false := by decide)
    (he : starEach (e :: es) X.env = (false, eval e X.env) :: starEach es X.env := by rfl) (hpl : (backTo pos (starEach es X.env)).any (·.1) = false := by rfl) :
    DSX K mg X W (.Raise (some (.Call (.Name x p) (e :: es) [] pos)) none pos') (tRaise K mg x fs W ta) neverM (raiseX x fs ma) := ⟨ha.k, fun tk _ => by
  have hk := ha.k
  subst hk
  subst hmg
  obtain ⟨C, fI, fd, hm, oC, iC, tI, F1, hb, _, _⟩ := T.ex
  exact ⟨fun pins s σ H D I q => (ps_raise hc tk (pmk_oex oC iC tI (F1 _ _ _) (hr.r.mono (by omega)) hb .nil passL hg hm ha.p hdb he hpl)).run pins s σ H D I (q C hm)⟩,
  fun {Φ} σ H μ sg h f h' S rs e E k => (by cases e), by
  intro Φ σ H μ sg h xn sg' h' S rs e kk E C hC
  unfold raiseX at e
  split at e
  · rename_i ds h1 e1
    split at e
    · rename_i hl
      cases e
      refine ha.s σ H μ sg h ds _ S rs e1 _ fun vs H1 μ1 S1 l1 r1 => ⟨by rw [r1.len, hl.1]; exact hl.2, fun a hna => ?_⟩
      refine ⟨a, vs, by rw [List.append_nil], by rw [r1.len, hl.1], upd_same, fun H' dx hd hne ea ed kp => ⟨rfl, dx, _, ea, ed, ?_, ?_⟩⟩
      · rw [upd_ne hne] at hd; exact hd
      · rw [upd_ne hne] at hd
        have eH : upd (del H' a) dx (.xd (fs.zip vs).reverse) = upd H1 dx (.xd (fs.zip vs).reverse) := by
          funext b
          by_cases hb : b = dx
          · rw [hb, upd_same, upd_same]
          · rw [upd_ne hb, upd_ne hb]
            by_cases hba : b = a
            · rw [hba, del_same, hna]
            · rw [del_ne hba, kp b hba hb, upd_ne hba]
        rw [eH]
        have l2 : Le K H1 μ1 (upd H1 dx (.xd (fs.zip vs).reverse)) μ1 := le_xd hd
        refine kk σ _ μ1 _ _ (S1.new hd) (l1.trans l2) (rs.mono (l1.trans l2)) ⟨C, dx, vs.reverse, hC, rfl, rfl, ?_, ?_⟩
        · rw [upd_same]
          congr 2
          show _ = (((fs.zip ds).reverse).map (·.1)).zip vs.reverse
          rw [List.map_reverse, List.map_fst_zip (by omega), zip_rev (by rw [r1.len, hl.1])]
        · show Rps K _ μ1 (((fs.zip ds).reverse).map (·.2)) vs.reverse
          rw [List.map_reverse, List.map_snd_zip (by omega)]
          exact (Rps.mono l2 _ _ r1).rev
    · cases e
  · cases e⟩
end

/-! ### what stands in a suite -/
structure Hx (K : Kw) (mg : Str → Option Value) (H : Hp) (μ : List Addr) (σ : L2.St) (sl : Option Nat) (a : Addr) (xn : Xn) (cls : Value) (d : Option Addr) : Prop where
  r : RX K mg H μ xn cls d
  s : ∀ i, sl = some i → σ[i]? = some (some (.ref a))
theorem Hx.mono {K : Kw} {mg : Str → Option Value} {H H' : Hp} {μ μ' : List Addr} {σ : L2.St} {sl : Option Nat} {a : Addr} {xn : Xn} {cls : Value} {d : Option Addr} (l : Le K H μ H' μ') (x : Hx K mg H μ σ sl a xn cls d) : Hx K mg H' μ' σ sl a xn cls d := ⟨x.r.mono l, x.s⟩
def SEh (K : Kw) (mg : Str → Option Value) (sl : Option Nat) (a : Addr) (xn : Xn) (cls : Value) (d : Option Addr) (t : TE) (m : ME) : Prop :=
  ∀ {Φ : Hp} (σ : L2.St) (H : Hp) (μ : List Addr) (sg : Sg) (h : Hd) (y : D) (h' : Hd), Sm Φ K H μ h → Rs K H μ sg σ → Hx K mg H μ σ sl a xn cls d → m sg h = some (y, h') → ∀ Q : VK, Kn Φ K H μ h' y Q → t σ H Q
def SAh (K : Kw) (mg : Str → Option Value) (sl : Option Nat) (a : Addr) (xn : Xn) (cls : Value) (d : Option Addr) (t : TA) (m : MA) : Prop :=
  ∀ {Φ : Hp} (σ : L2.St) (H : Hp) (μ : List Addr) (sg : Sg) (h : Hd) (ys : List D) (h' : Hd), Sm Φ K H μ h → Rs K H μ sg σ → Hx K mg H μ σ sl a xn cls d → m sg h = some (ys, h') → ∀ Q : List V → Hp → Prop,
    (∀ (vs : List V) (H' : Hp) (μ' : List Addr), Sm Φ K H' μ' h' → Le K H μ H' μ' → Rps K H' μ' ys vs → Q vs H') → t σ H Q
structure DEh (K : Kw) (mg : Str → Option Value) (X : Cx) (sl : Option Nat) (a : Addr) (xn : Xn) (cls : Value) (d : Option Addr) (e : Expr) (t : TE) (m : ME) : Prop where
  k : KOf X = K
  p : PE X e t
  s : SEh K mg sl a xn cls d t m
structure DAh (K : Kw) (mg : Str → Option Value) (X : Cx) (sl : Option Nat) (a : Addr) (xn : Xn) (cls : Value) (d : Option Addr) (e : List Expr) (t : TA) (m : MA) : Prop where
  k : KOf X = K
  p : PA X e t
  s : SAh K mg sl a xn cls d t m
section
variable {K : Kw} {mg : Str → Option Value} {X : Cx} {sl : Option Nat} {a : Addr} {xn : Xn} {cls : Value} {d : Option Addr} {e e1 e2 : Expr} {es : List Expr} {t u : TE} {m n : ME} {ta : TA} {ma : MA} {pos : Pos}
theorem deh_of (x : DE K X e t m) : DEh K mg X sl a xn cls d e t m := ⟨x.k, x.p, fun {Φ} σ H μ sg h y h' S rs _ q Q k => x.s σ H μ sg h y h' S rs q Q k⟩
theorem dah_nil (hK : KOf X = K := by rfl) : DAh K mg X sl a xn cls d [] tNil nilM := ⟨hK, pa_nil, fun {Φ} σ H μ sg h y h' S rs _ q Q k => (da_nil (X := X) hK).s σ H μ sg h y h' S rs q Q k⟩
theorem dah_cons (ha : DEh K mg X sl a xn cls d e t m) (hb : DAh K mg X sl a xn cls d es ta ma) (hs : starEach (e :: es) X.env = (false, eval e X.env) :: starEach es X.env := by rfl) : DAh K mg X sl a xn cls d (e :: es) (tCons t ta) (consM m ma) := ⟨ha.k, pa_cons ha.p hb.p hs, by
  intro Φ σ H μ sg h ds h' S rs hx e Q k
  unfold consM at e
  split at e
  · rename_i x h1 e1
    split at e
    · rename_i xs h2 e2
      cases e
      refine ha.s σ H μ sg h x h1 S rs hx e1 _ fun v H1 μ1 S1 l1 r1 => ?_
      refine hb.s σ H1 μ1 sg h1 xs _ S1 (rs.mono l1) (hx.mono l1) e2 _ fun vs H2 μ2 S2 l2 r2 => ?_
      exact k _ H2 μ2 S2 (l1.trans l2) (Rps.cons (Rp.mono l2 _ _ r1) r2)
    · cases e
  · cases e⟩
theorem deh_tup {x1} (ha : DAh K mg X sl a xn cls d es ta ma) : DEh K mg X sl a xn cls d (.Tuple es x1 pos) (tTup ta) (tupM ma) := ⟨ha.k, pe_tup ha.p, by
  intro Φ σ H μ sg h y h' S rs hx e Q k
  unfold tupM at e
  split at e
  · rename_i xs h1 e1
    split at e
    · rename_i hz
      cases e
      refine ha.s σ H μ sg h xs _ S rs hx e1 _ fun vs H1 μ1 S1 l1 r1 => ⟨by rw [r1.len]; exact ln_of hz, fun p hp => kn_tup S1 r1 (fun v H2 μ2 S2 l2 r2 => k v H2 μ2 S2 (l1.trans l2) r2) p hp⟩
    · cases e
  · cases e⟩
theorem seh_op {r : R2} {g : G2} (hs : SO K r g) (ha : SEh K mg sl a xn cls d t m) (hb : SEh K mg sl a xn cls d u n) : SEh K mg sl a xn cls d (tOp r t u) (opM g m n) := by
  intro Φ σ H μ sg h y h' S rs hx e Q k
  unfold opM at e
  split at e
  · rename_i x h1 e1
    split at e
    · rename_i z h2 e2
      refine ha σ H μ sg h x h1 S rs hx e1 _ fun v H1 μ1 S1 l1 r1 => ?_
      refine hb σ H1 μ1 sg h1 z h2 S1 (rs.mono l1) (hx.mono l1) e2 _ fun w H2 μ2 S2 l2 r2 => ?_
      exact hs H2 μ2 h2 x z v w y h' S2 (Rp.mono l2 _ _ r1) r2 e Q fun u H3 μ3 S3 l3 r3 => k u H3 μ3 S3 ((l1.trans l2).trans l3) r3
    · cases e
  · cases e
theorem deh_cmp {op : CmpOp} {r : R2} {g : G2} (hs : SO K r g) (ho : OpR X (compareOp op) r) (ha : DEh K mg X sl a xn cls d e1 t m) (hb : DEh K mg X sl a xn cls d e2 u n) (hm : lastMarks [op] [e2] = false := by with_unfolding_all rfl) : DEh K mg X sl a xn cls d (.Compare e1 [op] [e2] pos) (tOp r t u) (opM g m n) :=
  ⟨ha.k, pe_cmpR ho ha.p hb.p hm, seh_op hs ha.s hb.s⟩
theorem deh_one {op : BoolOp} (ha : DEh K mg X sl a xn cls d e t m) : DEh K mg X sl a xn cls d (.BoolOp op [e] pos) t m := ⟨ha.k, pe_one ha.p, ha.s⟩
theorem deh_and {rest : List Expr} (ha : DEh K mg X sl a xn cls d e1 t m) (hb : DEh K mg X sl a xn cls d (.BoolOp .And (e2 :: rest) pos) u n) : DEh K mg X sl a xn cls d (.BoolOp .And (e1 :: e2 :: rest) pos) (tAndT K t u) (DL.andM m n) := ⟨ha.k, by
  have hk := ha.k
  subst hk
  exact pe_andT ha.p hb.p, by
  intro Φ σ H μ sg h y h' S rs hx e Q k
  unfold DL.andM at e
  split at e
  · rename_i x h1 e1
    refine ha.s σ H μ sg h x h1 S rs hx e1 _ fun v H1 μ1 S1 l1 r1 => ?_
    split at e
    · rename_i et
      exact ⟨true, tru_of S1 r1 et, iteT (hb.s σ H1 μ1 sg h1 y h' S1 (rs.mono l1) (hx.mono l1) e Q fun u H2 μ2 S2 l2 r2 => k u H2 μ2 S2 (l1.trans l2) r2)⟩
    · rename_i et
      cases e
      exact ⟨false, tru_of S1 r1 et, iteF (k v H1 μ1 S1 l1 r1)⟩
    · cases e
  · cases e⟩
end
/-! ### e.f -/
abbrev XTab := List (Str × List Str)
def ExTab (K : PySem.W.Frag) (mg : Str → Option Value) (T : XTab) : Prop := ∀ p ∈ T, ExT K mg p.1 p.2
def fldX (T : XTab) (xn : Xn) (f : Str) : ME := fun _ h => if (T.any fun p => decide (p.1 = xn.cls) && p.2.contains f) = true then match xn.fs.lookup f with
  | some d => some (d, h)
  | none => none else none
theorem lookup_zip {K : Kw} {H : Hp} {μ : List Addr} {f : Str} {d : D} : ∀ {fs : List (Str × D)} {vs : List V}, fs.lookup f = some d → Rps K H μ (fs.map (·.2)) vs → ∃ v, ((fs.map (·.1)).zip vs).lookup f = some v ∧ Rp K H μ d v
  | [], vs, e, r => by cases e
  | (g, y) :: fs, vs, e, r => by
    obtain ⟨v, vs', rfl, r1, r2⟩ := r.cons'
    by_cases hb : (f == g) = true
    · rw [List.lookup_cons, hb] at e
      cases e
      exact ⟨v, by rw [List.map_cons, List.zip_cons_cons, List.lookup_cons, hb], r1⟩
    · have hb' : (f == g) = false := by simpa using hb
      rw [List.lookup_cons, hb'] at e
      obtain ⟨w, q1, q2⟩ := lookup_zip e r2
      exact ⟨w, by rw [List.map_cons, List.zip_cons_cons, List.lookup_cons, hb']; exact q1, q2⟩
def tFld (K : Kw) (a : Addr) (cls : Value) (d : Option Addr) (f : Str) (te : TE) : TE := fun σ H Q => ∃ C, cls = .ref C ∧ XfC K C ∧ PySem.W.findIn K (.ref C) f = some none ∧ tXf a cls d C f te σ H Q
section
variable {K : Kw} {mg : Str → Option Value} {X : Cx} {i : Nat} {a : Addr} {oe : Obj} {xn : Xn} {cls : Value} {d : Option Addr} {pn : List (Addr × Obj)} {f n : Str} {p pos : Pos} {T : XTab}
theorem deh_fld (i : Nat) (tb : ExTab K mg T) (hz : Zc cls d oe) (hf : ∃ vs, oe.data = .fields vs) (hN : X.N[i]? = some n := by rfl) (hV : Vis X.env.scope n := by exact .inl rfl) (hK : KOf X = K := by rfl) (hd : (n == ("__debug__" : Str)) = false := by decide) (hcd : (n == ("__classdict__" : Str)) = false := by decide)
    (hb : attributeBase (.Name n p) f X.env (eval (.Name n p) X.env) = eval (.Name n p) X.env := by rfl) :
    DEh K mg (X.suite a ((a, oe) :: pn)) (some i) a xn cls d (.Attribute (.Name n p) f pos) (tFld K a cls d f (tVar i)) (fldX T xn f) := ⟨hK, by
  have hk := hK
  subst hk
  exact ⟨fun pins s σ H Q I ⟨C, ec, xc, hno, q⟩ => (pe_xf xc hno hz hf (pe_var (X := X.suite a ((a, oe) :: pn)) hN hV (hd := hd) (hcd := hcd)) hb).run pins s σ H Q I q⟩, by
  intro Φ σ H μ sg h y h' S rs hx e Q k
  unfold fldX at e
  split at e
  · rename_i hin
    split at e
    · rename_i dd q
      cases e
      obtain ⟨C, dx, vs, h1, h2, h3, h4, h5⟩ := hx.r
      obtain ⟨v, q1, q2⟩ := lookup_zip q h5
      obtain ⟨pr, hpr, hc⟩ := List.any_eq_true.mp hin
      obtain ⟨c1, c2⟩ := Bool.and_eq_true_iff.mp hc
      obtain ⟨C', fI, fd, m1, _, _, _, _, _, xc, hno⟩ := (tb pr hpr).ex
      rw [of_decide_eq_true c1, h1] at m1
      cases m1
      exact ⟨C, h2, xc, hno f (by simpa using c2), .ref a, hx.s i rfl, rfl, h2, dx, _, v, h3, h4, q1, k v H μ S Le.refl q2⟩
    · cases e
  · cases e⟩
end
end DL

/-! DM14: repr; suites with built-ins; try. -/
namespace DL
open PySem L2 PySem.Spec PyProof.Rows

/-! ### repr -/
def rRepr (K : Kw) : List V → Hp → VK → Prop := fun vs H Q => ∃ (v : V), vs = [v] ∧
  ((∃ d, Dp K H v d ∧ d.showable = true ∧ d.hasDict = false ∧ d.depth ≤ 64 ∧ d.shown.length ≤ sizeLine ∧ Q (.str d.shown) H) ∨
    ∃ a, v = .ref a ∧ H a = some (.dK []) ∧ Q (.str (PyData.dict []).shown) H)
section
variable {K : Kw} {X : Cx}
theorem call_reprU (hg : X.A.guards = some []) (hu : X.A.units + 100 < cLine) (hK : KOf X = K := by rfl) : CallR X (.builtin "repr") (rRepr K) := by
  subst hK
  intro pins s σ H xs us Q I r h
  obtain ⟨v, rfl, ⟨d, hd, hs, hn, hdp, hl, q⟩ | ⟨a, rfl, ha, q⟩⟩ := h
  · obtain ⟨u, rfl, r1⟩ := vals1 r
    obtain ⟨as, rd⟩ := Dp.reads I d v u hd r1
    cases rd with
    | none => exact PySem.P.repr_of_none ⟨.str _, H, I.tok _, ⟨_, rfl⟩, q⟩
    | bool b => exact PySem.P.repr_of_bool ⟨.str _, H, I.tok _, ⟨_, rfl⟩, q⟩
    | int i t => exact PySem.P.repr_of_int (by simpa [PyData.showable] using hs) ⟨.str _, H, I.tok _, ⟨_, rfl⟩, q⟩
    | str x t => exact PySem.P.repr_of_str ⟨.str _, H, I.tok _, ⟨_, rfl⟩, q⟩ (by simpa [PyData.shown] using hl)
    | list h1 h2 h3 h4 => exact repr_of_reads' (.list h1 h2 h3 h4) hs (fun z => by rw [hn] at z; cases z) hg (by omega) (fun _ _ z => z) (fun h' u tk kp => ⟨.str _, H, I.kept (t' := tk) kp, ⟨_, rfl⟩, q⟩) hl
    | tuple h1 h2 h3 h4 => exact repr_of_reads' (.tuple h1 h2 h3 h4) hs (fun z => by rw [hn] at z; cases z) hg (by omega) (fun _ _ z => z) (fun h' u tk kp => ⟨.str _, H, I.kept (t' := tk) kp, ⟨_, rfl⟩, q⟩) hl
    | dict h1 h2 h3 h4 h5 => simp [PyData.hasDict] at hn
  · obtain ⟨u, rfl, r1⟩ := vals1 r
    obtain rfl : u = Value.ref a := r1
    obtain ⟨_, hm, vs, kv, o, es, ep, ho, hx, hdt, _, hp, _⟩ := I.hok a _ ha
    have e0 : vs = [] := by cases kv; rfl
    subst e0
    have e1 : es.toList = [] := by
      generalize es.toList = l at hp ⊢
      cases hp
      rfl
    have rd : Reads s.heap (.ref a) (.dict []) (a :: [] ++ []) := .dict (n := ep) ho hx.1 hdt (by rw [e1]; exact .nil) (by rw [e1]; exact .nil)
    have hdp : PyData.depth (.dict []) ≤ 2 := by decide
    refine repr_of_reads' rd rfl (fun _ hm' => ?_) hg (by omega) (fun _ _ z => z) (fun h' u tk kp => ⟨.str _, H, I.kept (t' := tk) kp, ⟨_, rfl⟩, q⟩) (by rw [sizeLine_eq]; decide +kernel)
    have : sysModules = a := by simpa using hm'
    rw [← this] at hm
    simp at hm
def reprD : GC := fun xs h => match xs with
  | [x] => match datD h x with
    | some p => if p.showable = true ∧ p.hasDict = false ∧ p.depth ≤ 64 ∧ p.shown.length ≤ LN then some (.str p.shown, h) else none
    | none => match x with
      | .at n => match h[n]? with
        | some (.dct []) => some (.str (PyData.dict []).shown, h)
        | _ => none
      | _ => none
  | _ => none
theorem sc_repr : SC K (rRepr K) reprD := by
  intro Φ H μ h xs vs d h' S r e Q k
  unfold reprD at e
  split at e
  · obtain ⟨v, rfl, r1⟩ := rps1 r
    split at e
    · rename_i p q
      split at e
      · rename_i hc
        cases e
        exact ⟨v, rfl, .inl ⟨p, dat_of S r1 q, hc.1, hc.2.1, hc.2.2.1, ln_of hc.2.2.2, k _ H μ S Le.refl rp_str⟩⟩
      · cases e
    · split at e
      · split at e
        · rename_i q
          cases e
          obtain ⟨a, ea, rfl⟩ := rp_at' r1
          obtain ⟨kw, hk, rk⟩ := S.dct q ea
          rw [rk.nil'] at hk
          exact ⟨_, rfl, .inr ⟨a, rfl, hk, k _ H μ S Le.refl rp_str⟩⟩
        · cases e
      · cases e
  · cases e
end

/-! ### built-ins in a suite -/
section
variable {K : Kw} {mg : Str → Option Value} {X : Cx} {sl : Option Nat} {a : Addr} {xn : Xn} {cls : Value} {d : Option Addr} {e : Expr} {es : List Expr} {t u : TE} {m n : ME} {ta : TA} {ma : MA} {pos p : Pos} {r : List V → Hp → VK → Prop} {g : GC}
theorem deh_callB {x : Str} {id : String} (hs : SC K r g) (hc : CallR X (.builtin id) r) (hm : X.mg x = none) (ha : DAh K mg X sl a xn cls d (e :: es) ta ma) (hv : bootBuiltins x = some (.builtin id) := by decide +kernel) (hg : Gl X x := by rfl) (hn : x ≠ "__name__" := by decide) (hdb : (x == ("__debug__" : Str)) = false := by decide)
    (he : starEach (e :: es) X.env = (false, eval e X.env) :: starEach es X.env := by rfl) (hpl : (backTo pos (starEach es X.env)).any (·.1) = false := by rfl) : DEh K mg X sl a xn cls d (.Call (.Name x p) (e :: es) [] pos) (tCB r ta) (cbM g ma) := ⟨ha.k, pe_callB hc hg hm hv ha.p hn hdb he hpl, by
  intro Φ σ H μ sg h y h' S rs hx e Q k
  unfold cbM at e
  split at e
  · rename_i xs h1 e1
    exact ha.s σ H μ sg h xs h1 S rs hx e1 _ fun vs H1 μ1 S1 l1 r1 => hs H1 μ1 h1 xs vs y h' S1 r1 e Q fun v H2 μ2 S2 l2 r2 => k v H2 μ2 S2 (l1.trans l2) r2
  · cases e⟩
end

/-! ### try -/
structure Hn where
  cls : Str
  sl : Option Nat
  to : Option Nat
  me : Xn → ME
def setI (i : Option Nat) (sg : Sg) (d : Option D) : Sg := match i with
  | some i => sg.set i d
  | none => sg
def okI (i : Option Nat) (sg : Sg) : Bool := match i with
  | some i => decide (i < sg.length)
  | none => true
def handM (q : Hn) (xn : Xn) (sg : Sg) (h : Hd) : Option (Fl × Hd) := if okI q.sl sg = true then match q.me xn (setI q.sl sg none) h with
  | some (d, h2) => match q.to with
    | none => some (.rt d, h2)
    | some j => some (.nx (setI q.sl ((setI q.sl sg none).set j (some d)) none), h2)
  | none => none else none
def handsM (sub : Str → Str → Bool) : List Hn → Xn → Sg → Hd → Option (Fl × Hd)
  | [], _, _, _ => none
  | q :: r, xn, sg, h => if sub xn.cls q.cls = true then handM q xn sg h else handsM sub r xn sg h
def handsX (sub : Str → Str → Bool) : List Hn → Xn → Bool
  | [], _ => true
  | q :: r, xn => if sub xn.cls q.cls = true then false else handsX sub r xn
def tryM (sub : Str → Str → Bool) (L : List Str) (hs : List Hn) (m : MS) (x : MX) : MS := fun sg h => match x sg h with
  | some (xn, sg1, h1) => if L.contains xn.cls = true then handsM sub hs xn sg1 h1 else none
  | none => m sg h
def tryX (sub : Str → Str → Bool) (L : List Str) (hs : List Hn) (x : MX) : MX := fun sg h => match x sg h with
  | some (xn, sg1, h1) => if L.contains xn.cls = true ∧ handsX sub hs xn = true then some (xn, sg1, h1) else none
  | none => none
theorem rs_putI {K : Kw} {H : Hp} {μ : List Addr} {sg : Sg} {σ : L2.St} (i : Option Nat) (o : Option V) (r : Rs K H μ sg σ) : Rs K H μ (setI i sg none) (putI i σ o) := by
  cases i with
  | none => exact r
  | some i =>
    refine ⟨by show (List.set _ _ _).length = (List.set _ _ _).length; rw [List.length_set, List.length_set, r.1], fun j e q => ?_⟩
    show ∃ v, (List.set σ i o)[j]? = _ ∧ _
    have q' : (List.set sg i none)[j]? = some (some e) := q
    by_cases hj : j = i
    · subst hj
      rw [List.getElem?_set] at q'
      simp at q'
    · rw [List.getElem?_set_ne (fun z => hj z.symm)] at q' ⊢
      exact r.2 j e q'
/-- one suite: return e, or n = e -/
def toS (to : Option Nat) (te : TE) : TS := match to with
  | none => tRet te
  | some j => tAsg te (gName j)
structure HnD (K : Kw) (mg : Str → Option Value) (sub : Str → Str → Bool) (L : List Str) (q : Hn) (r : Hs) (te : Addr → Value → Option Addr → TE) : Prop where
  c : ∃ C, mg q.cls = some (.ref C) ∧ r.c = .ref C ∧ ∀ x ∈ L, ∀ Cx, mg x = some (.ref Cx) → PySem.W.exmOne K (.ref Cx) (.ref C) = some (sub x q.cls)
  i : r.i = q.sl
  t : ∀ a cls d, r.ts a cls d = toS q.to (te a cls d)
  s : ∀ a xn cls d, SEh K mg q.sl a xn cls d (te a cls d) (q.me xn)
inductive HnDs (K : Kw) (mg : Str → Option Value) (sub : Str → Str → Bool) (L : List Str) : List Hn → List Hs → Prop
  | nil : HnDs K mg sub L [] []
  | cons {q : Hn} {r : Hs} {te : Addr → Value → Option Addr → TE} {qs : List Hn} {rs : List Hs} : HnD K mg sub L q r te → HnDs K mg sub L qs rs → HnDs K mg sub L (q :: qs) (r :: rs)
section
variable {K : Kw} {mg : Str → Option Value} {sub : Str → Str → Bool} {L : List Str} {W : WX} {Φ : Hp}
theorem hands_ok {qs : List Hn} {rs : List Hs} (hd : HnDs K mg sub L qs rs) {H : Hp} {μ : List Addr} {sg : Sg} {h : Hd} {σ : L2.St} {xn : Xn} {cls : Value} {d : Option Addr} {f : Fl} {h' : Hd} {E : Ends} (S : Sm Φ K H μ h) (rsg : Rs K H μ sg σ)
    (hx : RX K mg H μ xn cls d) (hL : xn.cls ∈ L) (e : handsM sub qs xn sg h = some (f, h')) (k : Ek Φ K H μ h' f E) : wHs K W E rs cls d σ H := by
  induction hd with
  | nil => cases e
  | @cons q r te qs rs hq _ ih =>
    obtain ⟨C, hC, hr, hsub⟩ := hq.c
    obtain ⟨Cx, dx, vs, h1, h2, h3, h4, h5⟩ := id hx
    refine ⟨sub xn.cls q.cls, by rw [hr, h2]; exact hsub _ hL Cx h1, fun hb a na => ?_, fun hb => ?_⟩
    · unfold handsM at e
      rw [if_pos hb] at e
      unfold handM at e
      rw [hq.t, hq.i]
      split at e
      · rename_i hok
        have hsl : ∀ i, q.sl = some i → i < σ.length := fun i hi => by
          rw [hi] at hok
          rw [← rsg.1]
          exact of_decide_eq_true hok
        split at e
        · rename_i y h2' e1
          have hxx : Hx K mg H μ (putI q.sl σ (some (.ref a))) q.sl a xn cls d := ⟨hx, fun i hi => by
            rw [hi]
            show (List.set σ i _)[i]? = _
            rw [List.getElem?_set_self (hsl i hi)]⟩
          have rs1 : Rs K H μ (setI q.sl sg none) (putI q.sl σ (some (.ref a))) := rs_putI _ _ rsg
          unfold toS
          split at e
          · rename_i hto
            cases e
            rw [hto]
            exact hq.s a xn cls d _ H μ _ h _ _ S rs1 hxx e1 _ fun v H1 μ1 S1 l1 r1 => k v H1 μ1 S1 l1 r1
          · rename_i j hto
            cases e
            rw [hto]
            exact hq.s a xn cls d _ H μ _ h _ _ S rs1 hxx e1 _ fun v H1 μ1 S1 l1 r1 => k _ H1 μ1 S1 l1 (rs_putI q.sl none ((rs1.mono l1).put j r1))
        · cases e
      · cases e
    · unfold handsM at e
      rw [if_neg (by rw [hb]; exact Bool.false_ne_true)] at e
      exact ih e
end
section
variable {K : Kw} {mg : Str → Option Value} {sub : Str → Str → Bool} {L : List Str} {W : WX} {Φ : Hp}
theorem handsX_ok {qs : List Hn} {rs : List Hs} (hd : HnDs K mg sub L qs rs) {H : Hp} {μ : List Addr} {σ : L2.St} {xn : Xn} {cls : Value} {d : Option Addr} {E : Ends}
    (hx : RX K mg H μ xn cls d) (hL : xn.cls ∈ L) (e : handsX sub qs xn = true) (k : W cls d σ H) : wHs K W E rs cls d σ H := by
  induction hd with
  | nil => exact k
  | @cons q r te qs rs hq _ ih =>
    obtain ⟨C, hC, hr, hsub⟩ := hq.c
    obtain ⟨Cx, dx, vs, h1, h2, h3, h4, h5⟩ := id hx
    refine ⟨sub xn.cls q.cls, by rw [hr, h2]; exact hsub _ hL Cx h1, fun hb a na => ?_, fun hb => ?_⟩
    · unfold handsX at e
      rw [if_pos hb] at e
      cases e
    · unfold handsX at e
      rw [if_neg (by rw [hb]; exact Bool.false_ne_true)] at e
      exact ih e
theorem Ek.le' {K : Kw} {H H1 : Hp} {μ μ1 : List Addr} {h' : Hd} {f : Fl} {E : Ends} (k : Ek Φ K H μ h' f E) (l : Le K H μ H1 μ1) : Ek Φ K H1 μ1 h' f E := k.le l
end
section
variable {K : Kw} {mg : Str → Option Value} {X : Cx} {W : WX} {sub : Str → Str → Bool} {L : List Str} {body : List Stmt} {h₀ : ExceptHandler} {hds : List ExceptHandler} {qs : List Hn} {l : List Hs} {pos : Pos} {tb : WX → TS} {m : MS} {x : MX}
/-- what the text says of a clause -/
inductive HnOk (K : Kw) (mg : Str → Option Value) (X : Cx) (sub : Str → Str → Bool) (L : List Str) : List ExceptHandler → List Hn → List Hs → Prop
  | nil : HnOk K mg X sub L [] [] []
  | ret {x : Str} {C : Addr} {np pos' p : Pos} {e : Expr} {te : Addr → Value → Option Addr → TE} {me : Xn → ME} {hds : List ExceptHandler} {qs : List Hn} {l : List Hs} (hm : mg x = some (.ref C)) (hg : Gl X x) (hdb : (x == ("__debug__" : Str)) = false)
      (hx : ∀ r ∈ L, ∀ Cx, mg r = some (.ref Cx) → PySem.W.exmOne K (.ref Cx) (.ref C) = some (sub r x))
      (hsu : ∀ (a : Addr) (oe : Obj) (cls : Value) (d : Option Addr) (pn : List (Addr × Obj)) (xn : Xn), Zc cls d oe → (∃ vs, oe.data = .fields vs) → DEh K mg (X.suite a ((a, oe) :: pn)) none a xn cls d e (te a cls d) (me xn))
      (r : HnOk K mg X sub L hds qs l) : HnOk K mg X sub L (.ExceptHandler (some (.Name x np)) none [.Return (some e) p] pos' :: hds) (⟨x, none, none, me⟩ :: qs) (⟨.ref C, none, fun a cls d => toS none (te a cls d)⟩ :: l)
  | retA {x n : Str} {C : Addr} {i : Nat} {np pos' p : Pos} {e : Expr} {te : Addr → Value → Option Addr → TE} {me : Xn → ME} {hds : List ExceptHandler} {qs : List Hn} {l : List Hs} (hm : mg x = some (.ref C)) (hg : Gl X x) (hdb : (x == ("__debug__" : Str)) = false)
      (hx : ∀ r ∈ L, ∀ Cx, mg r = some (.ref Cx) → PySem.W.exmOne K (.ref Cx) (.ref C) = some (sub r x)) (hi : X.N[i]? = some n) (hln : X.env.kindOf n = some .local)
      (hsu : ∀ (a : Addr) (oe : Obj) (cls : Value) (d : Option Addr) (pn : List (Addr × Obj)) (xn : Xn), Zc cls d oe → (∃ vs, oe.data = .fields vs) → DEh K mg (X.suite a ((a, oe) :: pn)) (some i) a xn cls d e (te a cls d) (me xn))
      (r : HnOk K mg X sub L hds qs l) : HnOk K mg X sub L (.ExceptHandler (some (.Name x np)) (some n) [.Return (some e) p] pos' :: hds) (⟨x, some i, none, me⟩ :: qs) (⟨.ref C, some i, fun a cls d => toS none (te a cls d)⟩ :: l)
  | set {x : Str} {C : Addr} {j : Nat} {np pos' : Pos} {e : Expr} {st : Stmt} {te : Addr → Value → Option Addr → TE} {me : Xn → ME} {hds : List ExceptHandler} {qs : List Hn} {l : List Hs} (hm : mg x = some (.ref C)) (hg : Gl X x) (hdb : (x == ("__debug__" : Str)) = false)
      (hx : ∀ r ∈ L, ∀ Cx, mg r = some (.ref Cx) → PySem.W.exmOne K (.ref Cx) (.ref C) = some (sub r x))
      (hst : ∀ (a : Addr) (pn : List (Addr × Obj)) (t : TE), PE (X.suite a pn) e t → PS (X.suite a pn) st (tAsg t (gName j)))
      (hsu : ∀ (a : Addr) (oe : Obj) (cls : Value) (d : Option Addr) (pn : List (Addr × Obj)) (xn : Xn), Zc cls d oe → (∃ vs, oe.data = .fields vs) → DEh K mg (X.suite a ((a, oe) :: pn)) none a xn cls d e (te a cls d) (me xn))
      (r : HnOk K mg X sub L hds qs l) : HnOk K mg X sub L (.ExceptHandler (some (.Name x np)) none [st] pos' :: hds) (⟨x, none, some j, me⟩ :: qs) (⟨.ref C, none, fun a cls d => toS (some j) (te a cls d)⟩ :: l)
  | setA {x n : Str} {C : Addr} {i j : Nat} {np pos' : Pos} {e : Expr} {st : Stmt} {te : Addr → Value → Option Addr → TE} {me : Xn → ME} {hds : List ExceptHandler} {qs : List Hn} {l : List Hs} (hm : mg x = some (.ref C)) (hg : Gl X x) (hdb : (x == ("__debug__" : Str)) = false)
      (hx : ∀ r ∈ L, ∀ Cx, mg r = some (.ref Cx) → PySem.W.exmOne K (.ref Cx) (.ref C) = some (sub r x)) (hi : X.N[i]? = some n) (hln : X.env.kindOf n = some .local)
      (hst : ∀ (a : Addr) (pn : List (Addr × Obj)) (t : TE), PE (X.suite a pn) e t → PS (X.suite a pn) st (tAsg t (gName j)))
      (hsu : ∀ (a : Addr) (oe : Obj) (cls : Value) (d : Option Addr) (pn : List (Addr × Obj)) (xn : Xn), Zc cls d oe → (∃ vs, oe.data = .fields vs) → DEh K mg (X.suite a ((a, oe) :: pn)) (some i) a xn cls d e (te a cls d) (me xn))
      (r : HnOk K mg X sub L hds qs l) : HnOk K mg X sub L (.ExceptHandler (some (.Name x np)) (some n) [st] pos' :: hds) (⟨x, some i, some j, me⟩ :: qs) (⟨.ref C, some i, fun a cls d => toS (some j) (te a cls d)⟩ :: l)
theorem HnOk.hs (h : HnOk K X.mg X sub L hds qs l) : HsOk X hds l := by
  induction h with
  | nil => exact .nil
  | ret hm hg hdb hx hsu r ih => exact .cons ⟨hg, hdb, .inl hm⟩ (fun a oe cls d pn hz hf => pss_one (ps_ret (hsu a oe cls d pn ⟨("" : Str), []⟩ hz hf).p)) ih
  | retA hm hg hdb hx hi hln hsu r ih => exact .consA ⟨hg, hdb, .inl hm⟩ hi hln (fun a oe cls d pn hz hf => pss_one (ps_ret (hsu a oe cls d pn ⟨("" : Str), []⟩ hz hf).p)) ih
  | set hm hg hdb hx hst hsu r ih => exact .cons ⟨hg, hdb, .inl hm⟩ (fun a oe cls d pn hz hf => pss_one (hst _ _ _ (hsu a oe cls d pn ⟨("" : Str), []⟩ hz hf).p)) ih
  | setA hm hg hdb hx hi hln hst hsu r ih => exact .consA ⟨hg, hdb, .inl hm⟩ hi hln (fun a oe cls d pn hz hf => pss_one (hst _ _ _ (hsu a oe cls d pn ⟨("" : Str), []⟩ hz hf).p)) ih
def oeOf (cls : Value) (d : Option Addr) : Obj := { cls := cls, dict := d, data := .fields #[] }
theorem HnOk.ds (h : HnOk K X.mg X sub L hds qs l) : HnDs K X.mg sub L qs l := by
  induction h with
  | nil => exact .nil
  | ret hm hg hdb hx hsu r ih => exact .cons ⟨⟨_, hm, rfl, hx⟩, rfl, fun _ _ _ => rfl, fun a xn cls d => (hsu a (oeOf cls d) cls d [] xn ⟨rfl, rfl⟩ ⟨_, rfl⟩).s⟩ ih
  | retA hm hg hdb hx hi hln hsu r ih => exact .cons ⟨⟨_, hm, rfl, hx⟩, rfl, fun _ _ _ => rfl, fun a xn cls d => (hsu a (oeOf cls d) cls d [] xn ⟨rfl, rfl⟩ ⟨_, rfl⟩).s⟩ ih
  | set hm hg hdb hx hst hsu r ih => exact .cons ⟨⟨_, hm, rfl, hx⟩, rfl, fun _ _ _ => rfl, fun a xn cls d => (hsu a (oeOf cls d) cls d [] xn ⟨rfl, rfl⟩ ⟨_, rfl⟩).s⟩ ih
  | setA hm hg hdb hx hi hln hst hsu r ih => exact .cons ⟨⟨_, hm, rfl, hx⟩, rfl, fun _ _ _ => rfl, fun a xn cls d => (hsu a (oeOf cls d) cls d [] xn ⟨rfl, rfl⟩ ⟨_, rfl⟩).s⟩ ih
/-- try: body / except ..: .. -/
theorem dsx_try (hN : X.N.Nodup) (hb : ∀ (W' : WX) (pn : List (Addr × Obj)) (xe : Value → Shared → Prop), DSsX K mg (X.tr pn xe) W' body (tb W') m x)
    (hh : HnOk K mg X sub L (h₀ :: hds) qs l) (hs : X.stack = X.env :: X.outer := by rfl) (hf : X.env.frame = some X.env.locals := by rfl) (hK : KOf X = K := by rfl) (hmg : X.mg = mg := by rfl) :
    DSX K mg X W (.Try body (h₀ :: hds) [] [] pos) (fun D σ H => tb (wHs K W D l) D σ H) (tryM sub L qs m x) (tryX sub L qs x) := ⟨hK, fun tk _ => by
  have hk := hK
  subst hk
  subst hmg
  exact ps_try_hs hs hf hN tk (fun W' pn xe tk' po => (hb W' pn xe).p tk' po) hh.hs, by
  have hk := hK
  subst hk
  subst hmg
  intro Φ σ H μ sg h f h' S rs e E k
  have B := hb (wHs (KOf X) W E l) [] fun _ _ => False
  unfold tryM at e
  split at e
  · rename_i xn sg1 h1 e1
    split at e
    · rename_i hL
      refine B.x σ H μ sg h xn sg1 h1 S rs e1 (fun σ1 H1 μ1 cls d S1 l1 rs1 rx => ?_) E
      exact hands_ok hh.ds S1 rs1 rx (by simpa using hL) e (k.le l1)
    · cases e
  · exact B.s σ H μ sg h f h' S rs e E k, by
  have hk := hK
  subst hk
  subst hmg
  intro Φ σ H μ sg h xn sg' h' S rs e k E
  have B := hb (wHs (KOf X) W E l) [] fun _ _ => False
  unfold tryX at e
  split at e
  · rename_i xn1 sg1 h1 e1
    split at e
    · rename_i hL
      cases e
      refine B.x σ H μ sg h xn sg' h' S rs e1 (fun σ1 H1 μ1 cls d S1 l1 rs1 rx => ?_) E
      exact handsX_ok hh.ds rx (by simpa using hL.1) hL.2 (k σ1 H1 μ1 cls d S1 l1 rs1 rx)
    · cases e
  · cases e⟩
end
end DL

/-! DM15: a def whose arguments hold no object's number: its run is told from no objects at all, its new objects stand behind those that are there. -/
namespace DL
open PySem L2 PySem.Spec PyProof.Rows
mutual
def shD (n : Nat) : D → D
  | .at k => .at (n + k)
  | .tup xs => .tup (shDs n xs)
  | .rol xs => .rol (shDs n xs)
  | .non => .non
  | .bl b => .bl b
  | .int i => .int i
  | .str s => .str s
  | .ty s => .ty s
  | .ad a => .ad a
def shDs (n : Nat) : List D → List D
  | [] => []
  | d :: ds => shD n d :: shDs n ds
end
mutual
def cloD : D → Bool
  | .at _ => false
  | .tup xs => cloDs xs
  | .rol xs => cloDs xs
  | .non => true
  | .bl _ => true
  | .int _ => true
  | .str _ => true
  | .ty _ => true
  | .ad _ => true
def cloDs : List D → Bool
  | [] => true
  | d :: ds => cloD d && cloDs ds
end
def shO (n : Nat) : O → O
  | .lst xs => .lst (shDs n xs)
  | .dct kvs => .dct (kvs.map fun kv => (kv.1, shD n kv.2))
  | .ins C fs => .ins C (fs.map fun kv => (kv.1, shD n kv.2))
  | .dcn kvs => .dcn (kvs.map fun kv => (kv.1, shD n kv.2))
def shH (n : Nat) (h : Hd) : Hd := h.map (shO n)
def shX (n : Nat) (x : Xn) : Xn := ⟨x.cls, x.fs.map fun p => (p.1, shD n p.2)⟩
mutual
theorem shD_clo (n : Nat) : ∀ d : D, cloD d = true → shD n d = d
  | .at _, h => by simp [cloD] at h
  | .tup xs, h => by simp only [cloD] at h; simp only [shD, shDs_clo n xs h]
  | .rol xs, h => by simp only [cloD] at h; simp only [shD, shDs_clo n xs h]
  | .non, _ => rfl
  | .bl _, _ => rfl
  | .int _, _ => rfl
  | .str _, _ => rfl
  | .ty _, _ => rfl
  | .ad _, _ => rfl
theorem shDs_clo (n : Nat) : ∀ ds : List D, cloDs ds = true → shDs n ds = ds
  | [], _ => rfl
  | d :: ds, h => by
    simp only [cloDs, Bool.and_eq_true] at h
    simp only [shDs, shD_clo n d h.1, shDs_clo n ds h.2]
end
theorem shDs_map (n : Nat) : ∀ ds : List D, shDs n ds = ds.map (shD n)
  | [] => rfl
  | d :: ds => by simp only [shDs, List.map_cons, shDs_map n ds]
section
variable {K : Kw} {H : Hp} {μ μ1 : List Addr}
mutual
theorem rp_clo : ∀ (d : D) (v : V), cloD d = true → Rp K H μ d v → Rp K H μ1 d v
  | .at _, _, h, _ => by simp [cloD] at h
  | .tup xs, v, h, r => by
    unfold Rp at *
    obtain ⟨p, vs, a, b, c⟩ := r
    exact ⟨p, vs, a, b, rps_clo xs vs (by simpa only [cloD] using h) c⟩
  | .rol xs, v, h, r => by
    unfold Rp at *
    obtain ⟨p, vs, a, b, c⟩ := r
    exact ⟨p, vs, a, b, rps_clo xs vs (by simpa only [cloD] using h) c⟩
  | .non, _, _, r => by unfold Rp at *; exact r
  | .bl _, _, _, r => by unfold Rp at *; exact r
  | .int _, _, _, r => by unfold Rp at *; exact r
  | .str _, _, _, r => by unfold Rp at *; exact r
  | .ty _, _, _, r => by unfold Rp at *; exact r
  | .ad _, _, _, r => by unfold Rp at *; exact r
theorem rps_clo : ∀ (ds : List D) (vs : List V), cloDs ds = true → Rps K H μ ds vs → Rps K H μ1 ds vs
  | [], _, _, r => by unfold Rps at *; exact r
  | d :: ds, vs, h, r => by
    simp only [cloDs, Bool.and_eq_true] at h
    obtain ⟨v, vs', rfl, a, b⟩ := r.cons'
    exact Rps.cons (rp_clo d v h.1 a) (rps_clo ds vs' h.2 b)
end
mutual
theorem rp_sh : ∀ (d : D) (v : V), Rp K H μ1 d v → Rp K H (μ ++ μ1) (shD μ.length d) v
  | .at k, v, r => by
    unfold Rp at r
    obtain ⟨a, ea, rfl⟩ := r
    simp only [shD]
    unfold Rp
    exact ⟨a, by rw [List.getElem?_append_right (by omega), show μ.length + k - μ.length = k by omega]; exact ea, rfl⟩
  | .tup xs, v, r => by
    simp only [shD]
    unfold Rp at *
    obtain ⟨p, vs, a, b, c⟩ := r
    exact ⟨p, vs, a, b, rps_sh xs vs c⟩
  | .rol xs, v, r => by
    simp only [shD]
    unfold Rp at *
    obtain ⟨p, vs, a, b, c⟩ := r
    exact ⟨p, vs, a, b, rps_sh xs vs c⟩
  | .non, _, r => by simp only [shD]; unfold Rp at *; exact r
  | .bl _, _, r => by simp only [shD]; unfold Rp at *; exact r
  | .int _, _, r => by simp only [shD]; unfold Rp at *; exact r
  | .str _, _, r => by simp only [shD]; unfold Rp at *; exact r
  | .ty _, _, r => by simp only [shD]; unfold Rp at *; exact r
  | .ad _, _, r => by simp only [shD]; unfold Rp at *; exact r
theorem rps_sh : ∀ (ds : List D) (vs : List V), Rps K H μ1 ds vs → Rps K H (μ ++ μ1) (shDs μ.length ds) vs
  | [], _, r => by simp only [shDs]; unfold Rps at *; exact r
  | d :: ds, vs, r => by
    obtain ⟨v, vs', rfl, a, b⟩ := r.cons'
    simp only [shDs]
    exact Rps.cons (rp_sh d v a) (rps_sh ds vs' b)
end
mutual
theorem nk_clo : ∀ (d : D) (nk : NestedKey), nkD d = some nk → cloD d = true
  | .at _, _, h => by unfold nkD at h; cases h
  | .tup xs, nk, h => by
    unfold nkD at h
    split at h
    · rename_i ks q
      simp only [cloD]
      exact nks_clo xs ks q
    · cases h
  | .rol xs, _, h => by unfold nkD at h; cases h
  | .non, _, _ => rfl
  | .bl _, _, _ => rfl
  | .int _, _, _ => rfl
  | .str _, _, _ => rfl
  | .ty _, _, _ => rfl
  | .ad _, _, _ => rfl
theorem nks_clo : ∀ (ds : List D) (ks : List NestedKey), nkDs ds = some ks → cloDs ds = true
  | [], _, _ => rfl
  | d :: ds, ks, h => by
    unfold nkDs at h
    split at h
    · rename_i k ks' q1 q2
      simp only [cloDs, nk_clo d k q1, nks_clo ds ks' q2, Bool.and_self]
    · cases h
end
theorem dks_sh : ∀ {kvs : List (D × D)} {xs : List (NestedKey × Addr × Value)}, DKs K H μ1 kvs xs → DKs K H (μ ++ μ1) (kvs.map fun kv => (kv.1, shD μ.length kv.2)) xs
  | [], xs, h => h
  | (k, d) :: r, xs, h => by
    obtain ⟨nk, b, u, v, ys, h0, h1, h2, h3, h4, h5, h6⟩ := h
    exact ⟨nk, b, u, v, ys, h0, h1, h2, rp_clo _ _ (nk_clo _ _ h1) h3, h4, rp_sh _ _ h5, dks_sh h6⟩
theorem ok_sh {a : Addr} : ∀ {o : O}, Ok K H μ1 a o → Ok K H (μ ++ μ1) a (shO μ.length o)
  | .lst xs, ⟨vs, h, r⟩ => ⟨vs, h, rps_sh xs vs r⟩
  | .dct kvs, ⟨kw, h, k, r⟩ => by
    refine ⟨kw, h, ?_, ?_⟩
    · rw [k]
      simp [shO]
    · have := rps_sh (μ := μ) _ _ r
      rw [shDs_map] at this
      simpa [shO, Function.comp_def] using this
  | .ins C fs, ⟨dx, kw, h, k, r⟩ => by
    refine ⟨dx, kw, h, ?_, ?_⟩
    · rw [k]
      simp [shO]
    · have := rps_sh (μ := μ) _ _ r
      rw [shDs_map] at this
      simpa [shO, Function.comp_def] using this
  | .dcn kvs, ⟨xs, h, l, n, d, r⟩ => ⟨xs, h, l, n, d, dks_sh r⟩
/-- all that is there is put aside -/
theorem sm_hide {Φ : Hp} {h : Hd} (S : Sm Φ K H μ h) : ∃ Φ' : Hp, Sm Φ' K H [] [] ∧ ∀ (H' : Hp) (μ1 : List Addr) (h1 : Hd), Sm Φ' K H' μ1 h1 → Le K H [] H' μ1 → Sm Φ K H' (μ ++ μ1) (h ++ shH h.length h1) ∧ Le K H μ H' (μ ++ μ1) := by
  classical
  refine ⟨fun a => if a ∈ μ then H a else Φ a, ⟨rfl, fun n m a e => by simp at e, fun n o e => by simp at e, fun a o e => ?_⟩, fun H' μ1 h1 S1 l1 => ?_⟩
  · refine ⟨?_, by simp⟩
    by_cases ha : a ∈ μ
    · rw [if_pos ha] at e; exact e
    · rw [if_neg ha] at e; exact (S.fr a o e).1
  have kp : ∀ a, a ∈ μ → (∃ u, H a = some u ∧ H' a = some u) ∧ a ∉ μ1 := fun a ha => by
    obtain ⟨n, hn⟩ := List.mem_iff_getElem?.mp ha
    obtain ⟨u, hu, _⟩ := S.has hn
    obtain ⟨q1, q2⟩ := S1.fr a u (by rw [if_pos ha]; exact hu)
    exact ⟨⟨u, hu, q1⟩, q2⟩
  have l : Le K H μ H' (μ ++ μ1) := ⟨⟨μ1, rfl⟩, l1.tup, l1.frz, l1.xdt⟩
  refine ⟨⟨by simp [shH, S.len, S1.len], fun n m a e1 e2 => ?_, fun n o e => ?_, fun a o e => ?_⟩, l⟩
  · rw [List.getElem?_append] at e1 e2
    split at e1 <;> split at e2
    · exact S.nd n m a e1 e2
    · exact absurd (List.mem_of_getElem? e2) (kp a (List.mem_of_getElem? e1)).2
    · exact absurd (List.mem_of_getElem? e1) (kp a (List.mem_of_getElem? e2)).2
    · have := S1.nd _ _ a e1 e2
      omega
  · rw [List.getElem?_append] at e
    split at e
    · obtain ⟨a, ea, k⟩ := S.ob n o e
      obtain ⟨⟨u, h1', h2'⟩, _⟩ := kp a (List.mem_of_getElem? ea)
      exact ⟨a, by rw [List.getElem?_append_left (List.getElem?_eq_some_iff.mp ea).1]; exact ea, k.mono l (by rw [h1', h2'])⟩
    · rename_i hn
      unfold shH at e
      rw [List.getElem?_map] at e
      obtain ⟨o1, e1, rfl⟩ := Option.map_eq_some_iff.mp e
      obtain ⟨a, ea, k⟩ := S1.ob _ _ e1
      refine ⟨a, ?_, ?_⟩
      · rw [List.getElem?_append_right (by rw [S.len]; omega), S.len]
        exact ea
      · have := ok_sh (μ := μ) k
        rw [S.len] at this
        exact this
  · obtain ⟨q1, q2⟩ := S.fr a o e
    obtain ⟨q3, q4⟩ := S1.fr a o (by rw [if_neg q2]; exact e)
    exact ⟨q3, fun z => (List.mem_append.mp z).elim q2 q4⟩
end
def frM (m : GC) : GC := fun xs h => if cloDs xs = true then match m xs [] with
  | some (d, h1) => some (shD h.length d, h ++ shH h.length h1)
  | none => none else none
def frX (x : GX) : GX := fun xs h => if cloDs xs = true then match x xs [] with
  | some (xn, h1) => some (shX h.length xn, h ++ shH h.length h1)
  | none => none else none
section
variable {P : Program} {w : World} {K : Kw} {mg : Str → Option Value} {base : Heap}
theorem rx_sh {H : Hp} {μ μ1 : List Addr} {x : Xn} {cls : Value} {d : Option Addr} (r : RX K mg H μ1 x cls d) : RX K mg H (μ ++ μ1) (shX μ.length x) cls d := by
  obtain ⟨C, dx, vs, h1, h2, h3, h4, h5⟩ := r
  refine ⟨C, dx, vs, h1, h2, h3, ?_, ?_⟩
  · rw [h4]
    simp [shX, Function.comp_def]
  · have := rps_sh (μ := μ) _ _ h5
    rw [shDs_map] at this
    simpa [shX, Function.comp_def] using this
theorem sp_fr {n : Nat} {m : GC} {x : GX} {vs : List V} {H : Hp} {Q : VK} {E : XK} (h : spX K mg n (frM m) (frX x) vs H Q E) : spX K mg n m x vs H Q E := by
  obtain ⟨Φ, μ, ds, h0, S, r, hl, q⟩ := h
  obtain ⟨Φ', S', up⟩ := sm_hide S
  rcases q with ⟨d, h', e, k⟩ | ⟨xn, h', e, k⟩
  · unfold frM at e
    split at e
    · rename_i hc
      split at e
      · rename_i d1 h1 e1
        cases e
        refine ⟨Φ', [], ds, [], S', rps_clo _ _ hc r, hl, .inl ⟨d1, h1, e1, fun v H1 μ1 S1 l1 r1 => ?_⟩⟩
        obtain ⟨S2, l2⟩ := up H1 μ1 h1 S1 l1
        refine k v H1 (μ ++ μ1) S2 l2 ?_
        have := rp_sh (μ := μ) _ _ r1
        rw [S.len] at this
        exact this
      · cases e
    · cases e
  · unfold frX at e
    split at e
    · rename_i hc
      split at e
      · rename_i d1 h1 e1
        cases e
        refine ⟨Φ', [], ds, [], S', rps_clo _ _ hc r, hl, .inr ⟨d1, h1, e1, fun H1 μ1 cls d S1 l1 r1 => ?_⟩⟩
        obtain ⟨S2, l2⟩ := up H1 μ1 h1 S1 l1
        refine k H1 (μ ++ μ1) cls d S2 l2 ?_
        have := rx_sh (μ := μ) r1
        rw [S.len] at this
        exact this
      · cases e
    · cases e
theorem CalM.fr {k n : Nat} {x : Str} {m : GC} {xg : GX} {dd : List D} (c : CalM P w K mg base k x n m xg dd) : CalM P w K mg base k x n (frM m) (frX xg) dd := by
  obtain ⟨f, fd, ps, ds, dvs, F, r⟩ := c.ex
  exact ⟨f, fd, ps, ds, dvs, ⟨fun vs H Q E h => F.len vs H Q E (sp_fr h), fun A outer s H args us vs Q E h1 h2 h3 h4 h5 => F.run A outer s H args us vs Q E h1 h2 h3 h4 (sp_fr h5)⟩, r⟩
end
end DL

/-! DM16: isinstance(e, C) in a suite. -/
namespace PySem.W
open PySem PySem.Spec PySem.Calls PyProof.Rows
section
variable {prog : Program} {w : World} {A : Around} {E : Value → Shared → Prop} {s : Shared} {K : Frag} {x D : Addr} {ox : Obj} {od : Option Obj}
theorem findObj_dataG {C : Addr} {name : Str} {a g : Value} (hc : (clsIn K C).isSome = true) (ha : findIn K (.ref C) name = some (some a)) (hg : specialIn K a "__get__" = some (some g)) (ht : takesIn K a = some true) : findObj K C od name = some (.bind g a) := by
  obtain ⟨cd, hc⟩ := Option.isSome_iff_exists.mp hc
  unfold findObj
  rw [hc, Option.bind_some, ha, Option.bind_some]
  simp [hg, ht]
/-- as kin_classE, of an exception that has a dict -/
theorem kin_classG {Q : Option Value → Shared → Prop} (hga : findIn K (.ref D) "__getattribute__" = some (some (.builtin "BaseException.__getattribute__"))) (hgt : findIn K (.ref D) "__getattr__" = some none) (hsub : subIn K (.ref D) (.type "BaseException") = some true)
    (hdct : hasDictIn K D = true) (ha : findIn K (.ref D) "__class__" = some (some (.builtin "object.__class__")))
    (hn : specialIn K (.builtin "object.__class__") "__get__" = some (some (.builtin "getset_descriptor.__get__"))) (htk : takesIn K (.builtin "object.__class__") = some true) (hm : mroIn K D (.type "object") = some true)
    (X : K.In s.heap) (I : InstAt s.heap x ox D od) (h : Q (some (.ref D)) { s with toks := s.toks + 1 }) : wpAny (model prog w) A (getAttr? (.ref x) "__class__") Q E s := by
  have hf : findObj K D od "__class__" = some (.bind (.builtin "getset_descriptor.__get__") (.builtin "object.__class__")) := findObj_dataG (by obtain ⟨cd, hc, _⟩ := any_some hdct; rw [hc]; rfl) ha hn htk
  obtain ⟨hp, g, d, t, os⟩ := s
  have L0 := I.type (M := model prog w)
  have L1 := looks_findIn (M := model prog w) X hga
  have L2 := looks_findIn (M := model prog w) X hgt
  have L3 := looks_find (M := model prog w) X I hf
  have sub : Looks (model prog w) hp (isInstance (.ref x) (.type "BaseException")) true := L0.andThen (looks_subIn X hsub)
  have hx0 : (false && onTheHeap (Value.builtin "BaseException.__getattribute__")) = false := rfl
  have hx2 : (Value.builtin "BaseException.__getattribute__" == Value.builtin "object.__getattribute__") = false := by decide +kernel
  have hx1 : (onTheHeap (Value.ref D) && Value.builtin "BaseException.__getattribute__" == Value.builtin "object.__getattribute__") = false := by rw [hx2]; rfl
  unfold getAttr? getAttrBy? getAttrBy
  refine wpAny_bind (wpAny_mkText (wpAny_bind (wpAny_attempt (wpAny_holding (wpAny_bind (L0.at (wpAny_bind (L1.at ?_))))))))
  show wpAny _ _ (if (onTheHeap (Value.ref D) && Value.builtin "BaseException.__getattribute__" == Value.builtin "object.__getattribute__") = true then _ else _) _ _ _
  rw [hx1, if_neg Bool.false_ne_true]
  unfold getAttrByItsOwn hookBefore
  refine wpAny_bind ?_
  rw [if_pos (show onTheHeap (Value.ref D) = true from rfl)]
  refine L2.at ?_
  refine wpAny_bind (wpAny_attempt (wpAny_holding ?_))
  unfold callGetattribute
  rw [hx0, if_neg Bool.false_ne_true]
  unfold boundAndCalled
  rw [PySem.F.excAttr_ValueError.ga.bind (.ref x)]
  refine wpAny_bind (wpAny_pure ?_)
  show wpAny _ _ (call (.builtin "BaseException.__getattribute__") [.ref x, .str "__class__" t]) _ _ _
  refine wpAny_call (codeAny_call_builtin PySem.F.excAttr_ValueError.ga.plain PySem.F.entry_bexc_ga ?_)
  refine @check_slot (model prog w) _ _ ⟨hp, g, d, t + 1, os⟩ "BaseException.__getattribute__" "BaseException" "__getattribute__" (.ref x) [.str "__class__" t] [] _ (by decide +kernel) (by decide +kernel) sub (PySem.F.args_bexc_ga (.ref x) (.str "__class__" t)) ?_
  unfold Builtin.«object.__getattribute__»
  refine wpAny_bind (wpAny_of_eq (a := ((Value.ref x : Value), [Value.str "__class__" t])) (by first | rfl | (simp only [slotArgs]; rfl)) ?_)
  refine wpAny_bind (wpAny_pure (wpAny_bind (L0.at (wpAny_bind (L3.at ?_)))))
  show wpAny _ _ (holding [Value.builtin "object.__class__"] (call (.builtin "getset_descriptor.__get__") [.builtin "object.__class__", .ref x, .ref D]) >>= ret) _ _ _
  refine wpAny_bind (wpAny_holding (wpAny_call (class_get (s := ⟨hp, g, d, t + 1, os⟩) (ox := ox) (od := od) X I hm ?_)))
  refine wpAny_pure ?_
  show wpAny _ _ (handedOut (.ref D)) _ _ _
  rw [handedOut_of (v := .ref D) rfl]
  first
    | exact wpAny_pure (wpAny_pure h)
    | exact wpAny_pure h
    | exact wpAny_pure (wpAny_bind (wpAny_pure (wpAny_pure h)))
/-- as kitx_exc -/
theorem kitxG (hga : findIn K (.ref D) "__getattribute__" = some (some (.builtin "BaseException.__getattribute__"))) (hgt : findIn K (.ref D) "__getattr__" = some none) (hsub : subIn K (.ref D) (.type "BaseException") = some true) (hdct : hasDictIn K D = true) (ha : findIn K (.ref D) "__class__" = some (some (.builtin "object.__class__")))
    (hn : specialIn K (.builtin "object.__class__") "__get__" = some (some (.builtin "getset_descriptor.__get__"))) (htk : takesIn K (.builtin "object.__class__") = some true) (hm : mroIn K D (.type "object") = some true) :
    KitX K (.ref x) (.ref D) (fun h => ∃ od, InstAt h x ox D od) where
  ty := fun _ _ _ I => by obtain ⟨od, I⟩ := I; exact I.type
  it := fun _ _ X _ => by
    obtain ⟨cdD, hcD, _⟩ := any_some hdct
    unfold clsIn at hcD
    split at hcD
    · rename_i c' d' cd' sl' ho
      intro A' Q' E' s' k q
      unfold isType loadHead
      exact wpAny_bind (wpAny_loadPart (k _ _ (X _ _ ho)) (wpAny_pure q))
    · cases hcD
  ne := fun h tp dd its n sl X htp => by
    obtain ⟨cdD, hcD, _⟩ := any_some hdct
    refine Bool.eq_false_iff.mpr fun q => ?_
    have e : D = tp := Value.ref.inj (beq_iff_eq.mp q)
    subst e
    unfold clsIn at hcD
    split at hcD
    · rename_i c' d' cd' sl' ho
      have z := (X _ _ ho).symm.trans htp
      cases z
    · cases hcD
  ca := fun X I k => by
    obtain ⟨od, I⟩ := I
    exact kin_classG hga hgt hsub hdct ha hn htk hm X I k
end
end PySem.W
namespace DL
open PySem L2 PySem.Spec PyProof.Rows
/-- isinstance(e, c) -/
def tIsE (K : Kw) (a : Addr) (cls : Value) (d : Option Addr) (c : Addr) (te : TE) : TE := fun σ H Q => te σ H fun x H1 => ∃ (D dd : Addr) (fs : List (Str × V)) (b : Bool), x = .ref a ∧ cls = .ref D ∧ d = some dd ∧ H1 dd = some (.xd fs) ∧ ExcC K D ∧ PySem.W.kitOne K (.ref D) (.ref c) = some b ∧ Q (.bl b) H1
/-- what the text says, so that isinstance asks the instances of x rightly, for the class y -/
structure IsT (K : PySem.W.Frag) (mg : Str → Option Value) (sub : Str → Str → Bool) (L : List Str) (y : Str) : Prop where
  ex : ∃ c, mg y = some (.ref c) ∧ ∀ x ∈ L, ∀ D, mg x = some (.ref D) → ExcC K D ∧ PySem.W.kitOne K (.ref D) (.ref c) = some (sub x y)
def isxM (sub : Str → Str → Bool) (L : List Str) (xn : Xn) (y : Str) : ME := fun _ h => if L.contains xn.cls = true then some (.bl (sub xn.cls y), h) else none
def tIsX (K : Kw) (mg : Str → Option Value) (a : Addr) (cls : Value) (d : Option Addr) (y : Str) (te : TE) : TE := fun σ H Q => ∀ c, mg y = some (.ref c) → tIsE K a cls d c te σ H Q
section
variable {K : Kw} {mg : Str → Option Value} {X : Cx} {a : Addr} {oe : Obj} {xn : Xn} {cls : Value} {d : Option Addr} {pn : List (Addr × Obj)} {n y : Str} {p p1 p2 pos : Pos} {sub : Str → Str → Bool} {L : List Str}
theorem deh_isE (i : Nat) (T : IsT K mg sub L y) (hz : Zc cls d oe) (hf : ∃ vs, oe.data = .fields vs) (hm : mg "isinstance" = none) (hN : X.N[i]? = some n := by rfl) (hV : Vis X.env.scope n := by exact .inl rfl) (hg : Gl X y := by rfl) (hg2 : Gl X "isinstance" := by rfl) (hK : KOf X = K := by rfl) (hmg : X.mg = mg := by rfl)
    (hd : (n == ("__debug__" : Str)) = false := by decide) (hcd : (n == ("__classdict__" : Str)) = false := by decide) (hdy : (y == ("__debug__" : Str)) = false := by decide)
    (he : starEach [.Name n p1, .Name y p2] X.env = (false, eval (.Name n p1) X.env) :: starEach [.Name y p2] X.env := by rfl) (he2 : starEach [.Name y p2] X.env = (false, eval (.Name y p2) X.env) :: starEach [] X.env := by rfl)
    (hpl : (backTo pos (starEach [.Name y p2] X.env)).any (·.1) = false := by rfl) :
    DEh K mg (X.suite a ((a, oe) :: pn)) (some i) a xn cls d (.Call (.Name "isinstance" p) [.Name n p1, .Name y p2] [] pos) (tIsX K mg a cls d y (tVar i)) (isxM sub L xn y) := ⟨hK, by
  have hk := hK
  subst hk
  subst hmg
  obtain ⟨c, hc, _⟩ := T.ex
  refine ⟨fun pins s σ H Q I h => ?_⟩
  have h := h c hc
  have hcall : CallR (X.suite a ((a, oe) :: pn)) (.builtin "isinstance") (fun xs H Q => ∃ (D dd : Addr) (fs : List (Str × V)) (b : Bool), xs = [.ref a, .ref c] ∧ cls = .ref D ∧ d = some dd ∧ H dd = some (.xd fs) ∧ ExcC X.K D ∧ PySem.W.kitOne X.K (.ref D) (.ref c) = some b ∧ Q (.bl b) H) := by
    intro pins s σ H xs us Q I r h
    obtain ⟨D, dd, fs, b, rfl, hD, hdd, hxd, C, e, q⟩ := h
    cases r with
    | cons rx rr =>
      cases rr with
      | cons rt rr =>
        cases rr
        cases rx
        cases rt
        obtain ⟨hget, _⟩ := I.pin (a, oe) (List.mem_append.mpr (.inl List.mem_cons_self))
        obtain ⟨vs, hv⟩ := hf
        have hx : ObjOk X.prog X.w H s.heap dd (.xd fs) := I.hok dd _ hxd
        obtain ⟨mA, hns, _⟩ := hx
        obtain ⟨od, ho, _⟩ := lookIn_ns hns
        have J : PySem.W.InstAt s.heap a oe D (some od) := ⟨hget, by rw [hz.1, hD], by unfold PySem.W.notCls; rw [hv] <;> rfl, by rw [hz.2, hdd]; exact ho⟩
        exact PySem.W.kia_one (PySem.W.kitxG C.hg C.hk C.hs C.hd C.ha C.hn C.ht C.hm) I.kIn ⟨_, J⟩ e (fun z => nomatch z) fun tk => ⟨.bl b, H, I.kept (t' := tk) fun _ _ z => z, rfl, q⟩
  obtain ⟨v, hv, D, dd, fs, b, rfl, h2, h3, h4, h5, h6, h7⟩ := h
  exact (pe_callB (X := X.suite a ((a, oe) :: pn)) hcall hg2 hm (by decide +kernel) (pa_cons (pe_var (X := X.suite a ((a, oe) :: pn)) hN hV hd hcd) (pa_cons (pe_glob (X := X.suite a ((a, oe) :: pn)) (v := .ref c) hg hc rfl hdy) pa_nil he2) he) (he := he) (hpl := hpl)).run pins s σ H Q I
    ⟨.ref a, hv, D, dd, fs, b, rfl, h2, h3, h4, h5, h6, h7⟩, by
  intro Φ σ H μ sg h y' h' S rs hx e Q k c hc
  unfold isxM at e
  split at e
  · rename_i hL
    cases e
    obtain ⟨c', hc', hT⟩ := T.ex
    rw [hc] at hc'
    cases hc'
    obtain ⟨C, dx, vs, h1, h2, h3, h4, h5⟩ := hx.r
    obtain ⟨t1, t2⟩ := hT xn.cls (by simpa using hL) C h1
    exact ⟨.ref a, hx.s i rfl, C, dx, _, _, rfl, h2, h3, h4, t1, t2, k _ H μ S Le.refl rp_bl⟩
  · cases e⟩
end
end DL

/-! DM17: where nothing is raised; small words for what gen2.py prints. -/
namespace DL
open PySem L2 PySem.Spec PyProof.Rows
theorem hu100 {A : Around} {k : Nat} (hr : RoomG k A) : A.units + 100 < cLine := by have := hr.r.un; omega
def adr (mg : Str → Option Value) (x : Str) : Addr := match mg x with
  | some (.ref C) => C
  | _ => 0
theorem adr_of {mg : Str → Option Value} {x : Str} {C : Addr} (h : mg x = some (.ref C)) : adr mg x = C := by unfold adr; rw [h]
def clsBody : Stmt → List Stmt
  | .ClassDef (body := b) .. => b
  | _ => []
section
variable {K : Kw} {mg : Str → Option Value} {X : Cx} {W : WX} {pos : Pos} {st : Stmt} {rest sts : List Stmt} {t u : TS} {m n : MS} {x y : MX} {c : Expr} {tc : TT} {mc : MT}
theorem DSsX.no (a : DSsX K mg X W sts t m x) : DSsX K mg X W sts t m noX := ⟨a.k, a.p, a.s, xst_no⟩
theorem DSX.no (a : DSX K mg X W st t m x) : DSX K mg X W st t m noX := ⟨a.k, a.p, a.s, xst_no⟩
theorem dssx_cons0 (a : DSX K mg X W st t m x) (b : DSsX K mg X W rest u n y) : DSsX K mg X W (st :: rest) (tSeq t u) (seqM m n) noX := (dssx_cons a b).no
theorem dsx_if0 {p q : List Stmt} (hc : DT K X c tc mc) (a : DSsX K mg X W p t m x) (b : DSsX K mg X W q u n y) : DSX K mg X W (.If c p q pos) (tIfS tc t u) (ifSM mc m n) noX := (dsx_if hc a b).no
theorem dsx_while0 {body : List Stmt} {tb : TS} {mb : MS} {xb : MX} (N : Nat) (hc : DT K X c tc mc) (hb : DSsX K mg X W body tb mb xb) : DSX K mg X W (.While c body [] pos) (tWhile tc tb) (whileM mc mb N) noX := (dsx_while N hc hb).no
theorem dsx_for0 {tg it : Expr} {ti : TI} {mi : MI} {gt : TG} {mg' : MG} {body : List Stmt} {tb : TS} {mb : MS} {xb : MX} (N : Nat) (hi : DI K X tg it ti mi) (hg : DG K X tg gt mg') (hb : DSsX K mg X W body tb mb xb) (hs : ∀ x, foldedSetIterable it X.env x = pure x := by intro _; rfl) (hc : X.calm = true := by rfl) :
    DSX K mg X W (.For tg it body [] pos) (tFor ti gt tb) (forSM mi mg' mb N) noX := (dsx_for N hi hg hb hs hc).no
end
end DL

/-! DM18: n = [.. for ..]. -/
namespace DL
open PySem L2 PySem.Spec PyProof.Rows
section
variable {K : Kw} {X : Cx} {pos spos py : Pos} {tg it elt : Expr} {ifs : List Expr} {ti : TI} {mi : MI} {gt : TG} {mg : MG} {tt : TT} {mt : MT} {te : TE} {me : ME} {scope : Scope} {own : List (Str × Nat)} {n : Str}
theorem ds_setLc (i N : Nat) (hN : X.N.Nodup) (hi : DI K X tg it ti mi) (ok : BlkOk X.N X.env.scope scope own) (ho : Only (own.map (·.2)) gt)
    (hg : ∀ (s : Shared) (H : Hp) (C : Addr) (cl : List (Str × Addr)) (fp : List Addr), DG K (X.blk s H scope (compEnvC scope cl C X.env) fp) tg gt mg)
    (ht : ∀ (s : Shared) (H : Hp) (C : Addr) (cl : List (Str × Addr)) (fp : List Addr), DTs K (X.blk s H scope (compEnvC scope cl C X.env) fp) ifs tt mt)
    (he : ∀ (s : Shared) (H : Hp) (C : Addr) (cl : List (Str × Addr)) (fp : List Addr), DE K (X.blk s H scope (compEnvC scope cl C X.env) fp) elt te me)
    (ha : (scope.names.any fun (m, k) => m == n && (k == .local || k == .cell)) = false) (hy : X.N[i]? = some n := by rfl) (hyl : X.env.scope.names.lookup n = some .local := by rfl) (hk : X.env.scope.kind = .function := by rfl) (hl : (py.line == pos.line) = true := by rfl)
    (hs : ∀ x, foldedSetIterable it X.env x = pure x := by intro _; rfl) (hc : X.calm = true := by rfl) :
    DS K X (.Assign [.Name n py] (.ListComp elt [⟨tg, it, ifs, 0⟩] scope pos) spos) (tAsg (tLc ti gt tt te (own.map (·.2))) (gName i)) (asgM (lcM mi mg mt me (own.map (·.2)) N) (nameG i)) :=
  ⟨hi.k, ps_setLc hc hN hy hyl (sw_true hk hyl hl ha) hi.p ok (fun s H C cl fp => (hg s H C cl fp).p) (fun s H C cl fp => (ht s H C cl fp).p) (fun s H C cl fp => (he s H C cl fp).p) hs, ss_asg (de_lc (pos := pos) N hN hi ok ho hg ht he hs hc).s (sg_name i)⟩
end
/-! ### the law's promise: no exception -/
def spN (K : Kw) (n : Nat) (m : GC) : Sp := fun vs H Q _ => ∃ (Φ : Hp) (μ : List Addr) (ds : List D) (h : Hd) (d : D) (h' : Hd), Sm Φ K H μ h ∧ Rps K H μ ds vs ∧ ds.length = n ∧ m ds h = some (d, h') ∧ Kn Φ K H μ h' d Q
theorem FnG.toN {P : Program} {w : World} {K : Kw} {mg : Str → Option Value} {base : Heap} {CX : CXT} {k n : Nat} {f : Addr} {fd : FuncData} {ps : List Str} {m : GC} {x : GX} (F : FnG P w K mg base CX k f fd ps (spX K mg n m x)) : FnG P w K mg base CX k f fd ps (spN K n m) := by
  have key : ∀ vs H Q E, spN K n m vs H Q E → spX K mg n m x vs H Q E := fun vs H Q E ⟨Φ, μ, ds, h, d, h', S, r, hl, e, k⟩ => ⟨Φ, μ, ds, h, S, r, hl, .inl ⟨d, h', e, k⟩⟩
  exact ⟨fun vs H Q E h => F.len vs H Q E (key _ _ _ _ h), fun A outer s H args us vs Q E h1 h2 h3 h4 h5 => F.run A outer s H args us vs Q E h1 h2 h3 h4 (key _ _ _ _ h5)⟩
theorem law_endN {K : Kw} {m : GC} {H : Hp} {a : Addr} {ns : List Int} (hm : ∃ h', m [.rol (ns.map D.int)] [] = some (.bl true, h')) (hO : L2.Only H) (hS : SqL K H a (ns.map V.int)) :
    spN K 1 m [.ref a] H (fun v _ => v = .bl true) fun _ _ _ => False := by
  obtain ⟨Φ, μ, ds, h, S, r, hl, ⟨d, h', e, k⟩ | ⟨xn, h', e, _⟩⟩ := law_end (mg := fun _ => none) (x := noGX) hm hO hS
  · exact ⟨Φ, μ, ds, h, d, h', S, r, hl, e, k⟩
  · cases e
/-- isinstance of classes of the text, by what is below what -/
theorem kit_ref {K : PySem.W.Frag} {D C : Addr} {b : Bool} (hdct : PySem.W.hasDictIn K C = true) (ht : PySem.W.typeIn K (.ref C) = some (.type "type")) (hs : PySem.W.subIn K (.ref C) (.ref C) = some true) (h4 : PySem.W.subIn K (.ref D) (.ref C) = some b) : PySem.W.kitOne K (.ref D) (.ref C) = some b := by
  obtain ⟨cd, hc, _⟩ := PySem.W.any_some hdct
  have e2 : ((PySem.W.clsIn K C).isSome && PySem.W.typeIn K (.ref C) == some (.type "type")) = true := by rw [hc, ht] <;> rfl
  unfold PySem.W.kitOne
  by_cases h : D = C
  · subst h
    rw [hs] at h4
    cases h4
    rw [if_pos (by simp)]
  · rw [if_neg (by simp; exact h)]
    show (if ((PySem.W.clsIn K C).isSome && PySem.W.typeIn K (.ref C) == some (.type "type")) = true then PySem.W.subIn K (.ref D) (.ref C) else none) = some b
    rw [if_pos e2]
    exact h4
end DL

/-! DM19: is, is not of bools. -/
namespace DL
open PySem L2 PySem.Spec PyProof.Rows
section
variable {K : Kw} {X : Cx}
def isBD : G2 := fun x y h => match x, y with
  | .bl a, .bl b => some (.bl (decide (a = b)), h)
  | _, _ => none
def isntBD : G2 := fun x y h => match x, y with
  | .bl a, .bl b => some (.bl (!decide (a = b)), h)
  | _, _ => none
theorem so_isB : SO K rIsB isBD := by
  intro Φ H μ h x y v w d h' S r1 r2 e Q k
  unfold isBD at e
  split at e
  · cases e
    exact ⟨_, _, rp_bl' r1, rp_bl' r2, k _ H μ S Le.refl rp_bl⟩
  · cases e
theorem so_isntB : SO K rNotB isntBD := by
  intro Φ H μ h x y v w d h' S r1 r2 e Q k
  unfold isntBD at e
  split at e
  · cases e
    exact ⟨_, _, rp_bl' r1, rp_bl' r2, k _ H μ S Le.refl rp_bl⟩
  · cases e
theorem op_isB : OpR X (compareOp .Is) rIsB := op_isBl
theorem op_isntB : OpR X (compareOp .IsNot) rNotB := op_notBl
end
theorem lf_isB {a b : Bool} {h : Hd} {Q : D → Hd → Prop} (q : Q (.bl (decide (a = b))) h) : Ev (isBD (.bl a) (.bl b) h) Q := ⟨_, _, rfl, q⟩
theorem lf_isntB {a b : Bool} {h : Hd} {Q : D → Hd → Prop} (q : Q (.bl (!decide (a = b))) h) : Ev (isntBD (.bl a) (.bl b) h) Q := ⟨_, _, rfl, q⟩
end DL

/-! DM20: dicts whose keys are tuples of data; membership in a dict. -/
namespace DL
open PySem L2 PySem.Spec PyProof.Rows
/-! ### trees as keys -/
mutual
theorem key_rp {K : Kw} {H : Hp} {μ : List Addr} : ∀ (d : D) (v : V) (nk : NestedKey), Rp K H μ d v → nkD d = some nk → KeyV K.f H nk v
  | .non, v, nk, r, e => by unfold nkD at e; cases e; unfold KeyV; exact rp_non' r
  | .int i, v, nk, r, e => by unfold nkD at e; cases e; unfold KeyV; exact rp_int' r
  | .str i, v, nk, r, e => by unfold nkD at e; cases e; unfold KeyV; exact rp_str' r
  | .tup xs, v, nk, r, e => by
    unfold nkD at e
    split at e
    · rename_i ks q
      cases e
      obtain ⟨p, vs, rfl, b, c⟩ := rp_tup' r
      unfold KeyV
      exact ⟨p, vs, rfl, b, keys_rp xs vs ks c q⟩
    · cases e
  | .bl _, v, nk, r, e => by unfold nkD at e; cases e
  | .ty _, v, nk, r, e => by unfold nkD at e; cases e
  | .rol _, v, nk, r, e => by unfold nkD at e; cases e
  | .at _, v, nk, r, e => by unfold nkD at e; cases e
  | .ad _, v, nk, r, e => by unfold nkD at e; cases e
theorem keys_rp {K : Kw} {H : Hp} {μ : List Addr} : ∀ (ds : List D) (vs : List V) (ks : List NestedKey), Rps K H μ ds vs → nkDs ds = some ks → KeyVs K.f H ks vs
  | [], vs, ks, r, e => by unfold nkDs at e; cases e; unfold KeyVs; exact r.nil'
  | d :: ds, vs, ks, r, e => by
    unfold nkDs at e
    obtain ⟨v, vs', rfl, a, b⟩ := r.cons'
    split at e
    · rename_i k ks' q1 q2
      cases e
      unfold KeyVs
      exact ⟨v, vs', rfl, key_rp d v k a q1, keys_rp ds vs' ks' b q2⟩
    · cases e
end
theorem key_tup {d : D} {nk : NestedKey} {K : Kw} {H : Hp} {μ : List Addr} {v : V} (r : Rp K H μ d v) (h : ∃ xs, d = .tup xs) : ∃ b, v = .ref b := by
  obtain ⟨xs, rfl⟩ := h
  obtain ⟨p, vs, rfl, _⟩ := rp_tup' r
  exact ⟨p, rfl⟩
def depN (d : D) : Bool := match d with
  | .tup _ => match nkD d with
    | some nk => decide (nk.depth ≤ 8)
    | none => false
  | _ => false
def sameN (k : D) (kv : D × D) : Bool := decide (nkD kv.1 = nkD k)
/-- what a dict holds at a key -/
def valN (kvs : List (D × D)) (k : D) : Option D := (kvs.find? (sameN k)).map (·.2)
def putN (kvs : List (D × D)) (k v : D) : List (D × D) := if kvs.any (sameN k) then kvs.map (fun kv => if sameN k kv then (kv.1, v) else kv) else kvs ++ [(k, v)]
section
variable {K : Kw} {H : Hp} {μ : List Addr}
theorem DKs.val {k : D} {nk : NestedKey} (hk : nkD k = some nk) : ∀ {kvs : List (D × D)} {xs : List (NestedKey × Addr × Value)}, DKs K H μ kvs xs →
    (valN kvs k = none ∧ atKey xs nk = none) ∨ ∃ d b u v, valN kvs k = some d ∧ atKey xs nk = some (b, u) ∧ RelV v u ∧ Rp K H μ d v
  | [], xs, h => by
    cases (show xs = [] from h)
    exact .inl ⟨rfl, rfl⟩
  | (k', d') :: r, xs, h => by
    obtain ⟨nk', b, u, v, ys, rfl, h1, h2, h3, h4, h5, h6⟩ := h
    unfold valN atKey
    by_cases q : nk' = nk
    · subst q
      refine .inr ⟨d', b, u, v, ?_, ?_, h4, h5⟩
      · simp [List.find?_cons, sameN, h1, hk]
      · simp [List.find?_cons]
    · have e1 : sameN k (k', d') = false := by simp [sameN, h1, hk, q]
      have ih := DKs.val hk h6
      unfold valN atKey at ih
      simpa [List.find?_cons, e1, q] using ih
theorem DKs.any {k : D} {nk : NestedKey} (hk : nkD k = some nk) {kvs : List (D × D)} {xs : List (NestedKey × Addr × Value)} (h : DKs K H μ kvs xs) : kvs.any (sameN k) = (atKey xs nk).isSome := by
  have e : kvs.any (sameN k) = (valN kvs k).isSome := by
    unfold valN
    rw [Option.isSome_map, Bool.eq_iff_iff, List.any_eq_true, List.find?_isSome]
  rw [e]
  rcases h.val hk with ⟨a, b⟩ | ⟨d, b, u, v, a, c, _⟩
  · rw [a, b]; rfl
  · rw [a, c]; rfl
theorem DKs.map {k : D} {nk : NestedKey} {w : D} {v : V} {u : Value} (hk : nkD k = some nk) (rv : RelV v u) (rw' : Rp K H μ w v) : ∀ {kvs : List (D × D)} {xs : List (NestedKey × Addr × Value)}, DKs K H μ kvs xs → DKs K H μ (kvs.map fun kv => if sameN k kv then (kv.1, w) else kv) (xs.map (putAt nk u))
  | [], xs, h => by
    cases (show xs = [] from h)
    rfl
  | (k', d') :: r, xs, h => by
    obtain ⟨nk', b, u', v', ys, rfl, h1, h2, h3, h4, h5, h6⟩ := h
    have ih := DKs.map (w := w) hk rv rw' h6
    by_cases q : nk' = nk
    · subst q
      have e1 : sameN k (k', d') = true := by simp [sameN, h1, hk]
      rw [List.map_cons, List.map_cons, if_pos e1]
      exact ⟨nk', b, u, v, _, by simp [putAt], h1, h2, h3, rv, rw', ih⟩
    · have e1 : sameN k (k', d') = false := by simp [sameN, h1, hk, q]
      rw [List.map_cons, List.map_cons, e1]
      exact ⟨nk', b, u', v', _, by simp [putAt, q], h1, h2, h3, h4, h5, ih⟩
theorem DKs.snoc {k w : D} {nk : NestedKey} {b : Addr} {v : V} {u : Value} (hk : nkD k = some nk) (hd : nk.depth ≤ 8) (rk : Rp K H μ k (.ref b)) (rv : RelV v u) (rw' : Rp K H μ w v) : ∀ {kvs : List (D × D)} {xs : List (NestedKey × Addr × Value)}, DKs K H μ kvs xs → DKs K H μ (kvs ++ [(k, w)]) (xs ++ [(nk, b, u)])
  | [], xs, h => by
    cases (show xs = [] from h)
    exact ⟨nk, b, u, v, [], rfl, hk, hd, rk, rv, rw', rfl⟩
  | (k', d') :: r, xs, h => by
    obtain ⟨nk', b', u', v', ys, rfl, h1, h2, h3, h4, h5, h6⟩ := h
    exact ⟨nk', b', u', v', _, rfl, h1, h2, h3, h4, h5, DKs.snoc hk hd rk rv rw' h6⟩
theorem DKs.keys : ∀ {kvs : List (D × D)} {xs : List (NestedKey × Addr × Value)}, DKs K H μ kvs xs → ∀ x ∈ xs, KeyV K.f H x.1 (.ref x.2.1) ∧ x.1.depth ≤ 8
  | [], xs, h => by
    cases (show xs = [] from h)
    intro x hx
    cases hx
  | (k', d') :: r, xs, h => by
    obtain ⟨nk', b', u', v', ys, rfl, h1, h2, h3, h4, h5, h6⟩ := h
    intro x hx
    rcases List.mem_cons.mp hx with rfl | hx
    · exact ⟨key_rp _ _ _ h3 h1, h2⟩
    · exact DKs.keys h6 x hx
theorem DKs.len : ∀ {kvs : List (D × D)} {xs : List (NestedKey × Addr × Value)}, DKs K H μ kvs xs → xs.length = kvs.length
  | [], xs, h => by
    cases (show xs = [] from h)
    rfl
  | (k', d') :: r, xs, h => by
    obtain ⟨nk', b', u', v', ys, rfl, h1, h2, h3, h4, h5, h6⟩ := h
    simp [DKs.len h6]
variable {Φ : Hp}
theorem Sm.dcn {h : Hd} {n : Nat} {kvs : List (D × D)} {a : Addr} (S : Sm Φ K H μ h) (e : h[n]? = some (.dcn kvs)) (ea : μ[n]? = some a) : ∃ xs, NAt K H a xs ∧ DKs K H μ kvs xs := by
  obtain ⟨xs, h1, h2, h3, h4, h5⟩ := (show Ok K H μ a (.dcn kvs) from S.at ea e)
  exact ⟨xs, ⟨h1, h3, h4, h5.keys, h2⟩, h5⟩
end
/-! ### in -/
def inND (neg : Bool) : G2 := fun x y h => match y with
  | .at n => match h[n]? with
    | some (.dcn kvs) => if depN x then some (.bl (neg ^^ (valN kvs x).isSome), h) else none
    | _ => none
  | _ => none
def rNIn (K : Kw) (neg : Bool) : R2 := fun x y H Q => ∃ a b xs nk, x = .ref b ∧ y = .ref a ∧ NAt K H a xs ∧ KeyV K.f H nk (.ref b) ∧ nk.depth ≤ 8 ∧ Q (.bl (neg ^^ (atKey xs nk).isSome)) H
theorem depN_of {d : D} (e : depN d = true) : ∃ xs nk, d = .tup xs ∧ nkD d = some nk ∧ nk.depth ≤ 8 := by
  unfold depN at e
  split at e
  · rename_i xs
    split at e
    · rename_i nk q
      exact ⟨xs, nk, rfl, q, of_decide_eq_true e⟩
    · cases e
  · cases e
section
variable {K : Kw} {X : Cx}
theorem so_inN (neg : Bool) : SO K (rNIn K neg) (inND neg) := by
  intro Φ H μ h x y v w d h' S r1 r2 e Q k
  unfold inND at e
  split at e
  · rename_i n
    split at e
    · rename_i kvs q
      split at e
      · rename_i hd
        cases e
        obtain ⟨xs, nk, rfl, e1, e2⟩ := depN_of hd
        obtain ⟨a, ea, rfl⟩ := rp_at' r2
        obtain ⟨ys, n1, n2⟩ := S.dcn q ea
        obtain ⟨p, vs, rfl, _⟩ := rp_tup' r1
        refine ⟨a, p, ys, nk, rfl, rfl, n1, key_rp _ _ _ r1 e1, e2, ?_⟩
        have : (atKey ys nk).isSome = (valN kvs (.tup xs)).isSome := by
          rcases n2.val e1 with ⟨z1, z2⟩ | ⟨_, _, _, _, z1, z2, _⟩ <;> rw [z1, z2] <;> rfl
        rw [this]
        exact k _ H μ S Le.refl rp_bl
      · cases e
    · cases e
  · cases e
theorem op_inN (hu : X.A.units + 64 < cLine) (hK : KOf X = K := by rfl) : OpR X (compareOp .In) (rNIn K false) := by
  subst hK
  intro pins s σ H x y v u Q I rx ry h
  obtain ⟨a, b, xs, nk, rfl, rfl, n, kv, dp, q⟩ := h
  cases (show v = Value.ref b from rx)
  cases (show u = Value.ref a from ry)
  refine wpAny_in_heap (nroom hu) ⟨key_is I _ _ _ kv rfl, dp⟩ n.sy (n.dict I) ?_
  exact ⟨.bl _, H, I.tok _, rfl, by simpa using q⟩
theorem op_niN (hu : X.A.units + 64 < cLine) (hK : KOf X = K := by rfl) : OpR X (compareOp .NotIn) (rNIn K true) := by
  subst hK
  intro pins s σ H x y v u Q I rx ry h
  obtain ⟨a, b, xs, nk, rfl, rfl, n, kv, dp, q⟩ := h
  cases (show v = Value.ref b from rx)
  cases (show u = Value.ref a from ry)
  refine notIn_keyed (nroom hu) ⟨key_is I _ _ _ kv rfl, dp⟩ n.sy ⟨xs, n.dict I, rfl⟩ ?_
  rw [valueAt_pairsH, Option.isSome_map]
  exact ⟨.bl _, H, I.tok _, rfl, by simpa using q⟩
/-! k in d, for a dict of ints and texts -/
def inKD (neg : Bool) : G2 := fun x y h => match y with
  | .at n => match h[n]? with
    | some (.dct kvs) => match keyD x with
      | some k => some (.bl (neg ^^ (valD kvs k).isSome), h)
      | none => none
    | _ => none
  | _ => none
def rKIn (neg : Bool) : R2 := fun x y H Q => ∃ a o, y = .ref a ∧ DGet H a x o ∧ Q (.bl (neg ^^ o.isSome)) H
theorem so_inK (neg : Bool) : SO K (rKIn neg) (inKD neg) := by
  intro Φ H μ h x y v w d h' S r1 r2 e Q k
  unfold inKD at e
  split at e
  · rename_i n
    split at e
    · rename_i kvs q
      split at e
      · rename_i kk q3
        cases e
        obtain ⟨a, ea, rfl⟩ := rp_at' r2
        obtain ⟨kw, c1, c2⟩ := S.dct q ea
        refine ⟨a, valV kw kk, rfl, by rw [key_of r1 q3]; exact DGet.k c1, ?_⟩
        have : (valV kw kk).isSome = (valD kvs kk).isSome := by
          rcases c2.val (k := kk) with ⟨z1, z2⟩ | ⟨_, _, z1, z2, _⟩ <;> rw [z1, z2] <;> rfl
        rw [this]
        exact k _ H μ S Le.refl rp_bl
      · cases e
    · cases e
  · cases e
theorem op_inK (hu : X.A.units + 64 < cLine) : OpR X (compareOp .In) (rKIn false) := by
  intro pins s σ H x y v u Q I rx ry h
  obtain ⟨a, o, rfl, g, q⟩ := h
  cases (show u = Value.ref a from ry)
  exact d_in (by omega) I g rx fun s' I' => ⟨.bl o.isSome, H, I', rfl, by simpa using q⟩
theorem op_niK (hu : X.A.units + 64 < cLine) : OpR X (compareOp .NotIn) (rKIn true) := by
  intro pins s σ H x y v u Q I rx ry h
  obtain ⟨a, o, rfl, g, q⟩ := h
  cases (show u = Value.ref a from ry)
  exact d_notIn (by omega) I g rx fun s' I' => ⟨.bl (!o.isSome), H, I', rfl, by simpa using q⟩
end

/-! ### d[k], d[k] = v, {} -/
def subsND : G2 := fun x y h => match x with
  | .at n => match h[n]? with
    | some (.dcn kvs) => if depN y then match valN kvs y with
      | some d => some (d, h)
      | none => none else none
    | _ => none
  | _ => none
def tNGet (K : Kw) (td ty : TE) : TE := fun σ H Q => td σ H fun x H1 => ty σ H1 fun y H2 => ∃ a b xs nk c u v, x = .ref a ∧ y = .ref b ∧ NAt K H2 a xs ∧ KeyV K.f H2 nk (.ref b) ∧ nk.depth ≤ 8 ∧ atKey xs nk = some (c, u) ∧ RelV v u ∧ Q v H2
theorem NAt.typeIs {X : Cx} {pins : List (Addr × Obj)} {σ : L2.St} {H : Hp} {s : Shared} (I : L2.Inv X pins σ H s) {a : Addr} {xs : List (NestedKey × Addr × Value)} (n : NAt (KOf X) H a xs) : s.TypeIs (.ref a) "dict" := (n.dict I).typeIs
section
variable {X : Cx} {o i value : Expr} {pos pos' : Pos} {td ty tv : TE}
theorem pe_nget (hu : X.A.units + 64 < cLine) (ho : PE X o td) (hi : PE X i ty) (hs : NoSl i) : PE X (.Subscript o i pos) (tNGet (KOf X) td ty) := by
  refine ⟨fun pins s σ H Q I h => ?_⟩
  refine subD_of PySem.F.slot_dict_getitem.lookup hs (thn (ho.run pins s σ H _ I h) fun u s1 ⟨x, H1, I1, rx, q1⟩ => thn (hi.run pins s1 σ H1 _ I1 q1) fun iv s2 ⟨y, H2, I2, ry, a, b, xs, nk, c, u', v, ex, ey, n, kv, dp, ea, rv, q2⟩ => ?_)
  subst ex ey
  obtain rfl : u = Value.ref a := rx
  obtain rfl : iv = Value.ref b := ry
  refine ⟨n.typeIs I2, ?_⟩
  exact wpAny_getItem_heap (nroom hu) ⟨key_is I2 _ _ _ kv rfl, dp⟩ (n.dict I2) ea ⟨v, H2, I2.tok _, rv, q2⟩
def sNPut (K : Kw) (td ty tv : TE) : TS := fun D σ H => tv σ H fun v H1 => td σ H1 fun x H2 => ty σ H2 fun y H3 => ∃ a b xs nk, x = .ref a ∧ y = .ref b ∧ NAt K H3 a xs ∧ KeyV K.f H3 nk (.ref b) ∧ nk.depth ≤ 8 ∧ xs.length < sizeLine ∧
  ∀ u, RelV v u → D.nx σ (upd H3 a (.ext (NPhi K.w a (storedH xs nk b u))))
theorem ps_nput (hu : X.A.units + 64 < cLine) (ho : PE X o td) (hi : PE X i ty) (hv : PE X value tv) (hs : swapsWith value (some (.Subscript o i pos')) pos.line X.env = pure false) :
    PS X (.Assign [.Subscript o i pos'] value pos) (sNPut (KOf X) td ty tv) := by
  refine ⟨fun pins s σ H D I h => ?_⟩
  refine wpAny_Assign_Subscript (thn (hv.run pins s σ H _ I h) fun r s1 ⟨v, H1, I1, rv, q1⟩ => thn (ho.run pins s1 σ H1 _ I1 q1) fun u s2 ⟨x, H2, I2, rx, q2⟩ => thn (hi.run pins s2 σ H2 _ I2 q2) fun iv s3 ⟨y, H3, I3, ry, a, b, xs, nk, ex, ey, n, kv, dp, hl, q3⟩ => ?_) hs
  subst ex ey
  obtain rfl : u = Value.ref a := rx
  obtain rfl : iv = Value.ref b := ry
  refine wpAny_setItem_heap (hsz := n.ln) (nroom hu) ⟨key_is I3 _ _ _ kv rfl, dp⟩ (n.dict I3) fun h' dd' hs' => ?_
  obtain ⟨q, es, ep, hq, h2, h3, h4, _, h5⟩ := dd'
  refine ⟨σ, _, d_write I3 (by rw [n.at_]; exact True.intro) hs' ⟨q, hq⟩ ?_, q3 r rv⟩
  exact ⟨⟨q, es, ep, hq, h2, h3, h4⟩, ⟨q, hq⟩, fun g1 g2 ⟨o1, es1, ep1, z1, z2, z3, z4⟩ kp => ⟨o1, es1, ep1, kp _ z1, z2, z3, z4⟩⟩
/-- {}, to be such a dict -/
def tDNewN (K : Kw) : TE := fun _ H Q => ∀ p, H p = none → (p == sysModules) = false → Q (.ref p) (upd H p (.ext (NPhi K.w p [])))
theorem pe_dnewN : PE X (.Dict [] [] pos) (tDNewN (KOf X)) := ⟨fun pins s σ H Q I h =>
  wpAny_Dict_empty ⟨.ref s.heap.objs.size, _, I.laid (a := s.heap.objs.size) (o := .ext (NPhi X.w s.heap.objs.size [])) (t' := s.toks) (fun _ _ q => Heap.get?_push_of_some _ q) (Nat.le_refl _)
    ⟨⟨_, #[], 0, Heap.get?_push_size _ rfl, ⟨rfl, rfl, rfl⟩, rfl, rfl⟩, ⟨_, Heap.get?_push_size _ rfl⟩, fun g1 g2 ⟨o1, es1, ep1, z1, z2, z3, z4⟩ kp => ⟨o1, es1, ep1, kp _ z1, z2, z3, z4⟩⟩, rfl,
    h _ (I.hok.fresh (Nat.le_refl _)) (beq_eq_false_iff_ne.mpr (Ne.symm (Nat.ne_of_lt I.big)))⟩⟩
end
theorem storedH_nodup {xs : List (NestedKey × Addr × Value)} {k : NestedKey} {a : Addr} {v : Value} (h : (xs.map (·.1)).Nodup) : ((storedH xs k a v).map (·.1)).Nodup := by
  unfold storedH
  split
  · have : (xs.map (putAt k v)).map (·.1) = xs.map (·.1) := by
      rw [List.map_map]
      apply List.map_congr_left
      intro x _
      simp only [Function.comp_apply, putAt]
      split <;> rfl
    rw [this]
    exact h
  · rename_i hn
    rw [List.map_append, List.nodup_append]
    refine ⟨h, by simp, fun x hx y hy e => ?_⟩
    simp only [List.map_cons, List.map_nil, List.mem_singleton] at hy
    subst hy
    subst e
    obtain ⟨z, hz, rfl⟩ := List.mem_map.mp hx
    apply hn
    unfold atKey
    rw [Option.isSome_map, List.find?_isSome]
    exact ⟨z, hz, by simp⟩
def dnewNM : ME := fun _ h => some (.at h.length, h ++ [.dcn []])
def setND (o i v : ME) : MS := fun sg h => match v sg h with
  | some (z, h1) => match o sg h1 with
    | some (.at n, h2) => match i sg h2 with
      | some (y, h3) => match h3[n]? with
        | some (.dcn kvs) => if depN y = true ∧ kvs.length < LN then some (.nx sg, h3.set n (.dcn (putN kvs y z))) else none
        | _ => none
      | none => none
    | _ => none
  | none => none
section
variable {K : Kw} {X : Cx} {a b o i v : Expr} {pos pos' : Pos} {ta tb to ti tv : TE} {ma mb mo mi mv : ME}
theorem de_dnewN (hK : KOf X = K := by rfl) : DE K X (.Dict [] [] pos) (tDNewN K) dnewNM := ⟨hK, by subst hK; exact pe_dnewN, by
  intro Φ σ H μ sg h d h' S rs e Q k
  cases e
  intro p hp hs
  refine k _ _ (μ ++ [p]) (S.obj hp ⟨[], upd_same, Nat.zero_le _, hs, List.nodup_nil, rfl⟩) (le_obj hp) ?_
  unfold Rp
  exact ⟨p, obj_at S rfl, rfl⟩⟩
theorem de_subN (ha : DE K X a ta ma) (hb : DE K X b tb mb) (hu : X.A.units + 64 < cLine) (hs2 : NoSl b := by exact fun _ _ => rfl) : DE K X (.Subscript a b pos) (tNGet K ta tb) (opM subsND ma mb) := ⟨ha.k, by have hk := ha.k; subst hk; exact pe_nget hu ha.p hb.p hs2, by
  intro Φ σ H μ sg h d h' S rs e Q k
  unfold opM at e
  split at e
  · rename_i x h1 e1
    split at e
    · rename_i y h2 e2
      unfold subsND at e
      split at e
      · rename_i n
        split at e
        · rename_i kvs q
          split at e
          · rename_i hd
            split at e
            · rename_i d1 q4
              cases e
              obtain ⟨ys, nk, rfl, e3, e4⟩ := depN_of hd
              refine ha.s σ H μ sg h _ h1 S rs e1 _ fun v H1 μ1 S1 l1 r1 => ?_
              refine hb.s σ H1 μ1 sg h1 _ _ S1 (rs.mono l1) e2 _ fun w H2 μ2 S2 l2 r2 => ?_
              obtain ⟨p, ep, rfl⟩ := rp_at' (Rp.mono l2 _ _ r1)
              obtain ⟨xs, n1, n2⟩ := S2.dcn q ep
              obtain ⟨c, vs, rfl, _⟩ := rp_tup' r2
              rcases n2.val e3 with ⟨z, _⟩ | ⟨d2, b', u, v', z1, z2, z3, z4⟩
              · rw [q4] at z; cases z
              · rw [q4] at z1
                cases z1
                exact ⟨p, c, xs, nk, b', u, v', rfl, rfl, n1, key_rp _ _ _ r2 e3, e4, z2, z3, k _ H2 μ2 S2 (l1.trans l2) z4⟩
            · cases e
          · cases e
        · cases e
      · cases e
    · cases e
  · cases e⟩
theorem ds_putN (ho : DE K X o to mo) (hi : DE K X i ti mi) (hv : DE K X v tv mv) (hu : X.A.units + 64 < cLine) (hs : swapsWith v (some (.Subscript o i pos')) pos.line X.env = pure false := by rfl) :
    DS K X (.Assign [.Subscript o i pos'] v pos) (sNPut K to ti tv) (setND mo mi mv) := ⟨ho.k, by have hk := ho.k; subst hk; exact ps_nput hu ho.p hi.p hv.p hs, by
  intro Φ σ H μ sg h f h' S rs e E k
  unfold setND at e
  split at e
  · rename_i z h1 e1
    split at e
    · rename_i n h2 e2
      split at e
      · rename_i y h3 e3
        split at e
        · rename_i kvs q
          split at e
          · rename_i hc
            cases e
            obtain ⟨ys, nk, rfl, e4, e5⟩ := depN_of hc.1
            refine hv.s σ H μ sg h _ h1 S rs e1 _ fun v1 H1 μ1 S1 l1 r1 => ?_
            refine ho.s σ H1 μ1 sg h1 _ _ S1 (rs.mono l1) e2 _ fun w H2 μ2 S2 l2 r2 => ?_
            refine hi.s σ H2 μ2 sg h2 _ _ S2 (rs.mono (l1.trans l2)) e3 _ fun w3 H3 μ3 S3 l3 r3 => ?_
            obtain ⟨p, ep, rfl⟩ := rp_at' (Rp.mono l3 _ _ r2)
            obtain ⟨xs, n1, n2⟩ := S3.dcn q ep
            obtain ⟨c, vs, rfl, _⟩ := rp_tup' r3
            have hl := n2.len
            refine ⟨p, c, xs, nk, rfl, rfl, n1, key_rp _ _ _ r3 e4, e5, ?_, fun u ru => ?_⟩
            · rw [hl]; exact ln_lt hc.2
            have r1' : Rp K H3 μ3 z v1 := Rp.mono (l2.trans l3) _ _ r1
            have lset : Le K H3 μ3 (upd H3 p (.ext (NPhi K.w p (storedH xs nk c u)))) μ3 := le_set S3 ep
            have hnd : ((storedH xs nk c u).map (·.1)).Nodup := by
              have := (storedH_nodup (xs := xs) (k := nk) (a := c) (v := u) n1.nd)
              exact this
            have hlen : (storedH xs nk c u).length ≤ sizeLine := by
              have h1 : (storedH xs nk c u).length ≤ xs.length + 1 := by
                unfold storedH
                split <;> simp
              have h2 := ln_lt hc.2
              omega
            have hdk : DKs K H3 μ3 (putN kvs (.tup ys) z) (storedH xs nk c u) := by
              unfold putN storedH
              rw [n2.any e4]
              split
              · exact n2.map e4 ru r1'
              · exact n2.snoc e4 e5 r3 ru r1'
            refine k _ _ μ3 (S3.set ep ⟨storedH xs nk c u, upd_same, hlen, n1.sy, hnd, hdk.mono lset⟩) ((l1.trans l2).trans (l3.trans lset)) (rs.mono ((l1.trans l2).trans (l3.trans lset)))
          · cases e
        · cases e
      · cases e
    · cases e
  · cases e⟩
end
end DL

/-! DM21: instances: fields, methods, making. -/
namespace DL
open PySem L2 PySem.Spec PyProof.Rows
/-! ### fields -/
def fldD (f : Nat) : List (Nat × D) → Option D
  | [] => none
  | (g, d) :: r => if f = g then some d else fldD f r
def putFD (f : Nat) (v : D) : List (Nat × D) → List (Nat × D)
  | [] => [(f, v)]
  | (g, x) :: r => if g = f then (g, v) :: r else (g, x) :: putFD f v r
section
variable {K : Kw} {H : Hp} {μ : List Addr} {Φ : Hp}
theorem fld_rp {f : Nat} : ∀ {fs : List (Nat × D)} {fw : List (Str × V)}, fw.map (·.1) = fs.map (fun p => nmN p.1) → Rps K H μ (fs.map (·.2)) (fw.map (·.2)) →
    (fldD f fs = none ∧ fw.lookup (nmN f) = none) ∨ ∃ d v, fldD f fs = some d ∧ fw.lookup (nmN f) = some v ∧ Rp K H μ d v
  | [], [], _, _ => .inl ⟨rfl, rfl⟩
  | [], _ :: _, h, _ => by simp at h
  | _ :: _, [], h, _ => by simp at h
  | (g, d) :: fs, (n, v) :: fw, h, r => by
    simp only [List.map_cons, List.cons.injEq] at h
    obtain ⟨h1, h2⟩ := h
    obtain ⟨v', vs', e, r1, r2⟩ := r.cons'
    cases e
    subst h1
    by_cases q : f = g
    · subst q
      refine .inr ⟨d, v, by simp [fldD], ?_, r1⟩
      simp [List.lookup]
    · have ih := fld_rp (f := f) h2 r2
      have hb : (nmN f == nmN g) = false := beq_eq_false_iff_ne.mpr fun e => q (nmN_inj e)
      simpa [fldD, q, List.lookup, hb] using ih
theorem put_rp {f : Nat} {z : D} {y : V} (ry : Rp K H μ z y) : ∀ {fs : List (Nat × D)} {fw : List (Str × V)}, fw.map (·.1) = fs.map (fun p => nmN p.1) → Rps K H μ (fs.map (·.2)) (fw.map (·.2)) →
    (putF (nmN f) y fw).map (·.1) = (putFD f z fs).map (fun p => nmN p.1) ∧ Rps K H μ ((putFD f z fs).map (·.2)) ((putF (nmN f) y fw).map (·.2))
  | [], [], _, _ => ⟨rfl, Rps.cons ry Rps.nil⟩
  | [], _ :: _, h, _ => by simp at h
  | _ :: _, [], h, _ => by simp at h
  | (g, d) :: fs, (n, v) :: fw, h, r => by
    simp only [List.map_cons, List.cons.injEq] at h
    obtain ⟨h1, h2⟩ := h
    obtain ⟨v', vs', e, r1, r2⟩ := r.cons'
    cases e
    subst h1
    by_cases q : g = f
    · subst q
      simp only [putF, putFD, if_true, List.map_cons]
      exact ⟨by rw [h2], Rps.cons ry r2⟩
    · have hb : ¬ nmN g = nmN f := fun e => q (nmN_inj e)
      obtain ⟨a, b⟩ := put_rp (f := f) ry h2 r2
      simp only [putF, putFD, if_neg hb, if_neg q, List.map_cons]
      exact ⟨by rw [a], Rps.cons r1 b⟩
theorem Sm.ins {h : Hd} {n : Nat} {C : Addr} {fs : List (Nat × D)} {a : Addr} (S : Sm Φ K H μ h) (e : h[n]? = some (.ins C fs)) (ea : μ[n]? = some a) :
    ∃ (dx : Addr) (fw : List (Str × V)), H a = some (.ins C dx fw) ∧ fw.map (·.1) = fs.map (fun p => nmN p.1) ∧ Rps K H μ (fs.map (·.2)) (fw.map (·.2)) :=
  (show Ok K H μ a (.ins C fs) from S.at ea e)
end
/-- the classes that an object's field is read of -/
structure ClF (K : PySem.W.Frag) (C : Addr) (f : Str) : Prop where
  c : Cls K C
  n : NoAttr K C f
def fldM (Cs : List Addr) (f : Nat) (a : ME) : ME := fun sg h => match a sg h with
  | some (.at n, h1) => match h1[n]? with
    | some (.ins C fs) => if C ∈ Cs then match fldD f fs with
      | some d => some (d, h1)
      | none => none else none
    | _ => none
  | _ => none
def setFldM (Cs : List Addr) (f : Nat) (o v : ME) : MS := fun sg h => match v sg h with
  | some (z, h1) => match o sg h1 with
    | some (.at n, h2) => match h2[n]? with
      | some (.ins C fs) => if C ∈ Cs ∧ fs.length < 1000 then some (.nx sg, h2.set n (.ins C (putFD f z fs))) else none
      | _ => none
    | _ => none
  | none => none
section
variable {K : Kw} {X : Cx} {a o v : Expr} {f : Str} {pos pos' : Pos} {ta to tv : TE} {ma mo mv : ME} {Cs : List Addr} {n : Nat}
theorem de_fld (hC : ∀ C ∈ Cs, ClF K C f) (hn : nmN n = f) (ha : DE K X a ta ma) (hb : attributeBase a f X.env (eval a X.env) = eval a X.env := by rfl) : DE K X (.Attribute a f pos) (L2.tFld X.K ta f) (fldM Cs n ma) := ⟨ha.k, pe_fld ha.p hb, by
  have hk := ha.k
  subst hk
  subst hn
  intro Φ σ H μ sg h d h' S rs e Q k
  unfold fldM at e
  split at e
  · rename_i m h1 e1
    split at e
    · rename_i C fs q
      split at e
      · rename_i hm
        split at e
        · rename_i d1 q2
          cases e
          refine ha.s σ H μ sg h _ _ S rs e1 _ fun v H1 μ1 S1 l1 r1 => ?_
          obtain ⟨p, ep, rfl⟩ := rp_at' r1
          obtain ⟨dx, fw, c1, c2, c3⟩ := S1.ins q ep
          rcases fld_rp (f := n) c2 c3 with ⟨z, _⟩ | ⟨d2, u, z1, z2, z3⟩
          · rw [q2] at z; cases z
          · rw [q2] at z1
            cases z1
            exact ⟨p, C, dx, fw, u, rfl, c1, (hC C hm).c, (hC C hm).n, z2, k _ H1 μ1 S1 l1 z3⟩
        · cases e
      · cases e
    · cases e
  · cases e⟩
theorem ds_fld (hC : ∀ C ∈ Cs, ClF K C f) (hn : nmN n = f) (ho : DE K X o to mo) (hv : DE K X v tv mv) (hs : swapsWith v (some (.Attribute o f pos')) pos.line X.env = pure false := by rfl) :
    DS K X (.Assign [.Attribute o f pos'] v pos) (L2.sFld X.K to tv f) (setFldM Cs n mo mv) := ⟨ho.k, ps_fld ho.p hv.p hs, by
  have hk := ho.k
  subst hk
  subst hn
  intro Φ σ H μ sg h fl h' S rs e E k
  unfold setFldM at e
  split at e
  · rename_i z h1 e1
    split at e
    · rename_i m h2 e2
      split at e
      · rename_i C fs q
        split at e
        · rename_i hm
          cases e
          refine hv.s σ H μ sg h _ _ S rs e1 _ fun v1 H1 μ1 S1 l1 r1 => ?_
          refine ho.s σ H1 μ1 sg h1 _ _ S1 (rs.mono l1) e2 _ fun w H2 μ2 S2 l2 r2 => ?_
          obtain ⟨p, ep, rfl⟩ := rp_at' r2
          obtain ⟨dx, fw, c1, c2, c3⟩ := S2.ins q ep
          have hl : fw.length = fs.length := by
            have := congrArg List.length c2
            simpa using this
          refine ⟨p, C, dx, fw, rfl, c1, (hC C hm.1).c, (hC C hm.1).n, by omega, ?_⟩
          obtain ⟨p1, p2⟩ := put_rp (f := n) (Rp.mono l2 _ _ r1) c2 c3
          have lset : Le (KOf X) H2 μ2 (upd H2 p (.ins C dx (putF (nmN n) v1 fw))) μ2 := le_set S2 ep
          exact k _ _ μ2 (S2.set ep ⟨dx, _, upd_same, p1, Rps.mono lset _ _ p2⟩) (l1.trans (l2.trans lset)) (rs.mono (l1.trans (l2.trans lset)))
        · cases e
      · cases e
    · cases e
  · cases e⟩
end
end DL

/-! DM22: methods, objects made. -/
namespace DL
open PySem L2 PySem.Spec PyProof.Rows
def tMethSD (C : Addr) (m : Str) (sp : Sp) (dvs : List V) (E : L2.St → XK) (ta : TE) (t : TA) : TE := fun σ H Q => ta σ H fun x H1 => ∃ a dx fs, x = .ref a ∧ H1 a = some (.ins C dx fs) ∧ fs.lookup m = none ∧
  t σ H1 fun vs H2 => sp (x :: (vs ++ dvs)) H2 Q (E σ)
def tMakeSD (C : Addr) (sp : Sp) (dvs : List V) (E : L2.St → XK) (t : TA) : TE := fun σ H Q => t σ H fun vs H1 => ∀ x dx, H1 x = none → H1 dx = none → dx ≠ x →
  sp (.ref x :: (vs ++ dvs)) (upd (upd H1 dx (.own x)) x (.ins C dx [])) (fun v H2 => v = .non ∧ Q (.ref x) H2) (E σ)
theorem RoomG.make {k : Nat} {A : Around} (r : RoomG (k + 1) A) (C : Addr) (us : List Value) (kw : List (Str × Value)) : RoomG k (A.under (.builtin "type.__call__" ⟨.ref C :: us, kw⟩)) := ⟨r.r.make C us kw, r.g⟩
section
variable {X : Cx} {CX : CXT} {k : Nat} {C f : Addr} {m x : Str} {fd : FuncData} {ps : List Str} {sp : Sp} {dvs : List V} {ds : List Value} {E : L2.St → XK} {p apos pos : Pos} {e o : Expr} {es : List Expr} {ta : TE} {t : TA}
theorem pe_methG {pl : Sem Bool} (he : PE X o ta) (c : Cls X.K C) (hm : Meth X.K C m f) (F : FnG X.prog X.w X.K X.mg X.base CX k f fd ps sp) (hr : RoomG k X.A) (hb : Binds X.K fd ps ds) (hd : Vals dvs ds) (hx : ∀ σ, PassesAt CX X σ (E σ)) (ha : PA X (e :: es) t)
    (hst : starEach (e :: es) X.env = (false, eval e X.env) :: starEach es X.env := by rfl) (hpl : (backTo pos (starEach es X.env)).any (·.1) = false := by rfl)
    (ht : eval (.Call (.Attribute o m apos) (e :: es) [] pos) X.env = (do
      let ov ← eval o X.env
      standAt apos.atName
      let (f, first) ← holding [ov] (getMethod ov m pl)
      callWith pos f first (backTo pos (starEach (e :: es) X.env)) (backToKw pos (keywordEach [] X.env))) := by rfl) :
    PE X (.Call (.Attribute o m apos) (e :: es) [] pos) (tMethSD C m sp dvs E ta t) := by
  refine ⟨fun pins s σ H Q I h => ?_⟩
  refine PySem.W.methodCall_KW (pl := pl) (thn (he.run pins s σ H _ I h) fun u s1 ⟨x, H1, I1, rx, a, dx, fs, ex, ea, l, q⟩ => ?_) ht
  subst ex
  obtain rfl : u = Value.ref a := rx
  refine getmeth_ok I1 ea c hm l ?_
  refine PySem.W.callWith_K (first := [.ref a]) (h₀ := X.base) I.ok.mod.kin hm.kp (thn (ha.run pos pins s1 σ H1 _ I1 q) fun us s2 ⟨vs, H2, I2, r, q2⟩ => ⟨I2.kIn, ?_⟩) hst hpl
  exact run_fnG (us := .ref a :: us) (vs := .ref a :: vs) F hr hb hd (hx σ) I2 (.cons rfl r) q2
theorem pe_methG0 {pl : Sem Bool} (he : PE X o ta) (c : Cls X.K C) (hm : Meth X.K C m f) (F : FnG X.prog X.w X.K X.mg X.base CX k f fd ps sp) (hr : RoomG k X.A) (hb : Binds X.K fd ps ds) (hd : Vals dvs ds) (hx : ∀ σ, PassesAt CX X σ (E σ))
    (ht : eval (.Call (.Attribute o m apos) [] [] pos) X.env = (do
      let ov ← eval o X.env
      standAt apos.atName
      let (f, first) ← holding [ov] (getMethod ov m pl)
      callWith pos f first (backTo pos (starEach [] X.env)) (backToKw pos (keywordEach [] X.env))) := by rfl) :
    PE X (.Call (.Attribute o m apos) [] [] pos) (tMethSD C m sp dvs E ta tNil) := by
  refine ⟨fun pins s σ H Q I h => ?_⟩
  refine PySem.W.methodCall_KW (pl := pl) (thn (he.run pins s σ H _ I h) fun u s1 ⟨x, H1, I1, rx, a, dx, fs, ex, ea, l, q⟩ => ?_) ht
  subst ex
  obtain rfl : u = Value.ref a := rx
  refine getmeth_ok I1 ea c hm l ?_
  exact PySem.W.callWith_K0 (first := [.ref a]) I1.kIn hm.kp (run_fnG (us := [.ref a]) (vs := [.ref a]) F hr hb hd (hx σ) I1 (.cons rfl .nil) q)
theorem run_makeG {pins : List (Addr × Obj)} {σ : L2.St} {H : Hp} {s : Shared} {Q : VK} {us : List Value} {vs : List V} (M : Mk X.K C f) (F : FnG X.prog X.w X.K X.mg X.base CX k f fd ps sp) (hr : RoomG (k + 1) X.A) (hb : Binds X.K fd ps ds) (hd : Vals dvs ds)
    (hx : ∀ σ, PassesAt CX X σ (E σ)) (I : L2.Inv X pins σ H s) (r : Vals vs us)
    (h : ∀ x dx, H x = none → H dx = none → dx ≠ x → sp (.ref x :: (vs ++ dvs)) (upd (upd H dx (.own x)) x (.ins C dx [])) (fun v H2 => v = .non ∧ Q (.ref x) H2) (E σ)) :
    wpAny (model X.prog X.w) X.A (call (.ref C) us) (EP X pins σ Q) X.xe s := by
  have hq := h (s.heap.objs.size + 1) s.heap.objs.size (I.hok.fresh (Nat.le_succ _)) (I.hok.fresh (Nat.le_refl _)) (Nat.ne_of_lt (Nat.lt_succ_self _))
  have I2 := Inv.made (C := C) I
  have r2 : Vals (V.ref (s.heap.objs.size + 1) :: (vs ++ dvs)) (Value.ref (s.heap.objs.size + 1) :: (us ++ ds)) := .cons rfl (r.append hd)
  have hl : (Value.ref (s.heap.objs.size + 1) :: us ++ ds).length = ps.length := by
    have e := r2.length
    rw [F.len _ _ _ _ hq] at e
    exact e.symm
  refine wpAny_call (make_map (f := f) I.kIn M.makes M.init (beq_iff_eq.mp M.fn) (codeAny_mono (F.run _ X.stack _ _ ⟨Value.ref (s.heap.objs.size + 1) :: us, []⟩ (Value.ref (s.heap.objs.size + 1) :: (us ++ ds)) _ _ (E σ) (hr.make C us [])
    (I2.env0.make C us []) (hb _ (Value.ref (s.heap.objs.size + 1) :: us) I2.kIn hl) r2 hq) fun r s' hq' => ?_))
  cases r with
  | error e => exact hx σ pins _ _ e s' I2 hq'
  | ok fl =>
    cases fl with
    | ret u =>
      obtain ⟨v, H', I3, rv, ev, q3⟩ := I2.after hq'
      subst ev
      exact ⟨rv, ⟨V.ref (s.heap.objs.size + 1), H', I3, rfl, q3⟩⟩
    | next => exact False.elim hq'
    | brk => exact False.elim hq'
    | cont => exact False.elim hq'
theorem pe_makeG (M : Mk X.K C f) (F : FnG X.prog X.w X.K X.mg X.base CX k f fd ps sp) (hr : RoomG (k + 1) X.A) (hg : Gl X x) (hm : X.mg x = some (.ref C)) (hb : Binds X.K fd ps ds) (hd : Vals dvs ds) (hx : ∀ σ, PassesAt CX X σ (E σ))
    (ha : PA X (e :: es) t) (hdb : (x == ("__debug__" : Str)) = false := by decide) (he : starEach (e :: es) X.env = (false, eval e X.env) :: starEach es X.env := by rfl) (hpl : (backTo pos (starEach es X.env)).any (·.1) = false := by rfl) :
    PE X (.Call (.Name x p) (e :: es) [] pos) (tMakeSD C sp dvs E t) := by
  refine ⟨fun pins s σ H Q I h => ?_⟩
  refine wpAny_Call_Name_kw (ld_glob I hg hm ?_ hdb)
  refine PySem.W.callWith_K (h₀ := X.base) I.ok.mod.kin M.kp (thn (ha.run pos pins s σ H _ I h) fun us s1 ⟨vs, H1, I1, r, q⟩ => ⟨I1.kIn, ?_⟩) he hpl
  exact run_makeG M F hr hb hd hx I1 r q
theorem pe_makeG0 (M : Mk X.K C f) (F : FnG X.prog X.w X.K X.mg X.base CX k f fd ps sp) (hr : RoomG (k + 1) X.A) (hg : Gl X x) (hm : X.mg x = some (.ref C)) (hb : Binds X.K fd ps ds) (hd : Vals dvs ds) (hx : ∀ σ, PassesAt CX X σ (E σ))
    (hdb : (x == ("__debug__" : Str)) = false := by decide) : PE X (.Call (.Name x p) [] [] pos) (tMakeSD C sp dvs E tNil) := by
  refine ⟨fun pins s σ H Q I h => ?_⟩
  refine wpAny_Call_Name_kw (ld_glob I hg hm ?_ hdb)
  exact PySem.W.callWith_K0 I.kIn M.kp (run_makeG (us := []) M F hr hb hd hx I .nil h)
end
/-- the method f of the class C keeps m, xg -/
structure MthM (P : Program) (w : World) (K : PySem.W.Frag) (mg : Str → Option Value) (base : Heap) (k : Nat) (C : Addr) (f : Str) (n : Nat) (m : GC) (xg : GX) (dd : List D) : Prop where
  ex : ∃ (fa : Addr) (fd : FuncData) (ps : List Str) (ds : List Value) (dvs : List V), FnG P w K mg base (L2.CX P w) k fa fd ps (spX ⟨K, w⟩ mg n m xg) ∧ Meth K C f fa ∧ Cls K C ∧ Binds K fd ps ds ∧ Vals dvs ds ∧ ∀ H μ, Rps ⟨K, w⟩ H μ dd dvs
/-- the class x at C is made by an __init__ that keeps m, xg -/
structure MakM (P : Program) (w : World) (K : PySem.W.Frag) (mg : Str → Option Value) (base : Heap) (k : Nat) (x : Str) (C : Addr) (n : Nat) (m : GC) (xg : GX) (dd : List D) : Prop where
  ex : ∃ (fa : Addr) (fd : FuncData) (ps : List Str) (ds : List Value) (dvs : List V), FnG P w K mg base (L2.CX P w) k fa fd ps (spX ⟨K, w⟩ mg n m xg) ∧ Mk K C fa ∧ mg x = some (.ref C) ∧ Binds K fd ps ds ∧ Vals dvs ds ∧ ∀ H μ, Rps ⟨K, w⟩ H μ dd dvs
/-- o.f(a ..) -/
def methM (C : Addr) (f : Nat) (n : Nat) (m : GC) (dd : List D) (o : ME) (a : MA) : ME := fun sg h => match o sg h with
  | some (.at j, h1) => match h1[j]? with
    | some (.ins C' fs) => if C' = C ∧ fldD f fs = none then match a sg h1 with
      | some (xs, h2) => if (D.at j :: (xs ++ dd)).length = n then m (.at j :: (xs ++ dd)) h2 else none
      | none => none else none
    | _ => none
  | _ => none
def methX (C : Addr) (f : Nat) (n : Nat) (x : GX) (dd : List D) (o : ME) (a : MA) : MX := fun sg h => match o sg h with
  | some (.at j, h1) => match h1[j]? with
    | some (.ins C' fs) => if C' = C ∧ fldD f fs = none then match a sg h1 with
      | some (xs, h2) => if (D.at j :: (xs ++ dd)).length = n then match x (.at j :: (xs ++ dd)) h2 with
        | some (xn, h3) => some (xn, sg, h3)
        | none => none else none
      | none => none else none
    | _ => none
  | _ => none
/-- C(a ..) -/
def makeM (C : Addr) (n : Nat) (m : GC) (dd : List D) (a : MA) : ME := fun sg h => match a sg h with
  | some (xs, h1) => if (D.at h1.length :: (xs ++ dd)).length = n then match m (.at h1.length :: (xs ++ dd)) (h1 ++ [.ins C []]) with
    | some (.non, h2) => some (.at h1.length, h2)
    | _ => none else none
  | none => none
def makeX (C : Addr) (n : Nat) (x : GX) (dd : List D) (a : MA) : MX := fun sg h => match a sg h with
  | some (xs, h1) => if (D.at h1.length :: (xs ++ dd)).length = n then match x (.at h1.length :: (xs ++ dd)) (h1 ++ [.ins C []]) with
    | some (xn, h2) => some (xn, sg, h2)
    | none => none else none
  | none => none
def tmM (K : Kw) (mg : Str → Option Value) (C : Addr) (f : Str) (n : Nat) (m : GC) (xg : GX) (dd : List D) (E : L2.St → XK) (to : TE) (ta : TA) : TE := fun σ H Q => ∀ dvs : List V, (∀ H μ, Rps K H μ dd dvs) → tMethSD C f (spX K mg n m xg) dvs E to ta σ H Q
def tkM (K : Kw) (mg : Str → Option Value) (C : Addr) (n : Nat) (m : GC) (xg : GX) (dd : List D) (E : L2.St → XK) (ta : TA) : TE := fun σ H Q => ∀ dvs : List V, (∀ H μ, Rps K H μ dd dvs) → tMakeSD C (spX K mg n m xg) dvs E ta σ H Q
section
variable {K : Kw} {mg : Str → Option Value} {X : Cx} {pos p apos : Pos} {o e : Expr} {es : List Expr} {to : TE} {ta : TA} {mo : ME} {ma : MA} {f x : Str} {n j k c : Nat} {m : GC} {xg : GX} {dd : List D} {E : L2.St → XK} {W : WX} {C : Addr}
theorem se_meth (hc : nmN c = f) (ho : SE K to mo) (ha : SA K ta ma) : SE K (tmM K mg C f n m xg dd E to ta) (methM C c n m dd mo ma) := by
  subst hc
  intro Φ σ H μ sg h d h' S rs e Q kk dvs hd
  unfold methM at e
  split at e
  · rename_i i h1 e1
    split at e
    · rename_i C' fs q
      split at e
      · rename_i hC
        split at e
        · rename_i xs h2 e2
          split at e
          · rename_i hl
            refine ho σ H μ sg h _ _ S rs e1 _ fun v H1 μ1 S1 l1 r1 => ?_
            obtain ⟨a, ea, rfl⟩ := rp_at' r1
            obtain ⟨dx, fw, c1, c2, c3⟩ := S1.ins q ea
            have hn : fw.lookup (nmN c) = none := by
              rcases fld_rp (f := c) c2 c3 with ⟨_, z⟩ | ⟨d2, u, z1, _, _⟩
              · exact z
              · rw [hC.2] at z1; cases z1
            rw [hC.1] at c1
            refine ⟨a, dx, fw, rfl, c1, hn, ha σ H1 μ1 sg h1 xs _ S1 (rs.mono l1) e2 _ fun vs H2 μ2 S2 l2 r2 => ?_⟩
            exact ⟨Φ, μ2, .at i :: (xs ++ dd), h2, S2, Rps.cons (Rp.mono l2 _ _ r1) (r2.app (hd H2 μ2)), hl, .inl ⟨d, h', e, fun v H3 μ3 S3 l3 r3 => kk v H3 μ3 S3 (l1.trans (l2.trans l3)) r3⟩⟩
          · cases e
        · cases e
      · cases e
    · cases e
  · cases e
theorem xe_meth (hc : nmN c = f) (ho : SE K to mo) (ha : SA K ta ma) : XEx K mg W (tmM K mg C f n m xg dd (WE W) to ta) (methX C c n xg dd mo ma) := by
  subst hc
  intro Φ σ H μ sg h xn sg' h' S rs e kk Q dvs hd
  unfold methX at e
  split at e
  · rename_i i h1 e1
    split at e
    · rename_i C' fs q
      split at e
      · rename_i hC
        split at e
        · rename_i xs h2 e2
          split at e
          · rename_i hl
            split at e
            · rename_i xn2 h3 e3
              cases e
              refine ho σ H μ sg h _ _ S rs e1 _ fun v H1 μ1 S1 l1 r1 => ?_
              obtain ⟨a, ea, rfl⟩ := rp_at' r1
              obtain ⟨dx, fw, c1, c2, c3⟩ := S1.ins q ea
              have hn : fw.lookup (nmN c) = none := by
                rcases fld_rp (f := c) c2 c3 with ⟨_, z⟩ | ⟨d2, u, z1, _, _⟩
                · exact z
                · rw [hC.2] at z1; cases z1
              rw [hC.1] at c1
              refine ⟨a, dx, fw, rfl, c1, hn, ha σ H1 μ1 sg h1 xs _ S1 (rs.mono l1) e2 _ fun vs H2 μ2 S2 l2 r2 => ?_⟩
              exact ⟨Φ, μ2, .at i :: (xs ++ dd), h2, S2, Rps.cons (Rp.mono l2 _ _ r1) (r2.app (hd H2 μ2)), hl, .inr ⟨xn, h', e3, fun H3 μ3 cls d S3 l3 rx => kk σ H3 μ3 cls d S3 (l1.trans (l2.trans l3)) (rs.mono (l1.trans (l2.trans l3))) rx⟩⟩
            · cases e
          · cases e
        · cases e
      · cases e
    · cases e
  · cases e
theorem made_sm {Φ : Hp} {H : Hp} {μ : List Addr} {h : Hd} (S : Sm Φ K H μ h) {x dx : Addr} (hx : H x = none) (hdx : H dx = none) (ne : dx ≠ x) :
    Sm Φ K (upd (upd H dx (.own x)) x (.ins C dx [])) (μ ++ [x]) (h ++ [.ins C []]) ∧ Le K H μ (upd (upd H dx (.own x)) x (.ins C dx [])) (μ ++ [x]) := by
  have hx' : upd H dx (.own x) x = none := by rw [upd_ne fun z => ne z.symm]; exact hx
  refine ⟨(S.new hdx).obj hx' ⟨dx, [], upd_same, rfl, Rps.nil⟩, (le_new hdx).trans (le_obj hx')⟩
theorem se_make (ha : SA K ta ma) : SE K (tkM K mg C n m xg dd E ta) (makeM C n m dd ma) := by
  intro Φ σ H μ sg h d h' S rs e Q kk dvs hd
  unfold makeM at e
  split at e
  · rename_i xs h1 e1
    split at e
    · rename_i hl
      split at e
      · rename_i h2 e2
        cases e
        refine ha σ H μ sg h xs _ S rs e1 _ fun vs H1 μ1 S1 l1 r1 => ?_
        intro x dx hx hdx ne
        obtain ⟨S2, l2⟩ := made_sm (C := C) S1 hx hdx ne
        have rx : Rp K (upd (upd H1 dx (.own x)) x (.ins C dx [])) (μ1 ++ [x]) (.at h1.length) (.ref x) := by
          unfold Rp
          exact ⟨x, obj_at S1 rfl, rfl⟩
        refine ⟨Φ, μ1 ++ [x], .at h1.length :: (xs ++ dd), _, S2, Rps.cons rx ((Rps.mono l2 _ _ r1).app (hd _ _)), hl, .inl ⟨.non, h', e2, fun v H3 μ3 S3 l3 r3 => ⟨rp_non' r3, kk _ H3 μ3 S3 (l1.trans (l2.trans l3)) (Rp.mono l3 _ _ rx)⟩⟩⟩
      · cases e
    · cases e
  · cases e
theorem xe_make (ha : SA K ta ma) : XEx K mg W (tkM K mg C n m xg dd (WE W) ta) (makeX C n xg dd ma) := by
  intro Φ σ H μ sg h xn sg' h' S rs e kk Q dvs hd
  unfold makeX at e
  split at e
  · rename_i xs h1 e1
    split at e
    · rename_i hl
      split at e
      · rename_i xn2 h2 e2
        cases e
        refine ha σ H μ sg h xs _ S rs e1 _ fun vs H1 μ1 S1 l1 r1 => ?_
        intro x dx hx hdx ne
        obtain ⟨S2, l2⟩ := made_sm (C := C) S1 hx hdx ne
        have rx : Rp K (upd (upd H1 dx (.own x)) x (.ins C dx [])) (μ1 ++ [x]) (.at h1.length) (.ref x) := by
          unfold Rp
          exact ⟨x, obj_at S1 rfl, rfl⟩
        refine ⟨Φ, μ1 ++ [x], .at h1.length :: (xs ++ dd), _, S2, Rps.cons rx ((Rps.mono l2 _ _ r1).app (hd _ _)), hl, .inr ⟨xn, h', e2, fun H3 μ3 cls d S3 l3 rx => kk σ H3 μ3 cls d S3 (l1.trans (l2.trans l3)) (rs.mono (l1.trans (l2.trans l3))) rx⟩⟩
      · cases e
    · cases e
  · cases e
theorem de_meth {pl : Sem Bool} (q : MthM X.prog X.w K.f mg X.base j C f n m xg dd) (hc : nmN c = f) (hr : RoomG k X.A) (ho : DE K X o to mo) (ha : DA K X (e :: es) ta ma) (hj : j ≤ k := by omega) (hmg : X.mg = mg := by rfl)
    (hst : starEach (e :: es) X.env = (false, eval e X.env) :: starEach es X.env := by rfl) (hpl : (backTo pos (starEach es X.env)).any (·.1) = false := by rfl)
    (ht : eval (.Call (.Attribute o f apos) (e :: es) [] pos) X.env = (do
      let ov ← eval o X.env
      standAt apos.atName
      let (f, first) ← holding [ov] (getMethod ov f pl)
      callWith pos f first (backTo pos (starEach (e :: es) X.env)) (backToKw pos (keywordEach [] X.env))) := by rfl) :
    DE K X (.Call (.Attribute o f apos) (e :: es) [] pos) (tmM K mg C f n m xg dd (fun _ => E0) to ta) (methM C c n m dd mo ma) := ⟨ha.k, by
  have hk := ha.k
  subst hk
  subst hmg
  obtain ⟨fa, fd, ps, ds, dvs, F, h1, h2, h3, h4, h5⟩ := q.ex
  exact ⟨fun pins s σ H Q I q => (pe_methG ho.p h2 h1 F (hr.mono hj) h3 h4 (fun σ => passE0 σ) ha.p hst hpl ht).run pins s σ H Q I (q dvs h5)⟩, se_meth hc ho.s ha.s⟩
theorem de_meth0 {pl : Sem Bool} (q : MthM X.prog X.w K.f mg X.base j C f n m xg dd) (hc : nmN c = f) (hr : RoomG k X.A) (ho : DE K X o to mo) (hj : j ≤ k := by omega) (hmg : X.mg = mg := by rfl)
    (ht : eval (.Call (.Attribute o f apos) [] [] pos) X.env = (do
      let ov ← eval o X.env
      standAt apos.atName
      let (f, first) ← holding [ov] (getMethod ov f pl)
      callWith pos f first (backTo pos (starEach [] X.env)) (backToKw pos (keywordEach [] X.env))) := by rfl) :
    DE K X (.Call (.Attribute o f apos) [] [] pos) (tmM K mg C f n m xg dd (fun _ => E0) to tNil) (methM C c n m dd mo nilM) := ⟨ho.k, by
  have hk := ho.k
  subst hk
  subst hmg
  obtain ⟨fa, fd, ps, ds, dvs, F, h1, h2, h3, h4, h5⟩ := q.ex
  exact ⟨fun pins s σ H Q I q => (pe_methG0 ho.p h2 h1 F (hr.mono hj) h3 h4 (fun σ => passE0 σ) ht).run pins s σ H Q I (q dvs h5)⟩, se_meth hc ho.s (da_nil (X := X) ho.k).s⟩
theorem dx_meth {pl : Sem Bool} (q : MthM X.prog X.w K.f mg X.base j C f n m xg dd) (hc : nmN c = f) (hr : RoomG k X.A) (ho : DE K X o to mo) (ha : DA K X (e :: es) ta ma) (hj : j ≤ k := by omega) (hmg : X.mg = mg := by rfl)
    (hst : starEach (e :: es) X.env = (false, eval e X.env) :: starEach es X.env := by rfl) (hpl : (backTo pos (starEach es X.env)).any (·.1) = false := by rfl)
    (ht : eval (.Call (.Attribute o f apos) (e :: es) [] pos) X.env = (do
      let ov ← eval o X.env
      standAt apos.atName
      let (f, first) ← holding [ov] (getMethod ov f pl)
      callWith pos f first (backTo pos (starEach (e :: es) X.env)) (backToKw pos (keywordEach [] X.env))) := by rfl) :
    DEX K mg X W (.Call (.Attribute o f apos) (e :: es) [] pos) (tmM K mg C f n m xg dd (WE W) to ta) (methM C c n m dd mo ma) (methX C c n xg dd mo ma) := ⟨ha.k, fun tk => by
  have hk := ha.k
  subst hk
  subst hmg
  obtain ⟨fa, fd, ps, ds, dvs, F, h1, h2, h3, h4, h5⟩ := q.ex
  exact ⟨fun pins s σ H Q I q => (pe_methG ho.p h2 h1 F (hr.mono hj) h3 h4 (passAt tk) ha.p hst hpl ht).run pins s σ H Q I (q dvs h5)⟩, se_meth hc ho.s ha.s, xe_meth hc ho.s ha.s⟩
theorem dx_meth0 {pl : Sem Bool} (q : MthM X.prog X.w K.f mg X.base j C f n m xg dd) (hc : nmN c = f) (hr : RoomG k X.A) (ho : DE K X o to mo) (hj : j ≤ k := by omega) (hmg : X.mg = mg := by rfl)
    (ht : eval (.Call (.Attribute o f apos) [] [] pos) X.env = (do
      let ov ← eval o X.env
      standAt apos.atName
      let (f, first) ← holding [ov] (getMethod ov f pl)
      callWith pos f first (backTo pos (starEach [] X.env)) (backToKw pos (keywordEach [] X.env))) := by rfl) :
    DEX K mg X W (.Call (.Attribute o f apos) [] [] pos) (tmM K mg C f n m xg dd (WE W) to tNil) (methM C c n m dd mo nilM) (methX C c n xg dd mo nilM) := ⟨ho.k, fun tk => by
  have hk := ho.k
  subst hk
  subst hmg
  obtain ⟨fa, fd, ps, ds, dvs, F, h1, h2, h3, h4, h5⟩ := q.ex
  exact ⟨fun pins s σ H Q I q => (pe_methG0 ho.p h2 h1 F (hr.mono hj) h3 h4 (passAt tk) ht).run pins s σ H Q I (q dvs h5)⟩, se_meth hc ho.s (da_nil (X := X) ho.k).s, xe_meth hc ho.s (da_nil (X := X) ho.k).s⟩
theorem de_make (q : MakM X.prog X.w K.f mg X.base j x C n m xg dd) (hr : RoomG (k + 1) X.A) (ha : DA K X (e :: es) ta ma) (hj : j ≤ k := by omega) (hmg : X.mg = mg := by rfl) (hg : Gl X x := by rfl)
    (hdb : (x == ("__debug__" : Str)) = false := by decide) (he : starEach (e :: es) X.env = (false, eval e X.env) :: starEach es X.env := by rfl) (hpl : (backTo pos (starEach es X.env)).any (·.1) = false := by rfl) :
    DE K X (.Call (.Name x p) (e :: es) [] pos) (tkM K mg C n m xg dd (fun _ => E0) ta) (makeM C n m dd ma) := ⟨ha.k, by
  have hk := ha.k
  subst hk
  subst hmg
  obtain ⟨fa, fd, ps, ds, dvs, F, h1, h2, h3, h4, h5⟩ := q.ex
  exact ⟨fun pins s σ H Q I q => (pe_makeG h1 (F.mono hj) hr hg h2 h3 h4 (fun σ => passE0 σ) ha.p hdb he hpl).run pins s σ H Q I (q dvs h5)⟩, se_make ha.s⟩
theorem de_make0 (q : MakM X.prog X.w K.f mg X.base j x C n m xg dd) (hr : RoomG (k + 1) X.A) (hj : j ≤ k := by omega) (hmg : X.mg = mg := by rfl) (hg : Gl X x := by rfl)
    (hdb : (x == ("__debug__" : Str)) = false := by decide) (hK : KOf X = K := by rfl) :
    DE K X (.Call (.Name x p) [] [] pos) (tkM K mg C n m xg dd (fun _ => E0) tNil) (makeM C n m dd nilM) := ⟨hK, by
  have hk := hK
  subst hk
  subst hmg
  obtain ⟨fa, fd, ps, ds, dvs, F, h1, h2, h3, h4, h5⟩ := q.ex
  exact ⟨fun pins s σ H Q I q => (pe_makeG0 h1 (F.mono hj) hr hg h2 h3 h4 (fun σ => passE0 σ) hdb).run pins s σ H Q I (q dvs h5)⟩, se_make (da_nil (X := X) hK).s⟩
theorem dx_make (q : MakM X.prog X.w K.f mg X.base j x C n m xg dd) (hr : RoomG (k + 1) X.A) (ha : DA K X (e :: es) ta ma) (hj : j ≤ k := by omega) (hmg : X.mg = mg := by rfl) (hg : Gl X x := by rfl)
    (hdb : (x == ("__debug__" : Str)) = false := by decide) (he : starEach (e :: es) X.env = (false, eval e X.env) :: starEach es X.env := by rfl) (hpl : (backTo pos (starEach es X.env)).any (·.1) = false := by rfl) :
    DEX K mg X W (.Call (.Name x p) (e :: es) [] pos) (tkM K mg C n m xg dd (WE W) ta) (makeM C n m dd ma) (makeX C n xg dd ma) := ⟨ha.k, fun tk => by
  have hk := ha.k
  subst hk
  subst hmg
  obtain ⟨fa, fd, ps, ds, dvs, F, h1, h2, h3, h4, h5⟩ := q.ex
  exact ⟨fun pins s σ H Q I q => (pe_makeG h1 (F.mono hj) hr hg h2 h3 h4 (passAt tk) ha.p hdb he hpl).run pins s σ H Q I (q dvs h5)⟩, se_make ha.s, xe_make ha.s⟩
end
end DL

/-! DM23: the end, where the mirrors know the classes by their places. -/
namespace DL
open PySem L2 PySem.Spec PyProof.Rows
def caOf (mg : Str → Option Value) : Str → Addr := fun s => match mg s with
  | some (.ref a) => a
  | _ => 0
theorem caOf_eq {mg : Str → Option Value} {x : Str} {C : Addr} (h : mg x = some (.ref C)) : caOf mg x = C := by
  unfold caOf
  rw [h]
def spA (K : Kw) (n : Nat) (m : (Str → Addr) → GC) : Sp := fun vs H Q E => ∀ CA, spN K n (m CA) vs H Q E
theorem FnG.toA {P : Program} {w : World} {K : PySem.W.Frag} {mg : Str → Option Value} {base : Heap} {CX : CXT} {k n : Nat} {f : Addr} {fd : FuncData} {ps : List Str} {m : (Str → Addr) → GC} {x : GX} {CA : Str → Addr} (F : FnG P w K mg base CX k f fd ps (spX ⟨K, w⟩ mg n (m CA) x)) : FnG P w K mg base CX k f fd ps (spA ⟨K, w⟩ n m) := by
  have G : FnG P w (Kw.mk K w).f mg base CX k f fd ps (spN ⟨K, w⟩ n (m CA)) := FnG.toN (K := ⟨K, w⟩) F
  exact ⟨fun vs H Q E h => G.len vs H Q E (h CA), fun A outer s H args us vs Q E h1 h2 h3 h4 h5 => G.run A outer s H args us vs Q E h1 h2 h3 h4 (h5 CA)⟩
theorem law_endA {K : Kw} {m : (Str → Addr) → GC} {H : Hp} {a : Addr} {ns : List Int} (hm : ∀ CA, ∃ h', m CA [.rol (ns.map D.int)] [] = some (.bl true, h')) (hO : L2.Only H) (hS : SqL K H a (ns.map V.int)) :
    spA K 1 m [.ref a] H (fun v _ => v = .bl true) fun _ _ _ => False := fun CA => law_endN (hm CA) hO hS
end DL

/-! DM24: max(a, b), min(a, b), <, > of data. -/
namespace DL
open PySem L2 PySem.Spec PyProof.Rows PySem.W
section
variable {prog : Program} {w : World} {A : Around} {E : Value → Shared → Prop} {s : Shared} {a b : Value} {x y : PyData} {as bs : List Addr} {Q : Value → Shared → Prop}
def MaxW (prog : Program) (w : World) (A : Around) (op : CmpOp) (Q : Value → Shared → Prop) : Value → Shared → Prop := fun it s₂ => ∃ (I : Addr) (fp wr : List Addr) (G : Array GenState → Array GenState → Prop) (n : Nat) (P : Nat → Value → Prop) (St : Nat → Shared → Prop) (H : Heap) (bt : Nat → Nat → Bool), it = Value.ref I ∧ WalksS prog w A.in1 I fp wr G n P St ∧ St 0 s₂ ∧ (∀ b ∈ fp, b < s₂.heap.objs.size) ∧ 0 < n ∧
      (∀ b o, H.get? b = some o → b ∉ wr) ∧ (∀ b o, H.get? b = some o → s₂.heap.get? b = some o) ∧ CmpIn prog w A.in1 op H P bt ∧ ∀ v s', P (argBest bt (n - 1)) v → Moved wr G s₂ s' → Q v s'
theorem max_two_data (hh : A.handled = none) (rx : Reads s.heap a x as) (ry : Reads s.heap b y bs) (ha : AlikeAll [x, y]) (hu : A.units + 1 + PyData.depthAll [x, y] < cLine)
    (h : ∀ h' tk, (∀ b o, s.heap.get? b = some o → h'.get? b = some o) → Q (if dataLt x y = true then b else a) { s with heap := h', toks := tk }) : wpAny (model prog w) A (call (.builtin "max") [a, b]) Q E s := by
  have hname : (toString "max" ++ toString ".loop" : String) = "max.loop" := by decide
  refine call_function_tree F.kind_max F.plain_max F.entry_max (F.args_max2 _ _) ?_
  show wpAny _ A.in1 (Builtin.Builtins.bindParams "max" ["key", "default"] 0 ⟨[], []⟩ >>= _) _ _ s
  refine wpAny_bind (wpAny_of_eq (show Builtin.Builtins.bindParams "max" ["key", "default"] 0 ⟨[], []⟩ = pure [none, none] from rfl) ?_)
  show wpAny _ A.in1 (newTuple [a, b] >>= _) _ _ s
  refine wpAny_bind (wpAny_newObj_type ?_)
  have hT : (s.heap.push { cls := .type "tuple", data := .seq #[a, b] }).IsTuple s.heap.objs.size #[a, b] := ⟨_, Heap.get?_push_size _ rfl, rfl, 0, rfl⟩
  have kp : ∀ b' o, s.heap.get? b' = some o → (s.heap.push { cls := .type "tuple", data := .seq #[a, b] }).get? b' = some o := fun _ _ e => Heap.get?_push_of_some _ e
  have hr : ReadsAll (s.heap.push { cls := .type "tuple", data := .seq #[a, b] }) [a, b] [x, y] (as ++ (bs ++ [])) := .cons (reads_keeps kp rx) (.cons (reads_keeps kp ry) .nil)
  refine wpAny_bind (wpAny_mono (show wpAny (model prog w) A.in1 (pyIter (.ref s.heap.objs.size)) (MaxW prog w A .Gt Q) E { s with heap := s.heap.push { cls := .type "tuple", data := .seq #[a, b] } } from iter_tupleW (A := A.in1) hh hT fun s₂ e W st hfp hw hk => ⟨_, _, _, _, _, _, _, s.heap.push { cls := .type "tuple", data := .seq #[a, b] }, _, rfl, W, st, hfp, (by show 0 < 2; decide), hw, hk, cmpIn_gt (A := A.in1) (s := { s with heap := s.heap.push { cls := .type "tuple", data := .seq #[a, b] } }) hr ha (by show A.units + 1 + _ < _; exact hu), fun v s' hP m => ?_⟩) (fun it s₂ h₂ => ?_) fun _ _ e => e)
  · obtain ⟨h', tk, rfl, hk'⟩ := moved_old e rfl m
    have e1 : argBest (fun i j => dataLt ([x, y].getD j .none) ([x, y].getD i .none)) 1 = if dataLt x y = true then 1 else 0 := by simp [argBest]
    have hv : v = if dataLt x y = true then b else a := by
      have hP' : #[a, b][argBest (fun i j => dataLt ([x, y].getD j .none) ([x, y].getD i .none)) 1]? = some v := hP
      rw [e1] at hP'
      split at hP' <;> simp_all
    rw [hv]
    exact h h' tk fun b' o e => hk' b' o (kp b' o e)
  · obtain ⟨I, fp, wr, G, n, P, St, H, bt, rfl, W, hst, hfp, hn, hw, hkeep, hcmp, hQ⟩ := h₂
    refine wpAny_bind (wpAny_newObj_type ?_)
    have hSf : s₂.heap.objs.size ∉ fp := fun hm => Nat.lt_irrefl _ (hfp _ hm)
    rw [hname]
    refine wpAny_pure ⟨plainId_quiet F.plain_max_loop _, codeAny_max_loop_firstH W H hw bt hcmp s₂.heap.objs.size hSf (fresh_in hkeep) _ hn (fun b o e => Heap.get?_push_of_some _ (hkeep b o e)) (W.frame 0 s₂ _ s₂.toks hst (Nat.le_refl _) fun b _ o e => Heap.get?_push_of_some _ e) (Heap.get?_push_size _ rfl) fun v s' hP hm => ?_⟩
    exact hQ v s' hP (Moved.drop_new (tk := s₂.toks) hm (Nat.le_refl _))
theorem min_two_data (hh : A.handled = none) (rx : Reads s.heap a x as) (ry : Reads s.heap b y bs) (ha : AlikeAll [x, y]) (hu : A.units + 1 + PyData.depthAll [x, y] < cLine)
    (h : ∀ h' tk, (∀ b o, s.heap.get? b = some o → h'.get? b = some o) → Q (if dataLt y x = true then b else a) { s with heap := h', toks := tk }) : wpAny (model prog w) A (call (.builtin "min") [a, b]) Q E s := by
  have hname : (toString "min" ++ toString ".loop" : String) = "min.loop" := by decide
  refine call_function_tree F.kind_min F.plain_min F.entry_min (F.args_min2 _ _) ?_
  show wpAny _ A.in1 (Builtin.Builtins.bindParams "min" ["key", "default"] 0 ⟨[], []⟩ >>= _) _ _ s
  refine wpAny_bind (wpAny_of_eq (show Builtin.Builtins.bindParams "min" ["key", "default"] 0 ⟨[], []⟩ = pure [none, none] from rfl) ?_)
  show wpAny _ A.in1 (newTuple [a, b] >>= _) _ _ s
  refine wpAny_bind (wpAny_newObj_type ?_)
  have hT : (s.heap.push { cls := .type "tuple", data := .seq #[a, b] }).IsTuple s.heap.objs.size #[a, b] := ⟨_, Heap.get?_push_size _ rfl, rfl, 0, rfl⟩
  have kp : ∀ b' o, s.heap.get? b' = some o → (s.heap.push { cls := .type "tuple", data := .seq #[a, b] }).get? b' = some o := fun _ _ e => Heap.get?_push_of_some _ e
  have hr : ReadsAll (s.heap.push { cls := .type "tuple", data := .seq #[a, b] }) [a, b] [x, y] (as ++ (bs ++ [])) := .cons (reads_keeps kp rx) (.cons (reads_keeps kp ry) .nil)
  refine wpAny_bind (wpAny_mono (show wpAny (model prog w) A.in1 (pyIter (.ref s.heap.objs.size)) (MaxW prog w A .Lt Q) E { s with heap := s.heap.push { cls := .type "tuple", data := .seq #[a, b] } } from iter_tupleW (A := A.in1) hh hT fun s₂ e W st hfp hw hk => ⟨_, _, _, _, _, _, _, s.heap.push { cls := .type "tuple", data := .seq #[a, b] }, _, rfl, W, st, hfp, (by show 0 < 2; decide), hw, hk, cmpIn_lt (A := A.in1) (s := { s with heap := s.heap.push { cls := .type "tuple", data := .seq #[a, b] } }) hr ha (by show A.units + 1 + _ < _; exact hu), fun v s' hP m => ?_⟩) (fun it s₂ h₂ => ?_) fun _ _ e => e)
  · obtain ⟨h', tk, rfl, hk'⟩ := moved_old e rfl m
    have e1 : argBest (fun i j => dataLt ([x, y].getD i .none) ([x, y].getD j .none)) 1 = if dataLt y x = true then 1 else 0 := by simp [argBest]
    have hv : v = if dataLt y x = true then b else a := by
      have hP' : #[a, b][argBest (fun i j => dataLt ([x, y].getD i .none) ([x, y].getD j .none)) 1]? = some v := hP
      rw [e1] at hP'
      split at hP' <;> simp_all
    rw [hv]
    exact h h' tk fun b' o e => hk' b' o (kp b' o e)
  · obtain ⟨I, fp, wr, G, n, P, St, H, bt, rfl, W, hst, hfp, hn, hw, hkeep, hcmp, hQ⟩ := h₂
    refine wpAny_bind (wpAny_newObj_type ?_)
    have hSf : s₂.heap.objs.size ∉ fp := fun hm => Nat.lt_irrefl _ (hfp _ hm)
    rw [hname]
    refine wpAny_pure ⟨plainId_quiet F.plain_min_loop _, codeAny_min_loop_firstH W H hw bt hcmp s₂.heap.objs.size hSf (fresh_in hkeep) _ hn (fun b o e => Heap.get?_push_of_some _ (hkeep b o e)) (W.frame 0 s₂ _ s₂.toks hst (Nat.le_refl _) fun b _ o e => Heap.get?_push_of_some _ e) (Heap.get?_push_size _ rfl) fun v s' hP hm => ?_⟩
    exact hQ v s' hP (Moved.drop_new (tk := s₂.toks) hm (Nat.le_refl _))
end
def okOrd (p q : PyData) : Bool := alike p p && alike p q && alike q p && alike q q && (match p with | .none => false | _ => true) && (match q with | .none => false | _ => true) && decide (p.depth ≤ 50) && decide (q.depth ≤ 50)
theorem okOrd_of {p q : PyData} (h : okOrd p q = true) : AlikeAll [p, q] ∧ PyData.depthAll [p, q] ≤ 50 := by
  unfold okOrd at h
  simp only [Bool.and_eq_true, decide_eq_true_eq] at h
  obtain ⟨⟨⟨⟨⟨⟨⟨h1, h2⟩, h3⟩, h4⟩, h5⟩, h6⟩, h7⟩, h8⟩ := h
  refine ⟨⟨fun x hx y hy => ?_, fun x hx => ?_⟩, ?_⟩
  · simp only [List.mem_cons, List.not_mem_nil, or_false] at hx hy
    rcases hx with rfl | rfl <;> rcases hy with rfl | rfl <;> assumption
  · simp only [List.mem_cons, List.not_mem_nil, or_false] at hx
    rcases hx with rfl | rfl
    · rintro rfl; cases h5
    · rintro rfl; cases h6
  · simp only [PyData.depthAll]
    omega
/-- max(a, b), min(a, b) of data -/
def maxPD : GC := fun xs h => match xs with
  | [x, y] => match datD h x, datD h y with
    | some p, some q => if okOrd p q = true then some (if dataLt p q = true then y else x, h) else none
    | _, _ => none
  | _ => none
def minPD : GC := fun xs h => match xs with
  | [x, y] => match datD h x, datD h y with
    | some p, some q => if okOrd p q = true then some (if dataLt q p = true then y else x, h) else none
    | _, _ => none
  | _ => none
def rMaxP (K : Kw) (mx : Bool) : List V → Hp → VK → Prop := fun xs H Q => ∃ x y p q, xs = [x, y] ∧ Dp K H x p ∧ Dp K H y q ∧ okOrd p q = true ∧ Q (if dataLt (if mx then p else q) (if mx then q else p) = true then y else x) H
section
variable {K : Kw} {X : Cx}
theorem call_maxP (hu : X.A.units + 64 < cLine) (hK : KOf X = K := by rfl) (hc : X.calm = true := by rfl) : CallR X (.builtin "max") (rMaxP K true) := by
  subst hK
  intro pins s σ H xs us Q I r h
  obtain ⟨x, y, p, q, rfl, hp, hq, ho, k⟩ := h
  obtain ⟨u, w', rfl, r1, r2⟩ := vals2 r
  obtain ⟨as, a1⟩ := Dp.reads I p x u hp r1
  obtain ⟨bs, a2⟩ := Dp.reads I q y w' hq r2
  obtain ⟨o1, o2⟩ := okOrd_of ho
  refine max_two_data (I.ok.hd hc) a1 a2 o1 (by omega) fun h' tk kp => ⟨_, H, I.kept kp, ?_, k⟩
  simp only [if_true]
  split
  · exact r2
  · exact r1
theorem call_minP (hu : X.A.units + 64 < cLine) (hK : KOf X = K := by rfl) (hc : X.calm = true := by rfl) : CallR X (.builtin "min") (rMaxP K false) := by
  subst hK
  intro pins s σ H xs us Q I r h
  obtain ⟨x, y, p, q, rfl, hp, hq, ho, k⟩ := h
  obtain ⟨u, w', rfl, r1, r2⟩ := vals2 r
  obtain ⟨as, a1⟩ := Dp.reads I p x u hp r1
  obtain ⟨bs, a2⟩ := Dp.reads I q y w' hq r2
  obtain ⟨o1, o2⟩ := okOrd_of ho
  refine min_two_data (I.ok.hd hc) a1 a2 o1 (by omega) fun h' tk kp => ⟨_, H, I.kept kp, ?_, k⟩
  simp only [Bool.false_eq_true, if_false]
  split
  · exact r2
  · exact r1
theorem sc_maxP : SC K (rMaxP K true) maxPD := by
  intro Φ H μ h xs vs d h' S r e Q k
  unfold maxPD at e
  split at e
  · rename_i x y
    split at e
    · rename_i p q e1 e2
      split at e
      · rename_i ho
        cases e
        obtain ⟨v, w, rfl, a, b⟩ := rps2 r
        refine ⟨v, w, p, q, rfl, dat_of S a e1, dat_of S b e2, ho, ?_⟩
        simp only [if_true]
        refine k _ H μ S Le.refl ?_
        split
        · exact b
        · exact a
      · cases e
    · cases e
  · cases e
theorem sc_minP : SC K (rMaxP K false) minPD := by
  intro Φ H μ h xs vs d h' S r e Q k
  unfold minPD at e
  split at e
  · rename_i x y
    split at e
    · rename_i p q e1 e2
      split at e
      · rename_i ho
        cases e
        obtain ⟨v, w, rfl, a, b⟩ := rps2 r
        refine ⟨v, w, p, q, rfl, dat_of S a e1, dat_of S b e2, ho, ?_⟩
        simp only [Bool.false_eq_true, if_false]
        refine k _ H μ S Le.refl ?_
        split
        · exact b
        · exact a
      · cases e
    · cases e
  · cases e
end
end DL

/-! DM25: ranges downwards, xs += ys, what runs of the new things give. -/
namespace DL
open PySem L2 PySem.Spec PyProof.Rows
/-! ### range(a, b, -1) -/
def rngC (lo : Int) (n : Nat) : Src := .fix ((List.range n).map fun i => .int (lo + (i : Nat) * (-1)))
def rng3I (a : MA) : MI := fun sg h => match a sg h with
  | some ([.int i, .int j, .int c], h1) => if c = -1 ∧ -(2 ^ 62) ≤ i ∧ i < 2 ^ 62 ∧ -(2 ^ 62) ≤ j ∧ j < 2 ^ 62 then some (rngC i (i - j).toNat, h1) else none
  | _ => none
section
variable {K : Kw} {X : Cx} {tg : Expr} {p pos : Pos} {ta : TA} {ma : MA}
theorem j_rngC {Φ : Hp} {lo : Int} {n : Nat} {H0 : Hp} {μ0 : List Addr} : JOk Φ K (Itc lo (-1) n) (rngC lo n) H0 μ0 := by
  intro i H μ h S l
  refine ⟨fun d q => ?_, fun q => ?_⟩
  · have q := Option.some.inj q
    rw [List.getElem?_map] at q
    by_cases hi : i < n
    · rw [List.getElem?_range hi] at q
      cases q
      refine ⟨hi, fun x H' y => ?_⟩
      obtain ⟨rfl, rfl⟩ := y
      exact ⟨S, Le.refl, rp_int⟩
    · rw [List.getElem?_eq_none (by simp; omega)] at q
      cases q
  · have q := List.getElem?_eq_none_iff.mp (Option.some.inj q)
    show n ≤ i
    simpa using q
theorem di_range3 {a b c : Expr} (ha : DA K X [a, b, c] ta ma) (hm : X.mg "range" = none) (hg : Gl X "range" := by rfl) (hs : starEach [a, b, c] X.env = (false, eval a X.env) :: starEach [b, c] X.env := by rfl) (hpl : (backTo pos (starEach [b, c] X.env)).any (·.1) = false := by rfl) :
    DI K X tg (.Call (.Name "range" p) [a, b, c] [] pos) (iRng3 ta) (rng3I ma) := ⟨ha.k, pi_range3 hg hm ha.p hs hpl, by
  intro Φ σ H μ sg h s h' S rs e R k
  unfold rng3I at e
  split at e
  · rename_i i j c h1 e1
    split at e
    · rename_i hj
      cases e
      refine ha.s σ H μ sg h _ _ S rs e1 _ fun vs H1 μ1 S1 l1 r1 => ?_
      obtain ⟨v, w, u, rfl, r2, r3, r4⟩ := rps3 r1
      rw [rp_int' r2, rp_int' r3, rp_int' r4, hj.1]
      exact ⟨i, j, -1, _, rfl, RgC.neg hj.2.1 hj.2.2.1 hj.2.2.2.1 hj.2.2.2.2, k _ H1 μ1 S1 l1 j_rngC⟩
    · cases e
  · cases e⟩
/-! ### xs += ys -/
def addIL : G2 := fun x y h => match x, y with
  | .at n, .at m => match h[n]?, h[m]? with
    | some (.lst xs), some (.lst ys) => if xs.length + ys.length ≤ LN then some (.at n, h.set n (.lst (xs ++ ys))) else none
    | _, _ => none
  | _, _ => none
theorem ip_ext : PIp X .Add rExt2 := fun pins s σ H x y v u Q I r1 r2 q => iop_ext pins s σ H x y v u Q I r1 r2 q
theorem so_addIL : SO K rExt2 addIL := by
  intro Φ H μ h x y v w d h' S r1 r2 e Q k
  unfold addIL at e
  split at e
  · rename_i n m
    split at e
    · rename_i xs ys q1 q2
      split at e
      · rename_i hl
        cases e
        obtain ⟨a, ea, rfl⟩ := rp_at' r1
        obtain ⟨b, eb, rfl⟩ := rp_at' r2
        obtain ⟨vs, c1, c2⟩ := S.lst q1 ea
        obtain ⟨ws, c3, c4⟩ := S.lst q2 eb
        refine ⟨a, b, vs, ws, rfl, rfl, c1, c3, ?_, ?_⟩
        · rw [c2.len, c4.len]; exact ln_of hl
        have lset : Le K H μ (upd H a (.lst (vs ++ ws))) μ := le_set S ea
        refine k _ _ μ (S.set ea ⟨_, upd_same, Rps.mono lset _ _ (c2.app c4)⟩) lset ?_
        unfold Rp
        exact ⟨a, ea, rfl⟩
      · cases e
    · cases e
  · cases e
end
/-! ### told from the end -/
section
variable {sg : Sg} {h : Hd} {Q : D → Hd → Prop} {a o : ME} {b : MA}
theorem ev_rng2I {b : MA} {Q : Src → Hd → Prop} (q : Ev (b sg h) fun xs h1 => ∃ i j, xs = [.int i, .int j] ∧ (-(2 ^ 62) ≤ i ∧ i < 2 ^ 62 ∧ -(2 ^ 62) ≤ j ∧ j < 2 ^ 62) ∧ Q (rngD i (j - i).toNat) h1) : Ev (rng2I b sg h) Q := by
  obtain ⟨xs, h1, e1, i, j, rfl, c, q⟩ := q
  exact ⟨_, _, by simp only [rng2I, e1, if_pos c], q⟩
theorem ev_rng3I {b : MA} {Q : Src → Hd → Prop} (q : Ev (b sg h) fun xs h1 => ∃ i j, xs = [.int i, .int j, .int (-1)] ∧ (-(2 ^ 62) ≤ i ∧ i < 2 ^ 62 ∧ -(2 ^ 62) ≤ j ∧ j < 2 ^ 62) ∧ Q (rngC i (i - j).toNat) h1) : Ev (rng3I b sg h) Q := by
  obtain ⟨xs, h1, e1, i, j, rfl, c, q⟩ := q
  exact ⟨_, _, by simp only [rng3I, e1, if_pos (And.intro trivial c)], q⟩
theorem lf_addIL {n m : Nat} {xs ys : List D} (e1 : h[n]? = some (.lst xs)) (e2 : h[m]? = some (.lst ys)) (l : xs.length + ys.length ≤ LN) (q : Q (.at n) (h.set n (.lst (xs ++ ys)))) : Ev (addIL (.at n) (.at m) h) Q := ⟨_, _, by simp only [addIL, e1, e2, if_pos l], q⟩
def FldK (Cs : List Addr) (f : Nat) (x : D) (h : Hd) (A : D → Prop) : Prop := ∃ n C fs d, x = .at n ∧ h[n]? = some (.ins C fs) ∧ C ∈ Cs ∧ fldD f fs = some d ∧ A d
theorem ev_fld {Cs : List Addr} {f : Nat} (q : Ev (a sg h) fun x h1 => FldK Cs f x h1 fun d => Q d h1) : Ev (fldM Cs f a sg h) Q := by
  obtain ⟨x, h1, e1, n, C, fs, d, rfl, e2, hc, e3, q⟩ := q
  exact ⟨d, h1, by simp only [fldM, e1, e2, if_pos hc, e3], q⟩
theorem fld_k {Cs : List Addr} {f : Nat} {n : Nat} {C : Addr} {fs : List (Nat × D)} {d : D} {A : D → Prop} (e : h[n]? = some (.ins C fs)) (hc : C ∈ Cs) (e2 : fldD f fs = some d) (q : A d) : FldK Cs f (.at n) h A := ⟨n, C, fs, d, rfl, e, hc, e2, q⟩
def SFldK (Cs : List Addr) (f : Nat) (z x : D) (h : Hd) (A : Hd → Prop) : Prop := ∃ n C fs, x = .at n ∧ h[n]? = some (.ins C fs) ∧ C ∈ Cs ∧ fs.length < 1000 ∧ A (h.set n (.ins C (putFD f z fs)))
theorem ev_setFld {Cs : List Addr} {f : Nat} {v : ME} {Q : Fl → Hd → Prop} (q : Ev (v sg h) fun z h1 => Ev (o sg h1) fun x h2 => SFldK Cs f z x h2 fun h3 => Q (.nx sg) h3) : Ev (setFldM Cs f o v sg h) Q := by
  obtain ⟨z, h1, e1, x, h2, e2, n, C, fs, rfl, e3, hc, hl, q⟩ := q
  exact ⟨_, _, by simp only [setFldM, e1, e2, e3, if_pos (And.intro hc hl)], q⟩
theorem sfld_k {Cs : List Addr} {f : Nat} {n : Nat} {z : D} {C : Addr} {fs : List (Nat × D)} {A : Hd → Prop} (e : h[n]? = some (.ins C fs)) (hc : C ∈ Cs) (hl : fs.length < 1000) (q : A (h.set n (.ins C (putFD f z fs)))) : SFldK Cs f z (.at n) h A := ⟨n, C, fs, rfl, e, hc, hl, q⟩
def MtK (C : Addr) (f : Nat) (x : D) (h : Hd) (A : Prop) : Prop := ∃ n fs, x = .at n ∧ h[n]? = some (.ins C fs) ∧ fldD f fs = none ∧ A
theorem mt_k {C : Addr} {f n : Nat} {fs : List (Nat × D)} {A : Prop} (e : h[n]? = some (.ins C fs)) (e2 : fldD f fs = none) (q : A) : MtK C f (.at n) h A := ⟨n, fs, rfl, e, e2, q⟩
theorem ev_meth {C : Addr} {f n : Nat} {m : GC} {dd : List D} (q : Ev (o sg h) fun x h1 => MtK C f x h1 <| Ev (b sg h1) fun xs h2 => ClK n m (x :: (xs ++ dd)) h2 Q) : Ev (methM C f n m dd o b sg h) Q := by
  obtain ⟨x, h1, e1, k, fs, rfl, e2, e3, xs, h2, e4, hl, d, h3, e5, q⟩ := q
  exact ⟨_, _, by simp only [methM, e1, e2, if_pos (And.intro trivial e3), e4, if_pos hl, e5], q⟩
def NonK (x : D) (A : Prop) : Prop := x = .non ∧ A
theorem non_k {A : Prop} (q : A) : NonK .non A := ⟨rfl, q⟩
theorem ev_make {C : Addr} {n : Nat} {m : GC} {dd : List D} (q : Ev (b sg h) fun xs h1 => ClK n m (.at h1.length :: (xs ++ dd)) (h1 ++ [.ins C []]) fun r h2 => NonK r (Q (.at h1.length) h2)) : Ev (makeM C n m dd b sg h) Q := by
  obtain ⟨xs, h1, e1, hl, r, h2, e2, rfl, q⟩ := q
  exact ⟨_, _, by simp only [makeM, e1, if_pos hl, e2], q⟩
theorem ev_dnewN (q : Q (.at h.length) (h ++ [.dcn []])) : Ev (dnewNM sg h) Q := ⟨_, _, rfl, q⟩
theorem lf_inN {neg : Bool} {n : Nat} {kvs : List (D × D)} {x : D} (e : h[n]? = some (.dcn kvs)) (hd : depN x = true) (q : Q (.bl (neg ^^ (valN kvs x).isSome)) h) : Ev (inND neg x (.at n) h) Q := ⟨_, _, by simp only [inND, e, if_pos hd], q⟩
theorem lf_inK {neg : Bool} {n : Nat} {kvs : List (Key × D)} {x : D} {k : Key} (e : h[n]? = some (.dct kvs)) (hk : keyD x = some k) (q : Q (.bl (neg ^^ (valD kvs k).isSome)) h) : Ev (inKD neg x (.at n) h) Q := ⟨_, _, by simp only [inKD, e, hk], q⟩
theorem lf_ixN {n : Nat} {kvs : List (D × D)} {x d : D} (e : h[n]? = some (.dcn kvs)) (hd : depN x = true) (e2 : valN kvs x = some d) (q : Q d h) : Ev (subsND (.at n) x h) Q := ⟨_, _, by simp only [subsND, e, if_pos hd, e2], q⟩
theorem ev_setN {i v : ME} {Q : Fl → Hd → Prop} (q : Ev (v sg h) fun z h1 => Ev (o sg h1) fun x h2 => Ev (i sg h2) fun y h3 => ∃ n kvs, x = .at n ∧ h3[n]? = some (.dcn kvs) ∧ depN y = true ∧ kvs.length < LN ∧ Q (.nx sg) (h3.set n (.dcn (putN kvs y z)))) : Ev (setND o i v sg h) Q := by
  obtain ⟨z, h1, e1, x, h2, e2, y, h3, e3, n, kvs, rfl, e4, hd, hl, q⟩ := q
  exact ⟨_, _, by simp only [setND, e1, e2, e3, e4, if_pos (And.intro hd hl)], q⟩
theorem lf_maxP {x y : D} {p q : PyData} (e1 : datD h x = some p) (e2 : datD h y = some q) (e3 : okOrd p q = true) (k : Q (if PySem.W.dataLt p q = true then y else x) h) : Ev (maxPD [x, y] h) Q := ⟨_, _, by simp only [maxPD, e1, e2, if_pos e3], k⟩
theorem lf_minP {x y : D} {p q : PyData} (e1 : datD h x = some p) (e2 : datD h y = some q) (e3 : okOrd p q = true) (k : Q (if PySem.W.dataLt q p = true then y else x) h) : Ev (minPD [x, y] h) Q := ⟨_, _, by simp only [minPD, e1, e2, if_pos e3], k⟩
end
end DL

/-! DM26: what the top has left of classes. -/
namespace DL
open PySem L2 PySem.Spec PyProof.Rows
/-- the method m of the class at C is the def st -/
structure GotM (K : PySem.W.Frag) (C : Addr) (m qual : Str) (st : Stmt) (ps : List Str) : Prop where
  ex : ∃ (f : Addr) (fd : FuncData), Fun K m qual st f fd ∧ Meth K C m f ∧ Cls K C ∧ Binds K fd ps []
/-- the class x at C is made by the def st -/
structure GotI (K : PySem.W.Frag) (mg : Str → Option Value) (x : Str) (C : Addr) (qual : Str) (st : Stmt) (ps : List Str) : Prop where
  ex : ∃ (f : Addr) (fd : FuncData), Fun K "__init__" qual st f fd ∧ Mk K C f ∧ mg x = some (.ref C) ∧ Binds K fd ps []
section
variable {P : Program} {w : World} {K : PySem.W.Frag} {mg : Str → Option Value} {base : Heap} {k : Nat} {C : Addr} {m x qual : Str} {st : Stmt} {ps N : List Str} {ms : MS} {xs : MX}
theorem GotM.cal (g : GotM K C m qual st ps) (S : FnScope N ps (defScope st))
    (hb : ∀ (f : Addr) (cdv : Value) (A : Around) (outer : List Env) (s : Shared) (H : Hp) (E : XK), RoomG k (A.deeper (envOfC qual (defScope st) s.heap.objs.size f cdv)) →
      ∃ t, DSsX ⟨K, w⟩ mg (cxOf (L2.CX P w) P w K mg base N qual (defScope st) f cdv A outer s H E) (BdW E) (defBody st) t ms xs) : MthM P w K mg base (k + 1) C m ps.length (bodyM N.length ms) (bodyX N.length xs) [] := by
  obtain ⟨f, fd, F, hm, hc, hb0⟩ := g.ex
  exact ⟨f, fd, ps, [], [], fn_M F S (fun cdv A outer s H E hr => hb f cdv A outer s H E hr), hm, hc, hb0, .nil, fun _ _ => Rps.nil⟩
theorem GotI.cal (g : GotI K mg x C qual st ps) (S : FnScope N ps (defScope st))
    (hb : ∀ (f : Addr) (cdv : Value) (A : Around) (outer : List Env) (s : Shared) (H : Hp) (E : XK), RoomG k (A.deeper (envOfC qual (defScope st) s.heap.objs.size f cdv)) →
      ∃ t, DSsX ⟨K, w⟩ mg (cxOf (L2.CX P w) P w K mg base N qual (defScope st) f cdv A outer s H E) (BdW E) (defBody st) t ms xs) : MakM P w K mg base (k + 1) x C ps.length (bodyM N.length ms) (bodyX N.length xs) [] := by
  obtain ⟨f, fd, F, hm, hc, hb0⟩ := g.ex
  exact ⟨f, fd, ps, [], [], fn_M F S (fun cdv A outer s H E hr => hb f cdv A outer s H E hr), hm, hc, hb0, .nil, fun _ _ => Rps.nil⟩
end
theorem MthM.mono {P : Program} {w : World} {K : PySem.W.Frag} {mg : Str → Option Value} {base : Heap} {j k : Nat} {C : Addr} {f : Str} {n : Nat} {m : GC} {xg : GX} {dd : List D} (c : MthM P w K mg base j C f n m xg dd) (h : j ≤ k) : MthM P w K mg base k C f n m xg dd := by
  obtain ⟨fa, fd, ps, ds, dvs, F, r⟩ := c.ex
  exact ⟨fa, fd, ps, ds, dvs, F.mono h, r⟩
theorem MakM.mono {P : Program} {w : World} {K : PySem.W.Frag} {mg : Str → Option Value} {base : Heap} {j k : Nat} {x : Str} {C : Addr} {n : Nat} {m : GC} {xg : GX} {dd : List D} (c : MakM P w K mg base j x C n m xg dd) (h : j ≤ k) : MakM P w K mg base k x C n m xg dd := by
  obtain ⟨fa, fd, ps, ds, dvs, F, r⟩ := c.ex
  exact ⟨fa, fd, ps, ds, dvs, F.mono h, r⟩
theorem clf_one {K : PySem.W.Frag} {C : Addr} {f : Str} (h : ClF K C f) : ∀ D ∈ [C], ClF K D f := by
  intro D hD
  rw [List.mem_singleton.mp hD]
  exact h
theorem clf_two {K : PySem.W.Frag} {C E : Addr} {f : Str} (h : ClF K C f) (g : ClF K E f) : ∀ D ∈ [C, E], ClF K D f := by
  intro D hD
  simp only [List.mem_cons, List.not_mem_nil, or_false] at hD
  rcases hD with rfl | rfl
  · exact h
  · exact g
end DL

/-! DM27: d.setdefault(k, v), xs.pop(0), x in a list of data. -/
namespace DL
open PySem L2 PySem.Spec PyProof.Rows
/-! ### setdefault of a dict of ints and texts -/
def setdD : GM := fun x xs h => match x, xs with
  | .at n, [y, z] => match h[n]? with
    | some (.dct kvs) => match keyD y with
      | some k => match valD kvs k with
        | some d => some (d, h)
        | none => if kvs.length < LN then some (z, h.set n (.dct (putD kvs k z))) else none
      | none => none
    | _ => none
  | _, _ => none
def rSetdM : V → List V → Hp → VK → Prop := fun x vs H Q => ∃ (a : Addr) (kvs : List (Key × V)) (k : Key) (v : V), x = .ref a ∧ vs = [kV k, v] ∧ H a = some (.dK kvs) ∧
  (∀ u, valV kvs k = some u → Q u H) ∧ (valV kvs k = none → kvs.length < sizeLine ∧ Q v (upd H a (.dK (putK kvs k v))))
section
variable {K : Kw} {X : Cx}
theorem mt_setd : MtR X "dict.setdefault" rSetdM := by
  intro pins s σ H x vs v us Q I rx rv h
  obtain ⟨a, kvs, k, v, rfl, rfl, ea, w1, w2⟩ := h
  cases rx
  cases rv with
  | cons ry rv =>
    cases rv with
    | cons rd rv =>
      cases rv
      obtain ⟨z, hd, vs0, rel, dd⟩ := dk_of I.hok ea
      have hz : vs0.length ≤ sizeLine := by rw [← rel.length]; exact z
      refine call_meetsIn PySem.F.slot_dict_setdefault dd.typeIs PySem.F.entry_dict_setdefault (PySem.F.args_dict_setdefault_3 _ _ _) (kt_meets_setdefault (mixKind X.prog X.w) _ (kV_is ry) hd _) ⟨vs0, dd, hz, fun u hu => ?_, fun hn h' dd' hs => ?_⟩
      · have rr := rel.val k
        rw [hu] at rr
        cases hv : valV kvs k with
        | none => rw [hv] at rr; exact False.elim rr
        | some x =>
          rw [hv] at rr
          exact (⟨x, H, I.tok _, rr, w1 x hv⟩ : EP X pins σ Q u _)
      · have rr := rel.val k
        rw [hn] at rr
        cases hv : valV kvs k with
        | some x => rw [hv] at rr; exact False.elim rr
        | none =>
          obtain ⟨w3, w4⟩ := w2 hv
          have hl2 : (putK kvs k v).length ≤ sizeLine := by have := length_putK kvs k v; omega
          exact (⟨v, _, d_write (t' := s.toks + 1) I (by rw [ea]; exact True.intro) hs (let ⟨q, _, _, hq, _⟩ := dd'; ⟨q, hq⟩) (dk_new hl2 hd (rel.put k rd) dd'), rd, w4⟩ : EP X pins σ Q _ _)
theorem sm_setd : SM K rSetdM setdD := by
  intro Φ H μ h x v xs vs d h' S r1 r2 e Q k
  unfold setdD at e
  split at e
  · split at e
    · rename_i kvs q
      split at e
      · rename_i kk q2
        obtain ⟨p, ep, rfl⟩ := rp_at' r1
        obtain ⟨v1, v2, rfl, a1, a2⟩ := rps2 r2
        obtain ⟨kw, b, c⟩ := S.dct q ep
        refine ⟨p, kw, kk, v2, rfl, by rw [key_of a1 q2], b, fun u hu => ?_, fun hn => ?_⟩
        · rcases c.val (k := kk) with ⟨z1, z2⟩ | ⟨d1, u1, z1, z2, z3⟩
          · rw [hu] at z2; cases z2
          · rw [z1] at e
            cases e
            rw [hu] at z2
            cases z2
            exact k _ H μ S Le.refl z3
        · rcases c.val (k := kk) with ⟨z1, z2⟩ | ⟨d1, u1, z1, z2, z3⟩
          · rw [z1] at e
            simp only at e
            split at e
            · rename_i hz
              cases e
              have l4 : Le K H μ (upd H p (.dK (putK kw kk v2))) μ := le_set S ep
              have c2 := c.put (k := kk) a2
              exact ⟨by rw [c.len]; exact ln_lt hz, k _ _ μ (S.set ep ⟨_, upd_same, c2.1, Rps.mono l4 _ _ c2.2⟩) l4 (Rp.mono l4 _ _ a2)⟩
            · cases e
          · rw [hn] at z2; cases z2
      · cases e
    · cases e
  · cases e
end
/-! ### pop(0) -/
def pop0D : GM := fun x xs h => match x, xs with
  | .at n, [.int 0] => match h[n]? with
    | some (.lst (y :: ys)) => some (y, h.set n (.lst ys))
    | _ => none
  | _, _ => none
def rPop0 : V → List V → Hp → VK → Prop := fun x vs H Q => ∃ (l : Addr) (y : V) (xs : List V), x = .ref l ∧ vs = [.int 0] ∧ H l = some (.lst (y :: xs)) ∧ Q y (upd H l (.lst xs))
section
variable {K : Kw} {X : Cx}
theorem mt_pop0 : MtR X "list.pop" rPop0 := by
  intro pins s σ H x vs v us Q I rx rv h
  obtain ⟨l, y, xs, rfl, rfl, hH, q⟩ := h
  cases rx
  obtain ⟨u, rfl, ru⟩ := rv.one
  obtain ⟨tk, rfl⟩ : ∃ tk, u = Value.int 0 tk := ru
  obtain ⟨z, its, n, r, hl, e⟩ := I.lstM hH
  cases r with
  | cons ry r =>
    rename_i w its'
    have hsz : (w :: its').toArray.size ≤ sizeLine := by
      rw [List.size_toArray]
      omega
    refine call_meets PySem.F.slot_list_pop ⟨_, e, rfl⟩ PySem.F.entry_list_pop (PySem.F.args_list_pop_2 _ _) (PySem.MeetsSeq.list_pop_at l _ n 0 tk 0 w (by decide +kernel) (by simp [seqIndex?]) (by simp) hsz) ⟨e, ?_⟩
    refine ⟨y, _, I.lset (its' := its') hH e ?_ r ?_, ry, q⟩
    · simp
    · simp at hl z ⊢
      omega
theorem sm_pop0 : SM K rPop0 pop0D := by
  intro Φ H μ h x v xs vs d h' S r1 r2 e Q k
  unfold pop0D at e
  split at e
  · split at e
    · rename_i y ys q
      cases e
      obtain ⟨p, ep, rfl⟩ := rp_at' r1
      obtain ⟨w, rfl, a⟩ := rps1 r2
      obtain ⟨ws, b, c⟩ := S.lst q ep
      obtain ⟨w1, ws1, rfl, c1, c2⟩ := c.cons'
      exact ⟨p, w1, ws1, rfl, by rw [rp_int' a], b, kn_set S ep c2 c1 k⟩
    · cases e
  · cases e
end
/-! ### x in a list of data -/
def inPD (neg : Bool) : G2 := fun x y h => match datD h x, datD h y with
  | some p, some (.list ps) => if p.canLay0 = true ∧ PyData.canLayAll0 ps = true ∧ p.depth ≤ 60 then some (.bl (neg ^^ ps.any fun z => PyData.eqv z p), h) else none
  | _, _ => none
def rInPD (K : Kw) (neg : Bool) : R2 := fun x y H Q => ∃ d ds, Dp K H x d ∧ Dp K H y (.list ds) ∧ d.canLay0 = true ∧ PyData.canLayAll0 ds = true ∧ d.depth ≤ 60 ∧ Q (.bl (neg ^^ ds.any fun z => PyData.eqv z d)) H
section
variable {K : Kw} {X : Cx}
theorem so_inP (neg : Bool) : SO K (rInPD K neg) (inPD neg) := by
  intro Φ H μ h x y v w d h' S r1 r2 e Q k
  unfold inPD at e
  split at e
  · rename_i p ps e1 e2
    split at e
    · rename_i hc
      cases e
      exact ⟨p, ps, dat_of S r1 e1, dat_of S r2 e2, hc.1, hc.2.1, hc.2.2, k _ H μ S Le.refl rp_bl⟩
    · cases e
  · cases e
theorem op_inP (hu : X.A.units + 64 < cLine) (hK : KOf X = K := by rfl) : OpR X (compareOp .In) (rInPD K false) := by
  subst hK
  intro pins s σ H x y v u Q I rx ry h
  obtain ⟨d, ds, hd, he, sd, se, hm, q⟩ := h
  obtain ⟨as, r1⟩ := Dp.reads I d x v hd rx
  obtain ⟨bs, r2⟩ := Dp.reads I (.list ds) y u he ry
  exact SeqAt.in_list_reads r2 r1 se sd (by omega) ⟨.bl _, H, I, rfl, by simpa using q⟩
theorem op_niP (hu : X.A.units + 64 < cLine) (hK : KOf X = K := by rfl) : OpR X (compareOp .NotIn) (rInPD K true) := by
  subst hK
  intro pins s σ H x y v u Q I rx ry h
  obtain ⟨d, ds, hd, he, sd, se, hm, q⟩ := h
  obtain ⟨as, r1⟩ := Dp.reads I d x v hd rx
  obtain ⟨bs, r2⟩ := Dp.reads I (.list ds) y u he ry
  exact SeqAt.notIn_list_reads r2 r1 se sd (by omega) ⟨.bl _, H, I, rfl, by simpa using q⟩
end
/-! ### told from the end -/
section
variable {h : Hd} {Q : D → Hd → Prop}
theorem lf_setdT {n : Nat} {kvs : List (Key × D)} {y z d : D} {k : Key} (e : h[n]? = some (.dct kvs)) (ek : keyD y = some k) (ev : valD kvs k = some d) (q : Q d h) : Ev (setdD (.at n) [y, z] h) Q := ⟨_, _, by simp only [setdD, e, ek, ev], q⟩
theorem lf_setdF {n : Nat} {kvs : List (Key × D)} {y z : D} {k : Key} (e : h[n]? = some (.dct kvs)) (ek : keyD y = some k) (ev : valD kvs k = none) (l : kvs.length < LN) (q : Q z (h.set n (.dct (putD kvs k z)))) : Ev (setdD (.at n) [y, z] h) Q := ⟨_, _, by simp only [setdD, e, ek, ev, if_pos l], q⟩
theorem lf_pop0 {n : Nat} {y : D} {ys : List D} (e : h[n]? = some (.lst (y :: ys))) (q : Q y (h.set n (.lst ys))) : Ev (pop0D (.at n) [.int 0] h) Q := ⟨_, _, by simp only [pop0D, e], q⟩
theorem lf_inP {neg : Bool} {x y : D} {p : PyData} {ps : List PyData} (e1 : datD h x = some p) (e2 : datD h y = some (.list ps)) (c : p.canLay0 = true ∧ PyData.canLayAll0 ps = true ∧ p.depth ≤ 60) (q : Q (.bl (neg ^^ ps.any fun z => PyData.eqv z p)) h) : Ev (inPD neg x y h) Q := ⟨_, _, by simp only [inPD, e1, e2, if_pos c], q⟩
end
end DL

/-! DM28: del xs[a:]. -/
namespace DL
open PySem L2 PySem.Spec PyProof.Rows
theorem drop_filter (p : Nat → Bool) (a : Nat) : ∀ (xs : List Value) (m : Nat), (∀ k, m ≤ k → k < m + xs.length → p k = decide (a ≤ k)) →
    ((xs.zipIdx m).filterMap fun (x, k) => if p k then none else some x) = xs.take (a - m)
  | [], m, h => by simp
  | x :: xs, m, h => by
    have ih := drop_filter p a xs (m + 1) (fun k h1 h2 => h k (by omega) (by simp; omega))
    have h0 := h m (Nat.le_refl _) (by simp)
    rw [List.zipIdx_cons, List.filterMap_cons]
    by_cases hm : a ≤ m
    · have e : p m = true := by rw [h0]; exact decide_eq_true hm
      simp only [e, if_true]
      rw [ih]
      have e1 : a - (m + 1) = 0 := by omega
      have e2 : a - m = 0 := by omega
      rw [e1, e2]
      simp
    · have e : p m = false := by rw [h0]; exact decide_eq_false hm
      simp only [e, Bool.false_eq_true, if_false]
      rw [ih]
      have e2 : a - m = (a - (m + 1)) + 1 := by omega
      rw [e2]
      simp
def keepF (a n : Nat) : Array Value → Array Value := fun xs : Array Value => ((xs.toList.zipIdx.filterMap fun (x, k) => if (if (1 : Int) > 0 then decide (((min a n : Nat) : Int) ≤ (k : Int)) && decide ((k : Int) < (n : Int)) && ((k : Int) - ((min a n : Nat) : Int)) % 1 == 0 else decide ((n : Int) < (k : Int)) && decide ((k : Int) ≤ ((min a n : Nat) : Int)) && ((((min a n : Nat) : Int) - (k : Int)) % (-1) == 0)) = true then none else some x).toArray)
section
variable {prog : Program} {w : World} {A : Around} {E : Value → Shared → Prop} {s : Shared}
theorem bounds_from {a n : Nat} : sliceBounds (some (a : Int)) none none n = (((min a n : Nat) : Int), (n : Int), 1) := by
  simp only [sliceBounds, Option.getD_none]
  have h1 : ¬ ((a : Int) < 0) := by omega
  simp only [h1, if_false, show (1 : Int) > 0 by decide, if_true]
  congr 1
  omega
theorem delItem_slice {l sl : Addr} {items : Array Value} {n : Nat} {vl : Value} {a : Nat} {Q : Unit → Shared → Prop}
    (e : s.heap.get? l = some { cls := .type "list", data := .seq items n })
    (hs : s.heap.IsSliceOf sl vl .none .none) (pl : IsPart vl (some (a : Int)))
    (hsz : items.size ≤ sizeLine) (h : ∀ f : Array Value → Array Value, f items = (items.toList.take a).toArray → Q () { s with heap := s.heap.update l (Obj.mapSeq f) }) :
    wpAny (model prog w) A (delItem (.ref l) (.ref sl)) Q E s := by
  have hl : s.heap.IsList l items := PySem.IsL.isList e
  obtain ⟨os, hos, hcs, hds⟩ := id hs
  have hTs : s.TypeIs (.ref sl) "slice" := ⟨os, hos, hcs⟩
  have hstep : ¬ ((rawPart none == rawInt 0) = true) := Bool.false_ne_true
  refine wpAny_delItem_slot hl.typeIs (by decide) PySem.F.slot_list_delitem ?_
  refine wpAny_call_entry PySem.F.slot_list_delitem hl.typeIs PySem.F.entry_list_delitem ?_ (PySem.F.args_list_delitem_2 _ _)
  show wpAny _ _ (Builtin.List.listSubscript? (.ref sl) >>= _) _ _ s
  refine wpAny_bind ?_
  unfold Builtin.List.listSubscript?
  refine wpAny_bind (wpAny_specialOf hTs slice_no_index ?_)
  simp only [Option.isNone_none, if_true]
  refine wpAny_pure ?_
  show wpAny _ _ (typeOf (.ref sl) >>= _) _ _ s
  refine wpAny_bind (wpAny_typeOf hTs ?_)
  first
    | rw [if_neg (by decide)]
    | refine PySem.W.KFB.if_not (by decide) ?_
  rw [listSliceParts_eq]
  refine wpAny_bind (wpAny_bind (wpAny_field hos hds (x := .none) rfl (wpAny_bind (wpAny_listPart .none ?_))))
  rw [if_neg hstep]
  refine wpAny_bind (wpAny_field hos hds (x := vl) rfl (wpAny_bind (wpAny_listPart pl ?_)))
  refine wpAny_bind (wpAny_field hos hds (x := .none) rfl (wpAny_bind (wpAny_listPart .none (wpAny_pure ?_))))
  unfold Builtin.List.listItems
  refine wpAny_bind (wpAny_bind (wpAny_seqItems e rfl (wpAny_pure ?_)))
  refine wpAny_bind (wpAny_of_eq ((sliceIndices_raw (some (a : Int)) none none items.size (by simp)).trans (congrArg (pure : Int × Int × Int → Sem (Int × Int × Int)) bounds_from)) ?_)
  refine wpAny_bind (wpAny_rule ?_)
  have key : ∀ f : Array Value → Array Value, f items = (items.toList.take a).toArray → (f items).size ≤ sizeLine + 1 := fun f hf => by
    rw [hf, List.size_toArray, List.length_take, Array.length_toList]; omega
  have hf : keepF a items.size items = (items.toList.take a).toArray := by
    show (List.filterMap _ _).toArray = _
    congr 1
    refine (drop_filter (fun k => if (1 : Int) > 0 then decide (((min a items.size : Nat) : Int) ≤ (k : Int)) && decide ((k : Int) < (items.size : Int)) && ((k : Int) - ((min a items.size : Nat) : Int)) % 1 == 0 else decide ((items.size : Int) < (k : Int)) && decide ((k : Int) ≤ ((min a items.size : Nat) : Int)) && ((((min a items.size : Nat) : Int) - (k : Int)) % (-1) == 0)) a items.toList 0 ?_)
    intro k _ hk
    rw [Nat.zero_add, Array.length_toList] at hk
    simp only [show (1 : Int) > 0 by decide, if_true, Int.emod_one, beq_self_eq_true, Bool.and_true]
    have h1 : decide ((k : Int) < (items.size : Int)) = true := decide_eq_true (by omega)
    rw [h1, Bool.and_true]
    apply decide_eq_decide.mpr
    omega
  show wpAny _ _ (updateSeq l (keepF a items.size) >>= _) _ _ s
  refine wpAny_bind (wpAny_updateSeq (hz := hsz) (_hz' := key _ hf) e rfl ?_)
  refine wpAny_bind (wpAny_letGo ?_)
  exact wpAny_pure ⟨.none, rfl, h _ hf⟩
end
/-- del o[lo:] -/
def tDelS (to : TE) (tl : TE) : TS := fun D σ H => to σ H fun x H1 => tl σ H1 fun y H2 => ∃ (l : Addr) (xs : List V) (i : Int), x = .ref l ∧ y = .int i ∧ H2 l = some (.lst xs) ∧ 0 ≤ i ∧ D.nx σ (upd H2 l (.lst (xs.take i.toNat)))
theorem ps_delS {X : Cx} {o i : Expr} {to ti : TE} {tpos p2 pos : Pos} (ho : PE X o to) (hi : PE X i ti) : PS X (.Delete [.Subscript o (.Slice (some i) none none p2) tpos] pos) (tDelS to ti) := by
  refine ⟨fun pins s σ H D I h => ?_⟩
  refine wpAny_Delete (wpAny_deleteEach_cons (wpAny_delete_Subscript (thn (ho.run pins s σ H _ I h) fun u s1 ⟨x, H1, I1, rx, q1⟩ => ?_)))
  refine wpAny_Slice ?_
  rw [evalPart_some]
  refine thn (hi.run pins s1 σ H1 _ I1 q1) fun iv s2 ⟨y, H2, I2, ry, q2⟩ => ?_
  rw [evalPart_none]
  refine wpAny_pure ?_
  refine wpAny_pure ?_
  obtain ⟨l, xs, j, ex, ey, hH, h0, q2⟩ := q2
  subst ex
  subst ey
  cases (show u = Value.ref l from rx)
  obtain ⟨t, rfl⟩ := (show ∃ t, iv = Value.int j t from ry)
  have I4 : Inv X pins σ H2 { s2 with heap := s2.heap.push { cls := .type "slice", data := .fields #[.int j t, .none, .none] } } := I2.kept (t' := s2.toks) fun b ob q => Heap.get?_push_of_some _ q
  obtain ⟨z, its, n, r, hl, e⟩ := I4.lstM hH
  obtain ⟨a, rfl⟩ := Int.eq_ofNat_of_zero_le h0
  simp only [Int.toNat_natCast] at q2
  refine delItem_slice (a := a) e (Heap.IsSliceOf.new ..) (.int _ _) (by rw [List.size_toArray]; omega) fun f hf => ?_
  refine wpAny_deleteEach_nil ⟨σ, _, I4.lset (its' := its.take a) hH e hf (r.take _) ?_, q2⟩
  rw [List.length_take]
  omega
def delSM (o i : ME) : MS := fun sg h => match o sg h with
  | some (.at n, h1) => match i sg h1 with
    | some (.int j, h2) => match h2[n]? with
      | some (.lst xs) => if 0 ≤ j then some (.nx sg, h2.set n (.lst (xs.take j.toNat))) else none
      | _ => none
    | _ => none
  | _ => none
theorem ds_delS {K : Kw} {X : Cx} {o i : Expr} {to ti : TE} {mo mi : ME} {tpos p2 pos : Pos} (ho : DE K X o to mo) (hi : DE K X i ti mi) : DS K X (.Delete [.Subscript o (.Slice (some i) none none p2) tpos] pos) (tDelS to ti) (delSM mo mi) := ⟨ho.k, ps_delS ho.p hi.p, by
  intro Φ σ H μ sg h f h' S rs e E k
  unfold delSM at e
  split at e
  · rename_i n h1 e1
    split at e
    · rename_i j h2 e2
      split at e
      · rename_i xs q
        split at e
        · rename_i hj
          cases e
          refine ho.s σ H μ sg h _ h1 S rs e1 _ fun v H1 μ1 S1 l1 r1 => ?_
          refine hi.s σ H1 μ1 sg h1 _ h2 S1 (rs.mono l1) e2 _ fun w H2 μ2 S2 l2 r2 => ?_
          obtain ⟨p, ep, rfl⟩ := rp_at' (Rp.mono l2 _ _ r1)
          obtain ⟨ws, b, c⟩ := S2.lst q ep
          refine ⟨p, ws, j, rfl, rp_int' r2, b, hj, ?_⟩
          have l4 : Le K H2 μ2 (upd H2 p (.lst (ws.take j.toNat))) μ2 := le_set S2 ep
          exact k σ _ μ2 (S2.set ep ⟨_, upd_same, Rps.mono l4 _ _ (c.take _)⟩) ((l1.trans l2).trans l4) (rs.mono ((l1.trans l2).trans l4))
        · cases e
      · cases e
    · cases e
  · cases e⟩
section
variable {h : Hd} {sg : Sg} {Q : Fl → Hd → Prop}
theorem ev_delS {o i : ME} {P : Fl → Hd → Prop} (hh : Ev (o sg h) fun x h1 => ∃ n, x = .at n ∧ Ev (i sg h1) fun y h2 => ∃ j xs, y = .int j ∧ h2[n]? = some (.lst xs) ∧ 0 ≤ j ∧ P (.nx sg) (h2.set n (.lst (xs.take j.toNat)))) : Ev (delSM o i sg h) P := by
  obtain ⟨x, h1, e1, n, rfl, y, h2, e2, j, xs, rfl, e3, h0, q⟩ := hh
  exact ⟨_, _, by simp only [delSM, e1, e2, e3, if_pos h0], q⟩
end
end DL

namespace K50
open PySem L2 DL
def topS (i : Nat) : Stmt := PySem.Challenge.pw_hornhall_k50_whole_bindings_taken_back.main.body.getD i (.Pass ⟨0, 0, 0, 0⟩)
structure Zs (mg : Str → Option Value) : Prop where
  «abs» : mg "abs" = none
  «all» : mg "all" = none
  «bool» : mg "bool" = none
  «dict» : mg "dict" = none
  «int» : mg "int" = none
  «isinstance» : mg "isinstance" = none
  «len» : mg "len" = none
  «list» : mg "list" = none
  «max» : mg "max" = none
  «min» : mg "min" = none
  «ord» : mg "ord" = none
  «range» : mg "range" = none
  «str» : mg "str" = none
  «tuple» : mg "tuple" = none
abbrev k_MOST_ARGUMENTS : D := .int 8
abbrev k_MOST_SIGNS : D := .int 40
abbrev k_TOO_GREAT : D := .int 1000000000000000000000000000000000000000000000000000000000000000000000000000000000000000000000000000000000000000000000000000000000000000000000000000000000000000000000000000000000000000000000000000000000000000000000000000000000000000000000000000000000000000000000000000000000000000000000000000000000000
structure Ys (K : Kw) (mg : Str → Option Value) : Prop where
  g_MOST_ARGUMENTS : Kst K mg "MOST_ARGUMENTS" k_MOST_ARGUMENTS
  g_MOST_SIGNS : Kst K mg "MOST_SIGNS" k_MOST_SIGNS
  g_TOO_GREAT : Kst K mg "TOO_GREAT" k_TOO_GREAT
/-! ### own exceptions -/
abbrev LX : List Str := ["BadAddress", "BadCell", "BadTerm", "BadValue"]
abbrev TX : XTab := [("BadAddress", ["address"]), ("BadCell", ["cell"]), ("BadTerm", ["term"]), ("BadValue", ["why"])]
def subX (a b : Str) : Bool := ([("BadAddress", "BadAddress"), ("BadAddress", "HornError"), ("BadCell", "BadCell"), ("BadCell", "HornError"), ("BadTerm", "BadTerm"), ("BadTerm", "HornError"), ("BadValue", "BadValue"), ("BadValue", "HornError")] : List (Str × Str)).contains (a, b)
abbrev si_BadAddress : Stmt := (clsBody (topS 4)).getD 0 (.Pass ⟨0, 0, 0, 0⟩)
theorem sci_BadAddress : FnScope ["self", "address"] ["self", "address"] (defScope si_BadAddress) := ⟨rfl, rfl, rfl, by decide +kernel, rfl, by decide +kernel, by decide +kernel⟩
theorem i_BadAddress {P : Program} {w : World} {K : PySem.W.Frag} {mg : Str → Option Value} {base : Heap} {C fI : Addr} {fd : FuncData} (b : BasC K mg "HornError") (T : OexC K C) (n0 : PySem.W.findIn K (.ref C) "address" = some none) (F : Fun K "__init__" "BadAddress.__init__" si_BadAddress fI fd) : FnOk P w K mg base (L2.CX P w) 1 fI fd ["self", "address"] (spI K C ["address"]) :=
  F.okX sci_BadAddress (fun vs H Q E h => spI_len h) fun cdv A outer s H vs Q E hr h => ⟨_, pss_cons (ps_expr (pe_binit b rfl (pa_cons (pv 0) pa_nil))) (pss_one (ps_ost (pv 0) (pv 1))), ini1 T n0 h⟩
abbrev si_BadCell : Stmt := (clsBody (topS 5)).getD 0 (.Pass ⟨0, 0, 0, 0⟩)
theorem sci_BadCell : FnScope ["self", "cell"] ["self", "cell"] (defScope si_BadCell) := ⟨rfl, rfl, rfl, by decide +kernel, rfl, by decide +kernel, by decide +kernel⟩
theorem i_BadCell {P : Program} {w : World} {K : PySem.W.Frag} {mg : Str → Option Value} {base : Heap} {C fI : Addr} {fd : FuncData} (b : BasC K mg "HornError") (T : OexC K C) (n0 : PySem.W.findIn K (.ref C) "cell" = some none) (F : Fun K "__init__" "BadCell.__init__" si_BadCell fI fd) : FnOk P w K mg base (L2.CX P w) 1 fI fd ["self", "cell"] (spI K C ["cell"]) :=
  F.okX sci_BadCell (fun vs H Q E h => spI_len h) fun cdv A outer s H vs Q E hr h => ⟨_, pss_cons (ps_expr (pe_binit b rfl (pa_cons (pv 0) pa_nil))) (pss_one (ps_ost (pv 0) (pv 1))), ini1 T n0 h⟩
abbrev si_BadTerm : Stmt := (clsBody (topS 3)).getD 0 (.Pass ⟨0, 0, 0, 0⟩)
theorem sci_BadTerm : FnScope ["self", "term"] ["self", "term"] (defScope si_BadTerm) := ⟨rfl, rfl, rfl, by decide +kernel, rfl, by decide +kernel, by decide +kernel⟩
theorem i_BadTerm {P : Program} {w : World} {K : PySem.W.Frag} {mg : Str → Option Value} {base : Heap} {C fI : Addr} {fd : FuncData} (b : BasC K mg "HornError") (T : OexC K C) (n0 : PySem.W.findIn K (.ref C) "term" = some none) (F : Fun K "__init__" "BadTerm.__init__" si_BadTerm fI fd) : FnOk P w K mg base (L2.CX P w) 1 fI fd ["self", "term"] (spI K C ["term"]) :=
  F.okX sci_BadTerm (fun vs H Q E h => spI_len h) fun cdv A outer s H vs Q E hr h => ⟨_, pss_cons (ps_expr (pe_binit b rfl (pa_cons (pv 0) pa_nil))) (pss_one (ps_ost (pv 0) (pv 1))), ini1 T n0 h⟩
abbrev si_BadValue : Stmt := (clsBody (topS 6)).getD 0 (.Pass ⟨0, 0, 0, 0⟩)
theorem sci_BadValue : FnScope ["self", "why"] ["self", "why"] (defScope si_BadValue) := ⟨rfl, rfl, rfl, by decide +kernel, rfl, by decide +kernel, by decide +kernel⟩
theorem i_BadValue {P : Program} {w : World} {K : PySem.W.Frag} {mg : Str → Option Value} {base : Heap} {C fI : Addr} {fd : FuncData} (b : BasC K mg "HornError") (T : OexC K C) (n0 : PySem.W.findIn K (.ref C) "why" = some none) (F : Fun K "__init__" "BadValue.__init__" si_BadValue fI fd) : FnOk P w K mg base (L2.CX P w) 1 fI fd ["self", "why"] (spI K C ["why"]) :=
  F.okX sci_BadValue (fun vs H Q E h => spI_len h) fun cdv A outer s H vs Q E hr h => ⟨_, pss_cons (ps_expr (pe_binit b rfl (pa_cons (pv 0) pa_nil))) (pss_one (ps_ost (pv 0) (pv 1))), ini1 T n0 h⟩
structure Qs (K : PySem.W.Frag) (mg : Str → Option Value) : Prop where
  t_BadAddress : ExT K mg "BadAddress" ["address"]
  t_BadCell : ExT K mg "BadCell" ["cell"]
  t_BadTerm : ExT K mg "BadTerm" ["term"]
  t_BadValue : ExT K mg "BadValue" ["why"]
  tab : ExTab K mg TX
abbrev n_assign : Nat := 121390429860705
theorem e_assign : nmN n_assign = "assign" := by decide +kernel
abbrev n_at : Nat := 29793
theorem e_at : nmN n_at = "at" := by decide +kernel
abbrev n_bind : Nat := 1684957538
theorem e_bind : nmN n_bind = "bind" := by decide +kernel
abbrev n_build : Nat := 431315580258
theorem e_build : nmN n_build = "build" := by decide +kernel
abbrev n_cells : Nat := 495740282211
theorem e_cells : nmN n_cells = "cells" := by decide +kernel
abbrev n_check_there : Nat := 122641728208021922941069411
theorem e_check_there : nmN n_check_there = "check_there" := by decide +kernel
abbrev n_fill : Nat := 1819044198
theorem e_fill : nmN n_fill = "fill" := by decide +kernel
abbrev n_follow : Nat := 131320444120934
theorem e_follow : nmN n_follow = "follow" := by decide +kernel
abbrev n_free : Nat := 1701147238
theorem e_free : nmN n_free = "free" := by decide +kernel
abbrev n_heap : Nat := 1885431144
theorem e_heap : nmN n_heap = "heap" := by decide +kernel
abbrev n_is_there : Nat := 7310016644479153001
theorem e_is_there : nmN n_is_there = "is_there" := by decide +kernel
abbrev n_join : Nat := 1852403562
theorem e_join : nmN n_join = "join" := by decide +kernel
abbrev n_look : Nat := 1802465132
theorem e_look : nmN n_look = "look" := by decide +kernel
abbrev n_low : Nat := 7827308
theorem e_low : nmN n_low = "low" := by decide +kernel
abbrev n_marks : Nat := 495723897197
theorem e_marks : nmN n_marks = "marks" := by decide +kernel
abbrev n_new : Nat := 7824750
theorem e_new : nmN n_new = "new" := by decide +kernel
abbrev n_noted : Nat := 431198859118
theorem e_noted : nmN n_noted = "noted" := by decide +kernel
abbrev n_size : Nat := 1702521203
theorem e_size : nmN n_size = "size" := by decide +kernel
abbrev n_slots : Nat := 495874698355
theorem e_slots : nmN n_slots = "slots" := by decide +kernel
abbrev n_trail : Nat := 465624461940
theorem e_trail : nmN n_trail = "trail" := by decide +kernel
abbrev n_undo : Nat := 1868852853
theorem e_undo : nmN n_undo = "undo" := by decide +kernel
abbrev n_write_at : Nat := 8386088870489977463
theorem e_write_at : nmN n_write_at = "write_at" := by decide +kernel
structure Ks (K : PySem.W.Frag) (CA : Str → Addr) : Prop where
  f_cells : ∀ C ∈ [CA "Store"], ClF K C "cells"
  f_low : ∀ C ∈ [CA "Store"], ClF K C "low"
  f_noted : ∀ C ∈ [CA "Store"], ClF K C "noted"
  f_slots : ∀ C ∈ [CA "Store"], ClF K C "slots"
abbrev s_is_int : Stmt := topS 11
abbrev N_is_int : List Str := ["thing"]
abbrev P_is_int : List Str := ["thing"]
theorem sc_is_int : FnScope N_is_int P_is_int (defScope s_is_int) := ⟨rfl, rfl, rfl, by decide +kernel, rfl, by decide +kernel, by decide +kernel⟩
abbrev s_is_variable : Stmt := topS 12
abbrev N_is_variable : List Str := ["thing"]
abbrev P_is_variable : List Str := ["thing"]
theorem sc_is_variable : FnScope N_is_variable P_is_variable (defScope s_is_variable) := ⟨rfl, rfl, rfl, by decide +kernel, rfl, by decide +kernel, by decide +kernel⟩
abbrev s_is_any_number : Stmt := topS 13
abbrev N_is_any_number : List Str := ["thing"]
abbrev P_is_any_number : List Str := ["thing"]
theorem sc_is_any_number : FnScope N_is_any_number P_is_any_number (defScope s_is_any_number) := ⟨rfl, rfl, rfl, by decide +kernel, rfl, by decide +kernel, by decide +kernel⟩
abbrev s_is_any_atom : Stmt := topS 14
abbrev N_is_any_atom : List Str := ["thing", "sign"]
abbrev P_is_any_atom : List Str := ["thing"]
theorem sc_is_any_atom : FnScope N_is_any_atom P_is_any_atom (defScope s_is_any_atom) := ⟨rfl, rfl, rfl, by decide +kernel, rfl, by decide +kernel, by decide +kernel⟩
abbrev s_is_compound : Stmt := topS 15
abbrev N_is_compound : List Str := ["term"]
abbrev P_is_compound : List Str := ["term"]
theorem sc_is_compound : FnScope N_is_compound P_is_compound (defScope s_is_compound) := ⟨rfl, rfl, rfl, by decide +kernel, rfl, by decide +kernel, by decide +kernel⟩
abbrev s_is_term : Stmt := topS 16
abbrev N_is_term : List Str := ["thing", "waiting", "part"]
abbrev P_is_term : List Str := ["thing"]
theorem sc_is_term : FnScope N_is_term P_is_term (defScope s_is_term) := ⟨rfl, rfl, rfl, by decide +kernel, rfl, by decide +kernel, by decide +kernel⟩
abbrev s_is_place : Stmt := topS 18
abbrev N_is_place : List Str := ["value"]
abbrev P_is_place : List Str := ["value"]
theorem sc_is_place : FnScope N_is_place P_is_place (defScope s_is_place) := ⟨rfl, rfl, rfl, by decide +kernel, rfl, by decide +kernel, by decide +kernel⟩
abbrev s_is_address : Stmt := topS 19
abbrev N_is_address : List Str := ["value"]
abbrev P_is_address : List Str := ["value"]
theorem sc_is_address : FnScope N_is_address P_is_address (defScope s_is_address) := ⟨rfl, rfl, rfl, by decide +kernel, rfl, by decide +kernel, by decide +kernel⟩
abbrev s_is_functor : Stmt := topS 20
abbrev N_is_functor : List Str := ["value"]
abbrev P_is_functor : List Str := ["value"]
theorem sc_is_functor : FnScope N_is_functor P_is_functor (defScope s_is_functor) := ⟨rfl, rfl, rfl, by decide +kernel, rfl, by decide +kernel, by decide +kernel⟩
abbrev s_is_cell : Stmt := topS 21
abbrev N_is_cell : List Str := ["value"]
abbrev P_is_cell : List Str := ["value"]
theorem sc_is_cell : FnScope N_is_cell P_is_cell (defScope s_is_cell) := ⟨rfl, rfl, rfl, by decide +kernel, rfl, by decide +kernel, by decide +kernel⟩
abbrev s_constant : Stmt := topS 22
abbrev N_constant : List Str := ["term"]
abbrev P_constant : List Str := ["term"]
theorem sc_constant : FnScope N_constant P_constant (defScope s_constant) := ⟨rfl, rfl, rfl, by decide +kernel, rfl, by decide +kernel, by decide +kernel⟩
abbrev s_check_cell : Stmt := topS 24
abbrev N_check_cell : List Str := ["cell"]
abbrev P_check_cell : List Str := ["cell"]
theorem sc_check_cell : FnScope N_check_cell P_check_cell (defScope s_check_cell) := ⟨rfl, rfl, rfl, by decide +kernel, rfl, by decide +kernel, by decide +kernel⟩
abbrev s_Store_look : Stmt := (clsBody (topS 31)).getD 1 (.Pass ⟨0, 0, 0, 0⟩)
abbrev N_Store_look : List Str := ["self", "address"]
abbrev P_Store_look : List Str := ["self", "address"]
theorem sc_Store_look : FnScope N_Store_look P_Store_look (defScope s_Store_look) := ⟨rfl, rfl, rfl, by decide +kernel, rfl, by decide +kernel, by decide +kernel⟩
abbrev s_reaches : Stmt := topS 25
abbrev N_reaches : List Str := ["store", "address", "cells", "whole", "waiting", "seen", "cell", "below", "arity", "k"]
abbrev P_reaches : List Str := ["store", "address", "cells", "whole"]
theorem sc_reaches : FnScope N_reaches P_reaches (defScope s_reaches) := ⟨rfl, rfl, rfl, by decide +kernel, rfl, by decide +kernel, by decide +kernel⟩
abbrev s_Store_write_at : Stmt := (clsBody (topS 31)).getD 3 (.Pass ⟨0, 0, 0, 0⟩)
abbrev N_Store_write_at : List Str := ["self", "address", "cell"]
abbrev P_Store_write_at : List Str := ["self", "address", "cell"]
theorem sc_Store_write_at : FnScope N_Store_write_at P_Store_write_at (defScope s_Store_write_at) := ⟨rfl, rfl, rfl, by decide +kernel, rfl, by decide +kernel, by decide +kernel⟩
abbrev s_Store_assign : Stmt := (clsBody (topS 31)).getD 4 (.Pass ⟨0, 0, 0, 0⟩)
abbrev N_Store_assign : List Str := ["self", "address", "cell"]
abbrev P_Store_assign : List Str := ["self", "address", "cell"]
theorem sc_Store_assign : FnScope N_Store_assign P_Store_assign (defScope s_Store_assign) := ⟨rfl, rfl, rfl, by decide +kernel, rfl, by decide +kernel, by decide +kernel⟩
abbrev s_bind_or_not : Stmt := topS 26
abbrev N_bind_or_not : List Str := ["store", "one", "other", "variable", "value"]
abbrev P_bind_or_not : List Str := ["store", "one", "other"]
theorem sc_bind_or_not : FnScope N_bind_or_not P_bind_or_not (defScope s_bind_or_not) := ⟨rfl, rfl, rfl, by decide +kernel, rfl, by decide +kernel, by decide +kernel⟩
abbrev s_Store_follow : Stmt := (clsBody (topS 31)).getD 2 (.Pass ⟨0, 0, 0, 0⟩)
abbrev N_Store_follow : List Str := ["self", "cell", "below"]
abbrev P_Store_follow : List Str := ["self", "cell"]
theorem sc_Store_follow : FnScope N_Store_follow P_Store_follow (defScope s_Store_follow) := ⟨rfl, rfl, rfl, by decide +kernel, rfl, by decide +kernel, by decide +kernel⟩
abbrev s_joined : Stmt := topS 27
abbrev N_joined : List Str := ["store", "one", "other", "row", "done", "arity", "first", "second", "k"]
abbrev P_joined : List Str := ["store", "one", "other"]
theorem sc_joined : FnScope N_joined P_joined (defScope s_joined) := ⟨rfl, rfl, rfl, by decide +kernel, rfl, by decide +kernel, by decide +kernel⟩
abbrev s_simple : Stmt := topS 29
abbrev N_simple : List Str := ["term", "names", "fresh"]
abbrev P_simple : List Str := ["term", "names", "fresh"]
theorem sc_simple : FnScope N_simple P_simple (defScope s_simple) := ⟨rfl, rfl, rfl, by decide +kernel, rfl, by decide +kernel, by decide +kernel⟩
abbrev s_Store_new : Stmt := (clsBody (topS 31)).getD 11 (.Pass ⟨0, 0, 0, 0⟩)
abbrev N_Store_new : List Str := ["self", "address"]
abbrev P_Store_new : List Str := ["self"]
theorem sc_Store_new : FnScope N_Store_new P_Store_new (defScope s_Store_new) := ⟨rfl, rfl, rfl, by decide +kernel, rfl, by decide +kernel, by decide +kernel⟩
abbrev s_Store_size : Stmt := (clsBody (topS 31)).getD 8 (.Pass ⟨0, 0, 0, 0⟩)
abbrev N_Store_size : List Str := ["self"]
abbrev P_Store_size : List Str := ["self"]
theorem sc_Store_size : FnScope N_Store_size P_Store_size (defScope s_Store_size) := ⟨rfl, rfl, rfl, by decide +kernel, rfl, by decide +kernel, by decide +kernel⟩
abbrev s_built : Stmt := topS 28
abbrev N_built : List Str := ["store", "term", "names", "waiting", "first", "at", "one", "part", "place"]
abbrev P_built : List Str := ["store", "term", "names"]
theorem sc_built : FnScope N_built P_built (defScope s_built) := ⟨rfl, rfl, rfl, by decide +kernel, rfl, by decide +kernel, by decide +kernel⟩
abbrev s_Store___init__ : Stmt := (clsBody (topS 31)).getD 0 (.Pass ⟨0, 0, 0, 0⟩)
abbrev N_Store___init__ : List Str := ["self"]
abbrev P_Store___init__ : List Str := ["self"]
theorem sc_Store___init__ : FnScope N_Store___init__ P_Store___init__ (defScope s_Store___init__) := ⟨rfl, rfl, rfl, by decide +kernel, rfl, by decide +kernel, by decide +kernel⟩
abbrev s_Store_is_there : Stmt := (clsBody (topS 31)).getD 5 (.Pass ⟨0, 0, 0, 0⟩)
abbrev N_Store_is_there : List Str := ["self", "address"]
abbrev P_Store_is_there : List Str := ["self", "address"]
theorem sc_Store_is_there : FnScope N_Store_is_there P_Store_is_there (defScope s_Store_is_there) := ⟨rfl, rfl, rfl, by decide +kernel, rfl, by decide +kernel, by decide +kernel⟩
abbrev s_Store_check_there : Stmt := (clsBody (topS 31)).getD 6 (.Pass ⟨0, 0, 0, 0⟩)
abbrev N_Store_check_there : List Str := ["self", "address"]
abbrev P_Store_check_there : List Str := ["self", "address"]
theorem sc_Store_check_there : FnScope N_Store_check_there P_Store_check_there (defScope s_Store_check_there) := ⟨rfl, rfl, rfl, by decide +kernel, rfl, by decide +kernel, by decide +kernel⟩
abbrev s_Store_heap : Stmt := (clsBody (topS 31)).getD 7 (.Pass ⟨0, 0, 0, 0⟩)
abbrev N_Store_heap : List Str := ["self"]
abbrev P_Store_heap : List Str := ["self"]
theorem sc_Store_heap : FnScope N_Store_heap P_Store_heap (defScope s_Store_heap) := ⟨rfl, rfl, rfl, by decide +kernel, rfl, by decide +kernel, by decide +kernel⟩
abbrev s_Store_at : Stmt := (clsBody (topS 31)).getD 9 (.Pass ⟨0, 0, 0, 0⟩)
abbrev N_Store_at : List Str := ["self", "address"]
abbrev P_Store_at : List Str := ["self", "address"]
theorem sc_Store_at : FnScope N_Store_at P_Store_at (defScope s_Store_at) := ⟨rfl, rfl, rfl, by decide +kernel, rfl, by decide +kernel, by decide +kernel⟩
abbrev s_Store_end : Stmt := (clsBody (topS 31)).getD 10 (.Pass ⟨0, 0, 0, 0⟩)
abbrev N_Store_end : List Str := ["self", "cell"]
abbrev P_Store_end : List Str := ["self", "cell"]
theorem sc_Store_end : FnScope N_Store_end P_Store_end (defScope s_Store_end) := ⟨rfl, rfl, rfl, by decide +kernel, rfl, by decide +kernel, by decide +kernel⟩
abbrev s_Store_fill : Stmt := (clsBody (topS 31)).getD 13 (.Pass ⟨0, 0, 0, 0⟩)
abbrev N_Store_fill : List Str := ["self", "k", "cell"]
abbrev P_Store_fill : List Str := ["self", "k", "cell"]
theorem sc_Store_fill : FnScope N_Store_fill P_Store_fill (defScope s_Store_fill) := ⟨rfl, rfl, rfl, by decide +kernel, rfl, by decide +kernel, by decide +kernel⟩
abbrev s_Store_free : Stmt := (clsBody (topS 31)).getD 14 (.Pass ⟨0, 0, 0, 0⟩)
abbrev N_Store_free : List Str := ["self", "k"]
abbrev P_Store_free : List Str := ["self", "k"]
theorem sc_Store_free : FnScope N_Store_free P_Store_free (defScope s_Store_free) := ⟨rfl, rfl, rfl, by decide +kernel, rfl, by decide +kernel, by decide +kernel⟩
abbrev s_Store_marks : Stmt := (clsBody (topS 31)).getD 15 (.Pass ⟨0, 0, 0, 0⟩)
abbrev N_Store_marks : List Str := ["self", "heap_mark", "stack_mark"]
abbrev P_Store_marks : List Str := ["self", "heap_mark", "stack_mark"]
theorem sc_Store_marks : FnScope N_Store_marks P_Store_marks (defScope s_Store_marks) := ⟨rfl, rfl, rfl, by decide +kernel, rfl, by decide +kernel, by decide +kernel⟩
abbrev s_Store_trail : Stmt := (clsBody (topS 31)).getD 16 (.Pass ⟨0, 0, 0, 0⟩)
abbrev N_Store_trail : List Str := ["self"]
abbrev P_Store_trail : List Str := ["self"]
theorem sc_Store_trail : FnScope N_Store_trail P_Store_trail (defScope s_Store_trail) := ⟨rfl, rfl, rfl, by decide +kernel, rfl, by decide +kernel, by decide +kernel⟩
abbrev s_Store_bind : Stmt := (clsBody (topS 31)).getD 17 (.Pass ⟨0, 0, 0, 0⟩)
abbrev N_Store_bind : List Str := ["self", "address", "cell"]
abbrev P_Store_bind : List Str := ["self", "address", "cell"]
theorem sc_Store_bind : FnScope N_Store_bind P_Store_bind (defScope s_Store_bind) := ⟨rfl, rfl, rfl, by decide +kernel, rfl, by decide +kernel, by decide +kernel⟩
abbrev s_Store_undo : Stmt := (clsBody (topS 31)).getD 18 (.Pass ⟨0, 0, 0, 0⟩)
abbrev N_Store_undo : List Str := ["self", "length", "size", "address"]
abbrev P_Store_undo : List Str := ["self", "length", "size"]
theorem sc_Store_undo : FnScope N_Store_undo P_Store_undo (defScope s_Store_undo) := ⟨rfl, rfl, rfl, by decide +kernel, rfl, by decide +kernel, by decide +kernel⟩
abbrev s_Store_build : Stmt := (clsBody (topS 31)).getD 19 (.Pass ⟨0, 0, 0, 0⟩)
abbrev N_Store_build : List Str := ["self", "term", "names"]
abbrev P_Store_build : List Str := ["self", "term", "names"]
theorem sc_Store_build : FnScope N_Store_build P_Store_build (defScope s_Store_build) := ⟨rfl, rfl, rfl, by decide +kernel, rfl, by decide +kernel, by decide +kernel⟩
abbrev s_Store_join : Stmt := (clsBody (topS 31)).getD 22 (.Pass ⟨0, 0, 0, 0⟩)
abbrev N_Store_join : List Str := ["self", "one", "other"]
abbrev P_Store_join : List Str := ["self", "one", "other"]
theorem sc_Store_join : FnScope N_Store_join P_Store_join (defScope s_Store_join) := ⟨rfl, rfl, rfl, by decide +kernel, rfl, by decide +kernel, by decide +kernel⟩
abbrev s__law_cell_at : Stmt := topS 33
abbrev N__law_cell_at : List Str := ["script", "k"]
abbrev P__law_cell_at : List Str := ["script", "k"]
theorem sc__law_cell_at : FnScope N__law_cell_at P__law_cell_at (defScope s__law_cell_at) := ⟨rfl, rfl, rfl, by decide +kernel, rfl, by decide +kernel, by decide +kernel⟩
abbrev s__law_well : Stmt := topS 34
abbrev N__law_well : List Str := ["cell"]
abbrev P__law_well : List Str := ["cell"]
theorem sc__law_well : FnScope N__law_well P__law_well (defScope s__law_well) := ⟨rfl, rfl, rfl, by decide +kernel, rfl, by decide +kernel, by decide +kernel⟩
abbrev s__law_draw : Stmt := topS 35
abbrev N__law_draw : List Str := ["well", "many", "found", "salt", "base", "number"]
abbrev P__law_draw : List Str := ["well", "many"]
theorem sc__law_draw : FnScope N__law_draw P__law_draw (defScope s__law_draw) := ⟨rfl, rfl, rfl, by decide +kernel, rfl, by decide +kernel, by decide +kernel⟩
abbrev s__law_one : Stmt := topS 36
abbrev N__law_one : List Str := ["well", "some"]
abbrev P__law_one : List Str := ["well", "some"]
theorem sc__law_one : FnScope N__law_one P__law_one (defScope s__law_one) := ⟨rfl, rfl, rfl, by decide +kernel, rfl, by decide +kernel, by decide +kernel⟩
abbrev s__law_term : Stmt := topS 37
abbrev N__law_term : List Str := ["well", "deep", "many", "way", "name", "count", "k"]
abbrev P__law_term : List Str := ["well", "deep", "many"]
theorem sc__law_term : FnScope N__law_term P__law_term (defScope s__law_term) := ⟨rfl, rfl, rfl, by decide +kernel, rfl, by decide +kernel, by decide +kernel⟩
abbrev s__law_slots : Stmt := topS 38
abbrev N__law_slots : List Str := ["store", "many", "k"]
abbrev P__law_slots : List Str := ["store", "many"]
theorem sc__law_slots : FnScope N__law_slots P__law_slots (defScope s__law_slots) := ⟨rfl, rfl, rfl, by decide +kernel, rfl, by decide +kernel, by decide +kernel⟩
abbrev s__law_work : Stmt := topS 39
abbrev N__law_work : List Str := ["well", "store", "names", "many", "turn", "way", "cells", "k"]
abbrev P__law_work : List Str := ["well", "store", "names", "many"]
theorem sc__law_work : FnScope N__law_work P__law_work (defScope s__law_work) := ⟨rfl, rfl, rfl, by decide +kernel, rfl, by decide +kernel, by decide +kernel⟩
abbrev s__law_unnoted_right : Stmt := topS 40
abbrev N__law_unnoted_right : List Str := ["store", "one", "other"]
abbrev P__law_unnoted_right : List Str := []
theorem sc__law_unnoted_right : FnScope N__law_unnoted_right P__law_unnoted_right (defScope s__law_unnoted_right) := ⟨rfl, rfl, rfl, by decide +kernel, rfl, by decide +kernel, by decide +kernel⟩
abbrev s_law : Stmt := topS 41
abbrev N_law : List Str := ["script", "cell", "well", "store", "names", "kept", "many", "turn", "heap", "cells", "trail"]
abbrev P_law : List Str := ["script"]
theorem sc_law : FnScope N_law P_law (defScope s_law) := ⟨rfl, rfl, rfl, by decide +kernel, rfl, by decide +kernel, by decide +kernel⟩
/-! ### the mirrors -/
section
def m_is_int (NF RD : Nat) (CA : Str → Addr) : GC := bodyM 1 (retM (andM (cbM isiD (consM (varM 0) (consM (cM (.ty "int")) nilM))) (notM (cbM isiD (consM (varM 0) (consM (cM (.ty "bool")) nilM))))))
def m_is_variable (NF RD : Nat) (CA : Str → Addr) : GC := bodyM 1 (retM (andM (cbM isiD (consM (varM 0) (consM (cM (.ty "tuple")) nilM))) (andM (opM eqD (cbM lenD (consM (varM 0) nilM)) (cM (.int 1))) (andM (callM 1 (m_is_int NF RD CA) [] (consM (opM subsD (varM 0) (cM (.int 0))) nilM)) (opM geD (opM subsD (varM 0) (cM (.int 0))) (cM (.int 0)))))))
def m_is_any_number (NF RD : Nat) (CA : Str → Addr) : GC := bodyM 1 (retM (andM (callM 1 (m_is_int NF RD CA) [] (consM (varM 0) nilM)) (opM ltD (cbM absD (consM (varM 0) nilM)) (cM k_TOO_GREAT))))
def E_is_any_atom_0 (NF RD : Nat) (CA : Str → Addr) : ME := (andM (chainM leD leD (cM (.str " ")) (varM 1) (cM (.str "~"))) (opM neD (cbM ordD (consM (varM 1) nilM)) (cM (.int 37))))
def m_is_any_atom (NF RD : Nat) (CA : Str → Addr) : GC := bodyM 2 (seqM (ifSM (torM (tnotM (truM (cbM isiD (consM (varM 0) (consM (cM (.ty "str")) nilM))))) (testM (opM gtD (cbM lenD (consM (varM 0) nilM)) (cM k_MOST_SIGNS)))) (retM (cM (.bl false))) passM) (retM (cbM allD (consM (lcM (seqI (varM 0)) (nameG 1) yesM (E_is_any_atom_0 NF RD CA) [1] NF) nilM))))
def m_is_compound (NF RD : Nat) (CA : Str → Addr) : GC := bodyM 1 (retM (andM (cbM isiD (consM (varM 0) (consM (cM (.ty "tuple")) nilM))) (opM gtD (cbM lenD (consM (varM 0) nilM)) (cM (.int 1)))))
def C_is_term_0 (NF RD : Nat) (CA : Str → Addr) : MT := (testM (opM neD (varM 1) (lstM nilM)))
def B_is_term_1 (NF RD : Nat) (CA : Str → Addr) : MS := (seqM (asgM (bmM "list" popD (varM 1) nilM) (nameG 2)) (ifSM (truM (callM 1 (m_is_compound NF RD CA) [] (consM (varM 2) nilM))) (seqM (ifSM (torM (testM (opM gtD (cbM lenD (consM (varM 2) nilM)) (opM addD (cM k_MOST_ARGUMENTS) (cM (.int 1))))) (tnotM (truM (callM 1 (m_is_any_atom NF RD CA) [] (consM (opM subsD (varM 2) (cM (.int 0))) nilM))))) (retM (cM (.bl false))) passM) (exprM (bmM "list" extendD (varM 1) (consM (slM (varM 2) (partM (cM (.int 1))) noM) nilM)))) (ifSM (tandM (tnotM (truM (callM 1 (m_is_variable NF RD CA) [] (consM (varM 2) nilM)))) (tandM (tnotM (truM (callM 1 (m_is_any_number NF RD CA) [] (consM (varM 2) nilM)))) (tnotM (truM (callM 1 (m_is_any_atom NF RD CA) [] (consM (varM 2) nilM)))))) (retM (cM (.bl false))) passM)))
def m_is_term (NF RD : Nat) (CA : Str → Addr) : GC := bodyM 3 (seqM (asgM (lstM (consM (varM 0) nilM)) (nameG 1)) (seqM (whileM (C_is_term_0 NF RD CA) (B_is_term_1 NF RD CA) NF) (retM (cM (.bl true)))))
def m_is_place (NF RD : Nat) (CA : Str → Addr) : GC := bodyM 1 (retM (andM (cbM isiD (consM (varM 0) (consM (cM (.ty "int")) nilM))) (andM (notM (cbM isiD (consM (varM 0) (consM (cM (.ty "bool")) nilM)))) (opM geD (varM 0) (cM (.int 0))))))
def m_is_address (NF RD : Nat) (CA : Str → Addr) : GC := bodyM 1 (seqM (ifSM (torM (tnotM (truM (cbM isiD (consM (varM 0) (consM (cM (.ty "tuple")) nilM))))) (torM (testM (opM neD (cbM lenD (consM (varM 0) nilM)) (cM (.int 2)))) (tnotM (truM (cbM isiD (consM (opM subsD (varM 0) (cM (.int 0))) (consM (cM (.ty "str")) nilM))))))) (retM (cM (.bl false))) passM) (retM (andM (opM (inD false) (opM subsD (varM 0) (cM (.int 0))) (tupM (consM (cM (.str "h")) (consM (cM (.str "s")) nilM)))) (callM 1 (m_is_place NF RD CA) [] (consM (opM subsD (varM 0) (cM (.int 1))) nilM)))))
def m_is_functor (NF RD : Nat) (CA : Str → Addr) : GC := bodyM 1 (retM (andM (opM eqD (cbM lenD (consM (varM 0) nilM)) (cM (.int 3))) (andM (callM 1 (m_is_any_atom NF RD CA) [] (consM (opM subsD (varM 0) (cM (.int 1))) nilM)) (andM (callM 1 (m_is_place NF RD CA) [] (consM (opM subsD (varM 0) (cM (.int 2))) nilM)) (chainM leD leD (cM (.int 1)) (opM subsD (varM 0) (cM (.int 2))) (cM (.int 8)))))))
def m_is_cell (NF RD : Nat) (CA : Str → Addr) : GC := bodyM 1 (seqM (ifSM (torM (tnotM (truM (cbM isiD (consM (varM 0) (consM (cM (.ty "tuple")) nilM))))) (torM (tnotM (truM (varM 0))) (tnotM (truM (cbM isiD (consM (opM subsD (varM 0) (cM (.int 0))) (consM (cM (.ty "str")) nilM))))))) (retM (cM (.bl false))) passM) (seqM (ifSM (testM (opM eqD (opM subsD (varM 0) (cM (.int 0))) (cM (.str "fun")))) (retM (callM 1 (m_is_functor NF RD CA) [] (consM (varM 0) nilM))) passM) (seqM (ifSM (testM (opM eqD (opM subsD (varM 0) (cM (.int 0))) (cM (.str "none")))) (retM (opM eqD (cbM lenD (consM (varM 0) nilM)) (cM (.int 1)))) passM) (seqM (ifSM (testM (opM neD (cbM lenD (consM (varM 0) nilM)) (cM (.int 2)))) (retM (cM (.bl false))) passM) (seqM (ifSM (testM (opM (inD false) (opM subsD (varM 0) (cM (.int 0))) (tupM (consM (cM (.str "ref")) (consM (cM (.str "str")) nilM))))) (retM (andM (callM 1 (m_is_address NF RD CA) [] (consM (opM subsD (varM 0) (cM (.int 1))) nilM)) (orM (opM eqD (opM subsD (varM 0) (cM (.int 0))) (cM (.str "ref"))) (opM eqD (opM subsD (opM subsD (varM 0) (cM (.int 1))) (cM (.int 0))) (cM (.str "h")))))) passM) (seqM (ifSM (testM (opM eqD (opM subsD (varM 0) (cM (.int 0))) (cM (.str "con")))) (retM (callM 1 (m_is_any_atom NF RD CA) [] (consM (opM subsD (varM 0) (cM (.int 1))) nilM))) passM) (seqM (ifSM (testM (opM eqD (opM subsD (varM 0) (cM (.int 0))) (cM (.str "int")))) (retM (callM 1 (m_is_any_number NF RD CA) [] (consM (opM subsD (varM 0) (cM (.int 1))) nilM))) passM) (retM (andM (opM eqD (opM subsD (varM 0) (cM (.int 0))) (cM (.str "level"))) (callM 1 (m_is_place NF RD CA) [] (consM (opM subsD (varM 0) (cM (.int 1))) nilM)))))))))))
def m_constant (NF RD : Nat) (CA : Str → Addr) : GC := bodyM 1 (retM (ifM (truM (cbM isiD (consM (varM 0) (consM (cM (.ty "str")) nilM)))) (tupM (consM (cM (.str "con")) (consM (varM 0) nilM))) (tupM (consM (cM (.str "int")) (consM (varM 0) nilM)))))
def m_check_cell (NF RD : Nat) (CA : Str → Addr) : GC := bodyM 1 (ifSM (tnotM (truM (callM 1 (m_is_cell NF RD CA) [] (consM (varM 0) nilM)))) neverM passM)
def m_Store_look (NF RD : Nat) (CA : Str → Addr) : GC := bodyM 2 (retM (ifM (testM (opM eqD (opM subsD (varM 1) (cM (.int 0))) (cM (.str "h")))) (opM subsD (fldM [CA "Store"] n_cells (varM 0)) (opM subsD (varM 1) (cM (.int 1)))) (opM subsD (fldM [CA "Store"] n_slots (varM 0)) (opM subsD (varM 1) (cM (.int 1))))))
def E_reaches_0 (NF RD : Nat) (CA : Str → Addr) : ME := (tupM (consM (cM (.str "ref")) (consM (tupM (consM (cM (.str "h")) (consM (opM addD (opM subsD (opM subsD (varM 6) (cM (.int 1))) (cM (.int 1))) (varM 9)) nilM))) nilM)))
def C_reaches_1 (NF RD : Nat) (CA : Str → Addr) : MT := (testM (opM eqD (opM subsD (varM 6) (cM (.int 0))) (cM (.str "ref"))))
def B_reaches_2 (NF RD : Nat) (CA : Str → Addr) : MS := (seqM (ifSM (testM (opM eqD (opM subsD (varM 6) (cM (.int 1))) (varM 1))) (retM (cM (.bl true))) passM) (seqM (asgM (methM (CA "Store") n_look 2 (m_Store_look NF RD CA) [] (varM 0) (consM (opM subsD (varM 6) (cM (.int 1))) nilM)) (nameG 7)) (seqM (ifSM (testM (opM eqD (varM 7) (varM 6))) brkM passM) (asgM (varM 7) (nameG 6)))))
def C_reaches_3 (NF RD : Nat) (CA : Str → Addr) : MT := (truM (varM 4))
def B_reaches_4 (NF RD : Nat) (CA : Str → Addr) : MS := (seqM (asgM (bmM "list" popD (varM 4) nilM) (nameG 6)) (seqM (whileM (C_reaches_1 NF RD CA) (B_reaches_2 NF RD CA) NF) (seqM (ifSM (testM (opM eqD (varM 6) (varM 3))) (retM (cM (.bl true))) passM) (ifSM (tandM (testM (opM eqD (opM subsD (varM 6) (cM (.int 0))) (cM (.str "str")))) (testM (opM (inND true) (opM subsD (varM 6) (cM (.int 1))) (varM 5)))) (seqM (setND (varM 5) (opM subsD (varM 6) (cM (.int 1))) (cM (.bl true))) (seqM (asgM (opM subsD (methM (CA "Store") n_look 2 (m_Store_look NF RD CA) [] (varM 0) (consM (opM subsD (varM 6) (cM (.int 1))) nilM)) (cM (.int 2))) (nameG 8)) (augM 4 addIL (lcM (rng2I (consM (cM (.int 1)) (consM (opM addD (varM 8) (cM (.int 1))) nilM))) (nameG 9) yesM (E_reaches_0 NF RD CA) [9] NF)))) passM))))
def m_reaches (NF RD : Nat) (CA : Str → Addr) : GC := bodyM 10 (seqM (asgM (cbM listD (consM (varM 2) nilM)) (nameG 4)) (seqM (asgM dnewNM (nameG 5)) (seqM (whileM (C_reaches_3 NF RD CA) (B_reaches_4 NF RD CA) NF) (retM (cM (.bl false))))))
def m_Store_write_at (NF RD : Nat) (CA : Str → Addr) : GC := bodyM 3 (ifSM (testM (opM eqD (opM subsD (varM 1) (cM (.int 0))) (cM (.str "h")))) (setD (fldM [CA "Store"] n_cells (varM 0)) (opM subsD (varM 1) (cM (.int 1))) (varM 2)) (setD (fldM [CA "Store"] n_slots (varM 0)) (opM subsD (varM 1) (cM (.int 1))) (varM 2)))
def m_Store_assign (NF RD : Nat) (CA : Str → Addr) : GC := bodyM 3 (seqM (ifSM (testM (opM ltD (opM subsD (varM 1) (cM (.int 1))) (opM subsD (fldM [CA "Store"] n_low (varM 0)) (cbM intD (consM (opM eqD (opM subsD (varM 1) (cM (.int 0))) (cM (.str "s"))) nilM))))) (exprM (bmM "list" appendD (fldM [CA "Store"] n_noted (varM 0)) (consM (varM 1) nilM))) passM) (exprM (methM (CA "Store") n_write_at 3 (m_Store_write_at NF RD CA) [] (varM 0) (consM (varM 1) (consM (varM 2) nilM)))))
def m_bind_or_not (NF RD : Nat) (CA : Str → Addr) : GC := bodyM 5 (seqM (ifSM (tandM (testM (opM eqD (opM subsD (varM 1) (cM (.int 0))) (cM (.str "ref")))) (testM (opM eqD (opM subsD (varM 2) (cM (.int 0))) (cM (.str "ref"))))) (seqM (exprM (methM (CA "Store") n_assign 3 (m_Store_assign NF RD CA) [] (varM 0) (consM (cbM maxPD (consM (opM subsD (varM 1) (cM (.int 1))) (consM (opM subsD (varM 2) (cM (.int 1))) nilM))) (consM (tupM (consM (cM (.str "ref")) (consM (cbM minPD (consM (opM subsD (varM 1) (cM (.int 1))) (consM (opM subsD (varM 2) (cM (.int 1))) nilM))) nilM))) nilM)))) (retM (cM (.bl true)))) passM) (seqM (asgM (ifM (testM (opM eqD (opM subsD (varM 1) (cM (.int 0))) (cM (.str "ref")))) (tupM (consM (varM 1) (consM (varM 2) nilM))) (tupM (consM (varM 2) (consM (varM 1) nilM)))) (tupG 2 (consG (nameG 3) (consG (nameG 4) nilG)))) (seqM (ifSM (tandM (testM (opM eqD (opM subsD (varM 4) (cM (.int 0))) (cM (.str "str")))) (truM (callM 4 (m_reaches NF RD CA) [.non] (consM (varM 0) (consM (opM subsD (varM 3) (cM (.int 1))) (consM (lstM (consM (varM 4) nilM)) nilM)))))) (retM (cM (.bl false))) passM) (seqM (exprM (methM (CA "Store") n_assign 3 (m_Store_assign NF RD CA) [] (varM 0) (consM (opM subsD (varM 3) (cM (.int 1))) (consM (varM 4) nilM)))) (retM (cM (.bl true)))))))
def C_Store_follow_0 (NF RD : Nat) (CA : Str → Addr) : MT := (testM (opM eqD (opM subsD (varM 1) (cM (.int 0))) (cM (.str "ref"))))
def B_Store_follow_1 (NF RD : Nat) (CA : Str → Addr) : MS := (seqM (asgM (methM (CA "Store") n_look 2 (m_Store_look NF RD CA) [] (varM 0) (consM (opM subsD (varM 1) (cM (.int 1))) nilM)) (nameG 2)) (seqM (ifSM (testM (opM eqD (varM 2) (varM 1))) (retM (varM 1)) passM) (asgM (varM 2) (nameG 1))))
def m_Store_follow (NF RD : Nat) (CA : Str → Addr) : GC := bodyM 3 (seqM (whileM (C_Store_follow_0 NF RD CA) (B_Store_follow_1 NF RD CA) NF) (retM (varM 1)))
def B_joined_0 (NF RD : Nat) (CA : Str → Addr) : MS := (exprM (bmM "list" appendD (varM 3) (consM (tupM (consM (tupM (consM (cM (.str "ref")) (consM (tupM (consM (cM (.str "h")) (consM (opM addD (varM 6) (varM 8)) nilM))) nilM))) (consM (tupM (consM (cM (.str "ref")) (consM (tupM (consM (cM (.str "h")) (consM (opM addD (varM 7) (varM 8)) nilM))) nilM))) nilM))) nilM)))
def C_joined_1 (NF RD : Nat) (CA : Str → Addr) : MT := (truM (varM 3))
def B_joined_2 (NF RD : Nat) (CA : Str → Addr) : MS := (seqM (asgM (bmM "list" popD (varM 3) nilM) (tupG 2 (consG (nameG 1) (consG (nameG 2) nilG)))) (seqM (parM 1 2 (consM (methM (CA "Store") n_follow 2 (m_Store_follow NF RD CA) [] (varM 0) (consM (varM 1) nilM)) (consM (methM (CA "Store") n_follow 2 (m_Store_follow NF RD CA) [] (varM 0) (consM (varM 2) nilM)) nilM))) (seqM (ifSM (torM (testM (opM eqD (varM 1) (varM 2))) (testM (opM (inND false) (tupM (consM (varM 1) (consM (varM 2) nilM))) (varM 4)))) cntM passM) (ifSM (torM (testM (opM eqD (opM subsD (varM 1) (cM (.int 0))) (cM (.str "ref")))) (testM (opM eqD (opM subsD (varM 2) (cM (.int 0))) (cM (.str "ref"))))) (ifSM (tnotM (truM (callM 3 (m_bind_or_not NF RD CA) [] (consM (varM 0) (consM (varM 1) (consM (varM 2) nilM)))))) (retM (cM (.bl false))) passM) (ifSM (torM (testM (opM neD (opM subsD (varM 1) (cM (.int 0))) (cM (.str "str")))) (torM (testM (opM neD (opM subsD (varM 2) (cM (.int 0))) (cM (.str "str")))) (testM (opM neD (methM (CA "Store") n_look 2 (m_Store_look NF RD CA) [] (varM 0) (consM (opM subsD (varM 1) (cM (.int 1))) nilM)) (methM (CA "Store") n_look 2 (m_Store_look NF RD CA) [] (varM 0) (consM (opM subsD (varM 2) (cM (.int 1))) nilM)))))) (retM (cM (.bl false))) (seqM (setND (varM 4) (tupM (consM (varM 1) (consM (varM 2) nilM))) (cM (.bl true))) (seqM (asgM (opM subsD (methM (CA "Store") n_look 2 (m_Store_look NF RD CA) [] (varM 0) (consM (opM subsD (varM 1) (cM (.int 1))) nilM)) (cM (.int 2))) (nameG 5)) (seqM (parM 6 7 (consM (opM subsD (opM subsD (varM 1) (cM (.int 1))) (cM (.int 1))) (consM (opM subsD (opM subsD (varM 2) (cM (.int 1))) (cM (.int 1))) nilM))) (forSM (rng3I (consM (varM 5) (consM (cM (.int 0)) (consM (negM (cM (.int 1))) nilM)))) (nameG 8) (B_joined_0 NF RD CA) NF)))))))))
def m_joined (NF RD : Nat) (CA : Str → Addr) : GC := bodyM 9 (seqM (asgM (lstM (consM (tupM (consM (varM 1) (consM (varM 2) nilM))) nilM)) (nameG 3)) (seqM (asgM dnewNM (nameG 4)) (seqM (whileM (C_joined_1 NF RD CA) (B_joined_2 NF RD CA) NF) (retM (cM (.bl true))))))
def m_simple (NF RD : Nat) (CA : Str → Addr) : GC := bodyM 3 (seqM (ifSM (tnotM (truM (cbM isiD (consM (varM 0) (consM (cM (.ty "tuple")) nilM))))) (retM (callM 1 (m_constant NF RD CA) [] (consM (varM 0) nilM))) passM) (retM (bmM "dict" setdD (varM 1) (consM (opM subsD (varM 0) (cM (.int 0))) (consM (varM 2) nilM)))))
def m_Store_new (NF RD : Nat) (CA : Str → Addr) : GC := bodyM 2 (seqM (asgM (tupM (consM (cM (.str "h")) (consM (cbM lenD (consM (fldM [CA "Store"] n_cells (varM 0)) nilM)) nilM))) (nameG 1)) (seqM (exprM (bmM "list" appendD (fldM [CA "Store"] n_cells (varM 0)) (consM (tupM (consM (cM (.str "ref")) (consM (varM 1) nilM))) nilM))) (retM (varM 1))))
def m_Store_size (NF RD : Nat) (CA : Str → Addr) : GC := bodyM 1 (retM (cbM lenD (consM (fldM [CA "Store"] n_cells (varM 0)) nilM)))
def B_built_0 (NF RD : Nat) (CA : Str → Addr) : MS := (seqM (asgM (methM (CA "Store") n_size 1 (m_Store_size NF RD CA) [] (varM 0) nilM) (nameG 8)) (ifSM (tandM (truM (cbM isiD (consM (varM 7) (consM (cM (.ty "tuple")) nilM)))) (testM (opM gtD (cbM lenD (consM (varM 7) nilM)) (cM (.int 1))))) (seqM (exprM (bmM "list" appendD (varM 3) (consM (tupM (consM (varM 8) (consM (varM 7) nilM))) nilM))) (exprM (bmM "list" appendD (fldM [CA "Store"] n_cells (varM 0)) (consM (tupM (consM (cM (.str "none")) nilM)) nilM)))) (exprM (bmM "list" appendD (fldM [CA "Store"] n_cells (varM 0)) (consM (callM 3 (m_simple NF RD CA) [] (consM (varM 7) (consM (varM 2) (consM (tupM (consM (cM (.str "ref")) (consM (tupM (consM (cM (.str "h")) (consM (varM 8) nilM))) nilM))) nilM)))) nilM)))))
def C_built_1 (NF RD : Nat) (CA : Str → Addr) : MT := (truM (varM 3))
def B_built_2 (NF RD : Nat) (CA : Str → Addr) : MS := (seqM (asgM (bmM "list" pop0D (varM 3) (consM (cM (.int 0)) nilM)) (tupG 2 (consG (nameG 5) (consG (nameG 6) nilG)))) (seqM (ifSM (testM (opM isntD (varM 5) (cM .non))) (setD (fldM [CA "Store"] n_cells (varM 0)) (varM 5) (tupM (consM (cM (.str "str")) (consM (tupM (consM (cM (.str "h")) (consM (methM (CA "Store") n_size 1 (m_Store_size NF RD CA) [] (varM 0) nilM) nilM))) nilM)))) passM) (seqM (exprM (bmM "list" appendD (fldM [CA "Store"] n_cells (varM 0)) (consM (tupM (consM (cM (.str "fun")) (consM (opM subsD (varM 6) (cM (.int 0))) (consM (opM subD (cbM lenD (consM (varM 6) nilM)) (cM (.int 1))) nilM)))) nilM))) (forSM (seqI (slM (varM 6) (partM (cM (.int 1))) noM)) (nameG 7) (B_built_0 NF RD CA) NF))))
def m_built (NF RD : Nat) (CA : Str → Addr) : GC := bodyM 9 (seqM (ifSM (tandM (truM (cbM isiD (consM (varM 1) (consM (cM (.ty "tuple")) nilM)))) (testM (opM gtD (cbM lenD (consM (varM 1) nilM)) (cM (.int 1))))) (seqM (asgM (lstM (consM (tupM (consM (cM .non) (consM (varM 1) nilM))) nilM)) (nameG 3)) (seqM (asgM (tupM (consM (cM (.str "str")) (consM (tupM (consM (cM (.str "h")) (consM (methM (CA "Store") n_size 1 (m_Store_size NF RD CA) [] (varM 0) nilM) nilM))) nilM))) (nameG 4)) (seqM (whileM (C_built_1 NF RD CA) (B_built_2 NF RD CA) NF) (retM (varM 4))))) passM) (seqM (ifSM (tandM (truM (cbM isiD (consM (varM 1) (consM (cM (.ty "tuple")) nilM)))) (testM (opM (inKD true) (opM subsD (varM 1) (cM (.int 0))) (varM 2)))) (setD (varM 2) (opM subsD (varM 1) (cM (.int 0))) (tupM (consM (cM (.str "ref")) (consM (methM (CA "Store") n_new 1 (m_Store_new NF RD CA) [] (varM 0) nilM) nilM)))) passM) (retM (callM 3 (m_simple NF RD CA) [] (consM (varM 1) (consM (varM 2) (consM (tupM (consM (cM (.str "none")) nilM)) nilM)))))))
def m_Store___init__ (NF RD : Nat) (CA : Str → Addr) : GC := bodyM 1 (seqM (setFldM [CA "Store"] n_cells (varM 0) (lstM nilM)) (seqM (setFldM [CA "Store"] n_slots (varM 0) dnewM) (seqM (setFldM [CA "Store"] n_noted (varM 0) (lstM nilM)) (setFldM [CA "Store"] n_low (varM 0) (tupM (consM (cM (.int 0)) (consM (cM (.int 0)) nilM)))))))
def m_Store_is_there (NF RD : Nat) (CA : Str → Addr) : GC := bodyM 2 (seqM (ifSM (tnotM (truM (callM 1 (m_is_address NF RD CA) [] (consM (varM 1) nilM)))) (retM (cM (.bl false))) passM) (retM (ifM (testM (opM eqD (opM subsD (varM 1) (cM (.int 0))) (cM (.str "h")))) (opM ltD (opM subsD (varM 1) (cM (.int 1))) (cbM lenD (consM (fldM [CA "Store"] n_cells (varM 0)) nilM))) (opM (inKD false) (opM subsD (varM 1) (cM (.int 1))) (fldM [CA "Store"] n_slots (varM 0))))))
def m_Store_check_there (NF RD : Nat) (CA : Str → Addr) : GC := bodyM 2 (ifSM (tnotM (truM (methM (CA "Store") n_is_there 2 (m_Store_is_there NF RD CA) [] (varM 0) (consM (varM 1) nilM)))) neverM passM)
def m_Store_heap (NF RD : Nat) (CA : Str → Addr) : GC := bodyM 1 (retM (cbM listD (consM (fldM [CA "Store"] n_cells (varM 0)) nilM)))
def m_Store_at (NF RD : Nat) (CA : Str → Addr) : GC := bodyM 2 (seqM (exprM (methM (CA "Store") n_check_there 2 (m_Store_check_there NF RD CA) [] (varM 0) (consM (varM 1) nilM))) (retM (methM (CA "Store") n_look 2 (m_Store_look NF RD CA) [] (varM 0) (consM (varM 1) nilM))))
def m_Store_end (NF RD : Nat) (CA : Str → Addr) : GC := bodyM 2 (seqM (exprM (callM 1 (m_check_cell NF RD CA) [] (consM (varM 1) nilM))) (retM (methM (CA "Store") n_follow 2 (m_Store_follow NF RD CA) [] (varM 0) (consM (varM 1) nilM))))
def m_Store_fill (NF RD : Nat) (CA : Str → Addr) : GC := bodyM 3 (seqM (ifSM (tnotM (truM (callM 1 (m_is_place NF RD CA) [] (consM (varM 1) nilM)))) neverM passM) (seqM (exprM (callM 1 (m_check_cell NF RD CA) [] (consM (varM 2) nilM))) (setD (fldM [CA "Store"] n_slots (varM 0)) (varM 1) (varM 2))))
def m_Store_free (NF RD : Nat) (CA : Str → Addr) : GC := bodyM 2 (seqM (ifSM (tnotM (truM (callM 1 (m_is_place NF RD CA) [] (consM (varM 1) nilM)))) neverM passM) (setD (fldM [CA "Store"] n_slots (varM 0)) (varM 1) (tupM (consM (cM (.str "ref")) (consM (tupM (consM (cM (.str "s")) (consM (varM 1) nilM))) nilM)))))
def m_Store_marks (NF RD : Nat) (CA : Str → Addr) : GC := bodyM 3 (seqM (ifSM (torM (tnotM (truM (callM 1 (m_is_place NF RD CA) [] (consM (varM 1) nilM)))) (tnotM (truM (callM 1 (m_is_place NF RD CA) [] (consM (varM 2) nilM))))) neverM passM) (setFldM [CA "Store"] n_low (varM 0) (tupM (consM (varM 1) (consM (varM 2) nilM)))))
def m_Store_trail (NF RD : Nat) (CA : Str → Addr) : GC := bodyM 1 (retM (cbM listD (consM (fldM [CA "Store"] n_noted (varM 0)) nilM)))
def m_Store_bind (NF RD : Nat) (CA : Str → Addr) : GC := bodyM 3 (seqM (exprM (methM (CA "Store") n_check_there 2 (m_Store_check_there NF RD CA) [] (varM 0) (consM (varM 1) nilM))) (seqM (ifSM (testM (opM neD (methM (CA "Store") n_look 2 (m_Store_look NF RD CA) [] (varM 0) (consM (varM 1) nilM)) (tupM (consM (cM (.str "ref")) (consM (varM 1) nilM))))) neverM passM) (seqM (exprM (callM 1 (m_check_cell NF RD CA) [] (consM (varM 2) nilM))) (exprM (methM (CA "Store") n_assign 3 (m_Store_assign NF RD CA) [] (varM 0) (consM (varM 1) (consM (varM 2) nilM)))))))
def C_Store_undo_0 (NF RD : Nat) (CA : Str → Addr) : MT := (testM (opM gtD (cbM lenD (consM (fldM [CA "Store"] n_noted (varM 0)) nilM)) (varM 1)))
def B_Store_undo_1 (NF RD : Nat) (CA : Str → Addr) : MS := (seqM (asgM (bmM "list" popD (fldM [CA "Store"] n_noted (varM 0)) nilM) (nameG 3)) (exprM (methM (CA "Store") n_write_at 3 (m_Store_write_at NF RD CA) [] (varM 0) (consM (varM 3) (consM (tupM (consM (cM (.str "ref")) (consM (varM 3) nilM))) nilM)))))
def m_Store_undo (NF RD : Nat) (CA : Str → Addr) : GC := bodyM 4 (seqM (ifSM (torM (tnotM (truM (callM 1 (m_is_place NF RD CA) [] (consM (varM 1) nilM)))) (testM (opM gtD (varM 1) (cbM lenD (consM (fldM [CA "Store"] n_noted (varM 0)) nilM))))) neverM passM) (seqM (ifSM (torM (tnotM (truM (callM 1 (m_is_place NF RD CA) [] (consM (varM 2) nilM)))) (testM (opM gtD (varM 2) (cbM lenD (consM (fldM [CA "Store"] n_cells (varM 0)) nilM))))) neverM passM) (seqM (whileM (C_Store_undo_0 NF RD CA) (B_Store_undo_1 NF RD CA) NF) (delSM (fldM [CA "Store"] n_cells (varM 0)) (varM 2)))))
def m_Store_build (NF RD : Nat) (CA : Str → Addr) : GC := bodyM 3 (seqM (ifSM (tnotM (truM (callM 1 (m_is_term NF RD CA) [] (consM (varM 1) nilM)))) neverM passM) (seqM (ifSM (tnotM (truM (cbM isiD (consM (varM 2) (consM (cM (.ty "dict")) nilM))))) neverM passM) (retM (callM 3 (m_built NF RD CA) [] (consM (varM 0) (consM (varM 1) (consM (varM 2) nilM)))))))
def m_Store_join (NF RD : Nat) (CA : Str → Addr) : GC := bodyM 3 (seqM (exprM (callM 1 (m_check_cell NF RD CA) [] (consM (varM 1) nilM))) (seqM (exprM (callM 1 (m_check_cell NF RD CA) [] (consM (varM 2) nilM))) (retM (callM 3 (m_joined NF RD CA) [] (consM (varM 0) (consM (varM 1) (consM (varM 2) nilM)))))))
def m__law_cell_at (NF RD : Nat) (CA : Str → Addr) : GC := bodyM 2 (seqM (ifSM (testM (opM ltD (varM 1) (cbM lenD (consM (varM 0) nilM)))) (retM (opM subsD (varM 0) (varM 1))) passM) (retM (cM (.int 0))))
def m__law_well (NF RD : Nat) (CA : Str → Addr) : GC := bodyM 1 (retM (lstM (consM (opM subsD (lstM (consM (cM (.int 0)) (consM (varM 0) nilM))) (cbM intD (consM (opM geD (varM 0) (opM powD (cM (.int 10)) (cM (.int 18)))) nilM))) (consM (varM 0) (consM (cM (.int 0)) nilM)))))
def m__law_draw (NF RD : Nat) (CA : Str → Addr) : GC := bodyM 6 (seqM (ifSM (testM (opM gtD (opM subsD (varM 0) (cM (.int 0))) (cM (.int 0)))) (seqM (asgM (opM modZD (cbM intD (consM (opM subsD (varM 0) (cM (.int 0))) nilM)) (varM 1)) (nameG 2)) (seqM (setD (varM 0) (cM (.int 0)) (opM fdivZD (opM subsD (varM 0) (cM (.int 0))) (varM 1))) (retM (varM 2)))) passM) (seqM (setD (varM 0) (cM (.int 2)) (opM addD (opM subsD (varM 0) (cM (.int 2))) (cM (.int 1)))) (seqM (asgM (opM modD (cbM intD (consM (opM fdivD (opM subsD (varM 0) (cM (.int 1))) (cM (.int 2147483629))) nilM)) (cM (.int 65521))) (nameG 3)) (seqM (asgM (opM addD (opM addD (opM addD (opM modD (cbM intD (consM (opM subsD (varM 0) (cM (.int 1))) nilM)) (cM (.int 2147483629))) (opM mulD (cM (.int 7919)) (opM subsD (varM 0) (cM (.int 2))))) (varM 3)) (cM (.int 1))) (nameG 4)) (seqM (asgM (opM modD (cbM intD (consM (opM powD (varM 4) (cM (.int 5))) nilM)) (cM (.int 2147483647))) (nameG 5)) (seqM (asgM (opM modD (cbM intD (consM (opM mulD (varM 5) (opM addD (opM addD (opM fdivD (varM 5) (cM (.int 1009))) (cM (.int 69621))) (opM subsD (varM 0) (cM (.int 2))))) nilM)) (cM (.int 2147483629))) (nameG 5)) (retM (opM modZD (cbM intD (consM (opM modD (cbM intD (consM (opM mulD (varM 5) (opM addD (opM fdivD (varM 5) (cM (.int 2003))) (cM (.int 40692)))) nilM)) (cM (.int 2147483399))) nilM)) (varM 1)))))))))
def m__law_one (NF RD : Nat) (CA : Str → Addr) : GC := bodyM 2 (retM (opM subsD (varM 1) (callM 2 (m__law_draw NF RD CA) [] (consM (varM 0) (consM (cbM lenD (consM (varM 1) nilM)) nilM)))))
def E__law_term_0 (NF RD : Nat) (CA : Str → Addr) (rec : GC) : ME := (callM 3 rec [] (consM (varM 0) (consM (opM subD (varM 1) (cM (.int 1))) (consM (varM 2) nilM))))
def E__law_term_1 (NF RD : Nat) (CA : Str → Addr) (rec : GC) : ME := (callM 3 rec [] (consM (varM 0) (consM (cM (.int 1)) (consM (varM 2) nilM))))
def m__law_term (NF RD : Nat) (CA : Str → Addr) : Nat → GC
  | 0 => fun _ _ => none
  | k + 1 => bodyM 7 (seqM (asgM (callM 2 (m__law_draw NF RD CA) [] (consM (varM 0) (consM (cM (.int 6)) nilM))) (nameG 3)) (seqM (ifSM (tandM (testM (opM ltD (varM 3) (cM (.int 2)))) (testM (opM gtD (varM 2) (cM (.int 0))))) (retM (tupM (consM (callM 2 (m__law_draw NF RD CA) [] (consM (varM 0) (consM (varM 2) nilM))) nilM))) passM) (seqM (ifSM (torM (testM (opM eqD (varM 3) (cM (.int 2)))) (tandM (testM (opM leD (varM 1) (cM (.int 1)))) (testM (opM eqD (varM 3) (cM (.int 3)))))) (retM (callM 2 (m__law_one NF RD CA) [] (consM (varM 0) (consM (lstM (consM (cM (.int 0)) (consM (cM (.int 1)) (consM (negM (cM (.int 1))) (consM (opM powD (cM (.int 10)) (cM (.int 20))) nilM))))) nilM)))) passM) (seqM (ifSM (torM (testM (opM leD (varM 1) (cM (.int 1)))) (testM (opM eqD (varM 3) (cM (.int 3))))) (retM (callM 2 (m__law_one NF RD CA) [] (consM (varM 0) (consM (lstM (consM (cM (.str "a")) (consM (cM (.str "b")) (consM (cM (.str "[]")) (consM (cM (.str "")) nilM))))) nilM)))) passM) (seqM (asgM (callM 2 (m__law_one NF RD CA) [] (consM (varM 0) (consM (lstM (consM (tupM (consM (cM (.str "f")) (consM (cM (.int 1)) nilM))) (consM (tupM (consM (cM (.str "g")) (consM (cM (.int 2)) nilM))) (consM (tupM (consM (cM (.str "g")) (consM (cM (.int 2)) nilM))) (consM (tupM (consM (cM (.str ".")) (consM (cM (.int 2)) nilM))) (consM (tupM (consM (cM (.str "f")) (consM (cM (.int 3)) nilM))) (consM (tupM (consM (cM (.str "f")) (consM (cM (.int 3)) nilM))) nilM))))))) nilM))) (uplG 2 (consG (nameG 4) (consG (nameG 5) nilG)))) (seqM (ifSM (tandM (testM (opM eqD (varM 1) (cM (.int 4)))) (testM (opM eqD (callM 2 (m__law_draw NF RD CA) [] (consM (varM 0) (consM (cM (.int 3)) nilM))) (cM (.int 0))))) (retM (opM addD (tupM (consM (cM (.str "h")) nilM)) (cbM tuplD (consM (lcM (rngI (consM (opM addD (cM (.int 4)) (callM 2 (m__law_draw NF RD CA) [] (consM (varM 0) (consM (cM (.int 5)) nilM)))) nilM)) (nameG 6) yesM (E__law_term_1 NF RD CA (m__law_term NF RD CA k)) [6] NF) nilM)))) passM) (retM (opM addD (tupM (consM (varM 4) nilM)) (cbM tuplD (consM (lcM (rngI (consM (varM 5) nilM)) (nameG 6) yesM (E__law_term_0 NF RD CA (m__law_term NF RD CA k)) [6] NF) nilM))))))))))
def E__law_slots_0 (NF RD : Nat) (CA : Str → Addr) : ME := (methM (CA "Store") n_at 2 (m_Store_at NF RD CA) [] (varM 0) (consM (tupM (consM (cM (.str "s")) (consM (varM 2) nilM))) nilM))
def m__law_slots (NF RD : Nat) (CA : Str → Addr) : GC := bodyM 3 (retM (lcM (rngI (consM (varM 1) nilM)) (nameG 2) yesM (E__law_slots_0 NF RD CA) [2] NF))
def E__law_work_0 (NF RD : Nat) (CA : Str → Addr) : ME := (methM (CA "Store") n_build 3 (m_Store_build NF RD CA) [] (varM 1) (consM (callM 3 (m__law_term NF RD CA RD) [] (consM (varM 0) (consM (cM (.int 3)) (consM (cbM lenD (consM (varM 2) nilM)) nilM)))) (consM (varM 2) nilM)))
def B__law_work_1 (NF RD : Nat) (CA : Str → Addr) : MS := (seqM (asgM (callM 2 (m__law_draw NF RD CA) [] (consM (varM 0) (consM (cM (.int 4)) nilM))) (nameG 5)) (ifSM (testM (opM eqD (varM 5) (cM (.int 0)))) (seqM (exprM (methM (CA "Store") n_free 2 (m_Store_free NF RD CA) [] (varM 1) (consM (varM 3) nilM))) (asgM (opM addD (varM 3) (cM (.int 1))) (nameG 3))) (ifSM (testM (opM eqD (varM 5) (cM (.int 1)))) (setD (varM 2) (cbM lenD (consM (varM 2) nilM)) (tupM (consM (cM (.str "ref")) (consM (methM (CA "Store") n_new 1 (m_Store_new NF RD CA) [] (varM 1) nilM) nilM)))) (seqM (asgM (lcM (rngI (consM (cM (.int 2)) nilM)) (nameG 7) yesM (E__law_work_0 NF RD CA) [7] NF) (nameG 6)) (seqM (ifSM (tandM (testM (opM gtD (varM 3) (cM (.int 0)))) (testM (opM eqD (varM 5) (cM (.int 2))))) (setD (varM 6) (cM (.int 1)) (tupM (consM (cM (.str "ref")) (consM (tupM (consM (cM (.str "s")) (consM (callM 2 (m__law_draw NF RD CA) [] (consM (varM 0) (consM (varM 3) nilM))) nilM))) nilM)))) passM) (exprM (methM (CA "Store") n_join 3 (m_Store_join NF RD CA) [] (varM 1) (consM (opM subsD (varM 6) (cM (.int 0))) (consM (opM subsD (varM 6) (cM (.int 1))) nilM)))))))))
def m__law_work (NF RD : Nat) (CA : Str → Addr) : GC := bodyM 8 (seqM (forSM (rngI (consM (opM addD (cM (.int 1)) (callM 2 (m__law_draw NF RD CA) [] (consM (varM 0) (consM (cM (.int 5)) nilM)))) nilM)) (nameG 4) (B__law_work_1 NF RD CA) NF) (retM (varM 3)))
def m__law_unnoted_right (NF RD : Nat) (CA : Str → Addr) : GC := bodyM 3 (seqM (asgM (makeM (CA "Store") 1 (m_Store___init__ NF RD CA) [] nilM) (nameG 0)) (seqM (parM 1 2 (consM (methM (CA "Store") n_new 1 (m_Store_new NF RD CA) [] (varM 0) nilM) (consM (methM (CA "Store") n_new 1 (m_Store_new NF RD CA) [] (varM 0) nilM) nilM))) (seqM (exprM (methM (CA "Store") n_marks 3 (m_Store_marks NF RD CA) [] (varM 0) (consM (cM (.int 9)) (consM (cM (.int 9)) nilM)))) (seqM (exprM (methM (CA "Store") n_free 2 (m_Store_free NF RD CA) [] (varM 0) (consM (cM (.int 3)) nilM))) (seqM (exprM (methM (CA "Store") n_fill 3 (m_Store_fill NF RD CA) [] (varM 0) (consM (cM (.int 3)) (consM (tupM (consM (cM (.str "con")) (consM (cM (.str "a")) nilM))) nilM)))) (seqM (exprM (methM (CA "Store") n_free 2 (m_Store_free NF RD CA) [] (varM 0) (consM (cM (.int 3)) nilM))) (seqM (ifSM (testM (opM neD (methM (CA "Store") n_trail 1 (m_Store_trail NF RD CA) [] (varM 0) nilM) (lstM nilM))) (retM (cM (.bl false))) passM) (seqM (exprM (methM (CA "Store") n_bind 3 (m_Store_bind NF RD CA) [] (varM 0) (consM (tupM (consM (cM (.str "s")) (consM (cM (.int 3)) nilM))) (consM (tupM (consM (cM (.str "ref")) (consM (varM 1) nilM))) nilM)))) (seqM (exprM (methM (CA "Store") n_bind 3 (m_Store_bind NF RD CA) [] (varM 0) (consM (varM 1) (consM (tupM (consM (cM (.str "con")) (consM (cM (.str "b")) nilM))) nilM)))) (seqM (ifSM (testM (opM neD (methM (CA "Store") n_trail 1 (m_Store_trail NF RD CA) [] (varM 0) nilM) (lstM (consM (tupM (consM (cM (.str "s")) (consM (cM (.int 3)) nilM))) (consM (varM 1) nilM))))) (retM (cM (.bl false))) passM) (seqM (exprM (methM (CA "Store") n_undo 3 (m_Store_undo NF RD CA) [] (varM 0) (consM (cM (.int 2)) (consM (cM (.int 1)) nilM)))) (seqM (ifSM (torM (testM (opM neD (methM (CA "Store") n_heap 1 (m_Store_heap NF RD CA) [] (varM 0) nilM) (lstM (consM (tupM (consM (cM (.str "con")) (consM (cM (.str "b")) nilM))) nilM)))) (testM (opM neD (methM (CA "Store") n_trail 1 (m_Store_trail NF RD CA) [] (varM 0) nilM) (lstM (consM (tupM (consM (cM (.str "s")) (consM (cM (.int 3)) nilM))) (consM (varM 1) nilM)))))) (retM (cM (.bl false))) passM) (seqM (exprM (methM (CA "Store") n_undo 3 (m_Store_undo NF RD CA) [] (varM 0) (consM (cM (.int 1)) (consM (cM (.int 1)) nilM)))) (seqM (ifSM (torM (testM (opM neD (methM (CA "Store") n_heap 1 (m_Store_heap NF RD CA) [] (varM 0) nilM) (lstM (consM (tupM (consM (cM (.str "ref")) (consM (varM 1) nilM))) nilM)))) (torM (testM (opM neD (methM (CA "Store") n_trail 1 (m_Store_trail NF RD CA) [] (varM 0) nilM) (lstM (consM (tupM (consM (cM (.str "s")) (consM (cM (.int 3)) nilM))) nilM)))) (testM (opM neD (methM (CA "Store") n_at 2 (m_Store_at NF RD CA) [] (varM 0) (consM (tupM (consM (cM (.str "s")) (consM (cM (.int 3)) nilM))) nilM)) (tupM (consM (cM (.str "ref")) (consM (varM 1) nilM))))))) (retM (cM (.bl false))) passM) (seqM (exprM (bmM "list" appendD (methM (CA "Store") n_heap 1 (m_Store_heap NF RD CA) [] (varM 0) nilM) (consM (tupM (consM (cM (.str "con")) (consM (cM (.str "x")) nilM))) nilM))) (seqM (exprM (bmM "list" appendD (methM (CA "Store") n_trail 1 (m_Store_trail NF RD CA) [] (varM 0) nilM) (consM (varM 1) nilM))) (seqM (ifSM (torM (testM (opM neD (methM (CA "Store") n_heap 1 (m_Store_heap NF RD CA) [] (varM 0) nilM) (lstM (consM (tupM (consM (cM (.str "ref")) (consM (varM 1) nilM))) nilM)))) (testM (opM neD (methM (CA "Store") n_trail 1 (m_Store_trail NF RD CA) [] (varM 0) nilM) (lstM (consM (tupM (consM (cM (.str "s")) (consM (cM (.int 3)) nilM))) nilM))))) (retM (cM (.bl false))) passM) (seqM (exprM (methM (CA "Store") n_bind 3 (m_Store_bind NF RD CA) [] (varM 0) (consM (varM 1) (consM (tupM (consM (cM (.str "int")) (consM (cM (.int 5)) nilM))) nilM)))) (seqM (exprM (methM (CA "Store") n_undo 3 (m_Store_undo NF RD CA) [] (varM 0) (consM (cM (.int 0)) (consM (cM (.int 0)) nilM)))) (retM (andM (opM eqD (methM (CA "Store") n_heap 1 (m_Store_heap NF RD CA) [] (varM 0) nilM) (lstM nilM)) (andM (opM eqD (methM (CA "Store") n_trail 1 (m_Store_trail NF RD CA) [] (varM 0) nilM) (lstM nilM)) (opM eqD (methM (CA "Store") n_at 2 (m_Store_at NF RD CA) [] (varM 0) (consM (tupM (consM (cM (.str "s")) (consM (cM (.int 3)) nilM))) nilM)) (tupM (consM (cM (.str "ref")) (consM (tupM (consM (cM (.str "s")) (consM (cM (.int 3)) nilM))) nilM))))))))))))))))))))))))))
def B_law_0 (NF RD : Nat) (CA : Str → Addr) : MS := (seqM (asgM (opM subsD (varM 5) (opM subD (cM (.int 2)) (varM 7))) (tupG 3 (consG (nameG 8) (consG (nameG 9) (consG (nameG 10) nilG))))) (seqM (exprM (methM (CA "Store") n_undo 3 (m_Store_undo NF RD CA) [] (varM 3) (consM (cbM lenD (consM (varM 10) nilM)) (consM (cbM lenD (consM (varM 8) nilM)) nilM)))) (seqM (ifSM (torM (testM (opM neD (methM (CA "Store") n_heap 1 (m_Store_heap NF RD CA) [] (varM 3) nilM) (varM 8))) (torM (testM (opM neD (callM 2 (m__law_slots NF RD CA) [] (consM (varM 3) (consM (cbM lenD (consM (varM 9) nilM)) nilM))) (varM 9))) (testM (opM neD (methM (CA "Store") n_trail 1 (m_Store_trail NF RD CA) [] (varM 3) nilM) (varM 10))))) (retM (cM (.bl false))) passM) (seqM (ifSM (torM (testM (opM neD (methM (CA "Store") n_size 1 (m_Store_size NF RD CA) [] (varM 3) nilM) (cbM lenD (consM (varM 8) nilM)))) (testM (opM neD (methM (CA "Store") n_new 1 (m_Store_new NF RD CA) [] (varM 3) nilM) (tupM (consM (cM (.str "h")) (consM (cbM lenD (consM (varM 8) nilM)) nilM)))))) (retM (cM (.bl false))) passM) (seqM (exprM (methM (CA "Store") n_undo 3 (m_Store_undo NF RD CA) [] (varM 3) (consM (cbM lenD (consM (varM 10) nilM)) (consM (cbM lenD (consM (varM 8) nilM)) nilM)))) (ifSM (testM (opM ltD (varM 7) (cM (.int 2)))) (exprM (methM (CA "Store") n_marks 3 (m_Store_marks NF RD CA) [] (varM 3) (consM (cbM lenD (consM (opM subsD (opM subsD (varM 5) (opM subD (cM (.int 1)) (varM 7))) (cM (.int 0))) nilM)) (consM (cbM lenD (consM (opM subsD (opM subsD (varM 5) (opM subD (cM (.int 1)) (varM 7))) (cM (.int 1))) nilM)) nilM)))) passM))))))
def B_law_1 (NF RD : Nat) (CA : Str → Addr) : MS := (seqM (asgM (callM 4 (m__law_work NF RD CA) [] (consM (varM 2) (consM (varM 3) (consM (varM 4) (consM (varM 6) nilM))))) (nameG 6)) (seqM (exprM (bmM "list" appendD (varM 5) (consM (tupM (consM (methM (CA "Store") n_heap 1 (m_Store_heap NF RD CA) [] (varM 3) nilM) (consM (callM 2 (m__law_slots NF RD CA) [] (consM (varM 3) (consM (varM 6) nilM))) (consM (methM (CA "Store") n_trail 1 (m_Store_trail NF RD CA) [] (varM 3) nilM) nilM)))) nilM))) (exprM (methM (CA "Store") n_marks 3 (m_Store_marks NF RD CA) [] (varM 3) (consM (methM (CA "Store") n_size 1 (m_Store_size NF RD CA) [] (varM 3) nilM) (consM (varM 6) nilM))))))
def B_law_2 (NF RD : Nat) (CA : Str → Addr) : MS := (seqM (asgM (callM 1 (m__law_well NF RD CA) [] (consM (varM 1) nilM)) (nameG 2)) (seqM (asgM (tupM (consM (makeM (CA "Store") 1 (m_Store___init__ NF RD CA) [] nilM) (consM dnewM (consM (lstM nilM) (consM (cM (.int 0)) nilM))))) (tupG 4 (consG (nameG 3) (consG (nameG 4) (consG (nameG 5) (consG (nameG 6) nilG)))))) (seqM (forSM (rngI (consM (cM (.int 3)) nilM)) (nameG 7) (B_law_1 NF RD CA) NF) (seqM (asgM (callM 4 (m__law_work NF RD CA) [] (consM (varM 2) (consM (varM 3) (consM (varM 4) (consM (varM 6) nilM))))) (nameG 6)) (forSM (rngI (consM (cM (.int 3)) nilM)) (nameG 7) (B_law_0 NF RD CA) NF)))))
def m_law (NF RD : Nat) (CA : Str → Addr) : GC := bodyM 11 (seqM (ifSM (tnotM (truM (callM 0 (m__law_unnoted_right NF RD CA) [] nilM))) (retM (cM (.bl false))) passM) (seqM (forSM (seqI (opM addD (lstM (consM (callM 2 (m__law_cell_at NF RD CA) [] (consM (varM 0) (consM (cM (.int 0)) nilM))) nilM)) (slM (varM 0) (partM (cM (.int 1))) (partM (cM (.int 4)))))) (nameG 1) (B_law_2 NF RD CA) NF) (retM (cM (.bl true)))))
end
/-! ### each def keeps its mirror -/
section
variable {P : Program} {w : World} {K : PySem.W.Frag} {mg : Str → Option Value} {base : Heap} (NF RD : Nat) (CA : Str → Addr)
theorem c_is_int {L : Nat} (g : Got K mg "is_int" s_is_int P_is_int) (z : Zs mg) (y : Ys ⟨K, w⟩ mg) (q : Qs K mg) (kk : Ks K CA) : CalM P w K mg base (L + 1) "is_int" 1 (m_is_int NF RD CA) noGX [] := by
  have nd := sc_is_int.nd
  refine Got.cal (ps := P_is_int) (N := N_is_int) (ms := (retM (andM (cbM isiD (consM (varM 0) (consM (cM (.ty "int")) nilM))) (notM (cbM isiD (consM (varM 0) (consM (cM (.ty "bool")) nilM))))))) (xs := noX) g sc_is_int fun f cdv A outer s H E hr => ?_
  exact ⟨_, (dssx_one (DS.x (ds_ret (de_and (de_callB sc_isi call_isiU z.«isinstance» (da_cons (de_var 0) (da_cons (de_ty z.«int») da_nil))) (de_one (de_not (de_callB sc_isi call_isiU z.«isinstance» (da_cons (de_var 0) (da_cons (de_ty z.«bool») da_nil)))))))))⟩
theorem c_is_variable {L : Nat} (g : Got K mg "is_variable" s_is_variable P_is_variable) (z : Zs mg) (y : Ys ⟨K, w⟩ mg) (q : Qs K mg) (kk : Ks K CA) (c_is_int : CalM P w K mg base L "is_int" 1 (m_is_int NF RD CA) noGX []) : CalM P w K mg base (L + 1) "is_variable" 1 (m_is_variable NF RD CA) noGX [] := by
  have nd := sc_is_variable.nd
  refine Got.cal (ps := P_is_variable) (N := N_is_variable) (ms := (retM (andM (cbM isiD (consM (varM 0) (consM (cM (.ty "tuple")) nilM))) (andM (opM eqD (cbM lenD (consM (varM 0) nilM)) (cM (.int 1))) (andM (callM 1 (m_is_int NF RD CA) [] (consM (opM subsD (varM 0) (cM (.int 0))) nilM)) (opM geD (opM subsD (varM 0) (cM (.int 0))) (cM (.int 0)))))))) (xs := noX) g sc_is_variable fun f cdv A outer s H E hr => ?_
  exact ⟨_, (dssx_one (DS.x (ds_ret (de_and (de_callB sc_isi call_isiU z.«isinstance» (da_cons (de_var 0) (da_cons (de_ty z.«tuple») da_nil))) (de_and (de_cmp so_eq (op_eqU (hu64 hr)) (de_callB sc_len call_lenU z.«len» (da_cons (de_var 0) da_nil)) de_int) (de_and (de_call c_is_int hr (da_cons (de_sub (de_var 0) de_int (hu1 hr)) da_nil) (by omega)) (de_one (de_cmp so_ge op_geU (de_sub (de_var 0) de_int (hu1 hr)) de_int))))))))⟩
theorem c_is_any_number {L : Nat} (g : Got K mg "is_any_number" s_is_any_number P_is_any_number) (z : Zs mg) (y : Ys ⟨K, w⟩ mg) (q : Qs K mg) (kk : Ks K CA) (c_is_int : CalM P w K mg base L "is_int" 1 (m_is_int NF RD CA) noGX []) : CalM P w K mg base (L + 1) "is_any_number" 1 (m_is_any_number NF RD CA) noGX [] := by
  have nd := sc_is_any_number.nd
  refine Got.cal (ps := P_is_any_number) (N := N_is_any_number) (ms := (retM (andM (callM 1 (m_is_int NF RD CA) [] (consM (varM 0) nilM)) (opM ltD (cbM absD (consM (varM 0) nilM)) (cM k_TOO_GREAT))))) (xs := noX) g sc_is_any_number fun f cdv A outer s H E hr => ?_
  exact ⟨_, (dssx_one (DS.x (ds_ret (de_and (de_call c_is_int hr (da_cons (de_var 0) da_nil) (by omega)) (de_one (de_cmp so_lt op_ltU (de_callB sc_abs call_abs z.«abs» (da_cons (de_var 0) da_nil)) y.g_TOO_GREAT.de))))))⟩
theorem c_is_any_atom {L : Nat} (g : Got K mg "is_any_atom" s_is_any_atom P_is_any_atom) (z : Zs mg) (y : Ys ⟨K, w⟩ mg) (q : Qs K mg) (kk : Ks K CA) : CalM P w K mg base (L + 1) "is_any_atom" 1 (m_is_any_atom NF RD CA) noGX [] := by
  have nd := sc_is_any_atom.nd
  refine Got.cal (ps := P_is_any_atom) (N := N_is_any_atom) (ms := (seqM (ifSM (torM (tnotM (truM (cbM isiD (consM (varM 0) (consM (cM (.ty "str")) nilM))))) (testM (opM gtD (cbM lenD (consM (varM 0) nilM)) (cM k_MOST_SIGNS)))) (retM (cM (.bl false))) passM) (retM (cbM allD (consM (lcM (seqI (varM 0)) (nameG 1) yesM (E_is_any_atom_0 NF RD CA) [1] NF) nilM))))) (xs := noX) g sc_is_any_atom fun f cdv A outer s H E hr => ?_
  exact ⟨_, (dssx_cons0 (dsx_if0 (dt_w (dw_or (dt_not (dt_tru (de_callB sc_isi call_isiU z.«isinstance» (da_cons (de_var 0) (da_cons (de_ty z.«str») da_nil))))) (dw_or1 (dt_cmp so_gt op_gtU (de_callB sc_len call_lenU z.«len» (da_cons (de_var 0) da_nil)) y.g_MOST_SIGNS.de)))) (dssx_one (DS.x (ds_ret de_bl))) dssx_nil) (dssx_one (DS.x (ds_ret (de_callB sc_all call_allU z.«all» (da_cons (de_lc (own := [("sign", 1)]) NF nd (di_seq (de_var 0)) (blkOk_by (N := N_is_any_atom) (sc := (defScope s_is_any_atom)) (by decide +kernel)) (only_name (by decide)) (fun _ _ _ _ _ => (dg_name 1 nd)) (fun _ _ _ _ _ => dts_nil) (fun _ _ _ _ _ => (de_and (de_chain so_le op_leU so_le op_leU de_str (de_var 1) de_str) (de_one (de_cmp so_ne (op_neU (hu64 hr)) (de_callB sc_ord call_ord z.«ord» (da_cons (de_var 1) da_nil)) de_int))))) da_nil))))))⟩
theorem c_is_compound {L : Nat} (g : Got K mg "is_compound" s_is_compound P_is_compound) (z : Zs mg) (y : Ys ⟨K, w⟩ mg) (q : Qs K mg) (kk : Ks K CA) : CalM P w K mg base (L + 1) "is_compound" 1 (m_is_compound NF RD CA) noGX [] := by
  have nd := sc_is_compound.nd
  refine Got.cal (ps := P_is_compound) (N := N_is_compound) (ms := (retM (andM (cbM isiD (consM (varM 0) (consM (cM (.ty "tuple")) nilM))) (opM gtD (cbM lenD (consM (varM 0) nilM)) (cM (.int 1)))))) (xs := noX) g sc_is_compound fun f cdv A outer s H E hr => ?_
  exact ⟨_, (dssx_one (DS.x (ds_ret (de_and (de_callB sc_isi call_isiU z.«isinstance» (da_cons (de_var 0) (da_cons (de_ty z.«tuple») da_nil))) (de_one (de_cmp so_gt op_gtU (de_callB sc_len call_lenU z.«len» (da_cons (de_var 0) da_nil)) de_int))))))⟩
theorem c_is_term {L : Nat} (g : Got K mg "is_term" s_is_term P_is_term) (z : Zs mg) (y : Ys ⟨K, w⟩ mg) (q : Qs K mg) (kk : Ks K CA) (c_is_compound : CalM P w K mg base L "is_compound" 1 (m_is_compound NF RD CA) noGX []) (c_is_any_atom : CalM P w K mg base L "is_any_atom" 1 (m_is_any_atom NF RD CA) noGX []) (c_is_variable : CalM P w K mg base L "is_variable" 1 (m_is_variable NF RD CA) noGX []) (c_is_any_number : CalM P w K mg base L "is_any_number" 1 (m_is_any_number NF RD CA) noGX []) : CalM P w K mg base (L + 1) "is_term" 1 (m_is_term NF RD CA) noGX [] := by
  have nd := sc_is_term.nd
  refine Got.cal (ps := P_is_term) (N := N_is_term) (ms := (seqM (asgM (lstM (consM (varM 0) nilM)) (nameG 1)) (seqM (whileM (C_is_term_0 NF RD CA) (B_is_term_1 NF RD CA) NF) (retM (cM (.bl true)))))) (xs := noX) g sc_is_term fun f cdv A outer s H E hr => ?_
  exact ⟨_, (dssx_cons0 (DS.x (ds_set 1 (de_lst (da_cons (de_var 0) da_nil)) nd)) (dssx_cons0 (dsx_while0 NF (dt_cmp so_ne (op_neU (hu64 hr)) (de_var 1) (de_lst da_nil)) (dssx_cons0 (DS.x (ds_set 2 (de_bm0 sm_pop PySem.F.plainAttrs_list PySem.F.slot_list_pop PySem.F.type_list_pop mt_pop (de_var 1)) nd)) (dssx_one (dsx_if0 (dt_tru (de_call c_is_compound hr (da_cons (de_var 2) da_nil) (by omega))) (dssx_cons0 (dsx_if0 (dt_w (dw_or (dt_cmp so_gt op_gtU (de_callB sc_len call_lenU z.«len» (da_cons (de_var 2) da_nil)) (de_op so_add op_addU y.g_MOST_ARGUMENTS.de de_int)) (dw_or1 (dt_not (dt_tru (de_call c_is_any_atom hr (da_cons (de_sub (de_var 2) de_int (hu1 hr)) da_nil) (by omega))))))) (dssx_one (DS.x (ds_ret de_bl))) dssx_nil) (dssx_one (DS.x (ds_expr (de_bm sm_extend PySem.F.plainAttrs_list PySem.F.slot_list_extend PySem.F.type_list_extend mt_extU (de_var 1) (da_cons (de_slice (de_var 2) (do_some de_int) do_none) da_nil)))))) (dssx_one (dsx_if0 (dt_w (dw_and (dt_not (dt_tru (de_call c_is_variable hr (da_cons (de_var 2) da_nil) (by omega)))) (dw_and (dt_not (dt_tru (de_call c_is_any_number hr (da_cons (de_var 2) da_nil) (by omega)))) (dw_and1 (dt_not (dt_tru (de_call c_is_any_atom hr (da_cons (de_var 2) da_nil) (by omega)))))))) (dssx_one (DS.x (ds_ret de_bl))) dssx_nil)))))) (dssx_one (DS.x (ds_ret de_bl)))))⟩
theorem c_is_place {L : Nat} (g : Got K mg "is_place" s_is_place P_is_place) (z : Zs mg) (y : Ys ⟨K, w⟩ mg) (q : Qs K mg) (kk : Ks K CA) : CalM P w K mg base (L + 1) "is_place" 1 (m_is_place NF RD CA) noGX [] := by
  have nd := sc_is_place.nd
  refine Got.cal (ps := P_is_place) (N := N_is_place) (ms := (retM (andM (cbM isiD (consM (varM 0) (consM (cM (.ty "int")) nilM))) (andM (notM (cbM isiD (consM (varM 0) (consM (cM (.ty "bool")) nilM)))) (opM geD (varM 0) (cM (.int 0))))))) (xs := noX) g sc_is_place fun f cdv A outer s H E hr => ?_
  exact ⟨_, (dssx_one (DS.x (ds_ret (de_and (de_callB sc_isi call_isiU z.«isinstance» (da_cons (de_var 0) (da_cons (de_ty z.«int») da_nil))) (de_and (de_not (de_callB sc_isi call_isiU z.«isinstance» (da_cons (de_var 0) (da_cons (de_ty z.«bool») da_nil)))) (de_one (de_cmp so_ge op_geU (de_var 0) de_int)))))))⟩
theorem c_is_address {L : Nat} (g : Got K mg "is_address" s_is_address P_is_address) (z : Zs mg) (y : Ys ⟨K, w⟩ mg) (q : Qs K mg) (kk : Ks K CA) (c_is_place : CalM P w K mg base L "is_place" 1 (m_is_place NF RD CA) noGX []) : CalM P w K mg base (L + 1) "is_address" 1 (m_is_address NF RD CA) noGX [] := by
  have nd := sc_is_address.nd
  refine Got.cal (ps := P_is_address) (N := N_is_address) (ms := (seqM (ifSM (torM (tnotM (truM (cbM isiD (consM (varM 0) (consM (cM (.ty "tuple")) nilM))))) (torM (testM (opM neD (cbM lenD (consM (varM 0) nilM)) (cM (.int 2)))) (tnotM (truM (cbM isiD (consM (opM subsD (varM 0) (cM (.int 0))) (consM (cM (.ty "str")) nilM))))))) (retM (cM (.bl false))) passM) (retM (andM (opM (inD false) (opM subsD (varM 0) (cM (.int 0))) (tupM (consM (cM (.str "h")) (consM (cM (.str "s")) nilM)))) (callM 1 (m_is_place NF RD CA) [] (consM (opM subsD (varM 0) (cM (.int 1))) nilM)))))) (xs := noX) g sc_is_address fun f cdv A outer s H E hr => ?_
  exact ⟨_, (dssx_cons0 (dsx_if0 (dt_w (dw_or (dt_not (dt_tru (de_callB sc_isi call_isiU z.«isinstance» (da_cons (de_var 0) (da_cons (de_ty z.«tuple») da_nil))))) (dw_or (dt_cmp so_ne (op_neU (hu64 hr)) (de_callB sc_len call_lenU z.«len» (da_cons (de_var 0) da_nil)) de_int) (dw_or1 (dt_not (dt_tru (de_callB sc_isi call_isiU z.«isinstance» (da_cons (de_sub (de_var 0) de_int (hu1 hr)) (da_cons (de_ty z.«str») da_nil))))))))) (dssx_one (DS.x (ds_ret de_bl))) dssx_nil) (dssx_one (DS.x (ds_ret (de_and (de_cmp (so_in false) op_inU (de_sub (de_var 0) de_int (hu1 hr)) (de_tup (da_cons de_str (da_cons de_str da_nil)))) (de_one (de_call c_is_place hr (da_cons (de_sub (de_var 0) de_int (hu1 hr)) da_nil) (by omega))))))))⟩
theorem c_is_functor {L : Nat} (g : Got K mg "is_functor" s_is_functor P_is_functor) (z : Zs mg) (y : Ys ⟨K, w⟩ mg) (q : Qs K mg) (kk : Ks K CA) (c_is_any_atom : CalM P w K mg base L "is_any_atom" 1 (m_is_any_atom NF RD CA) noGX []) (c_is_place : CalM P w K mg base L "is_place" 1 (m_is_place NF RD CA) noGX []) : CalM P w K mg base (L + 1) "is_functor" 1 (m_is_functor NF RD CA) noGX [] := by
  have nd := sc_is_functor.nd
  refine Got.cal (ps := P_is_functor) (N := N_is_functor) (ms := (retM (andM (opM eqD (cbM lenD (consM (varM 0) nilM)) (cM (.int 3))) (andM (callM 1 (m_is_any_atom NF RD CA) [] (consM (opM subsD (varM 0) (cM (.int 1))) nilM)) (andM (callM 1 (m_is_place NF RD CA) [] (consM (opM subsD (varM 0) (cM (.int 2))) nilM)) (chainM leD leD (cM (.int 1)) (opM subsD (varM 0) (cM (.int 2))) (cM (.int 8)))))))) (xs := noX) g sc_is_functor fun f cdv A outer s H E hr => ?_
  exact ⟨_, (dssx_one (DS.x (ds_ret (de_and (de_cmp so_eq (op_eqU (hu64 hr)) (de_callB sc_len call_lenU z.«len» (da_cons (de_var 0) da_nil)) de_int) (de_and (de_call c_is_any_atom hr (da_cons (de_sub (de_var 0) de_int (hu1 hr)) da_nil) (by omega)) (de_and (de_call c_is_place hr (da_cons (de_sub (de_var 0) de_int (hu1 hr)) da_nil) (by omega)) (de_one (de_chain so_le op_leU so_le op_leU de_int (de_sub (de_var 0) de_int (hu1 hr)) de_int))))))))⟩
theorem c_is_cell {L : Nat} (g : Got K mg "is_cell" s_is_cell P_is_cell) (z : Zs mg) (y : Ys ⟨K, w⟩ mg) (q : Qs K mg) (kk : Ks K CA) (c_is_functor : CalM P w K mg base L "is_functor" 1 (m_is_functor NF RD CA) noGX []) (c_is_any_atom : CalM P w K mg base L "is_any_atom" 1 (m_is_any_atom NF RD CA) noGX []) (c_is_any_number : CalM P w K mg base L "is_any_number" 1 (m_is_any_number NF RD CA) noGX []) (c_is_place : CalM P w K mg base L "is_place" 1 (m_is_place NF RD CA) noGX []) (c_is_address : CalM P w K mg base L "is_address" 1 (m_is_address NF RD CA) noGX []) : CalM P w K mg base (L + 1) "is_cell" 1 (m_is_cell NF RD CA) noGX [] := by
  have nd := sc_is_cell.nd
  refine Got.cal (ps := P_is_cell) (N := N_is_cell) (ms := (seqM (ifSM (torM (tnotM (truM (cbM isiD (consM (varM 0) (consM (cM (.ty "tuple")) nilM))))) (torM (tnotM (truM (varM 0))) (tnotM (truM (cbM isiD (consM (opM subsD (varM 0) (cM (.int 0))) (consM (cM (.ty "str")) nilM))))))) (retM (cM (.bl false))) passM) (seqM (ifSM (testM (opM eqD (opM subsD (varM 0) (cM (.int 0))) (cM (.str "fun")))) (retM (callM 1 (m_is_functor NF RD CA) [] (consM (varM 0) nilM))) passM) (seqM (ifSM (testM (opM eqD (opM subsD (varM 0) (cM (.int 0))) (cM (.str "none")))) (retM (opM eqD (cbM lenD (consM (varM 0) nilM)) (cM (.int 1)))) passM) (seqM (ifSM (testM (opM neD (cbM lenD (consM (varM 0) nilM)) (cM (.int 2)))) (retM (cM (.bl false))) passM) (seqM (ifSM (testM (opM (inD false) (opM subsD (varM 0) (cM (.int 0))) (tupM (consM (cM (.str "ref")) (consM (cM (.str "str")) nilM))))) (retM (andM (callM 1 (m_is_address NF RD CA) [] (consM (opM subsD (varM 0) (cM (.int 1))) nilM)) (orM (opM eqD (opM subsD (varM 0) (cM (.int 0))) (cM (.str "ref"))) (opM eqD (opM subsD (opM subsD (varM 0) (cM (.int 1))) (cM (.int 0))) (cM (.str "h")))))) passM) (seqM (ifSM (testM (opM eqD (opM subsD (varM 0) (cM (.int 0))) (cM (.str "con")))) (retM (callM 1 (m_is_any_atom NF RD CA) [] (consM (opM subsD (varM 0) (cM (.int 1))) nilM))) passM) (seqM (ifSM (testM (opM eqD (opM subsD (varM 0) (cM (.int 0))) (cM (.str "int")))) (retM (callM 1 (m_is_any_number NF RD CA) [] (consM (opM subsD (varM 0) (cM (.int 1))) nilM))) passM) (retM (andM (opM eqD (opM subsD (varM 0) (cM (.int 0))) (cM (.str "level"))) (callM 1 (m_is_place NF RD CA) [] (consM (opM subsD (varM 0) (cM (.int 1))) nilM)))))))))))) (xs := noX) g sc_is_cell fun f cdv A outer s H E hr => ?_
  exact ⟨_, (dssx_cons0 (dsx_if0 (dt_w (dw_or (dt_not (dt_tru (de_callB sc_isi call_isiU z.«isinstance» (da_cons (de_var 0) (da_cons (de_ty z.«tuple») da_nil))))) (dw_or (dt_not (dt_tru (de_var 0))) (dw_or1 (dt_not (dt_tru (de_callB sc_isi call_isiU z.«isinstance» (da_cons (de_sub (de_var 0) de_int (hu1 hr)) (da_cons (de_ty z.«str») da_nil))))))))) (dssx_one (DS.x (ds_ret de_bl))) dssx_nil) (dssx_cons0 (dsx_if0 (dt_cmp so_eq (op_eqU (hu64 hr)) (de_sub (de_var 0) de_int (hu1 hr)) de_str) (dssx_one (DS.x (ds_ret (de_call c_is_functor hr (da_cons (de_var 0) da_nil) (by omega))))) dssx_nil) (dssx_cons0 (dsx_if0 (dt_cmp so_eq (op_eqU (hu64 hr)) (de_sub (de_var 0) de_int (hu1 hr)) de_str) (dssx_one (DS.x (ds_ret (de_cmp so_eq (op_eqU (hu64 hr)) (de_callB sc_len call_lenU z.«len» (da_cons (de_var 0) da_nil)) de_int)))) dssx_nil) (dssx_cons0 (dsx_if0 (dt_cmp so_ne (op_neU (hu64 hr)) (de_callB sc_len call_lenU z.«len» (da_cons (de_var 0) da_nil)) de_int) (dssx_one (DS.x (ds_ret de_bl))) dssx_nil) (dssx_cons0 (dsx_if0 (dt_cmp (so_in false) op_inU (de_sub (de_var 0) de_int (hu1 hr)) (de_tup (da_cons de_str (da_cons de_str da_nil)))) (dssx_one (DS.x (ds_ret (de_and (de_call c_is_address hr (da_cons (de_sub (de_var 0) de_int (hu1 hr)) da_nil) (by omega)) (de_one (de_or (de_cmp so_eq (op_eqU (hu64 hr)) (de_sub (de_var 0) de_int (hu1 hr)) de_str) (de_one (de_cmp so_eq (op_eqU (hu64 hr)) (de_sub (de_sub (de_var 0) de_int (hu1 hr)) de_int (hu1 hr)) de_str)))))))) dssx_nil) (dssx_cons0 (dsx_if0 (dt_cmp so_eq (op_eqU (hu64 hr)) (de_sub (de_var 0) de_int (hu1 hr)) de_str) (dssx_one (DS.x (ds_ret (de_call c_is_any_atom hr (da_cons (de_sub (de_var 0) de_int (hu1 hr)) da_nil) (by omega))))) dssx_nil) (dssx_cons0 (dsx_if0 (dt_cmp so_eq (op_eqU (hu64 hr)) (de_sub (de_var 0) de_int (hu1 hr)) de_str) (dssx_one (DS.x (ds_ret (de_call c_is_any_number hr (da_cons (de_sub (de_var 0) de_int (hu1 hr)) da_nil) (by omega))))) dssx_nil) (dssx_one (DS.x (ds_ret (de_and (de_cmp so_eq (op_eqU (hu64 hr)) (de_sub (de_var 0) de_int (hu1 hr)) de_str) (de_one (de_call c_is_place hr (da_cons (de_sub (de_var 0) de_int (hu1 hr)) da_nil) (by omega))))))))))))))⟩
theorem c_constant {L : Nat} (g : Got K mg "constant" s_constant P_constant) (z : Zs mg) (y : Ys ⟨K, w⟩ mg) (q : Qs K mg) (kk : Ks K CA) : CalM P w K mg base (L + 1) "constant" 1 (m_constant NF RD CA) noGX [] := by
  have nd := sc_constant.nd
  refine Got.cal (ps := P_constant) (N := N_constant) (ms := (retM (ifM (truM (cbM isiD (consM (varM 0) (consM (cM (.ty "str")) nilM)))) (tupM (consM (cM (.str "con")) (consM (varM 0) nilM))) (tupM (consM (cM (.str "int")) (consM (varM 0) nilM)))))) (xs := noX) g sc_constant fun f cdv A outer s H E hr => ?_
  exact ⟨_, (dssx_one (DS.x (ds_ret (de_if (dt_tru (de_callB sc_isi call_isiU z.«isinstance» (da_cons (de_var 0) (da_cons (de_ty z.«str») da_nil)))) (de_tup (da_cons de_str (da_cons (de_var 0) da_nil))) (de_tup (da_cons de_str (da_cons (de_var 0) da_nil)))))))⟩
theorem c_check_cell {L : Nat} (g : Got K mg "check_cell" s_check_cell P_check_cell) (z : Zs mg) (y : Ys ⟨K, w⟩ mg) (q : Qs K mg) (kk : Ks K CA) (c_is_cell : CalM P w K mg base (L + 2) "is_cell" 1 (m_is_cell NF RD CA) noGX []) : CalM P w K mg base ((L + 2) + 1) "check_cell" 1 (m_check_cell NF RD CA) noGX [] := by
  have nd := sc_check_cell.nd
  refine Got.cal (ps := P_check_cell) (N := N_check_cell) (ms := (ifSM (tnotM (truM (callM 1 (m_is_cell NF RD CA) [] (consM (varM 0) nilM)))) neverM passM)) (xs := noX) g sc_check_cell fun f cdv A outer s H E hr => ?_
  exact ⟨_, (DSsX.no (dssx_one (dsx_if (dt_not (dt_tru (de_call c_is_cell hr (da_cons (de_var 0) da_nil) (by omega)))) (dssx_one (dsx_raise q.t_BadCell hr (da_cons (de_var 0) da_nil))) dssx_nil)))⟩
theorem k_Store_look {L : Nat} (g : GotM K (CA "Store") "look" "Store.look" s_Store_look P_Store_look) (z : Zs mg) (y : Ys ⟨K, w⟩ mg) (q : Qs K mg) (kk : Ks K CA) : MthM P w K mg base (L + 1) (CA "Store") "look" 2 (m_Store_look NF RD CA) noGX [] := by
  have nd := sc_Store_look.nd
  refine GotM.cal (ps := P_Store_look) (N := N_Store_look) (ms := (retM (ifM (testM (opM eqD (opM subsD (varM 1) (cM (.int 0))) (cM (.str "h")))) (opM subsD (fldM [CA "Store"] n_cells (varM 0)) (opM subsD (varM 1) (cM (.int 1)))) (opM subsD (fldM [CA "Store"] n_slots (varM 0)) (opM subsD (varM 1) (cM (.int 1))))))) (xs := noX) g sc_Store_look fun f cdv A outer s H E hr => ?_
  exact ⟨_, (dssx_one (DS.x (ds_ret (de_if (dt_cmp so_eq (op_eqU (hu64 hr)) (de_sub (de_var 1) de_int (hu1 hr)) de_str) (de_sub (de_fld kk.f_cells e_cells (de_var 0)) (de_sub (de_var 1) de_int (hu1 hr)) (hu1 hr)) (de_sub (de_fld kk.f_slots e_slots (de_var 0)) (de_sub (de_var 1) de_int (hu1 hr)) (hu1 hr))))))⟩
theorem c_reaches {L : Nat} {dvs : List V} (g : GotD K mg "reaches" s_reaches P_reaches dvs) (z : Zs mg) (y : Ys ⟨K, w⟩ mg) (q : Qs K mg) (kk : Ks K CA) (k_Store_look : MthM P w K mg base L (CA "Store") "look" 2 (m_Store_look NF RD CA) noGX []) : CalM P w K mg base (L + 1) "reaches" 4 (m_reaches NF RD CA) noGX [] := by
  have nd := sc_reaches.nd
  refine GotD.cal (ps := P_reaches) (N := N_reaches) (ms := (seqM (asgM (cbM listD (consM (varM 2) nilM)) (nameG 4)) (seqM (asgM dnewNM (nameG 5)) (seqM (whileM (C_reaches_3 NF RD CA) (B_reaches_4 NF RD CA) NF) (retM (cM (.bl false))))))) (xs := noX) g sc_reaches fun f cdv A outer s H E hr => ?_
  exact ⟨_, (dssx_cons0 (DS.x (ds_set 4 (de_callTy sc_list call_listU z.«list» (da_cons (de_var 2) da_nil)) nd)) (dssx_cons0 (DS.x (ds_set 5 de_dnewN nd)) (dssx_cons0 (dsx_while0 NF (dt_tru (de_var 4)) (dssx_cons0 (DS.x (ds_set 6 (de_bm0 sm_pop PySem.F.plainAttrs_list PySem.F.slot_list_pop PySem.F.type_list_pop mt_pop (de_var 4)) nd)) (dssx_cons0 (dsx_while0 NF (dt_cmp so_eq (op_eqU (hu64 hr)) (de_sub (de_var 6) de_int (hu1 hr)) de_str) (dssx_cons0 (dsx_if0 (dt_cmp so_eq (op_eqU (hu64 hr)) (de_sub (de_var 6) de_int (hu1 hr)) (de_var 1)) (dssx_one (DS.x (ds_ret de_bl))) dssx_nil) (dssx_cons0 (DS.x (ds_set 7 (de_meth k_Store_look e_look hr (de_var 0) (da_cons (de_sub (de_var 6) de_int (hu1 hr)) da_nil) (by omega)) nd)) (dssx_cons0 (dsx_if0 (dt_cmp so_eq (op_eqU (hu64 hr)) (de_var 7) (de_var 6)) (dssx_one (DS.x ds_break)) dssx_nil) (dssx_one (DS.x (ds_set 6 (de_var 7) nd))))))) (dssx_cons0 (dsx_if0 (dt_cmp so_eq (op_eqU (hu64 hr)) (de_var 6) (de_var 3)) (dssx_one (DS.x (ds_ret de_bl))) dssx_nil) (dssx_one (dsx_if0 (dt_w (dw_and (dt_cmp so_eq (op_eqU (hu64 hr)) (de_sub (de_var 6) de_int (hu1 hr)) de_str) (dw_and1 (dt_cmp (so_inN true) (op_niN (hu64 hr)) (de_sub (de_var 6) de_int (hu1 hr)) (de_var 5))))) (dssx_cons0 (DS.x (ds_putN (de_var 5) (de_sub (de_var 6) de_int (hu1 hr)) de_bl (hu64 hr))) (dssx_cons0 (DS.x (ds_set 8 (de_sub (de_meth k_Store_look e_look hr (de_var 0) (da_cons (de_sub (de_var 6) de_int (hu1 hr)) da_nil) (by omega)) de_int (hu1 hr)) nd)) (dssx_one (DS.x (ds_aug 4 so_addIL ip_ext (de_lc (own := [("k", 9)]) NF nd (di_range2 (da_cons de_int (da_cons (de_op so_add op_addU (de_var 8) de_int) da_nil)) z.«range») (blkOk_by (N := N_reaches) (sc := (defScope s_reaches)) (by decide +kernel)) (only_name (by decide)) (fun _ _ _ _ _ => (dg_name 9 nd)) (fun _ _ _ _ _ => dts_nil) (fun _ _ _ _ _ => (de_tup (da_cons de_str (da_cons (de_tup (da_cons de_str (da_cons (de_op so_add op_addU (de_sub (de_sub (de_var 6) de_int (hu1 hr)) de_int (hu1 hr)) (de_var 9)) da_nil))) da_nil))))) nd))))) dssx_nil)))))) (dssx_one (DS.x (ds_ret de_bl))))))⟩
theorem cd_reaches {L : Nat} {dvs : List V} (hd : ∀ H μ, Rps ⟨K, w⟩ H μ [.non] dvs) (g : GotD K mg "reaches" s_reaches P_reaches dvs) (z : Zs mg) (y : Ys ⟨K, w⟩ mg) (q : Qs K mg) (kk : Ks K CA) (k_Store_look : MthM P w K mg base L (CA "Store") "look" 2 (m_Store_look NF RD CA) noGX []) : CalM P w K mg base (L + 1) "reaches" 4 (m_reaches NF RD CA) noGX [.non] := by
  have nd := sc_reaches.nd
  refine GotD.cald (ps := P_reaches) (N := N_reaches) (ms := (seqM (asgM (cbM listD (consM (varM 2) nilM)) (nameG 4)) (seqM (asgM dnewNM (nameG 5)) (seqM (whileM (C_reaches_3 NF RD CA) (B_reaches_4 NF RD CA) NF) (retM (cM (.bl false))))))) (xs := noX) g hd sc_reaches fun f cdv A outer s H E hr => ?_
  exact ⟨_, (dssx_cons0 (DS.x (ds_set 4 (de_callTy sc_list call_listU z.«list» (da_cons (de_var 2) da_nil)) nd)) (dssx_cons0 (DS.x (ds_set 5 de_dnewN nd)) (dssx_cons0 (dsx_while0 NF (dt_tru (de_var 4)) (dssx_cons0 (DS.x (ds_set 6 (de_bm0 sm_pop PySem.F.plainAttrs_list PySem.F.slot_list_pop PySem.F.type_list_pop mt_pop (de_var 4)) nd)) (dssx_cons0 (dsx_while0 NF (dt_cmp so_eq (op_eqU (hu64 hr)) (de_sub (de_var 6) de_int (hu1 hr)) de_str) (dssx_cons0 (dsx_if0 (dt_cmp so_eq (op_eqU (hu64 hr)) (de_sub (de_var 6) de_int (hu1 hr)) (de_var 1)) (dssx_one (DS.x (ds_ret de_bl))) dssx_nil) (dssx_cons0 (DS.x (ds_set 7 (de_meth k_Store_look e_look hr (de_var 0) (da_cons (de_sub (de_var 6) de_int (hu1 hr)) da_nil) (by omega)) nd)) (dssx_cons0 (dsx_if0 (dt_cmp so_eq (op_eqU (hu64 hr)) (de_var 7) (de_var 6)) (dssx_one (DS.x ds_break)) dssx_nil) (dssx_one (DS.x (ds_set 6 (de_var 7) nd))))))) (dssx_cons0 (dsx_if0 (dt_cmp so_eq (op_eqU (hu64 hr)) (de_var 6) (de_var 3)) (dssx_one (DS.x (ds_ret de_bl))) dssx_nil) (dssx_one (dsx_if0 (dt_w (dw_and (dt_cmp so_eq (op_eqU (hu64 hr)) (de_sub (de_var 6) de_int (hu1 hr)) de_str) (dw_and1 (dt_cmp (so_inN true) (op_niN (hu64 hr)) (de_sub (de_var 6) de_int (hu1 hr)) (de_var 5))))) (dssx_cons0 (DS.x (ds_putN (de_var 5) (de_sub (de_var 6) de_int (hu1 hr)) de_bl (hu64 hr))) (dssx_cons0 (DS.x (ds_set 8 (de_sub (de_meth k_Store_look e_look hr (de_var 0) (da_cons (de_sub (de_var 6) de_int (hu1 hr)) da_nil) (by omega)) de_int (hu1 hr)) nd)) (dssx_one (DS.x (ds_aug 4 so_addIL ip_ext (de_lc (own := [("k", 9)]) NF nd (di_range2 (da_cons de_int (da_cons (de_op so_add op_addU (de_var 8) de_int) da_nil)) z.«range») (blkOk_by (N := N_reaches) (sc := (defScope s_reaches)) (by decide +kernel)) (only_name (by decide)) (fun _ _ _ _ _ => (dg_name 9 nd)) (fun _ _ _ _ _ => dts_nil) (fun _ _ _ _ _ => (de_tup (da_cons de_str (da_cons (de_tup (da_cons de_str (da_cons (de_op so_add op_addU (de_sub (de_sub (de_var 6) de_int (hu1 hr)) de_int (hu1 hr)) (de_var 9)) da_nil))) da_nil))))) nd))))) dssx_nil)))))) (dssx_one (DS.x (ds_ret de_bl))))))⟩
theorem k_Store_write_at {L : Nat} (g : GotM K (CA "Store") "write_at" "Store.write_at" s_Store_write_at P_Store_write_at) (z : Zs mg) (y : Ys ⟨K, w⟩ mg) (q : Qs K mg) (kk : Ks K CA) : MthM P w K mg base (L + 1) (CA "Store") "write_at" 3 (m_Store_write_at NF RD CA) noGX [] := by
  have nd := sc_Store_write_at.nd
  refine GotM.cal (ps := P_Store_write_at) (N := N_Store_write_at) (ms := (ifSM (testM (opM eqD (opM subsD (varM 1) (cM (.int 0))) (cM (.str "h")))) (setD (fldM [CA "Store"] n_cells (varM 0)) (opM subsD (varM 1) (cM (.int 1))) (varM 2)) (setD (fldM [CA "Store"] n_slots (varM 0)) (opM subsD (varM 1) (cM (.int 1))) (varM 2)))) (xs := noX) g sc_Store_write_at fun f cdv A outer s H E hr => ?_
  exact ⟨_, (dssx_one (dsx_if0 (dt_cmp so_eq (op_eqU (hu64 hr)) (de_sub (de_var 1) de_int (hu1 hr)) de_str) (dssx_one (DS.x (ds_put (de_fld kk.f_cells e_cells (de_var 0)) (de_sub (de_var 1) de_int (hu1 hr)) (de_var 2) (hu1 hr)))) (dssx_one (DS.x (ds_put (de_fld kk.f_slots e_slots (de_var 0)) (de_sub (de_var 1) de_int (hu1 hr)) (de_var 2) (hu1 hr))))))⟩
theorem k_Store_assign {L : Nat} (g : GotM K (CA "Store") "assign" "Store.assign" s_Store_assign P_Store_assign) (z : Zs mg) (y : Ys ⟨K, w⟩ mg) (q : Qs K mg) (kk : Ks K CA) (k_Store_write_at : MthM P w K mg base L (CA "Store") "write_at" 3 (m_Store_write_at NF RD CA) noGX []) : MthM P w K mg base (L + 1) (CA "Store") "assign" 3 (m_Store_assign NF RD CA) noGX [] := by
  have nd := sc_Store_assign.nd
  refine GotM.cal (ps := P_Store_assign) (N := N_Store_assign) (ms := (seqM (ifSM (testM (opM ltD (opM subsD (varM 1) (cM (.int 1))) (opM subsD (fldM [CA "Store"] n_low (varM 0)) (cbM intD (consM (opM eqD (opM subsD (varM 1) (cM (.int 0))) (cM (.str "s"))) nilM))))) (exprM (bmM "list" appendD (fldM [CA "Store"] n_noted (varM 0)) (consM (varM 1) nilM))) passM) (exprM (methM (CA "Store") n_write_at 3 (m_Store_write_at NF RD CA) [] (varM 0) (consM (varM 1) (consM (varM 2) nilM)))))) (xs := noX) g sc_Store_assign fun f cdv A outer s H E hr => ?_
  exact ⟨_, (dssx_cons0 (dsx_if0 (dt_cmp so_lt op_ltU (de_sub (de_var 1) de_int (hu1 hr)) (de_sub (de_fld kk.f_low e_low (de_var 0)) (de_callTy sc_int call_int1 z.«int» (da_cons (de_cmp so_eq (op_eqU (hu64 hr)) (de_sub (de_var 1) de_int (hu1 hr)) de_str) da_nil)) (hu1 hr))) (dssx_one (DS.x (ds_expr (de_bm sm_append PySem.F.plainAttrs_list PySem.F.slot_list_append PySem.F.type_list_append mt_append (de_fld kk.f_noted e_noted (de_var 0)) (da_cons (de_var 1) da_nil))))) dssx_nil) (dssx_one (DS.x (ds_expr (de_meth k_Store_write_at e_write_at hr (de_var 0) (da_cons (de_var 1) (da_cons (de_var 2) da_nil)) (by omega))))))⟩
theorem c_bind_or_not {L : Nat} (g : Got K mg "bind_or_not" s_bind_or_not P_bind_or_not) (z : Zs mg) (y : Ys ⟨K, w⟩ mg) (q : Qs K mg) (kk : Ks K CA) (k_Store_assign : MthM P w K mg base L (CA "Store") "assign" 3 (m_Store_assign NF RD CA) noGX []) (cd_reaches : CalM P w K mg base L "reaches" 4 (m_reaches NF RD CA) noGX [.non]) : CalM P w K mg base (L + 1) "bind_or_not" 3 (m_bind_or_not NF RD CA) noGX [] := by
  have nd := sc_bind_or_not.nd
  refine Got.cal (ps := P_bind_or_not) (N := N_bind_or_not) (ms := (seqM (ifSM (tandM (testM (opM eqD (opM subsD (varM 1) (cM (.int 0))) (cM (.str "ref")))) (testM (opM eqD (opM subsD (varM 2) (cM (.int 0))) (cM (.str "ref"))))) (seqM (exprM (methM (CA "Store") n_assign 3 (m_Store_assign NF RD CA) [] (varM 0) (consM (cbM maxPD (consM (opM subsD (varM 1) (cM (.int 1))) (consM (opM subsD (varM 2) (cM (.int 1))) nilM))) (consM (tupM (consM (cM (.str "ref")) (consM (cbM minPD (consM (opM subsD (varM 1) (cM (.int 1))) (consM (opM subsD (varM 2) (cM (.int 1))) nilM))) nilM))) nilM)))) (retM (cM (.bl true)))) passM) (seqM (asgM (ifM (testM (opM eqD (opM subsD (varM 1) (cM (.int 0))) (cM (.str "ref")))) (tupM (consM (varM 1) (consM (varM 2) nilM))) (tupM (consM (varM 2) (consM (varM 1) nilM)))) (tupG 2 (consG (nameG 3) (consG (nameG 4) nilG)))) (seqM (ifSM (tandM (testM (opM eqD (opM subsD (varM 4) (cM (.int 0))) (cM (.str "str")))) (truM (callM 4 (m_reaches NF RD CA) [.non] (consM (varM 0) (consM (opM subsD (varM 3) (cM (.int 1))) (consM (lstM (consM (varM 4) nilM)) nilM)))))) (retM (cM (.bl false))) passM) (seqM (exprM (methM (CA "Store") n_assign 3 (m_Store_assign NF RD CA) [] (varM 0) (consM (opM subsD (varM 3) (cM (.int 1))) (consM (varM 4) nilM)))) (retM (cM (.bl true)))))))) (xs := noX) g sc_bind_or_not fun f cdv A outer s H E hr => ?_
  exact ⟨_, (dssx_cons0 (dsx_if0 (dt_w (dw_and (dt_cmp so_eq (op_eqU (hu64 hr)) (de_sub (de_var 1) de_int (hu1 hr)) de_str) (dw_and1 (dt_cmp so_eq (op_eqU (hu64 hr)) (de_sub (de_var 2) de_int (hu1 hr)) de_str)))) (dssx_cons0 (DS.x (ds_expr (de_meth k_Store_assign e_assign hr (de_var 0) (da_cons (de_callB sc_maxP (call_maxP (hu64 hr)) z.«max» (da_cons (de_sub (de_var 1) de_int (hu1 hr)) (da_cons (de_sub (de_var 2) de_int (hu1 hr)) da_nil))) (da_cons (de_tup (da_cons de_str (da_cons (de_callB sc_minP (call_minP (hu64 hr)) z.«min» (da_cons (de_sub (de_var 1) de_int (hu1 hr)) (da_cons (de_sub (de_var 2) de_int (hu1 hr)) da_nil))) da_nil))) da_nil)) (by omega)))) (dssx_one (DS.x (ds_ret de_bl)))) dssx_nil) (dssx_cons0 (DS.x (ds_asg (de_if (dt_cmp so_eq (op_eqU (hu64 hr)) (de_sub (de_var 1) de_int (hu1 hr)) de_str) (de_tup (da_cons (de_var 1) (da_cons (de_var 2) da_nil))) (de_tup (da_cons (de_var 2) (da_cons (de_var 1) da_nil)))) (dg_tup (n := 2) (dgs_cons (dg_name 3 nd) (dgs_cons (dg_name 4 nd) dgs_nil))))) (dssx_cons0 (dsx_if0 (dt_w (dw_and (dt_cmp so_eq (op_eqU (hu64 hr)) (de_sub (de_var 4) de_int (hu1 hr)) de_str) (dw_and1 (dt_tru (de_call cd_reaches hr (da_cons (de_var 0) (da_cons (de_sub (de_var 3) de_int (hu1 hr)) (da_cons (de_lst (da_cons (de_var 4) da_nil)) da_nil))) (by omega)))))) (dssx_one (DS.x (ds_ret de_bl))) dssx_nil) (dssx_cons0 (DS.x (ds_expr (de_meth k_Store_assign e_assign hr (de_var 0) (da_cons (de_sub (de_var 3) de_int (hu1 hr)) (da_cons (de_var 4) da_nil)) (by omega)))) (dssx_one (DS.x (ds_ret de_bl)))))))⟩
theorem k_Store_follow {L : Nat} (g : GotM K (CA "Store") "follow" "Store.follow" s_Store_follow P_Store_follow) (z : Zs mg) (y : Ys ⟨K, w⟩ mg) (q : Qs K mg) (kk : Ks K CA) (k_Store_look : MthM P w K mg base L (CA "Store") "look" 2 (m_Store_look NF RD CA) noGX []) : MthM P w K mg base (L + 1) (CA "Store") "follow" 2 (m_Store_follow NF RD CA) noGX [] := by
  have nd := sc_Store_follow.nd
  refine GotM.cal (ps := P_Store_follow) (N := N_Store_follow) (ms := (seqM (whileM (C_Store_follow_0 NF RD CA) (B_Store_follow_1 NF RD CA) NF) (retM (varM 1)))) (xs := noX) g sc_Store_follow fun f cdv A outer s H E hr => ?_
  exact ⟨_, (dssx_cons0 (dsx_while0 NF (dt_cmp so_eq (op_eqU (hu64 hr)) (de_sub (de_var 1) de_int (hu1 hr)) de_str) (dssx_cons0 (DS.x (ds_set 2 (de_meth k_Store_look e_look hr (de_var 0) (da_cons (de_sub (de_var 1) de_int (hu1 hr)) da_nil) (by omega)) nd)) (dssx_cons0 (dsx_if0 (dt_cmp so_eq (op_eqU (hu64 hr)) (de_var 2) (de_var 1)) (dssx_one (DS.x (ds_ret (de_var 1)))) dssx_nil) (dssx_one (DS.x (ds_set 1 (de_var 2) nd)))))) (dssx_one (DS.x (ds_ret (de_var 1)))))⟩
theorem c_joined {L : Nat} (g : Got K mg "joined" s_joined P_joined) (z : Zs mg) (y : Ys ⟨K, w⟩ mg) (q : Qs K mg) (kk : Ks K CA) (k_Store_follow : MthM P w K mg base L (CA "Store") "follow" 2 (m_Store_follow NF RD CA) noGX []) (c_bind_or_not : CalM P w K mg base L "bind_or_not" 3 (m_bind_or_not NF RD CA) noGX []) (k_Store_look : MthM P w K mg base L (CA "Store") "look" 2 (m_Store_look NF RD CA) noGX []) : CalM P w K mg base (L + 1) "joined" 3 (m_joined NF RD CA) noGX [] := by
  have nd := sc_joined.nd
  refine Got.cal (ps := P_joined) (N := N_joined) (ms := (seqM (asgM (lstM (consM (tupM (consM (varM 1) (consM (varM 2) nilM))) nilM)) (nameG 3)) (seqM (asgM dnewNM (nameG 4)) (seqM (whileM (C_joined_1 NF RD CA) (B_joined_2 NF RD CA) NF) (retM (cM (.bl true))))))) (xs := noX) g sc_joined fun f cdv A outer s H E hr => ?_
  exact ⟨_, (dssx_cons0 (DS.x (ds_set 3 (de_lst (da_cons (de_tup (da_cons (de_var 1) (da_cons (de_var 2) da_nil))) da_nil)) nd)) (dssx_cons0 (DS.x (ds_set 4 de_dnewN nd)) (dssx_cons0 (dsx_while0 NF (dt_tru (de_var 3)) (dssx_cons0 (DS.x (ds_asg (de_bm0 sm_pop PySem.F.plainAttrs_list PySem.F.slot_list_pop PySem.F.type_list_pop mt_pop (de_var 3)) (dg_tup (n := 2) (dgs_cons (dg_name 1 nd) (dgs_cons (dg_name 2 nd) dgs_nil))))) (dssx_cons0 (DS.x (ds_par 1 2 (da_cons (de_meth k_Store_follow e_follow hr (de_var 0) (da_cons (de_var 1) da_nil) (by omega)) (da_cons (de_meth k_Store_follow e_follow hr (de_var 0) (da_cons (de_var 2) da_nil) (by omega)) da_nil)) nd)) (dssx_cons0 (dsx_if0 (dt_w (dw_or (dt_cmp so_eq (op_eqU (hu64 hr)) (de_var 1) (de_var 2)) (dw_or1 (dt_cmp (so_inN false) (op_inN (hu64 hr)) (de_tup (da_cons (de_var 1) (da_cons (de_var 2) da_nil))) (de_var 4))))) (dssx_one (DS.x ds_cont)) dssx_nil) (dssx_one (dsx_if0 (dt_w (dw_or (dt_cmp so_eq (op_eqU (hu64 hr)) (de_sub (de_var 1) de_int (hu1 hr)) de_str) (dw_or1 (dt_cmp so_eq (op_eqU (hu64 hr)) (de_sub (de_var 2) de_int (hu1 hr)) de_str)))) (dssx_one (dsx_if0 (dt_not (dt_tru (de_call c_bind_or_not hr (da_cons (de_var 0) (da_cons (de_var 1) (da_cons (de_var 2) da_nil))) (by omega)))) (dssx_one (DS.x (ds_ret de_bl))) dssx_nil)) (dssx_one (dsx_if0 (dt_w (dw_or (dt_cmp so_ne (op_neU (hu64 hr)) (de_sub (de_var 1) de_int (hu1 hr)) de_str) (dw_or (dt_cmp so_ne (op_neU (hu64 hr)) (de_sub (de_var 2) de_int (hu1 hr)) de_str) (dw_or1 (dt_cmp so_ne (op_neU (hu64 hr)) (de_meth k_Store_look e_look hr (de_var 0) (da_cons (de_sub (de_var 1) de_int (hu1 hr)) da_nil) (by omega)) (de_meth k_Store_look e_look hr (de_var 0) (da_cons (de_sub (de_var 2) de_int (hu1 hr)) da_nil) (by omega))))))) (dssx_one (DS.x (ds_ret de_bl))) (dssx_cons0 (DS.x (ds_putN (de_var 4) (de_tup (da_cons (de_var 1) (da_cons (de_var 2) da_nil))) de_bl (hu64 hr))) (dssx_cons0 (DS.x (ds_set 5 (de_sub (de_meth k_Store_look e_look hr (de_var 0) (da_cons (de_sub (de_var 1) de_int (hu1 hr)) da_nil) (by omega)) de_int (hu1 hr)) nd)) (dssx_cons0 (DS.x (ds_par 6 7 (da_cons (de_sub (de_sub (de_var 1) de_int (hu1 hr)) de_int (hu1 hr)) (da_cons (de_sub (de_sub (de_var 2) de_int (hu1 hr)) de_int (hu1 hr)) da_nil)) nd)) (dssx_one (dsx_for0 NF (di_range3 (da_cons (de_var 5) (da_cons de_int (da_cons (de_neg de_int) da_nil))) z.«range») (dg_name 8 nd) (dssx_one (DS.x (ds_expr (de_bm sm_append PySem.F.plainAttrs_list PySem.F.slot_list_append PySem.F.type_list_append mt_append (de_var 3) (da_cons (de_tup (da_cons (de_tup (da_cons de_str (da_cons (de_tup (da_cons de_str (da_cons (de_op so_add op_addU (de_var 6) (de_var 8)) da_nil))) da_nil))) (da_cons (de_tup (da_cons de_str (da_cons (de_tup (da_cons de_str (da_cons (de_op so_add op_addU (de_var 7) (de_var 8)) da_nil))) da_nil))) da_nil))) da_nil)))))))))))))))))) (dssx_one (DS.x (ds_ret de_bl))))))⟩
theorem c_simple {L : Nat} (g : Got K mg "simple" s_simple P_simple) (z : Zs mg) (y : Ys ⟨K, w⟩ mg) (q : Qs K mg) (kk : Ks K CA) (c_constant : CalM P w K mg base L "constant" 1 (m_constant NF RD CA) noGX []) : CalM P w K mg base (L + 1) "simple" 3 (m_simple NF RD CA) noGX [] := by
  have nd := sc_simple.nd
  refine Got.cal (ps := P_simple) (N := N_simple) (ms := (seqM (ifSM (tnotM (truM (cbM isiD (consM (varM 0) (consM (cM (.ty "tuple")) nilM))))) (retM (callM 1 (m_constant NF RD CA) [] (consM (varM 0) nilM))) passM) (retM (bmM "dict" setdD (varM 1) (consM (opM subsD (varM 0) (cM (.int 0))) (consM (varM 2) nilM)))))) (xs := noX) g sc_simple fun f cdv A outer s H E hr => ?_
  exact ⟨_, (dssx_cons0 (dsx_if0 (dt_not (dt_tru (de_callB sc_isi call_isiU z.«isinstance» (da_cons (de_var 0) (da_cons (de_ty z.«tuple») da_nil))))) (dssx_one (DS.x (ds_ret (de_call c_constant hr (da_cons (de_var 0) da_nil) (by omega))))) dssx_nil) (dssx_one (DS.x (ds_ret (de_bm sm_setd PySem.F.plainAttrs_dict PySem.F.slot_dict_setdefault PySem.F.type_dict_setdefault mt_setd (de_var 1) (da_cons (de_sub (de_var 0) de_int (hu1 hr)) (da_cons (de_var 2) da_nil)))))))⟩
theorem k_Store_new {L : Nat} (g : GotM K (CA "Store") "new" "Store.new" s_Store_new P_Store_new) (z : Zs mg) (y : Ys ⟨K, w⟩ mg) (q : Qs K mg) (kk : Ks K CA) : MthM P w K mg base (L + 1) (CA "Store") "new" 1 (m_Store_new NF RD CA) noGX [] := by
  have nd := sc_Store_new.nd
  refine GotM.cal (ps := P_Store_new) (N := N_Store_new) (ms := (seqM (asgM (tupM (consM (cM (.str "h")) (consM (cbM lenD (consM (fldM [CA "Store"] n_cells (varM 0)) nilM)) nilM))) (nameG 1)) (seqM (exprM (bmM "list" appendD (fldM [CA "Store"] n_cells (varM 0)) (consM (tupM (consM (cM (.str "ref")) (consM (varM 1) nilM))) nilM))) (retM (varM 1))))) (xs := noX) g sc_Store_new fun f cdv A outer s H E hr => ?_
  exact ⟨_, (dssx_cons0 (DS.x (ds_set 1 (de_tup (da_cons de_str (da_cons (de_callB sc_len call_lenU z.«len» (da_cons (de_fld kk.f_cells e_cells (de_var 0)) da_nil)) da_nil))) nd)) (dssx_cons0 (DS.x (ds_expr (de_bm sm_append PySem.F.plainAttrs_list PySem.F.slot_list_append PySem.F.type_list_append mt_append (de_fld kk.f_cells e_cells (de_var 0)) (da_cons (de_tup (da_cons de_str (da_cons (de_var 1) da_nil))) da_nil)))) (dssx_one (DS.x (ds_ret (de_var 1))))))⟩
theorem k_Store_size {L : Nat} (g : GotM K (CA "Store") "size" "Store.size" s_Store_size P_Store_size) (z : Zs mg) (y : Ys ⟨K, w⟩ mg) (q : Qs K mg) (kk : Ks K CA) : MthM P w K mg base (L + 1) (CA "Store") "size" 1 (m_Store_size NF RD CA) noGX [] := by
  have nd := sc_Store_size.nd
  refine GotM.cal (ps := P_Store_size) (N := N_Store_size) (ms := (retM (cbM lenD (consM (fldM [CA "Store"] n_cells (varM 0)) nilM)))) (xs := noX) g sc_Store_size fun f cdv A outer s H E hr => ?_
  exact ⟨_, (dssx_one (DS.x (ds_ret (de_callB sc_len call_lenU z.«len» (da_cons (de_fld kk.f_cells e_cells (de_var 0)) da_nil)))))⟩
theorem c_built {L : Nat} (g : Got K mg "built" s_built P_built) (z : Zs mg) (y : Ys ⟨K, w⟩ mg) (q : Qs K mg) (kk : Ks K CA) (c_simple : CalM P w K mg base L "simple" 3 (m_simple NF RD CA) noGX []) (k_Store_new : MthM P w K mg base L (CA "Store") "new" 1 (m_Store_new NF RD CA) noGX []) (k_Store_size : MthM P w K mg base L (CA "Store") "size" 1 (m_Store_size NF RD CA) noGX []) : CalM P w K mg base (L + 1) "built" 3 (m_built NF RD CA) noGX [] := by
  have nd := sc_built.nd
  refine Got.cal (ps := P_built) (N := N_built) (ms := (seqM (ifSM (tandM (truM (cbM isiD (consM (varM 1) (consM (cM (.ty "tuple")) nilM)))) (testM (opM gtD (cbM lenD (consM (varM 1) nilM)) (cM (.int 1))))) (seqM (asgM (lstM (consM (tupM (consM (cM .non) (consM (varM 1) nilM))) nilM)) (nameG 3)) (seqM (asgM (tupM (consM (cM (.str "str")) (consM (tupM (consM (cM (.str "h")) (consM (methM (CA "Store") n_size 1 (m_Store_size NF RD CA) [] (varM 0) nilM) nilM))) nilM))) (nameG 4)) (seqM (whileM (C_built_1 NF RD CA) (B_built_2 NF RD CA) NF) (retM (varM 4))))) passM) (seqM (ifSM (tandM (truM (cbM isiD (consM (varM 1) (consM (cM (.ty "tuple")) nilM)))) (testM (opM (inKD true) (opM subsD (varM 1) (cM (.int 0))) (varM 2)))) (setD (varM 2) (opM subsD (varM 1) (cM (.int 0))) (tupM (consM (cM (.str "ref")) (consM (methM (CA "Store") n_new 1 (m_Store_new NF RD CA) [] (varM 0) nilM) nilM)))) passM) (retM (callM 3 (m_simple NF RD CA) [] (consM (varM 1) (consM (varM 2) (consM (tupM (consM (cM (.str "none")) nilM)) nilM)))))))) (xs := noX) g sc_built fun f cdv A outer s H E hr => ?_
  exact ⟨_, (dssx_cons0 (dsx_if0 (dt_w (dw_and (dt_tru (de_callB sc_isi call_isiU z.«isinstance» (da_cons (de_var 1) (da_cons (de_ty z.«tuple») da_nil)))) (dw_and1 (dt_cmp so_gt op_gtU (de_callB sc_len call_lenU z.«len» (da_cons (de_var 1) da_nil)) de_int)))) (dssx_cons0 (DS.x (ds_set 3 (de_lst (da_cons (de_tup (da_cons de_non (da_cons (de_var 1) da_nil))) da_nil)) nd)) (dssx_cons0 (DS.x (ds_set 4 (de_tup (da_cons de_str (da_cons (de_tup (da_cons de_str (da_cons (de_meth0 k_Store_size e_size hr (de_var 0) (by omega)) da_nil))) da_nil))) nd)) (dssx_cons0 (dsx_while0 NF (dt_tru (de_var 3)) (dssx_cons0 (DS.x (ds_asg (de_bm sm_pop0 PySem.F.plainAttrs_list PySem.F.slot_list_pop PySem.F.type_list_pop mt_pop0 (de_var 3) (da_cons de_int da_nil)) (dg_tup (n := 2) (dgs_cons (dg_name 5 nd) (dgs_cons (dg_name 6 nd) dgs_nil))))) (dssx_cons0 (dsx_if0 (dt_cmp so_isnt op_isnt0 (de_var 5) de_non) (dssx_one (DS.x (ds_put (de_fld kk.f_cells e_cells (de_var 0)) (de_var 5) (de_tup (da_cons de_str (da_cons (de_tup (da_cons de_str (da_cons (de_meth0 k_Store_size e_size hr (de_var 0) (by omega)) da_nil))) da_nil))) (hu1 hr)))) dssx_nil) (dssx_cons0 (DS.x (ds_expr (de_bm sm_append PySem.F.plainAttrs_list PySem.F.slot_list_append PySem.F.type_list_append mt_append (de_fld kk.f_cells e_cells (de_var 0)) (da_cons (de_tup (da_cons de_str (da_cons (de_sub (de_var 6) de_int (hu1 hr)) (da_cons (de_op so_sub op_sub (de_callB sc_len call_lenU z.«len» (da_cons (de_var 6) da_nil)) de_int) da_nil)))) da_nil)))) (dssx_one (dsx_for0 NF (di_seq (de_slice (de_var 6) (do_some de_int) do_none)) (dg_name 7 nd) (dssx_cons0 (DS.x (ds_set 8 (de_meth0 k_Store_size e_size hr (de_var 0) (by omega)) nd)) (dssx_one (dsx_if0 (dt_w (dw_and (dt_tru (de_callB sc_isi call_isiU z.«isinstance» (da_cons (de_var 7) (da_cons (de_ty z.«tuple») da_nil)))) (dw_and1 (dt_cmp so_gt op_gtU (de_callB sc_len call_lenU z.«len» (da_cons (de_var 7) da_nil)) de_int)))) (dssx_cons0 (DS.x (ds_expr (de_bm sm_append PySem.F.plainAttrs_list PySem.F.slot_list_append PySem.F.type_list_append mt_append (de_var 3) (da_cons (de_tup (da_cons (de_var 8) (da_cons (de_var 7) da_nil))) da_nil)))) (dssx_one (DS.x (ds_expr (de_bm sm_append PySem.F.plainAttrs_list PySem.F.slot_list_append PySem.F.type_list_append mt_append (de_fld kk.f_cells e_cells (de_var 0)) (da_cons (de_tup (da_cons de_str da_nil)) da_nil)))))) (dssx_one (DS.x (ds_expr (de_bm sm_append PySem.F.plainAttrs_list PySem.F.slot_list_append PySem.F.type_list_append mt_append (de_fld kk.f_cells e_cells (de_var 0)) (da_cons (de_call c_simple hr (da_cons (de_var 7) (da_cons (de_var 2) (da_cons (de_tup (da_cons de_str (da_cons (de_tup (da_cons de_str (da_cons (de_var 8) da_nil))) da_nil))) da_nil))) (by omega)) da_nil)))))))))))))) (dssx_one (DS.x (ds_ret (de_var 4))))))) dssx_nil) (dssx_cons0 (dsx_if0 (dt_w (dw_and (dt_tru (de_callB sc_isi call_isiU z.«isinstance» (da_cons (de_var 1) (da_cons (de_ty z.«tuple») da_nil)))) (dw_and1 (dt_cmp (so_inK true) (op_niK (hu64 hr)) (de_sub (de_var 1) de_int (hu1 hr)) (de_var 2))))) (dssx_one (DS.x (ds_put (de_var 2) (de_sub (de_var 1) de_int (hu1 hr)) (de_tup (da_cons de_str (da_cons (de_meth0 k_Store_new e_new hr (de_var 0) (by omega)) da_nil))) (hu1 hr)))) dssx_nil) (dssx_one (DS.x (ds_ret (de_call c_simple hr (da_cons (de_var 1) (da_cons (de_var 2) (da_cons (de_tup (da_cons de_str da_nil)) da_nil))) (by omega)))))))⟩
theorem i_Store {L : Nat} (g : GotI K mg "Store" (CA "Store") "Store.__init__" s_Store___init__ P_Store___init__) (z : Zs mg) (y : Ys ⟨K, w⟩ mg) (q : Qs K mg) (kk : Ks K CA) : MakM P w K mg base (L + 1) "Store" (CA "Store") 1 (m_Store___init__ NF RD CA) noGX [] := by
  have nd := sc_Store___init__.nd
  refine GotI.cal (ps := P_Store___init__) (N := N_Store___init__) (ms := (seqM (setFldM [CA "Store"] n_cells (varM 0) (lstM nilM)) (seqM (setFldM [CA "Store"] n_slots (varM 0) dnewM) (seqM (setFldM [CA "Store"] n_noted (varM 0) (lstM nilM)) (setFldM [CA "Store"] n_low (varM 0) (tupM (consM (cM (.int 0)) (consM (cM (.int 0)) nilM)))))))) (xs := noX) g sc_Store___init__ fun f cdv A outer s H E hr => ?_
  exact ⟨_, (dssx_cons0 (DS.x (ds_fld kk.f_cells e_cells (de_var 0) (de_lst da_nil))) (dssx_cons0 (DS.x (ds_fld kk.f_slots e_slots (de_var 0) de_dnew)) (dssx_cons0 (DS.x (ds_fld kk.f_noted e_noted (de_var 0) (de_lst da_nil))) (dssx_one (DS.x (ds_fld kk.f_low e_low (de_var 0) (de_tup (da_cons de_int (da_cons de_int da_nil)))))))))⟩
theorem k_Store_is_there {L : Nat} (g : GotM K (CA "Store") "is_there" "Store.is_there" s_Store_is_there P_Store_is_there) (z : Zs mg) (y : Ys ⟨K, w⟩ mg) (q : Qs K mg) (kk : Ks K CA) (c_is_address : CalM P w K mg base L "is_address" 1 (m_is_address NF RD CA) noGX []) : MthM P w K mg base (L + 1) (CA "Store") "is_there" 2 (m_Store_is_there NF RD CA) noGX [] := by
  have nd := sc_Store_is_there.nd
  refine GotM.cal (ps := P_Store_is_there) (N := N_Store_is_there) (ms := (seqM (ifSM (tnotM (truM (callM 1 (m_is_address NF RD CA) [] (consM (varM 1) nilM)))) (retM (cM (.bl false))) passM) (retM (ifM (testM (opM eqD (opM subsD (varM 1) (cM (.int 0))) (cM (.str "h")))) (opM ltD (opM subsD (varM 1) (cM (.int 1))) (cbM lenD (consM (fldM [CA "Store"] n_cells (varM 0)) nilM))) (opM (inKD false) (opM subsD (varM 1) (cM (.int 1))) (fldM [CA "Store"] n_slots (varM 0))))))) (xs := noX) g sc_Store_is_there fun f cdv A outer s H E hr => ?_
  exact ⟨_, (dssx_cons0 (dsx_if0 (dt_not (dt_tru (de_call c_is_address hr (da_cons (de_var 1) da_nil) (by omega)))) (dssx_one (DS.x (ds_ret de_bl))) dssx_nil) (dssx_one (DS.x (ds_ret (de_if (dt_cmp so_eq (op_eqU (hu64 hr)) (de_sub (de_var 1) de_int (hu1 hr)) de_str) (de_cmp so_lt op_ltU (de_sub (de_var 1) de_int (hu1 hr)) (de_callB sc_len call_lenU z.«len» (da_cons (de_fld kk.f_cells e_cells (de_var 0)) da_nil))) (de_cmp (so_inK false) (op_inK (hu64 hr)) (de_sub (de_var 1) de_int (hu1 hr)) (de_fld kk.f_slots e_slots (de_var 0))))))))⟩
theorem k_Store_check_there {L : Nat} (g : GotM K (CA "Store") "check_there" "Store.check_there" s_Store_check_there P_Store_check_there) (z : Zs mg) (y : Ys ⟨K, w⟩ mg) (q : Qs K mg) (kk : Ks K CA) (k_Store_is_there : MthM P w K mg base (L + 2) (CA "Store") "is_there" 2 (m_Store_is_there NF RD CA) noGX []) : MthM P w K mg base ((L + 2) + 1) (CA "Store") "check_there" 2 (m_Store_check_there NF RD CA) noGX [] := by
  have nd := sc_Store_check_there.nd
  refine GotM.cal (ps := P_Store_check_there) (N := N_Store_check_there) (ms := (ifSM (tnotM (truM (methM (CA "Store") n_is_there 2 (m_Store_is_there NF RD CA) [] (varM 0) (consM (varM 1) nilM)))) neverM passM)) (xs := noX) g sc_Store_check_there fun f cdv A outer s H E hr => ?_
  exact ⟨_, (DSsX.no (dssx_one (dsx_if (dt_not (dt_tru (de_meth k_Store_is_there e_is_there hr (de_var 0) (da_cons (de_var 1) da_nil) (by omega)))) (dssx_one (dsx_raise q.t_BadAddress hr (da_cons (de_var 1) da_nil))) dssx_nil)))⟩
theorem k_Store_heap {L : Nat} (g : GotM K (CA "Store") "heap" "Store.heap" s_Store_heap P_Store_heap) (z : Zs mg) (y : Ys ⟨K, w⟩ mg) (q : Qs K mg) (kk : Ks K CA) : MthM P w K mg base (L + 1) (CA "Store") "heap" 1 (m_Store_heap NF RD CA) noGX [] := by
  have nd := sc_Store_heap.nd
  refine GotM.cal (ps := P_Store_heap) (N := N_Store_heap) (ms := (retM (cbM listD (consM (fldM [CA "Store"] n_cells (varM 0)) nilM)))) (xs := noX) g sc_Store_heap fun f cdv A outer s H E hr => ?_
  exact ⟨_, (dssx_one (DS.x (ds_ret (de_callTy sc_list call_listU z.«list» (da_cons (de_fld kk.f_cells e_cells (de_var 0)) da_nil)))))⟩
theorem k_Store_at {L : Nat} (g : GotM K (CA "Store") "at" "Store.at" s_Store_at P_Store_at) (z : Zs mg) (y : Ys ⟨K, w⟩ mg) (q : Qs K mg) (kk : Ks K CA) (k_Store_check_there : MthM P w K mg base L (CA "Store") "check_there" 2 (m_Store_check_there NF RD CA) noGX []) (k_Store_look : MthM P w K mg base L (CA "Store") "look" 2 (m_Store_look NF RD CA) noGX []) : MthM P w K mg base (L + 1) (CA "Store") "at" 2 (m_Store_at NF RD CA) noGX [] := by
  have nd := sc_Store_at.nd
  refine GotM.cal (ps := P_Store_at) (N := N_Store_at) (ms := (seqM (exprM (methM (CA "Store") n_check_there 2 (m_Store_check_there NF RD CA) [] (varM 0) (consM (varM 1) nilM))) (retM (methM (CA "Store") n_look 2 (m_Store_look NF RD CA) [] (varM 0) (consM (varM 1) nilM))))) (xs := noX) g sc_Store_at fun f cdv A outer s H E hr => ?_
  exact ⟨_, (dssx_cons0 (DS.x (ds_expr (de_meth k_Store_check_there e_check_there hr (de_var 0) (da_cons (de_var 1) da_nil) (by omega)))) (dssx_one (DS.x (ds_ret (de_meth k_Store_look e_look hr (de_var 0) (da_cons (de_var 1) da_nil) (by omega))))))⟩
theorem k_Store_end {L : Nat} (g : GotM K (CA "Store") "end" "Store.end" s_Store_end P_Store_end) (z : Zs mg) (y : Ys ⟨K, w⟩ mg) (q : Qs K mg) (kk : Ks K CA) (c_check_cell : CalM P w K mg base L "check_cell" 1 (m_check_cell NF RD CA) noGX []) (k_Store_follow : MthM P w K mg base L (CA "Store") "follow" 2 (m_Store_follow NF RD CA) noGX []) : MthM P w K mg base (L + 1) (CA "Store") "end" 2 (m_Store_end NF RD CA) noGX [] := by
  have nd := sc_Store_end.nd
  refine GotM.cal (ps := P_Store_end) (N := N_Store_end) (ms := (seqM (exprM (callM 1 (m_check_cell NF RD CA) [] (consM (varM 1) nilM))) (retM (methM (CA "Store") n_follow 2 (m_Store_follow NF RD CA) [] (varM 0) (consM (varM 1) nilM))))) (xs := noX) g sc_Store_end fun f cdv A outer s H E hr => ?_
  exact ⟨_, (dssx_cons0 (DS.x (ds_expr (de_call c_check_cell hr (da_cons (de_var 1) da_nil) (by omega)))) (dssx_one (DS.x (ds_ret (de_meth k_Store_follow e_follow hr (de_var 0) (da_cons (de_var 1) da_nil) (by omega))))))⟩
theorem k_Store_fill {L : Nat} (g : GotM K (CA "Store") "fill" "Store.fill" s_Store_fill P_Store_fill) (z : Zs mg) (y : Ys ⟨K, w⟩ mg) (q : Qs K mg) (kk : Ks K CA) (c_check_cell : CalM P w K mg base (L + 2) "check_cell" 1 (m_check_cell NF RD CA) noGX []) (c_is_place : CalM P w K mg base (L + 2) "is_place" 1 (m_is_place NF RD CA) noGX []) : MthM P w K mg base ((L + 2) + 1) (CA "Store") "fill" 3 (m_Store_fill NF RD CA) noGX [] := by
  have nd := sc_Store_fill.nd
  refine GotM.cal (ps := P_Store_fill) (N := N_Store_fill) (ms := (seqM (ifSM (tnotM (truM (callM 1 (m_is_place NF RD CA) [] (consM (varM 1) nilM)))) neverM passM) (seqM (exprM (callM 1 (m_check_cell NF RD CA) [] (consM (varM 2) nilM))) (setD (fldM [CA "Store"] n_slots (varM 0)) (varM 1) (varM 2))))) (xs := noX) g sc_Store_fill fun f cdv A outer s H E hr => ?_
  exact ⟨_, (DSsX.no (dssx_cons (dsx_if (dt_not (dt_tru (de_call c_is_place hr (da_cons (de_var 1) da_nil) (by omega)))) (dssx_one (dsx_raise q.t_BadValue hr (da_cons de_str da_nil))) dssx_nil) (dssx_cons0 (DS.x (ds_expr (de_call c_check_cell hr (da_cons (de_var 2) da_nil) (by omega)))) (dssx_one (DS.x (ds_put (de_fld kk.f_slots e_slots (de_var 0)) (de_var 1) (de_var 2) (hu1 hr)))))))⟩
theorem k_Store_free {L : Nat} (g : GotM K (CA "Store") "free" "Store.free" s_Store_free P_Store_free) (z : Zs mg) (y : Ys ⟨K, w⟩ mg) (q : Qs K mg) (kk : Ks K CA) (c_is_place : CalM P w K mg base (L + 2) "is_place" 1 (m_is_place NF RD CA) noGX []) : MthM P w K mg base ((L + 2) + 1) (CA "Store") "free" 2 (m_Store_free NF RD CA) noGX [] := by
  have nd := sc_Store_free.nd
  refine GotM.cal (ps := P_Store_free) (N := N_Store_free) (ms := (seqM (ifSM (tnotM (truM (callM 1 (m_is_place NF RD CA) [] (consM (varM 1) nilM)))) neverM passM) (setD (fldM [CA "Store"] n_slots (varM 0)) (varM 1) (tupM (consM (cM (.str "ref")) (consM (tupM (consM (cM (.str "s")) (consM (varM 1) nilM))) nilM)))))) (xs := noX) g sc_Store_free fun f cdv A outer s H E hr => ?_
  exact ⟨_, (DSsX.no (dssx_cons (dsx_if (dt_not (dt_tru (de_call c_is_place hr (da_cons (de_var 1) da_nil) (by omega)))) (dssx_one (dsx_raise q.t_BadValue hr (da_cons de_str da_nil))) dssx_nil) (dssx_one (DS.x (ds_put (de_fld kk.f_slots e_slots (de_var 0)) (de_var 1) (de_tup (da_cons de_str (da_cons (de_tup (da_cons de_str (da_cons (de_var 1) da_nil))) da_nil))) (hu1 hr))))))⟩
theorem k_Store_marks {L : Nat} (g : GotM K (CA "Store") "marks" "Store.marks" s_Store_marks P_Store_marks) (z : Zs mg) (y : Ys ⟨K, w⟩ mg) (q : Qs K mg) (kk : Ks K CA) (c_is_place : CalM P w K mg base (L + 2) "is_place" 1 (m_is_place NF RD CA) noGX []) : MthM P w K mg base ((L + 2) + 1) (CA "Store") "marks" 3 (m_Store_marks NF RD CA) noGX [] := by
  have nd := sc_Store_marks.nd
  refine GotM.cal (ps := P_Store_marks) (N := N_Store_marks) (ms := (seqM (ifSM (torM (tnotM (truM (callM 1 (m_is_place NF RD CA) [] (consM (varM 1) nilM)))) (tnotM (truM (callM 1 (m_is_place NF RD CA) [] (consM (varM 2) nilM))))) neverM passM) (setFldM [CA "Store"] n_low (varM 0) (tupM (consM (varM 1) (consM (varM 2) nilM)))))) (xs := noX) g sc_Store_marks fun f cdv A outer s H E hr => ?_
  exact ⟨_, (DSsX.no (dssx_cons (dsx_if (dt_w (dw_or (dt_not (dt_tru (de_call c_is_place hr (da_cons (de_var 1) da_nil) (by omega)))) (dw_or1 (dt_not (dt_tru (de_call c_is_place hr (da_cons (de_var 2) da_nil) (by omega))))))) (dssx_one (dsx_raise q.t_BadValue hr (da_cons de_str da_nil))) dssx_nil) (dssx_one (DS.x (ds_fld kk.f_low e_low (de_var 0) (de_tup (da_cons (de_var 1) (da_cons (de_var 2) da_nil))))))))⟩
theorem k_Store_trail {L : Nat} (g : GotM K (CA "Store") "trail" "Store.trail" s_Store_trail P_Store_trail) (z : Zs mg) (y : Ys ⟨K, w⟩ mg) (q : Qs K mg) (kk : Ks K CA) : MthM P w K mg base (L + 1) (CA "Store") "trail" 1 (m_Store_trail NF RD CA) noGX [] := by
  have nd := sc_Store_trail.nd
  refine GotM.cal (ps := P_Store_trail) (N := N_Store_trail) (ms := (retM (cbM listD (consM (fldM [CA "Store"] n_noted (varM 0)) nilM)))) (xs := noX) g sc_Store_trail fun f cdv A outer s H E hr => ?_
  exact ⟨_, (dssx_one (DS.x (ds_ret (de_callTy sc_list call_listU z.«list» (da_cons (de_fld kk.f_noted e_noted (de_var 0)) da_nil)))))⟩
theorem k_Store_bind {L : Nat} (g : GotM K (CA "Store") "bind" "Store.bind" s_Store_bind P_Store_bind) (z : Zs mg) (y : Ys ⟨K, w⟩ mg) (q : Qs K mg) (kk : Ks K CA) (k_Store_check_there : MthM P w K mg base (L + 2) (CA "Store") "check_there" 2 (m_Store_check_there NF RD CA) noGX []) (c_check_cell : CalM P w K mg base (L + 2) "check_cell" 1 (m_check_cell NF RD CA) noGX []) (k_Store_assign : MthM P w K mg base (L + 2) (CA "Store") "assign" 3 (m_Store_assign NF RD CA) noGX []) (k_Store_look : MthM P w K mg base (L + 2) (CA "Store") "look" 2 (m_Store_look NF RD CA) noGX []) : MthM P w K mg base ((L + 2) + 1) (CA "Store") "bind" 3 (m_Store_bind NF RD CA) noGX [] := by
  have nd := sc_Store_bind.nd
  refine GotM.cal (ps := P_Store_bind) (N := N_Store_bind) (ms := (seqM (exprM (methM (CA "Store") n_check_there 2 (m_Store_check_there NF RD CA) [] (varM 0) (consM (varM 1) nilM))) (seqM (ifSM (testM (opM neD (methM (CA "Store") n_look 2 (m_Store_look NF RD CA) [] (varM 0) (consM (varM 1) nilM)) (tupM (consM (cM (.str "ref")) (consM (varM 1) nilM))))) neverM passM) (seqM (exprM (callM 1 (m_check_cell NF RD CA) [] (consM (varM 2) nilM))) (exprM (methM (CA "Store") n_assign 3 (m_Store_assign NF RD CA) [] (varM 0) (consM (varM 1) (consM (varM 2) nilM)))))))) (xs := noX) g sc_Store_bind fun f cdv A outer s H E hr => ?_
  exact ⟨_, (DSsX.no (dssx_cons (DS.x (ds_expr (de_meth k_Store_check_there e_check_there hr (de_var 0) (da_cons (de_var 1) da_nil) (by omega)))) (dssx_cons (dsx_if (dt_cmp so_ne (op_neU (hu64 hr)) (de_meth k_Store_look e_look hr (de_var 0) (da_cons (de_var 1) da_nil) (by omega)) (de_tup (da_cons de_str (da_cons (de_var 1) da_nil)))) (dssx_one (dsx_raise q.t_BadAddress hr (da_cons (de_var 1) da_nil))) dssx_nil) (dssx_cons0 (DS.x (ds_expr (de_call c_check_cell hr (da_cons (de_var 2) da_nil) (by omega)))) (dssx_one (DS.x (ds_expr (de_meth k_Store_assign e_assign hr (de_var 0) (da_cons (de_var 1) (da_cons (de_var 2) da_nil)) (by omega)))))))))⟩
theorem k_Store_undo {L : Nat} (g : GotM K (CA "Store") "undo" "Store.undo" s_Store_undo P_Store_undo) (z : Zs mg) (y : Ys ⟨K, w⟩ mg) (q : Qs K mg) (kk : Ks K CA) (k_Store_write_at : MthM P w K mg base (L + 2) (CA "Store") "write_at" 3 (m_Store_write_at NF RD CA) noGX []) (c_is_place : CalM P w K mg base (L + 2) "is_place" 1 (m_is_place NF RD CA) noGX []) : MthM P w K mg base ((L + 2) + 1) (CA "Store") "undo" 3 (m_Store_undo NF RD CA) noGX [] := by
  have nd := sc_Store_undo.nd
  refine GotM.cal (ps := P_Store_undo) (N := N_Store_undo) (ms := (seqM (ifSM (torM (tnotM (truM (callM 1 (m_is_place NF RD CA) [] (consM (varM 1) nilM)))) (testM (opM gtD (varM 1) (cbM lenD (consM (fldM [CA "Store"] n_noted (varM 0)) nilM))))) neverM passM) (seqM (ifSM (torM (tnotM (truM (callM 1 (m_is_place NF RD CA) [] (consM (varM 2) nilM)))) (testM (opM gtD (varM 2) (cbM lenD (consM (fldM [CA "Store"] n_cells (varM 0)) nilM))))) neverM passM) (seqM (whileM (C_Store_undo_0 NF RD CA) (B_Store_undo_1 NF RD CA) NF) (delSM (fldM [CA "Store"] n_cells (varM 0)) (varM 2)))))) (xs := noX) g sc_Store_undo fun f cdv A outer s H E hr => ?_
  exact ⟨_, (DSsX.no (dssx_cons (dsx_if (dt_w (dw_or (dt_not (dt_tru (de_call c_is_place hr (da_cons (de_var 1) da_nil) (by omega)))) (dw_or1 (dt_cmp so_gt op_gtU (de_var 1) (de_callB sc_len call_lenU z.«len» (da_cons (de_fld kk.f_noted e_noted (de_var 0)) da_nil)))))) (dssx_one (dsx_raise q.t_BadValue hr (da_cons de_str da_nil))) dssx_nil) (dssx_cons (dsx_if (dt_w (dw_or (dt_not (dt_tru (de_call c_is_place hr (da_cons (de_var 2) da_nil) (by omega)))) (dw_or1 (dt_cmp so_gt op_gtU (de_var 2) (de_callB sc_len call_lenU z.«len» (da_cons (de_fld kk.f_cells e_cells (de_var 0)) da_nil)))))) (dssx_one (dsx_raise q.t_BadValue hr (da_cons de_str da_nil))) dssx_nil) (dssx_cons0 (dsx_while0 NF (dt_cmp so_gt op_gtU (de_callB sc_len call_lenU z.«len» (da_cons (de_fld kk.f_noted e_noted (de_var 0)) da_nil)) (de_var 1)) (dssx_cons0 (DS.x (ds_set 3 (de_bm0 sm_pop PySem.F.plainAttrs_list PySem.F.slot_list_pop PySem.F.type_list_pop mt_pop (de_fld kk.f_noted e_noted (de_var 0))) nd)) (dssx_one (DS.x (ds_expr (de_meth k_Store_write_at e_write_at hr (de_var 0) (da_cons (de_var 3) (da_cons (de_tup (da_cons de_str (da_cons (de_var 3) da_nil))) da_nil)) (by omega))))))) (dssx_one (DS.x (ds_delS (de_fld kk.f_cells e_cells (de_var 0)) (de_var 2))))))))⟩
theorem k_Store_build {L : Nat} (g : GotM K (CA "Store") "build" "Store.build" s_Store_build P_Store_build) (z : Zs mg) (y : Ys ⟨K, w⟩ mg) (q : Qs K mg) (kk : Ks K CA) (c_built : CalM P w K mg base (L + 2) "built" 3 (m_built NF RD CA) noGX []) (c_is_term : CalM P w K mg base (L + 2) "is_term" 1 (m_is_term NF RD CA) noGX []) : MthM P w K mg base ((L + 2) + 1) (CA "Store") "build" 3 (m_Store_build NF RD CA) noGX [] := by
  have nd := sc_Store_build.nd
  refine GotM.cal (ps := P_Store_build) (N := N_Store_build) (ms := (seqM (ifSM (tnotM (truM (callM 1 (m_is_term NF RD CA) [] (consM (varM 1) nilM)))) neverM passM) (seqM (ifSM (tnotM (truM (cbM isiD (consM (varM 2) (consM (cM (.ty "dict")) nilM))))) neverM passM) (retM (callM 3 (m_built NF RD CA) [] (consM (varM 0) (consM (varM 1) (consM (varM 2) nilM)))))))) (xs := noX) g sc_Store_build fun f cdv A outer s H E hr => ?_
  exact ⟨_, (DSsX.no (dssx_cons (dsx_if (dt_not (dt_tru (de_call c_is_term hr (da_cons (de_var 1) da_nil) (by omega)))) (dssx_one (dsx_raise q.t_BadTerm hr (da_cons (de_var 1) da_nil))) dssx_nil) (dssx_cons (dsx_if (dt_not (dt_tru (de_callB sc_isi call_isiU z.«isinstance» (da_cons (de_var 2) (da_cons (de_ty z.«dict») da_nil))))) (dssx_one (dsx_raise q.t_BadValue hr (da_cons de_str da_nil))) dssx_nil) (dssx_one (DS.x (ds_ret (de_call c_built hr (da_cons (de_var 0) (da_cons (de_var 1) (da_cons (de_var 2) da_nil))) (by omega))))))))⟩
theorem k_Store_join {L : Nat} (g : GotM K (CA "Store") "join" "Store.join" s_Store_join P_Store_join) (z : Zs mg) (y : Ys ⟨K, w⟩ mg) (q : Qs K mg) (kk : Ks K CA) (c_check_cell : CalM P w K mg base L "check_cell" 1 (m_check_cell NF RD CA) noGX []) (c_joined : CalM P w K mg base L "joined" 3 (m_joined NF RD CA) noGX []) : MthM P w K mg base (L + 1) (CA "Store") "join" 3 (m_Store_join NF RD CA) noGX [] := by
  have nd := sc_Store_join.nd
  refine GotM.cal (ps := P_Store_join) (N := N_Store_join) (ms := (seqM (exprM (callM 1 (m_check_cell NF RD CA) [] (consM (varM 1) nilM))) (seqM (exprM (callM 1 (m_check_cell NF RD CA) [] (consM (varM 2) nilM))) (retM (callM 3 (m_joined NF RD CA) [] (consM (varM 0) (consM (varM 1) (consM (varM 2) nilM)))))))) (xs := noX) g sc_Store_join fun f cdv A outer s H E hr => ?_
  exact ⟨_, (dssx_cons0 (DS.x (ds_expr (de_call c_check_cell hr (da_cons (de_var 1) da_nil) (by omega)))) (dssx_cons0 (DS.x (ds_expr (de_call c_check_cell hr (da_cons (de_var 2) da_nil) (by omega)))) (dssx_one (DS.x (ds_ret (de_call c_joined hr (da_cons (de_var 0) (da_cons (de_var 1) (da_cons (de_var 2) da_nil))) (by omega)))))))⟩
theorem c__law_cell_at {L : Nat} (g : Got K mg "_law_cell_at" s__law_cell_at P__law_cell_at) (z : Zs mg) (y : Ys ⟨K, w⟩ mg) (q : Qs K mg) (kk : Ks K CA) : CalM P w K mg base (L + 1) "_law_cell_at" 2 (m__law_cell_at NF RD CA) noGX [] := by
  have nd := sc__law_cell_at.nd
  refine Got.cal (ps := P__law_cell_at) (N := N__law_cell_at) (ms := (seqM (ifSM (testM (opM ltD (varM 1) (cbM lenD (consM (varM 0) nilM)))) (retM (opM subsD (varM 0) (varM 1))) passM) (retM (cM (.int 0))))) (xs := noX) g sc__law_cell_at fun f cdv A outer s H E hr => ?_
  exact ⟨_, (dssx_cons0 (dsx_if0 (dt_cmp so_lt op_ltU (de_var 1) (de_callB sc_len call_lenU z.«len» (da_cons (de_var 0) da_nil))) (dssx_one (DS.x (ds_ret (de_sub (de_var 0) (de_var 1) (hu1 hr))))) dssx_nil) (dssx_one (DS.x (ds_ret de_int))))⟩
theorem c__law_well {L : Nat} (g : Got K mg "_law_well" s__law_well P__law_well) (z : Zs mg) (y : Ys ⟨K, w⟩ mg) (q : Qs K mg) (kk : Ks K CA) : CalM P w K mg base (L + 1) "_law_well" 1 (m__law_well NF RD CA) noGX [] := by
  have nd := sc__law_well.nd
  refine Got.cal (ps := P__law_well) (N := N__law_well) (ms := (retM (lstM (consM (opM subsD (lstM (consM (cM (.int 0)) (consM (varM 0) nilM))) (cbM intD (consM (opM geD (varM 0) (opM powD (cM (.int 10)) (cM (.int 18)))) nilM))) (consM (varM 0) (consM (cM (.int 0)) nilM)))))) (xs := noX) g sc__law_well fun f cdv A outer s H E hr => ?_
  exact ⟨_, (dssx_one (DS.x (ds_ret (de_lst (da_cons (de_sub (de_lst (da_cons de_int (da_cons (de_var 0) da_nil))) (de_callTy sc_int call_int1 z.«int» (da_cons (de_cmp so_ge op_geU (de_var 0) (de_op so_pow op_powW de_int de_int)) da_nil)) (hu1 hr)) (da_cons (de_var 0) (da_cons de_int da_nil)))))))⟩
theorem c__law_draw {L : Nat} (g : Got K mg "_law_draw" s__law_draw P__law_draw) (z : Zs mg) (y : Ys ⟨K, w⟩ mg) (q : Qs K mg) (kk : Ks K CA) : CalM P w K mg base (L + 1) "_law_draw" 2 (m__law_draw NF RD CA) noGX [] := by
  have nd := sc__law_draw.nd
  refine Got.cal (ps := P__law_draw) (N := N__law_draw) (ms := (seqM (ifSM (testM (opM gtD (opM subsD (varM 0) (cM (.int 0))) (cM (.int 0)))) (seqM (asgM (opM modZD (cbM intD (consM (opM subsD (varM 0) (cM (.int 0))) nilM)) (varM 1)) (nameG 2)) (seqM (setD (varM 0) (cM (.int 0)) (opM fdivZD (opM subsD (varM 0) (cM (.int 0))) (varM 1))) (retM (varM 2)))) passM) (seqM (setD (varM 0) (cM (.int 2)) (opM addD (opM subsD (varM 0) (cM (.int 2))) (cM (.int 1)))) (seqM (asgM (opM modD (cbM intD (consM (opM fdivD (opM subsD (varM 0) (cM (.int 1))) (cM (.int 2147483629))) nilM)) (cM (.int 65521))) (nameG 3)) (seqM (asgM (opM addD (opM addD (opM addD (opM modD (cbM intD (consM (opM subsD (varM 0) (cM (.int 1))) nilM)) (cM (.int 2147483629))) (opM mulD (cM (.int 7919)) (opM subsD (varM 0) (cM (.int 2))))) (varM 3)) (cM (.int 1))) (nameG 4)) (seqM (asgM (opM modD (cbM intD (consM (opM powD (varM 4) (cM (.int 5))) nilM)) (cM (.int 2147483647))) (nameG 5)) (seqM (asgM (opM modD (cbM intD (consM (opM mulD (varM 5) (opM addD (opM addD (opM fdivD (varM 5) (cM (.int 1009))) (cM (.int 69621))) (opM subsD (varM 0) (cM (.int 2))))) nilM)) (cM (.int 2147483629))) (nameG 5)) (retM (opM modZD (cbM intD (consM (opM modD (cbM intD (consM (opM mulD (varM 5) (opM addD (opM fdivD (varM 5) (cM (.int 2003))) (cM (.int 40692)))) nilM)) (cM (.int 2147483399))) nilM)) (varM 1)))))))))) (xs := noX) g sc__law_draw fun f cdv A outer s H E hr => ?_
  exact ⟨_, (dssx_cons0 (dsx_if0 (dt_cmp so_gt op_gtU (de_sub (de_var 0) de_int (hu1 hr)) de_int) (dssx_cons0 (DS.x (ds_set 2 (de_op so_modZ op_modN (de_callTy sc_int call_int1 z.«int» (da_cons (de_sub (de_var 0) de_int (hu1 hr)) da_nil)) (de_var 1)) nd)) (dssx_cons0 (DS.x (ds_put (de_var 0) de_int (de_op so_fdivZ op_fdivZ (de_sub (de_var 0) de_int (hu1 hr)) (de_var 1)) (hu1 hr))) (dssx_one (DS.x (ds_ret (de_var 2)))))) dssx_nil) (dssx_cons0 (DS.x (ds_put (de_var 0) de_int (de_op so_add op_addU (de_sub (de_var 0) de_int (hu1 hr)) de_int) (hu1 hr))) (dssx_cons0 (DS.x (ds_set 3 (de_op so_mod op_mod (de_callTy sc_int call_int1 z.«int» (da_cons (de_op so_fdiv op_fdivW (de_sub (de_var 0) de_int (hu1 hr)) de_int) da_nil)) de_int) nd)) (dssx_cons0 (DS.x (ds_set 4 (de_op so_add op_addU (de_op so_add op_addU (de_op so_add op_addU (de_op so_mod op_mod (de_callTy sc_int call_int1 z.«int» (da_cons (de_sub (de_var 0) de_int (hu1 hr)) da_nil)) de_int) (de_op so_mul op_mulU de_int (de_sub (de_var 0) de_int (hu1 hr)))) (de_var 3)) de_int) nd)) (dssx_cons0 (DS.x (ds_set 5 (de_op so_mod op_mod (de_callTy sc_int call_int1 z.«int» (da_cons (de_op so_pow op_powW (de_var 4) de_int) da_nil)) de_int) nd)) (dssx_cons0 (DS.x (ds_set 5 (de_op so_mod op_mod (de_callTy sc_int call_int1 z.«int» (da_cons (de_op so_mul op_mulU (de_var 5) (de_op so_add op_addU (de_op so_add op_addU (de_op so_fdiv op_fdivW (de_var 5) de_int) de_int) (de_sub (de_var 0) de_int (hu1 hr)))) da_nil)) de_int) nd)) (dssx_one (DS.x (ds_ret (de_op so_modZ op_modN (de_callTy sc_int call_int1 z.«int» (da_cons (de_op so_mod op_mod (de_callTy sc_int call_int1 z.«int» (da_cons (de_op so_mul op_mulU (de_var 5) (de_op so_add op_addU (de_op so_fdiv op_fdivW (de_var 5) de_int) de_int)) da_nil)) de_int) da_nil)) (de_var 1)))))))))))⟩
theorem c__law_one {L : Nat} (g : Got K mg "_law_one" s__law_one P__law_one) (z : Zs mg) (y : Ys ⟨K, w⟩ mg) (q : Qs K mg) (kk : Ks K CA) (c__law_draw : CalM P w K mg base L "_law_draw" 2 (m__law_draw NF RD CA) noGX []) : CalM P w K mg base (L + 1) "_law_one" 2 (m__law_one NF RD CA) noGX [] := by
  have nd := sc__law_one.nd
  refine Got.cal (ps := P__law_one) (N := N__law_one) (ms := (retM (opM subsD (varM 1) (callM 2 (m__law_draw NF RD CA) [] (consM (varM 0) (consM (cbM lenD (consM (varM 1) nilM)) nilM)))))) (xs := noX) g sc__law_one fun f cdv A outer s H E hr => ?_
  exact ⟨_, (dssx_one (DS.x (ds_ret (de_sub (de_var 1) (de_call c__law_draw hr (da_cons (de_var 0) (da_cons (de_callB sc_len call_lenU z.«len» (da_cons (de_var 1) da_nil)) da_nil)) (by omega)) (hu1 hr)))))⟩
theorem c__law_term {L : Nat} (g : Got K mg "_law_term" s__law_term P__law_term) (z : Zs mg) (y : Ys ⟨K, w⟩ mg) (q : Qs K mg) (kk : Ks K CA) (c__law_draw : CalM P w K mg base L "_law_draw" 2 (m__law_draw NF RD CA) noGX []) (c__law_one : CalM P w K mg base L "_law_one" 2 (m__law_one NF RD CA) noGX []) : ∀ k : Nat, CalM P w K mg base (L + k) "_law_term" 3 (m__law_term NF RD CA k) noGX []
  | 0 => g.none
  | k + 1 => by
    have ih := c__law_term (L := L) g z y q kk c__law_draw c__law_one k
    have nd := sc__law_term.nd
    refine Got.cal (k := L + k) (ps := P__law_term) (N := N__law_term) (ms := (seqM (asgM (callM 2 (m__law_draw NF RD CA) [] (consM (varM 0) (consM (cM (.int 6)) nilM))) (nameG 3)) (seqM (ifSM (tandM (testM (opM ltD (varM 3) (cM (.int 2)))) (testM (opM gtD (varM 2) (cM (.int 0))))) (retM (tupM (consM (callM 2 (m__law_draw NF RD CA) [] (consM (varM 0) (consM (varM 2) nilM))) nilM))) passM) (seqM (ifSM (torM (testM (opM eqD (varM 3) (cM (.int 2)))) (tandM (testM (opM leD (varM 1) (cM (.int 1)))) (testM (opM eqD (varM 3) (cM (.int 3)))))) (retM (callM 2 (m__law_one NF RD CA) [] (consM (varM 0) (consM (lstM (consM (cM (.int 0)) (consM (cM (.int 1)) (consM (negM (cM (.int 1))) (consM (opM powD (cM (.int 10)) (cM (.int 20))) nilM))))) nilM)))) passM) (seqM (ifSM (torM (testM (opM leD (varM 1) (cM (.int 1)))) (testM (opM eqD (varM 3) (cM (.int 3))))) (retM (callM 2 (m__law_one NF RD CA) [] (consM (varM 0) (consM (lstM (consM (cM (.str "a")) (consM (cM (.str "b")) (consM (cM (.str "[]")) (consM (cM (.str "")) nilM))))) nilM)))) passM) (seqM (asgM (callM 2 (m__law_one NF RD CA) [] (consM (varM 0) (consM (lstM (consM (tupM (consM (cM (.str "f")) (consM (cM (.int 1)) nilM))) (consM (tupM (consM (cM (.str "g")) (consM (cM (.int 2)) nilM))) (consM (tupM (consM (cM (.str "g")) (consM (cM (.int 2)) nilM))) (consM (tupM (consM (cM (.str ".")) (consM (cM (.int 2)) nilM))) (consM (tupM (consM (cM (.str "f")) (consM (cM (.int 3)) nilM))) (consM (tupM (consM (cM (.str "f")) (consM (cM (.int 3)) nilM))) nilM))))))) nilM))) (uplG 2 (consG (nameG 4) (consG (nameG 5) nilG)))) (seqM (ifSM (tandM (testM (opM eqD (varM 1) (cM (.int 4)))) (testM (opM eqD (callM 2 (m__law_draw NF RD CA) [] (consM (varM 0) (consM (cM (.int 3)) nilM))) (cM (.int 0))))) (retM (opM addD (tupM (consM (cM (.str "h")) nilM)) (cbM tuplD (consM (lcM (rngI (consM (opM addD (cM (.int 4)) (callM 2 (m__law_draw NF RD CA) [] (consM (varM 0) (consM (cM (.int 5)) nilM)))) nilM)) (nameG 6) yesM (E__law_term_1 NF RD CA (m__law_term NF RD CA k)) [6] NF) nilM)))) passM) (retM (opM addD (tupM (consM (varM 4) nilM)) (cbM tuplD (consM (lcM (rngI (consM (varM 5) nilM)) (nameG 6) yesM (E__law_term_0 NF RD CA (m__law_term NF RD CA k)) [6] NF) nilM))))))))))) (xs := noX) g sc__law_term fun f cdv A outer s H E hr => ?_
    exact ⟨_, (dssx_cons0 (DS.x (ds_set 3 (de_call c__law_draw hr (da_cons (de_var 0) (da_cons de_int da_nil)) (by omega)) nd)) (dssx_cons0 (dsx_if0 (dt_w (dw_and (dt_cmp so_lt op_ltU (de_var 3) de_int) (dw_and1 (dt_cmp so_gt op_gtU (de_var 2) de_int)))) (dssx_one (DS.x (ds_ret (de_tup (da_cons (de_call c__law_draw hr (da_cons (de_var 0) (da_cons (de_var 2) da_nil)) (by omega)) da_nil))))) dssx_nil) (dssx_cons0 (dsx_if0 (dt_w (dw_or (dt_cmp so_eq (op_eqU (hu64 hr)) (de_var 3) de_int) (dw_or1 (dt_w (dw_and (dt_cmp so_le op_leU (de_var 1) de_int) (dw_and1 (dt_cmp so_eq (op_eqU (hu64 hr)) (de_var 3) de_int))))))) (dssx_one (DS.x (ds_ret (de_call c__law_one hr (da_cons (de_var 0) (da_cons (de_lst (da_cons de_int (da_cons de_int (da_cons (de_neg de_int) (da_cons (de_op so_pow op_powW de_int de_int) da_nil))))) da_nil)) (by omega))))) dssx_nil) (dssx_cons0 (dsx_if0 (dt_w (dw_or (dt_cmp so_le op_leU (de_var 1) de_int) (dw_or1 (dt_cmp so_eq (op_eqU (hu64 hr)) (de_var 3) de_int)))) (dssx_one (DS.x (ds_ret (de_call c__law_one hr (da_cons (de_var 0) (da_cons (de_lst (da_cons de_str (da_cons de_str (da_cons de_str (da_cons de_str da_nil))))) da_nil)) (by omega))))) dssx_nil) (dssx_cons0 (DS.x (ds_asg (de_call c__law_one hr (da_cons (de_var 0) (da_cons (de_lst (da_cons (de_tup (da_cons de_str (da_cons de_int da_nil))) (da_cons (de_tup (da_cons de_str (da_cons de_int da_nil))) (da_cons (de_tup (da_cons de_str (da_cons de_int da_nil))) (da_cons (de_tup (da_cons de_str (da_cons de_int da_nil))) (da_cons (de_tup (da_cons de_str (da_cons de_int da_nil))) (da_cons (de_tup (da_cons de_str (da_cons de_int da_nil))) da_nil))))))) da_nil)) (by omega)) (dg_upl (n := 2) (dgs_cons (dg_name 4 nd) (dgs_cons (dg_name 5 nd) dgs_nil))))) (dssx_cons0 (dsx_if0 (dt_w (dw_and (dt_cmp so_eq (op_eqU (hu64 hr)) (de_var 1) de_int) (dw_and1 (dt_cmp so_eq (op_eqU (hu64 hr)) (de_call c__law_draw hr (da_cons (de_var 0) (da_cons de_int da_nil)) (by omega)) de_int)))) (dssx_one (DS.x (ds_ret (de_op so_add op_addU (de_tup (da_cons de_str da_nil)) (de_callTy sc_tupl call_tuplU z.«tuple» (da_cons (de_lc (own := [("k", 6)]) NF nd (di_range1 (da_cons (de_op so_add op_addU de_int (de_call c__law_draw hr (da_cons (de_var 0) (da_cons de_int da_nil)) (by omega))) da_nil) z.«range») (blkOk_by (N := N__law_term) (sc := (defScope s__law_term)) (by decide +kernel)) (only_name (by decide)) (fun _ _ _ _ _ => (dg_name 6 nd)) (fun _ _ _ _ _ => dts_nil) (fun _ _ _ _ _ => (de_call ih hr (da_cons (de_var 0) (da_cons de_int (da_cons (de_var 2) da_nil))) (Nat.le_refl _)))) da_nil)))))) dssx_nil) (dssx_one (DS.x (ds_ret (de_op so_add op_addU (de_tup (da_cons (de_var 4) da_nil)) (de_callTy sc_tupl call_tuplU z.«tuple» (da_cons (de_lc (own := [("k", 6)]) NF nd (di_range1 (da_cons (de_var 5) da_nil) z.«range») (blkOk_by (N := N__law_term) (sc := (defScope s__law_term)) (by decide +kernel)) (only_name (by decide)) (fun _ _ _ _ _ => (dg_name 6 nd)) (fun _ _ _ _ _ => dts_nil) (fun _ _ _ _ _ => (de_call ih hr (da_cons (de_var 0) (da_cons (de_op so_sub op_sub (de_var 1) de_int) (da_cons (de_var 2) da_nil))) (Nat.le_refl _)))) da_nil))))))))))))⟩
theorem c__law_slots {L : Nat} (g : Got K mg "_law_slots" s__law_slots P__law_slots) (z : Zs mg) (y : Ys ⟨K, w⟩ mg) (q : Qs K mg) (kk : Ks K CA) (k_Store_at : MthM P w K mg base L (CA "Store") "at" 2 (m_Store_at NF RD CA) noGX []) : CalM P w K mg base (L + 1) "_law_slots" 2 (m__law_slots NF RD CA) noGX [] := by
  have nd := sc__law_slots.nd
  refine Got.cal (ps := P__law_slots) (N := N__law_slots) (ms := (retM (lcM (rngI (consM (varM 1) nilM)) (nameG 2) yesM (E__law_slots_0 NF RD CA) [2] NF))) (xs := noX) g sc__law_slots fun f cdv A outer s H E hr => ?_
  exact ⟨_, (dssx_one (DS.x (ds_ret (de_lc (own := [("k", 2)]) NF nd (di_range1 (da_cons (de_var 1) da_nil) z.«range») (blkOk_by (N := N__law_slots) (sc := (defScope s__law_slots)) (by decide +kernel)) (only_name (by decide)) (fun _ _ _ _ _ => (dg_name 2 nd)) (fun _ _ _ _ _ => dts_nil) (fun _ _ _ _ _ => (de_meth k_Store_at e_at hr (de_var 0) (da_cons (de_tup (da_cons de_str (da_cons (de_var 2) da_nil))) da_nil) (by omega)))))))⟩
theorem c__law_work {L : Nat} (g : Got K mg "_law_work" s__law_work P__law_work) (z : Zs mg) (y : Ys ⟨K, w⟩ mg) (q : Qs K mg) (kk : Ks K CA) (c__law_draw : CalM P w K mg base L "_law_draw" 2 (m__law_draw NF RD CA) noGX []) (k_Store_free : MthM P w K mg base L (CA "Store") "free" 2 (m_Store_free NF RD CA) noGX []) (k_Store_join : MthM P w K mg base L (CA "Store") "join" 3 (m_Store_join NF RD CA) noGX []) (k_Store_new : MthM P w K mg base L (CA "Store") "new" 1 (m_Store_new NF RD CA) noGX []) (k_Store_build : MthM P w K mg base L (CA "Store") "build" 3 (m_Store_build NF RD CA) noGX []) (c__law_term : CalM P w K mg base L "_law_term" 3 (m__law_term NF RD CA RD) noGX []) : CalM P w K mg base (L + 1) "_law_work" 4 (m__law_work NF RD CA) noGX [] := by
  have nd := sc__law_work.nd
  refine Got.cal (ps := P__law_work) (N := N__law_work) (ms := (seqM (forSM (rngI (consM (opM addD (cM (.int 1)) (callM 2 (m__law_draw NF RD CA) [] (consM (varM 0) (consM (cM (.int 5)) nilM)))) nilM)) (nameG 4) (B__law_work_1 NF RD CA) NF) (retM (varM 3)))) (xs := noX) g sc__law_work fun f cdv A outer s H E hr => ?_
  exact ⟨_, (dssx_cons0 (dsx_for0 NF (di_range1 (da_cons (de_op so_add op_addU de_int (de_call c__law_draw hr (da_cons (de_var 0) (da_cons de_int da_nil)) (by omega))) da_nil) z.«range») (dg_name 4 nd) (dssx_cons0 (DS.x (ds_set 5 (de_call c__law_draw hr (da_cons (de_var 0) (da_cons de_int da_nil)) (by omega)) nd)) (dssx_one (dsx_if0 (dt_cmp so_eq (op_eqU (hu64 hr)) (de_var 5) de_int) (dssx_cons0 (DS.x (ds_expr (de_meth k_Store_free e_free hr (de_var 1) (da_cons (de_var 3) da_nil) (by omega)))) (dssx_one (DS.x (ds_set 3 (de_op so_add op_addU (de_var 3) de_int) nd)))) (dssx_one (dsx_if0 (dt_cmp so_eq (op_eqU (hu64 hr)) (de_var 5) de_int) (dssx_one (DS.x (ds_put (de_var 2) (de_callB sc_len call_lenU z.«len» (da_cons (de_var 2) da_nil)) (de_tup (da_cons de_str (da_cons (de_meth0 k_Store_new e_new hr (de_var 1) (by omega)) da_nil))) (hu1 hr)))) (dssx_cons0 (DS.x (ds_setLc (own := [("k", 7)]) 6 NF nd (di_range1 (da_cons de_int da_nil) z.«range») (blkOk_by (N := N__law_work) (sc := (defScope s__law_work)) (by decide +kernel)) (only_name (by decide)) (fun _ _ _ _ _ => (dg_name 7 nd)) (fun _ _ _ _ _ => dts_nil) (fun _ _ _ _ _ => (de_meth k_Store_build e_build hr (de_var 1) (da_cons (de_call c__law_term hr (da_cons (de_var 0) (da_cons de_int (da_cons (de_callB sc_len call_lenU z.«len» (da_cons (de_var 2) da_nil)) da_nil))) (by omega)) (da_cons (de_var 2) da_nil)) (by omega))) (by decide +kernel))) (dssx_cons0 (dsx_if0 (dt_w (dw_and (dt_cmp so_gt op_gtU (de_var 3) de_int) (dw_and1 (dt_cmp so_eq (op_eqU (hu64 hr)) (de_var 5) de_int)))) (dssx_one (DS.x (ds_put (de_var 6) de_int (de_tup (da_cons de_str (da_cons (de_tup (da_cons de_str (da_cons (de_call c__law_draw hr (da_cons (de_var 0) (da_cons (de_var 3) da_nil)) (by omega)) da_nil))) da_nil))) (hu1 hr)))) dssx_nil) (dssx_one (DS.x (ds_expr (de_meth k_Store_join e_join hr (de_var 1) (da_cons (de_sub (de_var 6) de_int (hu1 hr)) (da_cons (de_sub (de_var 6) de_int (hu1 hr)) da_nil)) (by omega))))))))))))) (dssx_one (DS.x (ds_ret (de_var 3)))))⟩
theorem c__law_unnoted_right {L : Nat} (g : Got K mg "_law_unnoted_right" s__law_unnoted_right P__law_unnoted_right) (z : Zs mg) (y : Ys ⟨K, w⟩ mg) (q : Qs K mg) (kk : Ks K CA) (i_Store : MakM P w K mg base L "Store" (CA "Store") 1 (m_Store___init__ NF RD CA) noGX []) (k_Store_marks : MthM P w K mg base (L + 1) (CA "Store") "marks" 3 (m_Store_marks NF RD CA) noGX []) (k_Store_free : MthM P w K mg base (L + 1) (CA "Store") "free" 2 (m_Store_free NF RD CA) noGX []) (k_Store_fill : MthM P w K mg base (L + 1) (CA "Store") "fill" 3 (m_Store_fill NF RD CA) noGX []) (k_Store_bind : MthM P w K mg base (L + 1) (CA "Store") "bind" 3 (m_Store_bind NF RD CA) noGX []) (k_Store_undo : MthM P w K mg base (L + 1) (CA "Store") "undo" 3 (m_Store_undo NF RD CA) noGX []) (k_Store_new : MthM P w K mg base (L + 1) (CA "Store") "new" 1 (m_Store_new NF RD CA) noGX []) (k_Store_trail : MthM P w K mg base (L + 1) (CA "Store") "trail" 1 (m_Store_trail NF RD CA) noGX []) (k_Store_heap : MthM P w K mg base (L + 1) (CA "Store") "heap" 1 (m_Store_heap NF RD CA) noGX []) (k_Store_at : MthM P w K mg base (L + 1) (CA "Store") "at" 2 (m_Store_at NF RD CA) noGX []) : CalM P w K mg base ((L + 1) + 1) "_law_unnoted_right" 0 (m__law_unnoted_right NF RD CA) noGX [] := by
  have nd := sc__law_unnoted_right.nd
  refine Got.cal (ps := P__law_unnoted_right) (N := N__law_unnoted_right) (ms := (seqM (asgM (makeM (CA "Store") 1 (m_Store___init__ NF RD CA) [] nilM) (nameG 0)) (seqM (parM 1 2 (consM (methM (CA "Store") n_new 1 (m_Store_new NF RD CA) [] (varM 0) nilM) (consM (methM (CA "Store") n_new 1 (m_Store_new NF RD CA) [] (varM 0) nilM) nilM))) (seqM (exprM (methM (CA "Store") n_marks 3 (m_Store_marks NF RD CA) [] (varM 0) (consM (cM (.int 9)) (consM (cM (.int 9)) nilM)))) (seqM (exprM (methM (CA "Store") n_free 2 (m_Store_free NF RD CA) [] (varM 0) (consM (cM (.int 3)) nilM))) (seqM (exprM (methM (CA "Store") n_fill 3 (m_Store_fill NF RD CA) [] (varM 0) (consM (cM (.int 3)) (consM (tupM (consM (cM (.str "con")) (consM (cM (.str "a")) nilM))) nilM)))) (seqM (exprM (methM (CA "Store") n_free 2 (m_Store_free NF RD CA) [] (varM 0) (consM (cM (.int 3)) nilM))) (seqM (ifSM (testM (opM neD (methM (CA "Store") n_trail 1 (m_Store_trail NF RD CA) [] (varM 0) nilM) (lstM nilM))) (retM (cM (.bl false))) passM) (seqM (exprM (methM (CA "Store") n_bind 3 (m_Store_bind NF RD CA) [] (varM 0) (consM (tupM (consM (cM (.str "s")) (consM (cM (.int 3)) nilM))) (consM (tupM (consM (cM (.str "ref")) (consM (varM 1) nilM))) nilM)))) (seqM (exprM (methM (CA "Store") n_bind 3 (m_Store_bind NF RD CA) [] (varM 0) (consM (varM 1) (consM (tupM (consM (cM (.str "con")) (consM (cM (.str "b")) nilM))) nilM)))) (seqM (ifSM (testM (opM neD (methM (CA "Store") n_trail 1 (m_Store_trail NF RD CA) [] (varM 0) nilM) (lstM (consM (tupM (consM (cM (.str "s")) (consM (cM (.int 3)) nilM))) (consM (varM 1) nilM))))) (retM (cM (.bl false))) passM) (seqM (exprM (methM (CA "Store") n_undo 3 (m_Store_undo NF RD CA) [] (varM 0) (consM (cM (.int 2)) (consM (cM (.int 1)) nilM)))) (seqM (ifSM (torM (testM (opM neD (methM (CA "Store") n_heap 1 (m_Store_heap NF RD CA) [] (varM 0) nilM) (lstM (consM (tupM (consM (cM (.str "con")) (consM (cM (.str "b")) nilM))) nilM)))) (testM (opM neD (methM (CA "Store") n_trail 1 (m_Store_trail NF RD CA) [] (varM 0) nilM) (lstM (consM (tupM (consM (cM (.str "s")) (consM (cM (.int 3)) nilM))) (consM (varM 1) nilM)))))) (retM (cM (.bl false))) passM) (seqM (exprM (methM (CA "Store") n_undo 3 (m_Store_undo NF RD CA) [] (varM 0) (consM (cM (.int 1)) (consM (cM (.int 1)) nilM)))) (seqM (ifSM (torM (testM (opM neD (methM (CA "Store") n_heap 1 (m_Store_heap NF RD CA) [] (varM 0) nilM) (lstM (consM (tupM (consM (cM (.str "ref")) (consM (varM 1) nilM))) nilM)))) (torM (testM (opM neD (methM (CA "Store") n_trail 1 (m_Store_trail NF RD CA) [] (varM 0) nilM) (lstM (consM (tupM (consM (cM (.str "s")) (consM (cM (.int 3)) nilM))) nilM)))) (testM (opM neD (methM (CA "Store") n_at 2 (m_Store_at NF RD CA) [] (varM 0) (consM (tupM (consM (cM (.str "s")) (consM (cM (.int 3)) nilM))) nilM)) (tupM (consM (cM (.str "ref")) (consM (varM 1) nilM))))))) (retM (cM (.bl false))) passM) (seqM (exprM (bmM "list" appendD (methM (CA "Store") n_heap 1 (m_Store_heap NF RD CA) [] (varM 0) nilM) (consM (tupM (consM (cM (.str "con")) (consM (cM (.str "x")) nilM))) nilM))) (seqM (exprM (bmM "list" appendD (methM (CA "Store") n_trail 1 (m_Store_trail NF RD CA) [] (varM 0) nilM) (consM (varM 1) nilM))) (seqM (ifSM (torM (testM (opM neD (methM (CA "Store") n_heap 1 (m_Store_heap NF RD CA) [] (varM 0) nilM) (lstM (consM (tupM (consM (cM (.str "ref")) (consM (varM 1) nilM))) nilM)))) (testM (opM neD (methM (CA "Store") n_trail 1 (m_Store_trail NF RD CA) [] (varM 0) nilM) (lstM (consM (tupM (consM (cM (.str "s")) (consM (cM (.int 3)) nilM))) nilM))))) (retM (cM (.bl false))) passM) (seqM (exprM (methM (CA "Store") n_bind 3 (m_Store_bind NF RD CA) [] (varM 0) (consM (varM 1) (consM (tupM (consM (cM (.str "int")) (consM (cM (.int 5)) nilM))) nilM)))) (seqM (exprM (methM (CA "Store") n_undo 3 (m_Store_undo NF RD CA) [] (varM 0) (consM (cM (.int 0)) (consM (cM (.int 0)) nilM)))) (retM (andM (opM eqD (methM (CA "Store") n_heap 1 (m_Store_heap NF RD CA) [] (varM 0) nilM) (lstM nilM)) (andM (opM eqD (methM (CA "Store") n_trail 1 (m_Store_trail NF RD CA) [] (varM 0) nilM) (lstM nilM)) (opM eqD (methM (CA "Store") n_at 2 (m_Store_at NF RD CA) [] (varM 0) (consM (tupM (consM (cM (.str "s")) (consM (cM (.int 3)) nilM))) nilM)) (tupM (consM (cM (.str "ref")) (consM (tupM (consM (cM (.str "s")) (consM (cM (.int 3)) nilM))) nilM))))))))))))))))))))))))))) (xs := noX) g sc__law_unnoted_right fun f cdv A outer s H E hr => ?_
  exact ⟨_, (dssx_cons0 (DS.x (ds_set 0 (de_make0 i_Store hr (by omega)) nd)) (dssx_cons0 (DS.x (ds_par 1 2 (da_cons (de_meth0 k_Store_new e_new hr (de_var 0) (by omega)) (da_cons (de_meth0 k_Store_new e_new hr (de_var 0) (by omega)) da_nil)) nd)) (dssx_cons0 (DS.x (ds_expr (de_meth k_Store_marks e_marks hr (de_var 0) (da_cons de_int (da_cons de_int da_nil)) (by omega)))) (dssx_cons0 (DS.x (ds_expr (de_meth k_Store_free e_free hr (de_var 0) (da_cons de_int da_nil) (by omega)))) (dssx_cons0 (DS.x (ds_expr (de_meth k_Store_fill e_fill hr (de_var 0) (da_cons de_int (da_cons (de_tup (da_cons de_str (da_cons de_str da_nil))) da_nil)) (by omega)))) (dssx_cons0 (DS.x (ds_expr (de_meth k_Store_free e_free hr (de_var 0) (da_cons de_int da_nil) (by omega)))) (dssx_cons0 (dsx_if0 (dt_cmp so_ne (op_neU (hu64 hr)) (de_meth0 k_Store_trail e_trail hr (de_var 0) (by omega)) (de_lst da_nil)) (dssx_one (DS.x (ds_ret de_bl))) dssx_nil) (dssx_cons0 (DS.x (ds_expr (de_meth k_Store_bind e_bind hr (de_var 0) (da_cons (de_tup (da_cons de_str (da_cons de_int da_nil))) (da_cons (de_tup (da_cons de_str (da_cons (de_var 1) da_nil))) da_nil)) (by omega)))) (dssx_cons0 (DS.x (ds_expr (de_meth k_Store_bind e_bind hr (de_var 0) (da_cons (de_var 1) (da_cons (de_tup (da_cons de_str (da_cons de_str da_nil))) da_nil)) (by omega)))) (dssx_cons0 (dsx_if0 (dt_cmp so_ne (op_neU (hu64 hr)) (de_meth0 k_Store_trail e_trail hr (de_var 0) (by omega)) (de_lst (da_cons (de_tup (da_cons de_str (da_cons de_int da_nil))) (da_cons (de_var 1) da_nil)))) (dssx_one (DS.x (ds_ret de_bl))) dssx_nil) (dssx_cons0 (DS.x (ds_expr (de_meth k_Store_undo e_undo hr (de_var 0) (da_cons de_int (da_cons de_int da_nil)) (by omega)))) (dssx_cons0 (dsx_if0 (dt_w (dw_or (dt_cmp so_ne (op_neU (hu64 hr)) (de_meth0 k_Store_heap e_heap hr (de_var 0) (by omega)) (de_lst (da_cons (de_tup (da_cons de_str (da_cons de_str da_nil))) da_nil))) (dw_or1 (dt_cmp so_ne (op_neU (hu64 hr)) (de_meth0 k_Store_trail e_trail hr (de_var 0) (by omega)) (de_lst (da_cons (de_tup (da_cons de_str (da_cons de_int da_nil))) (da_cons (de_var 1) da_nil))))))) (dssx_one (DS.x (ds_ret de_bl))) dssx_nil) (dssx_cons0 (DS.x (ds_expr (de_meth k_Store_undo e_undo hr (de_var 0) (da_cons de_int (da_cons de_int da_nil)) (by omega)))) (dssx_cons0 (dsx_if0 (dt_w (dw_or (dt_cmp so_ne (op_neU (hu64 hr)) (de_meth0 k_Store_heap e_heap hr (de_var 0) (by omega)) (de_lst (da_cons (de_tup (da_cons de_str (da_cons (de_var 1) da_nil))) da_nil))) (dw_or (dt_cmp so_ne (op_neU (hu64 hr)) (de_meth0 k_Store_trail e_trail hr (de_var 0) (by omega)) (de_lst (da_cons (de_tup (da_cons de_str (da_cons de_int da_nil))) da_nil))) (dw_or1 (dt_cmp so_ne (op_neU (hu64 hr)) (de_meth k_Store_at e_at hr (de_var 0) (da_cons (de_tup (da_cons de_str (da_cons de_int da_nil))) da_nil) (by omega)) (de_tup (da_cons de_str (da_cons (de_var 1) da_nil)))))))) (dssx_one (DS.x (ds_ret de_bl))) dssx_nil) (dssx_cons0 (DS.x (ds_expr (de_bm sm_append PySem.F.plainAttrs_list PySem.F.slot_list_append PySem.F.type_list_append mt_append (de_meth0 k_Store_heap e_heap hr (de_var 0) (by omega)) (da_cons (de_tup (da_cons de_str (da_cons de_str da_nil))) da_nil)))) (dssx_cons0 (DS.x (ds_expr (de_bm sm_append PySem.F.plainAttrs_list PySem.F.slot_list_append PySem.F.type_list_append mt_append (de_meth0 k_Store_trail e_trail hr (de_var 0) (by omega)) (da_cons (de_var 1) da_nil)))) (dssx_cons0 (dsx_if0 (dt_w (dw_or (dt_cmp so_ne (op_neU (hu64 hr)) (de_meth0 k_Store_heap e_heap hr (de_var 0) (by omega)) (de_lst (da_cons (de_tup (da_cons de_str (da_cons (de_var 1) da_nil))) da_nil))) (dw_or1 (dt_cmp so_ne (op_neU (hu64 hr)) (de_meth0 k_Store_trail e_trail hr (de_var 0) (by omega)) (de_lst (da_cons (de_tup (da_cons de_str (da_cons de_int da_nil))) da_nil)))))) (dssx_one (DS.x (ds_ret de_bl))) dssx_nil) (dssx_cons0 (DS.x (ds_expr (de_meth k_Store_bind e_bind hr (de_var 0) (da_cons (de_var 1) (da_cons (de_tup (da_cons de_str (da_cons de_int da_nil))) da_nil)) (by omega)))) (dssx_cons0 (DS.x (ds_expr (de_meth k_Store_undo e_undo hr (de_var 0) (da_cons de_int (da_cons de_int da_nil)) (by omega)))) (dssx_one (DS.x (ds_ret (de_and (de_cmp so_eq (op_eqU (hu64 hr)) (de_meth0 k_Store_heap e_heap hr (de_var 0) (by omega)) (de_lst da_nil)) (de_and (de_cmp so_eq (op_eqU (hu64 hr)) (de_meth0 k_Store_trail e_trail hr (de_var 0) (by omega)) (de_lst da_nil)) (de_one (de_cmp so_eq (op_eqU (hu64 hr)) (de_meth k_Store_at e_at hr (de_var 0) (da_cons (de_tup (da_cons de_str (da_cons de_int da_nil))) da_nil) (by omega)) (de_tup (da_cons de_str (da_cons (de_tup (da_cons de_str (da_cons de_int da_nil))) da_nil)))))))))))))))))))))))))))))⟩
theorem ok_law {L : Nat} {f : Addr} {fd : FuncData} (F : Fun K "law" "law" s_law f fd) (z : Zs mg) (y : Ys ⟨K, w⟩ mg) (q : Qs K mg) (kk : Ks K CA) (c__law_unnoted_right : CalM P w K mg base (L + 1) "_law_unnoted_right" 0 (m__law_unnoted_right NF RD CA) noGX []) (c__law_well : CalM P w K mg base (L + 1) "_law_well" 1 (m__law_well NF RD CA) noGX []) (c__law_work : CalM P w K mg base (L + 1) "_law_work" 4 (m__law_work NF RD CA) noGX []) (c__law_cell_at : CalM P w K mg base (L + 1) "_law_cell_at" 2 (m__law_cell_at NF RD CA) noGX []) (i_Store : MakM P w K mg base L "Store" (CA "Store") 1 (m_Store___init__ NF RD CA) noGX []) (k_Store_marks : MthM P w K mg base (L + 1) (CA "Store") "marks" 3 (m_Store_marks NF RD CA) noGX []) (k_Store_undo : MthM P w K mg base (L + 1) (CA "Store") "undo" 3 (m_Store_undo NF RD CA) noGX []) (k_Store_size : MthM P w K mg base (L + 1) (CA "Store") "size" 1 (m_Store_size NF RD CA) noGX []) (k_Store_heap : MthM P w K mg base (L + 1) (CA "Store") "heap" 1 (m_Store_heap NF RD CA) noGX []) (c__law_slots : CalM P w K mg base (L + 1) "_law_slots" 2 (m__law_slots NF RD CA) noGX []) (k_Store_trail : MthM P w K mg base (L + 1) (CA "Store") "trail" 1 (m_Store_trail NF RD CA) noGX []) (k_Store_new : MthM P w K mg base (L + 1) (CA "Store") "new" 1 (m_Store_new NF RD CA) noGX []) : FnG P w K mg base (L2.CX P w) ((L + 1) + 1) f fd ["script"] (spX ⟨K, w⟩ mg 1 (m_law NF RD CA) noGX) := by
  have nd := sc_law.nd
  refine fn_M (ps := P_law) (N := N_law) (ms := (seqM (ifSM (tnotM (truM (callM 0 (m__law_unnoted_right NF RD CA) [] nilM))) (retM (cM (.bl false))) passM) (seqM (forSM (seqI (opM addD (lstM (consM (callM 2 (m__law_cell_at NF RD CA) [] (consM (varM 0) (consM (cM (.int 0)) nilM))) nilM)) (slM (varM 0) (partM (cM (.int 1))) (partM (cM (.int 4)))))) (nameG 1) (B_law_2 NF RD CA) NF) (retM (cM (.bl true)))))) (xs := noX) F sc_law fun cdv A outer s H E hr => ?_
  exact ⟨_, (dssx_cons0 (dsx_if0 (dt_not (dt_tru (de_call0 c__law_unnoted_right hr (by omega)))) (dssx_one (DS.x (ds_ret de_bl))) dssx_nil) (dssx_cons0 (dsx_for0 NF (di_seq (de_op so_add op_addU (de_lst (da_cons (de_call c__law_cell_at hr (da_cons (de_var 0) (da_cons de_int da_nil)) (by omega)) da_nil)) (de_slice (de_var 0) (do_some de_int) (do_some de_int)))) (dg_name 1 nd) (dssx_cons0 (DS.x (ds_set 2 (de_call c__law_well hr (da_cons (de_var 1) da_nil) (by omega)) nd)) (dssx_cons0 (DS.x (ds_asg (de_tup (da_cons (de_make0 i_Store hr (by omega)) (da_cons de_dnew (da_cons (de_lst da_nil) (da_cons de_int da_nil))))) (dg_tup (n := 4) (dgs_cons (dg_name 3 nd) (dgs_cons (dg_name 4 nd) (dgs_cons (dg_name 5 nd) (dgs_cons (dg_name 6 nd) dgs_nil))))))) (dssx_cons0 (dsx_for0 NF (di_range1 (da_cons de_int da_nil) z.«range») (dg_name 7 nd) (dssx_cons0 (DS.x (ds_set 6 (de_call c__law_work hr (da_cons (de_var 2) (da_cons (de_var 3) (da_cons (de_var 4) (da_cons (de_var 6) da_nil)))) (by omega)) nd)) (dssx_cons0 (DS.x (ds_expr (de_bm sm_append PySem.F.plainAttrs_list PySem.F.slot_list_append PySem.F.type_list_append mt_append (de_var 5) (da_cons (de_tup (da_cons (de_meth0 k_Store_heap e_heap hr (de_var 3) (by omega)) (da_cons (de_call c__law_slots hr (da_cons (de_var 3) (da_cons (de_var 6) da_nil)) (by omega)) (da_cons (de_meth0 k_Store_trail e_trail hr (de_var 3) (by omega)) da_nil)))) da_nil)))) (dssx_one (DS.x (ds_expr (de_meth k_Store_marks e_marks hr (de_var 3) (da_cons (de_meth0 k_Store_size e_size hr (de_var 3) (by omega)) (da_cons (de_var 6) da_nil)) (by omega)))))))) (dssx_cons0 (DS.x (ds_set 6 (de_call c__law_work hr (da_cons (de_var 2) (da_cons (de_var 3) (da_cons (de_var 4) (da_cons (de_var 6) da_nil)))) (by omega)) nd)) (dssx_one (dsx_for0 NF (di_range1 (da_cons de_int da_nil) z.«range») (dg_name 7 nd) (dssx_cons0 (DS.x (ds_asg (de_sub (de_var 5) (de_op so_sub op_sub de_int (de_var 7)) (hu1 hr)) (dg_tup (n := 3) (dgs_cons (dg_name 8 nd) (dgs_cons (dg_name 9 nd) (dgs_cons (dg_name 10 nd) dgs_nil)))))) (dssx_cons0 (DS.x (ds_expr (de_meth k_Store_undo e_undo hr (de_var 3) (da_cons (de_callB sc_len call_lenU z.«len» (da_cons (de_var 10) da_nil)) (da_cons (de_callB sc_len call_lenU z.«len» (da_cons (de_var 8) da_nil)) da_nil)) (by omega)))) (dssx_cons0 (dsx_if0 (dt_w (dw_or (dt_cmp so_ne (op_neU (hu64 hr)) (de_meth0 k_Store_heap e_heap hr (de_var 3) (by omega)) (de_var 8)) (dw_or (dt_cmp so_ne (op_neU (hu64 hr)) (de_call c__law_slots hr (da_cons (de_var 3) (da_cons (de_callB sc_len call_lenU z.«len» (da_cons (de_var 9) da_nil)) da_nil)) (by omega)) (de_var 9)) (dw_or1 (dt_cmp so_ne (op_neU (hu64 hr)) (de_meth0 k_Store_trail e_trail hr (de_var 3) (by omega)) (de_var 10)))))) (dssx_one (DS.x (ds_ret de_bl))) dssx_nil) (dssx_cons0 (dsx_if0 (dt_w (dw_or (dt_cmp so_ne (op_neU (hu64 hr)) (de_meth0 k_Store_size e_size hr (de_var 3) (by omega)) (de_callB sc_len call_lenU z.«len» (da_cons (de_var 8) da_nil))) (dw_or1 (dt_cmp so_ne (op_neU (hu64 hr)) (de_meth0 k_Store_new e_new hr (de_var 3) (by omega)) (de_tup (da_cons de_str (da_cons (de_callB sc_len call_lenU z.«len» (da_cons (de_var 8) da_nil)) da_nil))))))) (dssx_one (DS.x (ds_ret de_bl))) dssx_nil) (dssx_cons0 (DS.x (ds_expr (de_meth k_Store_undo e_undo hr (de_var 3) (da_cons (de_callB sc_len call_lenU z.«len» (da_cons (de_var 10) da_nil)) (da_cons (de_callB sc_len call_lenU z.«len» (da_cons (de_var 8) da_nil)) da_nil)) (by omega)))) (dssx_one (dsx_if0 (dt_cmp so_lt op_ltU (de_var 7) de_int) (dssx_one (DS.x (ds_expr (de_meth k_Store_marks e_marks hr (de_var 3) (da_cons (de_callB sc_len call_lenU z.«len» (da_cons (de_sub (de_sub (de_var 5) (de_op so_sub op_sub de_int (de_var 7)) (hu1 hr)) de_int (hu1 hr)) da_nil)) (da_cons (de_callB sc_len call_lenU z.«len» (da_cons (de_sub (de_sub (de_var 5) (de_op so_sub op_sub de_int (de_var 7)) (hu1 hr)) de_int (hu1 hr)) da_nil)) da_nil)) (by omega))))) dssx_nil)))))))))))))) (dssx_one (DS.x (ds_ret de_bl)))))⟩
end


/-! ### objects: what a call leaves -/
/-- all stays as it was, new objects may stand behind -/
def Pre (h h' : Hd) : Prop := ∃ g, h' = h ++ g
theorem Pre.refl (h : Hd) : Pre h h := ⟨[], by simp⟩
theorem Pre.trans {a b c : Hd} (x : Pre a b) (y : Pre b c) : Pre a c := by
  obtain ⟨g, rfl⟩ := x
  obtain ⟨g', rfl⟩ := y
  exact ⟨g ++ g', by simp⟩
theorem Pre.app (h g : Hd) : Pre h (h ++ g) := ⟨g, rfl⟩
theorem Pre.app' {h h' : Hd} (x : Pre h h') (g : Hd) : Pre h (h' ++ g) := x.trans (Pre.app _ _)
theorem Pre.set {h h' : Hd} (x : Pre h h') {i : Nat} (hi : h.length ≤ i) (o : O) : Pre h (h'.set i o) := by
  obtain ⟨g, rfl⟩ := x
  exact ⟨g.set (i - h.length) o, by rw [List.set_append_right _ _ hi]⟩
theorem Pre.get {h h' : Hd} (x : Pre h h') {i : Nat} {o : O} (e : h[i]? = some o) : h'[i]? = some o := by
  obtain ⟨g, rfl⟩ := x
  rw [List.getElem?_append_left (List.getElem?_eq_some_iff.mp e).1]
  exact e
theorem Pre.len {h h' : Hd} (x : Pre h h') : h.length ≤ h'.length := by
  obtain ⟨g, rfl⟩ := x
  simp
theorem get_new (h : Hd) (o : O) : (h ++ [o])[h.length]? = some o := by simp
theorem get_set {h : Hd} {i : Nat} {o p : O} (e : h[i]? = some o) : (h.set i p)[i]? = some p := by
  rw [List.getElem?_set_self (List.getElem?_eq_some_iff.mp e).1]
theorem get_ne {h : Hd} {i j : Nat} {p : O} (e : i ≠ j) : (h.set i p)[j]? = h[j]? := List.getElem?_set_ne e
theorem lt_of {h : Hd} {i : Nat} {o : O} (e : h[i]? = some o) : i < h.length := (List.getElem?_eq_some_iff.mp e).1
/-- all but the object w stays as it was -/
structure Fw (w : Nat) (h h' : Hd) : Prop where
  len : h.length ≤ h'.length
  at' : ∀ i, i < h.length → i ≠ w → h'[i]? = h[i]?
theorem Fw.refl (w : Nat) (h : Hd) : Fw w h h := ⟨Nat.le_refl _, fun _ _ _ => rfl⟩
theorem Fw.trans {w : Nat} {a b c : Hd} (x : Fw w a b) (y : Fw w b c) : Fw w a c := ⟨Nat.le_trans x.len y.len, fun i hi hn => (y.at' i (Nat.lt_of_lt_of_le hi x.len) hn).trans (x.at' i hi hn)⟩
theorem Fw.pre {w : Nat} {h h' : Hd} (x : Pre h h') : Fw w h h' := by
  obtain ⟨g, rfl⟩ := x
  exact ⟨by simp, fun i hi _ => List.getElem?_append_left hi⟩
theorem Fw.set {w : Nat} {h : Hd} (o : O) : Fw w h (h.set w o) := ⟨by simp, fun i _ hn => List.getElem?_set_ne (fun z => hn z.symm)⟩
theorem Fw.get {w : Nat} {h h' : Hd} (x : Fw w h h') {i : Nat} {o : O} (e : h[i]? = some o) (hn : i ≠ w) : h'[i]? = some o := (x.at' i (lt_of e) hn).trans e

/-! ### terms -/
def BIG : Int := 1000000000000000000000000000000000000000000000000000000000000000000000000000000000000000000000000000000000000000000000000000000000000000000000000000000000000000000000000000000000000000000000000000000000000000000000000000000000000000000000000000000000000000000000000000000000000000000000000000000000000
def signOk (c : Nat) : Bool := decide (32 ≤ c) && decide (c ≤ 126) && decide (c ≠ 37)
def atomOk (s : Str) : Bool := decide (s.length ≤ 40) && s.cps.toList.all signOk
inductive T : D → Prop where
  | var (n : Int) : 0 ≤ n → T (.tup [.int n])
  | int (i : Int) : (if i < 0 then -i else i) < BIG → T (.int i)
  | str (s : Str) : atomOk s = true → T (.str s)
  | cmp (f : Str) (a : D) (as : List D) : atomOk f = true → as.length < 8 → (∀ x ∈ a :: as, T x) → T (.tup (.str f :: a :: as))
mutual
/-- the parts, from the left, each ahead of its arguments -/
def parts : D → List D
  | .tup xs => .tup xs :: partsT xs
  | .int i => [.int i]
  | .str s => [.str s]
  | .bl b => [.bl b]
  | .non => [.non]
  | .ty s => [.ty s]
  | .rol xs => [.rol xs]
  | .at n => [.at n]
  | .ad n => [.ad n]
def partsT : List D → List D
  | [] => []
  | _ :: ds => partss ds
def partss : List D → List D
  | [] => []
  | d :: ds => parts d ++ partss ds
end
theorem partss_app : ∀ as bs : List D, partss (as ++ bs) = partss as ++ partss bs
  | [], bs => by simp [partss]
  | a :: as, bs => by simp [partss, partss_app as bs]
theorem parts_pos (d : D) : 1 ≤ (parts d).length := by cases d <;> simp [parts]
theorem len_partss : ∀ ds : List D, ds.length ≤ (partss ds).length
  | [] => by simp [partss]
  | d :: ds => by
    have h1 := parts_pos d
    have h2 := len_partss ds
    simp only [partss, List.length_append, List.length_cons]
    omega
def flat : D → Bool
  | .int _ => true
  | .str _ => true
  | .tup _ => true
  | .bl _ => true
  | _ => false
theorem T.flat {d : D} (t : T d) : flat d = true := by cases t <;> rfl
def isInt : D → Bool
  | .int _ => true
  | _ => false
def isCmp : D → Bool
  | .tup xs => decide (1 < (xs.length : Int))
  | _ => false
def isVar : D → Bool
  | .tup [.int n] => decide (0 ≤ n)
  | _ => false
/-! the data of a term -/
mutual
def pd : D → PyData
  | .tup xs => .tuple (pds xs)
  | .int i => .int i
  | .str s => .str s
  | .bl b => .bool b
  | .non => .none
  | .ty s => .none
  | .rol xs => .list (pds xs)
  | .at n => .none
  | .ad n => .none
def pds : List D → List PyData
  | [] => []
  | d :: ds => pd d :: pds ds
end
theorem atom_strOk {s : Str} (h : atomOk s = true) : PyData.strOk s = true := by
  unfold atomOk at h
  unfold PyData.strOk
  have h2 := (Bool.and_eq_true_iff.mp h).2
  rw [Array.all_eq_true_iff_forall_mem]
  intro c hc
  have := List.all_eq_true.mp h2 c (by simpa using hc)
  unfold signOk at this
  simp only [Bool.and_eq_true, decide_eq_true_eq] at this
  exact decide_eq_true (by omega)
theorem toPs_of {r : Nat → Option PyData} : ∀ {ds : List D}, (∀ d ∈ ds, toP r d = some (pd d) ∧ (pd d).canLay0 = true) → toPs r ds = some (pds ds) ∧ PyData.canLayAll0 (pds ds) = true
  | [], _ => ⟨by simp [toPs, pds], by simp [pds, PyData.canLayAll0]⟩
  | d :: ds, h => by
    obtain ⟨h1, h2⟩ := h d List.mem_cons_self
    obtain ⟨h3, h4⟩ := toPs_of (r := r) (ds := ds) fun x hx => h x (List.mem_cons_of_mem _ hx)
    refine ⟨?_, ?_⟩
    · simp only [toPs, h1, h3, pds]
    · simp only [pds, PyData.canLayAll0, h2, h4, Bool.and_self]
theorem T.dat {r : Nat → Option PyData} {d : D} (t : T d) : toP r d = some (pd d) ∧ (pd d).canLay0 = true := by
  induction t with
  | var n h => simp [toP, toPs, pd, pds, PyData.canLay0, PyData.canLayAll0]
  | int i h => simp [toP, pd, PyData.canLay0]
  | str s h => simp [toP, pd, PyData.canLay0, atom_strOk h]
  | cmp f a as hf hl _ ih =>
    obtain ⟨h1, h2⟩ := toPs_of (r := r) ih
    constructor
    · rw [toP, toPs]
      simp only [toP, h1, pd, pds]
    · rw [pd, pds, PyData.canLay0, PyData.canLayAll0]
      simp only [pd, PyData.canLay0, atom_strOk hf, h2, Bool.and_self]
/-- waiting != [] -/
theorem ne_nil {h : Hd} {n m : Nat} {ws : List D} (e : h[n]? = some (.lst ws)) (e2 : h[m]? = some (.lst [])) (ht : ∀ d ∈ ws, toP (rP 2 h) d = some (pd d) ∧ (pd d).canLay0 = true) : neD (.at n) (.at m) h = some (.bl (!ws.isEmpty), h) := by
  obtain ⟨h1, h2⟩ := toPs_of ht
  unfold neD datD
  have a1 : toP (rP 3 h) (.at n) = some (.list (pds ws)) := by
    rw [toP, rP, e]
    simp only [h1]
  have a2 : toP (rP 3 h) (.at m) = some (.list []) := by
    rw [toP, rP, e2]
    simp only [toPs]
  rw [a1, a2]
  simp only
  rw [if_pos ⟨by rw [PyData.canLay0]; exact h2, by simp [PyData.canLay0, PyData.canLayAll0], by
    have : (PyData.list []).depth = 1 := by simp [PyData.depth, PyData.depthAll]
    rw [this]
    omega⟩]
  cases ws with
  | nil => simp [pds, PyData.eqv, PyData.eqvAll]
  | cons d ds => simp [pds, PyData.eqv, PyData.eqvAll]
theorem T.datL {h : Hd} {ws : List D} (ht : ∀ d ∈ ws, T d) : ∀ d ∈ ws, toP (rP 2 h) d = some (pd d) ∧ (pd d).canLay0 = true := fun d hd => (ht d hd).dat
local macro_rules | `(tactic| walk_at "ev") => `(tactic| simp only [bodyM, startD, varM, cM, opM, testM, chainM, nilM, consM, tupM, lstM, DL.andM, DL.orM, DL.notM, truM, tandM, torM, tnotM, ifM, negM,
  addD, subD, mulD, fdivD, modD, powD, ltD, leD, gtD, geD, subsD, seqD, keyD, noM, partM, sliceD, slM, cbM, lenD, absD, intD, isiD, kdD, kb1, kb2, kb3, kb4, kb5, kb6, kb7, kb8, kb9, kb10, kb11, kb12, kb13, kb14, kb15, kb16, eq_ii, ne_ii,
  bmM, isDct, dnewM, nameG, nilG, consG, tupG, passM, brkM, cntM, exprM, retM, asgM, seqM, ifSM, neverM, augM, addID, parM, par3M, callM, truD, k_MOST_SIGNS, k_TOO_GREAT, seqI, backM, backD, tuplD,
  List.map_cons, List.map_nil, List.length_cons, List.length_nil, List.cons_append, List.nil_append, List.append_nil, List.getElem?_cons_zero, List.getElem?_cons_succ, List.getElem?_nil, List.replicate, List.set_cons_zero, List.set_cons_succ,
  if_true, if_false, ↓reduceIte, Bool.false_eq_true, Bool.not_true, Bool.not_false, decide_true, decide_false, Nat.reduceSub, Nat.reduceAdd, Nat.reduceLeDiff, Nat.reduceEqDiff, Int.reduceLT, Int.reduceLE, Nat.zero_le, String.reduceBEq, beq_self_eq_true])
section
variable (NF RD : Nat) (CA : Str → Addr)
theorem r_is_int (d : D) (h : Hd) (hd : flat d = true) : m_is_int NF RD CA [d] h = some (.bl (isInt d), h) := by
  unfold m_is_int
  cases d <;> first | (cases hd; done) | (walk_at "ev"; rfl)
theorem r_is_any_number (d : D) (h : Hd) (hd : flat d = true) : m_is_any_number NF RD CA [d] h = some (.bl (match d with | .int i => decide ((if i < 0 then -i else i) < BIG) | _ => false), h) := by
  have hi := r_is_int NF RD CA d h hd
  unfold m_is_any_number
  cases d with
  | int i => walk_at "ev"; simp only [hi, isInt]; rfl
  | str s => walk_at "ev"; simp only [hi, isInt]
  | tup s => walk_at "ev"; simp only [hi, isInt]
  | bl s => walk_at "ev"; simp only [hi, isInt]
  | _ => cases hd
/-- a comprehension over items that are known, whose element changes nothing -/
theorem lc_pure {xs : List D} {i : Nat} {a : ME} {D0 : Nat} {sg0 : Sg} {f : D → D} (ha : ∀ x ∈ xs, ∀ h, a (sg0.set i (some x)) h = some (f x, h)) : ∀ (N k : Nat) (acc : List D) (h : Hd), xs.length - k + 1 ≤ N → acc.length + (xs.length - k) ≤ LN → h[D0]? = some (.lst acc) →
    lcM' (.fix xs) (nameG i) yesM a D0 sg0 N k h = some (h.set D0 (.lst (acc ++ (xs.drop k).map f)))
  | 0, k, acc, h, h1, _, _ => by omega
  | N + 1, k, acc, h, h1, h2, h3 => by
    unfold lcM'
    simp only [Src.nxt]
    cases q : xs[k]? with
    | none =>
      have hk := List.getElem?_eq_none_iff.mp q
      simp only [List.drop_eq_nil_of_le hk, List.map_nil, List.append_nil]
      congr 1
      exact (List.set_getElem_self' h3).symm
    | some x =>
      have hk := (List.getElem?_eq_some_iff.mp q).1
      have hx : x ∈ xs := List.mem_of_getElem? q
      simp only [nameG, yesM, ha x hx, h3]
      rw [if_pos (by omega)]
      rw [lc_pure ha N (k + 1) (acc ++ [f x]) _ (by omega) (by simp; omega) (get_set h3)]
      rw [List.set_set]
      have : xs.drop k = x :: xs.drop (k + 1) := by
        rw [List.drop_eq_getElem_cons hk]
        congr 1
        exact (List.getElem?_eq_some_iff.mp q).2
      rw [this, List.map_cons, List.append_assoc]
      rfl
where
  List.set_getElem_self' {h : Hd} {i : Nat} {o : O} (e : h[i]? = some o) : h.set i o = h := by
    obtain ⟨hi, e⟩ := List.getElem?_eq_some_iff.mp e
    rw [← e]
    exact List.set_getElem_self hi
end
section
variable (NF RD : Nat) (CA : Str → Addr)
/-! ### atoms -/
def sgD (c : Nat) : D := .str ⟨⟨[c]⟩⟩
theorem ord_sg (c : Nat) (h : Hd) : ordD [sgD c] h = some (.int c, h) := rfl
theorem lt_sg (a c : Nat) : ltS ⟨⟨[a]⟩⟩ ⟨⟨[c]⟩⟩ = decide (a < c) := by
  unfold ltS
  simp only [List.cons_lt_cons_iff, List.not_lt_nil, and_false, or_false]
theorem s_blank : (PySem.Str.ofString " ") = ⟨⟨[32]⟩⟩ := by decide +kernel
theorem s_tilde : (PySem.Str.ofString "~") = ⟨⟨[126]⟩⟩ := by decide +kernel
theorem el_atom (c : Nat) (x : Option D) (h : Hd) : E_is_any_atom_0 NF RD CA [x, some (sgD c)] h = some (.bl (signOk c), h) := by
  unfold E_is_any_atom_0 sgD
  walk_at "ev"
  rw [s_blank, s_tilde, lt_sg, lt_sg]
  by_cases q : c < 32
  · have q' : ¬ (32 ≤ c) := by omega
    simp [truD, signOk, q, q']
  · have q' : 32 ≤ c := by omega
    by_cases q2 : 126 < c
    · have q2' : ¬ (c ≤ 126) := by omega
      simp [truD, signOk, q, q', q2, q2']
    · have q2' : c ≤ 126 := by omega
      by_cases q3 : c = 37
      · subst q3
        simp [truD, signOk, ordD, ne_ii]
        try rfl
      · have q3' : ¬ ((c : Int) = 37) := by omega
        simp [truD, signOk, q, q', q2, q2', q3, ordD, ne_ii, q3']
theorem bls_all : ∀ l : List Nat, blsD (l.map fun c => D.bl (signOk c)) = some (l.map signOk)
  | [] => rfl
  | c :: l => by
    rw [List.map_cons, blsD, bls_all l]
    rfl
theorem r_is_any_atom (s : Str) (h : Hd) (hN : 50 ≤ NF) (hz : s.length ≤ LN) : ∃ h', m_is_any_atom NF RD CA [.str s] h = some (.bl (atomOk s), h') ∧ Pre h h' := by
  unfold m_is_any_atom
  · walk_at "ev"
    rw [if_pos hz]
    simp only [Int.ofNat_eq_natCast]
    by_cases hl : s.length ≤ 40
    · have h40 : decide ((40 : Int) < (s.length : Int)) = false := decide_eq_false (by omega)
      simp only [h40]
      unfold lcM
      walk_at "ev"
      have ha : ∀ x ∈ (s.cps.toList.map sgD), ∀ h, E_is_any_atom_0 NF RD CA ((wipeD [some (D.str s), none] [1]).set 1 (some x)) h = some ((match x with | .str ⟨⟨[c]⟩⟩ => .bl (signOk c) | _ => .non), h) := by
        intro x hx h
        obtain ⟨c, _, rfl⟩ := List.mem_map.mp hx
        exact el_atom NF RD CA c _ h
      have hlen : s.cps.toList.length = s.length := by simp [Str.length]
      have key := lc_pure ha NF 0 [] (h ++ [O.lst []]) (D0 := h.length) (by rw [List.length_map, hlen]; omega) (by rw [List.length_map, hlen]; simp; omega) (get_new _ _)
      have e0 : (s.cps.toList.map fun c => D.str ⟨⟨[c]⟩⟩) = s.cps.toList.map sgD := rfl
      rw [e0, key]
      simp only [allD, List.drop_zero, List.nil_append, List.map_map]
      rw [get_set (get_new _ _)]
      have e1 : (s.cps.toList.map ((fun x => match x with | .str ⟨⟨[c]⟩⟩ => D.bl (signOk c) | _ => .non) ∘ sgD)) = s.cps.toList.map fun c => D.bl (signOk c) := rfl
      simp only [e1, bls_all]
      refine ⟨_, congrArg some (Prod.ext (congrArg D.bl ?_) rfl), (Pre.app h [.lst []]).set (Nat.le_refl _) _⟩
      unfold atomOk
      rw [decide_eq_true hl, Bool.true_and, List.all_map]
      rfl
    · have h40 : decide ((40 : Int) < (s.length : Int)) = true := decide_eq_true (by omega)
      simp only [h40]
      refine ⟨h, ?_, Pre.refl h⟩
      unfold atomOk
      rw [decide_eq_false hl]
      rfl
end
theorem LN_eq : LN = 16777216 := rfl
/-! ### texts -/
section
variable {h : Hd} {Q : D → Hd → Prop} {a b : Str} {x : D} {xs : List D} {neg : Bool}
theorem eq_ss (ha : PyData.strOk a = true) (hb : PyData.strOk b = true) : eqD (.str a) (.str b) h = some (.bl (decide (a = b)), h) := by
  unfold eqD datD
  simp only [toP, PyData.canLay0, ha, hb, PyData.depth, PyData.eqv, true_and, Nat.min_self, Nat.zero_le, if_true]
  rw [Bool.beq_eq_decide_eq]
theorem lf_eqT (e : (PyData.strOk a && PyData.strOk b && decide (a = b)) = true) (q : Q (.bl true) h) : Ev (eqD (.str a) (.str b) h) Q := by
  simp only [Bool.and_eq_true] at e
  exact ⟨_, _, eq_ss e.1.1 e.1.2, by rw [e.2]; exact q⟩
theorem lf_eqF (e : (PyData.strOk a && PyData.strOk b && !decide (a = b)) = true) (q : Q (.bl false) h) : Ev (eqD (.str a) (.str b) h) Q := by
  simp only [Bool.and_eq_true, Bool.not_eq_true'] at e
  exact ⟨_, _, eq_ss e.1.1 e.1.2, by rw [e.2]; exact q⟩
def inC (neg : Bool) (x : D) (xs : List D) : Option Bool := match flD x, flDs xs with
  | some v, some vs => some (neg ^^ inV v vs)
  | _, _ => none
theorem lf_inC {b : Bool} (e : inC neg x xs = some b) (q : Q (.bl b) h) : Ev (inD neg x (.tup xs) h) Q := by
  unfold inC at e
  refine ⟨_, _, ?_, q⟩
  unfold inD
  try simp only [seqD]
  split at e
  · rename_i v vs e1 e2
    try simp only [e1, e2]
    cases e
    rfl
  · cases e
theorem lf_inT (e : inC neg x xs = some true) (q : Q (.bl true) h) : Ev (inD neg x (.tup xs) h) Q := lf_inC e q
theorem lf_inF (e : inC neg x xs = some false) (q : Q (.bl false) h) : Ev (inD neg x (.tup xs) h) Q := lf_inC e q
theorem lf_isT (e : isNonD x = true) (q : Q (.bl true) h) : Ev (isD x .non h) Q := ⟨_, _, by simp only [isD, e], q⟩
theorem lf_isF (e : isNonD x = false) (q : Q (.bl false) h) : Ev (isD x .non h) Q := ⟨_, _, by simp only [isD, e], q⟩
theorem lf_isntT (e : isNonD x = false) (q : Q (.bl true) h) : Ev (isntD x .non h) Q := ⟨_, _, by simp only [isntD, e]; rfl, q⟩
theorem lf_isntF (e : isNonD x = true) (q : Q (.bl false) h) : Ev (isntD x .non h) Q := ⟨_, _, by simp only [isntD, e]; rfl, q⟩
theorem at1 {α : Type} (x y : α) (xs : List α) : L2.atI (x :: y :: xs) 1 = some y := by
  unfold L2.atI L2.ixN
  have : (1 : Int) < ((x :: y :: xs).length : Int) := by simp only [List.length_cons]; omega
  rw [if_pos (by decide), if_pos this]
  rfl
theorem at2 {α : Type} (x y z : α) (xs : List α) : L2.atI (x :: y :: z :: xs) 2 = some z := by
  unfold L2.atI L2.ixN
  have : (2 : Int) < ((x :: y :: z :: xs).length : Int) := by simp only [List.length_cons]; omega
  rw [if_pos (by decide), if_pos this]
  rfl
end

local macro_rules | `(tactic| walk_at "hp") => `(tactic| first | assumption | exact get_set (by assumption) | exact get_new _ _ | exact (Pre.app _ _).get (by assumption) | exact (Pre.app _ _).get (get_new _ _) | exact get_set (get_new _ _))
local macro_rules | `(tactic| walk_at "w1") => `(tactic| (with_reducible refine sq_str ?_))
local macro_rules | `(tactic| walk_at "w1") => `(tactic| (((with_reducible apply sq_obj); · walk_at "hp")))
local macro_rules | `(tactic| walk_at "w1") => `(tactic| (with_reducible refine sq_rol ?_))
local macro_rules | `(tactic| walk_at "w1") => `(tactic| (with_reducible refine sq_fix ?_))
local macro_rules | `(tactic| walk_at "w1") => `(tactic| (((with_reducible apply lf_listL); · walk_at "hp")))
local macro_rules | `(tactic| walk_at "w1") => `(tactic| (with_reducible refine lf_backT0 ?_))
local macro_rules | `(tactic| walk_at "w1") => `(tactic| (with_reducible refine lf_slT ?_))
local macro_rules | `(tactic| walk_at "w1") => `(tactic| (((with_reducible apply lf_ix); · exact at2 _ _ _ _)))
local macro_rules | `(tactic| walk_at "w1") => `(tactic| (((with_reducible apply lf_ix); · exact at1 _ _ _)))
local macro_rules | `(tactic| walk_at "w1") => `(tactic| (((with_reducible apply lf_ix); · exact at0 _ _)))
local macro_rules | `(tactic| walk_at "w1") => `(tactic| (((with_reducible refine lf_isntF ?_ ?_); · exact rfl)))
local macro_rules | `(tactic| walk_at "w1") => `(tactic| (((with_reducible refine lf_isntT ?_ ?_); · exact rfl)))
local macro_rules | `(tactic| walk_at "w1") => `(tactic| (((with_reducible refine lf_isF ?_ ?_); · exact rfl)))
local macro_rules | `(tactic| walk_at "w1") => `(tactic| (((with_reducible refine lf_isT ?_ ?_); · exact rfl)))
local macro_rules | `(tactic| walk_at "w1") => `(tactic| (with_reducible refine ky_str ?_))
local macro_rules | `(tactic| walk_at "w1") => `(tactic| (with_reducible refine ky_int ?_))
local macro_rules | `(tactic| walk_at "w1") => `(tactic| (with_reducible refine ev_pnil ?_))
local macro_rules | `(tactic| walk_at "w1") => `(tactic| (with_reducible refine ev_pcons ?_))
local macro_rules | `(tactic| walk_at "w1") => `(tactic| (with_reducible refine ev_disp ?_))
local macro_rules | `(tactic| walk_at "w1") => `(tactic| (with_reducible refine rv_tup ?_))
local macro_rules | `(tactic| walk_at "w1") => `(tactic| (with_reducible refine ev_revI ?_))
local macro_rules | `(tactic| walk_at "w1") => `(tactic| (with_reducible refine ev_bits ?_))
local macro_rules | `(tactic| walk_at "w1") => `(tactic| (((with_reducible refine lf_fdivZp ?_ ?_); · assumption)))
local macro_rules | `(tactic| walk_at "w1") => `(tactic| (((with_reducible refine lf_modZp ?_ ?_); · assumption)))
local macro_rules | `(tactic| walk_at "w1") => `(tactic| (with_reducible refine lf_bit ?_))
local macro_rules | `(tactic| walk_at "w1") => `(tactic| (((with_reducible refine lf_inF ?_ ?_); · decide +kernel)))
local macro_rules | `(tactic| walk_at "w1") => `(tactic| (((with_reducible refine lf_inT ?_ ?_); · decide +kernel)))
local macro_rules | `(tactic| walk_at "w1") => `(tactic| (((with_reducible refine lf_eqF ?_ ?_); · decide +kernel)))
local macro_rules | `(tactic| walk_at "w1") => `(tactic| (((with_reducible refine lf_eqT ?_ ?_); · decide +kernel)))
local macro_rules | `(tactic| walk_at "w1") => `(tactic| (((with_reducible refine lf_mulI ?_ ?_); · first | assumption | exact .inr (.inl ⟨by decide, by decide⟩) | exact .inl ⟨by decide, by decide⟩)))
local macro_rules | `(tactic| walk_at "w1") => `(tactic| (((with_reducible refine lf_pow ?_ ?_); · first | assumption | decide +kernel)))
local macro_rules | `(tactic| walk_at "w1") => `(tactic| (((with_reducible refine lf_fdiv ?_ ?_); · first | assumption | decide +kernel)))
local macro_rules | `(tactic| walk_at "w1") => `(tactic| (((with_reducible refine lf_mod ?_ ?_); · first | assumption | decide)))
local macro_rules | `(tactic| walk_at "w1") => `(tactic| (((with_reducible apply lf_tuplL); · walk_at "hp")))
local macro_rules | `(tactic| walk_at "w1") => `(tactic| (with_reducible refine lf_tuplT ?_))
local macro_rules | `(tactic| walk_at "w1") => `(tactic| (with_reducible refine lf_min ?_))
local macro_rules | `(tactic| walk_at "w1") => `(tactic| (with_reducible refine lf_max ?_))
local macro_rules | `(tactic| walk_at "w1") => `(tactic| (with_reducible refine lf_intB ?_))
local macro_rules | `(tactic| walk_at "w1") => `(tactic| (with_reducible refine lf_intI ?_))
local macro_rules | `(tactic| walk_at "w1") => `(tactic| (with_reducible refine lf_abs ?_))
local macro_rules | `(tactic| walk_at "w1") => `(tactic| (((with_reducible refine lf_lenS ?_ ?_); · assumption)))
local macro_rules | `(tactic| walk_at "w1") => `(tactic| (((with_reducible apply lf_lenL); · walk_at "hp")))
local macro_rules | `(tactic| walk_at "w1") => `(tactic| (with_reducible refine lf_lenR ?_))
local macro_rules | `(tactic| walk_at "w1") => `(tactic| (with_reducible refine lf_lenT ?_))
local macro_rules | `(tactic| walk_at "w1") => `(tactic| (with_reducible refine lf_neI ?_))
local macro_rules | `(tactic| walk_at "w1") => `(tactic| (with_reducible refine lf_eqI ?_))
local macro_rules | `(tactic| walk_at "w1") => `(tactic| (with_reducible refine lf_ge ?_))
local macro_rules | `(tactic| walk_at "w1") => `(tactic| (with_reducible refine lf_gt ?_))
local macro_rules | `(tactic| walk_at "w1") => `(tactic| (with_reducible refine lf_le ?_))
local macro_rules | `(tactic| walk_at "w1") => `(tactic| (with_reducible refine lf_lt ?_))
local macro_rules | `(tactic| walk_at "w1") => `(tactic| (with_reducible refine lf_subI ?_))
local macro_rules | `(tactic| walk_at "w1") => `(tactic| (with_reducible refine lf_addI ?_))
local macro_rules | `(tactic| walk_at "w1") => `(tactic| (with_reducible refine lf_addIDI ?_))
local macro_rules | `(tactic| walk_at "w1") => `(tactic| (((with_reducible apply ev_aug); · exact rfl)))
local macro_rules | `(tactic| walk_at "w1") => `(tactic| (((with_reducible apply lf_isi); (· exact rfl); · first | exact kb1 | exact kb2 | exact kb3 | exact kb4 | exact kb5 | exact kb6 | exact kb7 | exact kb8 | exact kb9 | exact kb10 | exact kb11 | exact kb12 | exact kb13 | exact kb14 | exact kb15 | exact kb16)))
local macro_rules | `(tactic| walk_at "w1") => `(tactic| (refine br_ff ?_))
local macro_rules | `(tactic| walk_at "w1") => `(tactic| (refine br_tt ?_))
local macro_rules | `(tactic| walk_at "w1") => `(tactic| (((with_reducible refine br_f ?_ ?_); · assumption)))
local macro_rules | `(tactic| walk_at "w1") => `(tactic| (((with_reducible refine br_t ?_ ?_); · assumption)))
local macro_rules | `(tactic| walk_at "w1") => `(tactic| (with_reducible refine br_ff ?_))
local macro_rules | `(tactic| walk_at "w1") => `(tactic| (with_reducible refine br_tt ?_))
local macro_rules | `(tactic| walk_at "w1") => `(tactic| (((with_reducible refine cl_k ?_ ?_); · exact rfl)))
local macro_rules | `(tactic| walk_at "w1") => `(tactic| (((with_reducible refine ln_k ?_ ?_); · first | assumption | exact Nat.le_of_ble_eq_true rfl)))
local macro_rules | `(tactic| walk_at "w1") => `(tactic| (((with_reducible apply kd_lst); · walk_at "hp")))
local macro_rules | `(tactic| walk_at "w1") => `(tactic| (refine m1k ?_))
local macro_rules | `(tactic| walk_at "w1") => `(tactic| (with_reducible refine p3k ?_))
local macro_rules | `(tactic| walk_at "w1") => `(tactic| (with_reducible refine p2k ?_))
local macro_rules | `(tactic| walk_at "w1") => `(tactic| (with_reducible refine itk ?_))
local macro_rules | `(tactic| walk_at "w1") => `(tactic| (with_reducible refine blk ?_))
local macro_rules | `(tactic| walk_at "w1") => `(tactic| (with_reducible refine tr_non ?_))
local macro_rules | `(tactic| walk_at "w1") => `(tactic| (with_reducible refine tr_tup ?_))
local macro_rules | `(tactic| walk_at "w1") => `(tactic| (with_reducible refine tr_int ?_))
local macro_rules | `(tactic| walk_at "w1") => `(tactic| (with_reducible refine tr_bl ?_))
local macro_rules | `(tactic| walk_at "w1") => `(tactic| (with_reducible refine lp_rt ?_))
local macro_rules | `(tactic| walk_at "w1") => `(tactic| (with_reducible refine lp_bk ?_))
local macro_rules | `(tactic| walk_at "w1") => `(tactic| (with_reducible refine lp_ct ?_))
local macro_rules | `(tactic| walk_at "w1") => `(tactic| (with_reducible refine lp_nx ?_))
local macro_rules | `(tactic| walk_at "w1") => `(tactic| (with_reducible refine bd_rt ?_))
local macro_rules | `(tactic| walk_at "w1") => `(tactic| (with_reducible refine bd_nx ?_))
local macro_rules | `(tactic| walk_at "w1") => `(tactic| (with_reducible refine sq_ct ?_))
local macro_rules | `(tactic| walk_at "w1") => `(tactic| (with_reducible refine sq_bk ?_))
local macro_rules | `(tactic| walk_at "w1") => `(tactic| (with_reducible refine sq_rt ?_))
local macro_rules | `(tactic| walk_at "w1") => `(tactic| (with_reducible refine ev_forS ?_))
local macro_rules | `(tactic| walk_at "w1") => `(tactic| (with_reducible refine ev_enuI ?_))
local macro_rules | `(tactic| walk_at "w1") => `(tactic| (with_reducible refine ev_rngI ?_))
local macro_rules | `(tactic| walk_at "w1") => `(tactic| (with_reducible refine ev_seqI ?_))
local macro_rules | `(tactic| walk_at "w1") => `(tactic| (with_reducible refine ev_body ?_))
local macro_rules | `(tactic| walk_at "w1") => `(tactic| (((with_reducible refine ev_uplT ?_ ?_); · exact rfl)))
local macro_rules | `(tactic| walk_at "w1") => `(tactic| (((with_reducible refine ev_tupG ?_ ?_); · exact rfl)))
local macro_rules | `(tactic| walk_at "w1") => `(tactic| (with_reducible refine ev_consG ?_))
local macro_rules | `(tactic| walk_at "w1") => `(tactic| (with_reducible refine ev_nilG ?_))
local macro_rules | `(tactic| walk_at "w1") => `(tactic| (with_reducible refine ev_name ?_))
local macro_rules | `(tactic| walk_at "w1") => `(tactic| (with_reducible refine ev_par3 ?_))
local macro_rules | `(tactic| walk_at "w1") => `(tactic| (with_reducible refine ev_par ?_))
local macro_rules | `(tactic| walk_at "w1") => `(tactic| (with_reducible refine ev_call ?_))
local macro_rules | `(tactic| walk_at "w1") => `(tactic| (with_reducible refine ev_back ?_))
local macro_rules | `(tactic| walk_at "w1") => `(tactic| (with_reducible refine ev_sl ?_))
local macro_rules | `(tactic| walk_at "w1") => `(tactic| (with_reducible refine ev_part ?_))
local macro_rules | `(tactic| walk_at "w1") => `(tactic| (with_reducible refine ev_no ?_))
local macro_rules | `(tactic| walk_at "w1") => `(tactic| (with_reducible refine ev_bm ?_))
local macro_rules | `(tactic| walk_at "w1") => `(tactic| (with_reducible refine ev_cb ?_))
local macro_rules | `(tactic| walk_at "w1") => `(tactic| (with_reducible refine ev_dnew ?_))
local macro_rules | `(tactic| walk_at "w1") => `(tactic| (with_reducible refine ev_lst ?_))
local macro_rules | `(tactic| walk_at "w1") => `(tactic| (with_reducible refine ev_tup ?_))
local macro_rules | `(tactic| walk_at "w1") => `(tactic| (with_reducible refine ev_cons ?_))
local macro_rules | `(tactic| walk_at "w1") => `(tactic| (with_reducible refine ev_nil ?_))
local macro_rules | `(tactic| walk_at "w1") => `(tactic| (with_reducible refine ev_yes ?_))
local macro_rules | `(tactic| walk_at "w1") => `(tactic| (with_reducible refine ev_tnot ?_))
local macro_rules | `(tactic| walk_at "w1") => `(tactic| (with_reducible refine ev_tor ?_))
local macro_rules | `(tactic| walk_at "w1") => `(tactic| (with_reducible refine ev_tand ?_))
local macro_rules | `(tactic| walk_at "w1") => `(tactic| (with_reducible refine ev_tru ?_))
local macro_rules | `(tactic| walk_at "w1") => `(tactic| (with_reducible refine ev_test ?_))
local macro_rules | `(tactic| walk_at "w1") => `(tactic| (with_reducible refine ev_ifE ?_))
local macro_rules | `(tactic| walk_at "w1") => `(tactic| (with_reducible refine ev_not ?_))
local macro_rules | `(tactic| walk_at "w1") => `(tactic| (with_reducible refine ev_or ?_))
local macro_rules | `(tactic| walk_at "w1") => `(tactic| (with_reducible refine ev_and ?_))
local macro_rules | `(tactic| walk_at "w1") => `(tactic| (with_reducible refine ev_neg ?_))
local macro_rules | `(tactic| walk_at "w1") => `(tactic| (with_reducible refine ev_chain ?_))
local macro_rules | `(tactic| walk_at "w1") => `(tactic| (with_reducible refine ev_op ?_))
local macro_rules | `(tactic| walk_at "w1") => `(tactic| (with_reducible refine ev_c ?_))
local macro_rules | `(tactic| walk_at "w1") => `(tactic| (((with_reducible apply ev_var); · exact rfl)))
local macro_rules | `(tactic| walk_at "w1") => `(tactic| (with_reducible refine ev_brk ?_))
local macro_rules | `(tactic| walk_at "w1") => `(tactic| (with_reducible refine ev_cnt ?_))
local macro_rules | `(tactic| walk_at "w1") => `(tactic| (with_reducible refine ev_pass ?_))
local macro_rules | `(tactic| walk_at "w1") => `(tactic| (with_reducible refine ev_ifS ?_))
local macro_rules | `(tactic| walk_at "w1") => `(tactic| (with_reducible refine ev_expr ?_))
local macro_rules | `(tactic| walk_at "w1") => `(tactic| (with_reducible refine ev_asg ?_))
local macro_rules | `(tactic| walk_at "w1") => `(tactic| (with_reducible refine ev_ret ?_))
local macro_rules | `(tactic| walk_at "w1") => `(tactic| (with_reducible refine ev_seq ?_))
local macro_rules | `(tactic| walk_at "w1") => `(tactic| (((with_reducible apply fld_k); (· walk_at "hp"); (· exact List.mem_cons_self); (· exact rfl))))
local macro_rules | `(tactic| walk_at "w1") => `(tactic| (((with_reducible apply sfld_k); (· walk_at "hp"); (· exact List.mem_cons_self); (· exact Nat.le_of_ble_eq_true rfl))))
local macro_rules | `(tactic| walk_at "w1") => `(tactic| (((with_reducible apply mt_k); (· walk_at "hp"); (· exact rfl))))
local macro_rules | `(tactic| walk_at "w1") => `(tactic| (with_reducible refine non_k ?_))
local macro_rules | `(tactic| walk_at "w1") => `(tactic| (with_reducible refine lf_isB ?_))
local macro_rules | `(tactic| walk_at "w1") => `(tactic| (with_reducible refine lf_isntB ?_))
local macro_rules | `(tactic| walk_at "w1") => `(tactic| (with_reducible refine ev_rng3I ?_))
local macro_rules | `(tactic| walk_at "w1") => `(tactic| (with_reducible refine ev_rng2I ?_))
local macro_rules | `(tactic| walk_at "w1") => `(tactic| (with_reducible refine ev_dnewN ?_))
local macro_rules | `(tactic| walk_at "w1") => `(tactic| (with_reducible refine ev_make ?_))
local macro_rules | `(tactic| walk_at "w1") => `(tactic| (with_reducible refine ev_meth ?_))
local macro_rules | `(tactic| walk_at "w1") => `(tactic| (with_reducible refine ev_setFld ?_))
local macro_rules | `(tactic| walk_at "w1") => `(tactic| (with_reducible refine ev_fld ?_))
local macro_rules | `(tactic| walk_at "wq") => `(tactic| repeat' (first | walk_at "w1" | fail))
local macro_rules | `(tactic| walk_at "wp") => `(tactic| repeat' (first | walk_at "w1" | with_reducible refine sq_nx ?_ | fail))
theorem Fw.set' {w : Nat} {h h' : Hd} (x : Fw w h h') {i : Nat} (hi : h.length ≤ i) (o : O) : Fw w h (h'.set i o) := ⟨by simpa using x.len, fun j hj hn => by rw [get_ne (by omega)]; exact x.at' j hj hn⟩
theorem Fw.app {w : Nat} {h h' : Hd} (x : Fw w h h') (g : Hd) : Fw w h (h' ++ g) := x.trans (Fw.pre (Pre.app _ _))
/-- the well; k draws may still be made -/
def Wl (k : Nat) (w : Nat) (h : Hd) : Prop := ∃ a b c : Int, h[w]? = some (.lst [.int a, .int b, .int c]) ∧ 0 ≤ c ∧ c + (k : Int) ≤ 1000000
theorem Wl.pre {k w : Nat} {h h' : Hd} (x : Wl k w h) (p : Pre h h') : Wl k w h' := by
  obtain ⟨a, b, c, e, q⟩ := x
  exact ⟨a, b, c, p.get e, q⟩
theorem Wl.le {k j w : Nat} {h : Hd} (x : Wl k w h) (hj : j ≤ k) : Wl j w h := by
  obtain ⟨a, b, c, e, q1, q2⟩ := x
  exact ⟨a, b, c, e, q1, by omega⟩
theorem Wl.lt {k w : Nat} {h : Hd} (x : Wl k w h) : w < h.length := by
  obtain ⟨a, b, c, e, _⟩ := x
  exact lt_of e
theorem Wl.ne {k w i : Nat} {h : Hd} (x : Wl k w h) (hi : i ≠ w) (o : O) : Wl k w (h.set i o) := by
  obtain ⟨a, b, c, e, q⟩ := x
  exact ⟨a, b, c, by rw [get_ne hi]; exact e, q⟩
theorem at_nat {α : Type} {xs : List α} {i : Int} (h0 : 0 ≤ i) (h1 : i < xs.length) : ∃ x ∈ xs, atI xs i = some x := by
  have hl : i.toNat < xs.length := by omega
  refine ⟨xs[i.toNat], List.getElem_mem hl, ?_⟩
  unfold atI ixN
  rw [if_pos h0, if_pos h1]
  simp [hl]
section
variable {NF RD : Nat} {CA : Str → Addr}
theorem r_draw {k w : Nat} {many : Int} {h : Hd} (hw : Wl (k + 1) w h) (hm : 0 < many) (hm2 : many.natAbs.log2 < 9000) : Ev (m__law_draw NF RD CA [.at w, .int many] h) fun r h' => ∃ i, r = .int i ∧ 0 ≤ i ∧ i < many ∧ Fw w h h' ∧ Wl k w h' := by
  obtain ⟨a, b, c, e, c0, ck⟩ := hw
  have hmm : 0 < many ∧ many.natAbs.log2 < 9000 := ⟨hm, hm2⟩
  unfold m__law_draw
  walk_at "wp"
  refine lf_ixL e rfl ?_
  walk_at "wp"
  refine br (fun c1 => ?_) fun c1 => ?_
  · walk_at "wp"
    refine lf_ixL e rfl ?_
    walk_at "wp"
    refine ev_setL ?_
    walk_at "wp"
    refine lf_ixL e rfl ?_
    walk_at "wp"
    refine ⟨w, _, 0, 0, rfl, e, rfl, rfl, ?_⟩
    walk_at "wp"
    exact ⟨_, rfl, Int.emod_nonneg _ (by omega), Int.emod_lt_of_pos _ hm, Fw.set _, _, _, _, get_set e, c0, by omega⟩
  · walk_at "wp"
    refine ev_setL ?_
    walk_at "wp"
    refine lf_ixL e rfl ?_
    walk_at "wp"
    refine ⟨w, _, 2, 2, rfl, e, rfl, rfl, ?_⟩
    have e2 := get_set (p := .lst ([D.int a, D.int b, D.int c].set 2 (D.int (c + 1)))) e
    walk_at "wp"
    refine lf_ixL e2 rfl ?_
    walk_at "wp"
    refine lf_ixL e2 rfl ?_
    walk_at "wp"
    refine lf_ixL e2 rfl ?_
    walk_at "wp"
    have hs := Int.emod_nonneg (b / 2147483629) (show (65521 : Int) ≠ 0 by decide)
    have hs' := Int.emod_lt_of_pos (b / 2147483629) (show (0 : Int) < 65521 by decide)
    have hb := Int.emod_nonneg b (show (2147483629 : Int) ≠ 0 by decide)
    have hb' := Int.emod_lt_of_pos b (show (0 : Int) < 2147483629 by decide)
    refine lf_pow ⟨by decide, ?_⟩ ?_
    · have hx : (b % 2147483629 + 7919 * (c + 1) + b / 2147483629 % 65521 + 1).natAbs < 2 ^ 40 := by omega
      have := PySem.intBits_le_iff.mpr hx
      omega
    walk_at "wp"
    refine lf_ixL e2 rfl ?_
    walk_at "wp"
    generalize hx : (b % 2147483629 + 7919 * (c + 1) + b / 2147483629 % 65521 + 1) ^ Int.toNat 5 % 2147483647 = x
    have hx0 : 0 ≤ x ∧ x < 2147483647 := by rw [← hx]; exact ⟨Int.emod_nonneg _ (by decide), Int.emod_lt_of_pos _ (by decide)⟩
    refine lf_mulI (.inl ⟨by omega, by omega⟩) ?_
    walk_at "wp"
    generalize hy : x * (x / 1009 + 69621 + (c + 1)) % 2147483629 = y
    have hy0 : 0 ≤ y ∧ y < 2147483629 := by rw [← hy]; exact ⟨Int.emod_nonneg _ (by decide), Int.emod_lt_of_pos _ (by decide)⟩
    refine lf_mulI (.inl ⟨by omega, by omega⟩) ?_
    walk_at "wp"
    exact ⟨_, rfl, Int.emod_nonneg _ (by omega), Int.emod_lt_of_pos _ hm, Fw.set _, _, _, _, e2, by omega, by omega⟩
theorem r_one {k w l : Nat} {xs : List D} {h : Hd} (hw : Wl (k + 1) w h) (e : h[l]? = some (.lst xs)) (hn : l ≠ w) (hx : 0 < xs.length) (hx2 : xs.length < 1000) : Ev (m__law_one NF RD CA [.at w, .at l] h) fun r h' => r ∈ xs ∧ Fw w h h' ∧ Wl k w h' := by
  unfold m__law_one
  walk_at "wp"
  refine (r_draw hw (by omega) ?_).mono ?_
  · have := Nat.log2_le_self (xs.length : Int).natAbs
    omega
  rintro r h' ⟨i, rfl, h0, h1, hf, hw'⟩
  obtain ⟨x, hx, ex⟩ := at_nat h0 h1
  refine lf_ixL (hf.get e hn) ex ?_
  walk_at "wp"
  exact ⟨hx, hf, hw'⟩
end


/-! ### data without lists: == is equality -/
mutual
def plD : D → Bool
  | .int _ => true
  | .str s => PyData.strOk s
  | .tup xs => plDs xs
  | .non => false
  | .bl _ => false
  | .ty _ => false
  | .rol _ => false
  | .at _ => false
  | .ad _ => false
def plDs : List D → Bool
  | [] => true
  | d :: ds => plD d && plDs ds
end
mutual
theorem eqv_pl : ∀ x y : D, plD x = true → plD y = true → (PyData.eqv (pd x) (pd y) = true ↔ x = y)
  | .int i, .int j, _, _ => by simp [pd, PyData.eqv]
  | .int i, .str s, _, _ => by simp [pd, PyData.eqv]
  | .int i, .tup xs, _, _ => by simp [pd, PyData.eqv]
  | .str s, .int j, _, _ => by simp [pd, PyData.eqv]
  | .str s, .str z, _, _ => by simp [pd, PyData.eqv]
  | .str s, .tup xs, _, _ => by simp [pd, PyData.eqv]
  | .tup xs, .int j, _, _ => by simp [pd, PyData.eqv]
  | .tup xs, .str z, _, _ => by simp [pd, PyData.eqv]
  | .tup xs, .tup ys, h1, h2 => by
    simp only [plD] at h1 h2
    simp only [pd, PyData.eqv]
    rw [eqv_pls xs ys h1 h2]
    simp
  | .non, _, h, _ => by simp [plD] at h
  | .bl _, _, h, _ => by simp [plD] at h
  | .ty _, _, h, _ => by simp [plD] at h
  | .rol _, _, h, _ => by simp [plD] at h
  | .at _, _, h, _ => by simp [plD] at h
  | .ad _, _, h, _ => by simp [plD] at h
  | _, .non, _, h => by simp [plD] at h
  | _, .bl _, _, h => by simp [plD] at h
  | _, .ty _, _, h => by simp [plD] at h
  | _, .rol _, _, h => by simp [plD] at h
  | _, .at _, _, h => by simp [plD] at h
  | _, .ad _, _, h => by simp [plD] at h
theorem eqv_pls : ∀ xs ys : List D, plDs xs = true → plDs ys = true → (PyData.eqvAll (pds xs) (pds ys) = true ↔ xs = ys)
  | [], [], _, _ => by simp [pds, PyData.eqvAll]
  | [], _ :: _, _, _ => by simp [pds, PyData.eqvAll]
  | _ :: _, [], _, _ => by simp [pds, PyData.eqvAll]
  | x :: xs, y :: ys, h1, h2 => by
    simp only [plDs, Bool.and_eq_true] at h1 h2
    simp only [pds, PyData.eqvAll, Bool.and_eq_true]
    rw [eqv_pl x y h1.1 h2.1, eqv_pls xs ys h1.2 h2.2]
    simp
end
mutual
theorem dat_pl {r : Nat → Option PyData} : ∀ d : D, plD d = true → toP r d = some (pd d) ∧ (pd d).canLay0 = true
  | .int i, _ => ⟨by simp [toP, pd], by simp [pd, PyData.canLay0]⟩
  | .str s, h => ⟨by simp [toP, pd], by simpa [pd, PyData.canLay0, plD] using h⟩
  | .tup xs, h => by
    obtain ⟨a, b⟩ := dats_pl (r := r) xs (by simpa only [plD] using h)
    exact ⟨by simp [toP, pd, a], by simpa [pd, PyData.canLay0] using b⟩
  | .non, h => by simp [plD] at h
  | .bl _, h => by simp [plD] at h
  | .ty _, h => by simp [plD] at h
  | .rol _, h => by simp [plD] at h
  | .at _, h => by simp [plD] at h
  | .ad _, h => by simp [plD] at h
theorem dats_pl {r : Nat → Option PyData} : ∀ ds : List D, plDs ds = true → toPs r ds = some (pds ds) ∧ PyData.canLayAll0 (pds ds) = true
  | [], _ => ⟨by simp [toPs, pds], by simp [pds, PyData.canLayAll0]⟩
  | d :: ds, h => by
    simp only [plDs, Bool.and_eq_true] at h
    obtain ⟨a, b⟩ := dat_pl (r := r) d h.1
    obtain ⟨c, e⟩ := dats_pl (r := r) ds h.2
    exact ⟨by simp [toPs, pds, a, c], by simp [pds, PyData.canLayAll0, b, e]⟩
end
theorem datD_pl {h : Hd} {d : D} (p : plD d = true) : datD h d = some (pd d) := (dat_pl d p).1
structure Pl (d : D) : Prop where
  p : plD d = true
  d : (pd d).depth ≤ 40
theorem eq_pl {x y : D} {h : Hd} (hx : Pl x) (hy : Pl y) [Decidable (x = y)] : eqD x y h = some (.bl (decide (x = y)), h) := by
  unfold eqD
  rw [datD_pl hx.p, datD_pl hy.p]
  simp only
  rw [if_pos ⟨(dat_pl (r := fun _ => none) x hx.p).2, (dat_pl (r := fun _ => none) y hy.p).2, by have := hx.d; omega⟩]
  congr 3
  rw [Bool.eq_iff_iff, eqv_pl x y hx.p hy.p, decide_eq_true_eq]
theorem ne_pl {x y : D} {h : Hd} (hx : Pl x) (hy : Pl y) [Decidable (x = y)] : neD x y h = some (.bl (!decide (x = y)), h) := by
  unfold neD
  rw [datD_pl hx.p, datD_pl hy.p]
  simp only
  rw [if_pos ⟨(dat_pl (r := fun _ => none) x hx.p).2, (dat_pl (r := fun _ => none) y hy.p).2, by have := hx.d; omega⟩]
  congr 4
  rw [Bool.eq_iff_iff, eqv_pl x y hx.p hy.p, decide_eq_true_eq]
/-! ### addresses and cells -/
inductive Ad where
  | h (n : Nat) | s (n : Nat)
deriving DecidableEq
inductive Cl where
  | ref (a : Ad) | str (n : Nat) | con (s : Str) | int (i : Int) | fn (f : Str) (k : Nat) | none
deriving DecidableEq
def eA : Ad → D
  | .h n => .tup [.str "h", .int n]
  | .s n => .tup [.str "s", .int n]
def eC : Cl → D
  | .ref a => .tup [.str "ref", eA a]
  | .str n => .tup [.str "str", eA (.h n)]
  | .con s => .tup [.str "con", .str s]
  | .int i => .tup [.str "int", .int i]
  | .fn f k => .tup [.str "fun", .str f, .int k]
  | .none => .tup [.str "none"]
def okC : Cl → Bool
  | .con s => atomOk s
  | .fn f _ => atomOk f
  | _ => true
theorem hs_ne : ¬ ((("h" : String) : Str) = (("s" : String) : Str)) := by decide +kernel
theorem sh_ne : ¬ ((("s" : String) : Str) = (("h" : String) : Str)) := by decide +kernel
theorem eA_inj {a b : Ad} (e : eA a = eA b) : a = b := by
  cases a <;> cases b <;> simp only [eA, D.tup.injEq, List.cons.injEq, D.str.injEq, D.int.injEq, and_true] at e
  · rw [show _ = _ from Int.ofNat.inj e.2]
  · exact absurd e.1 hs_ne
  · exact absurd e.1 sh_ne
  · rw [show _ = _ from Int.ofNat.inj e.2]
/-- the word of a cell -/
def tgN : Cl → Nat
  | .ref _ => 0
  | .str _ => 1
  | .con _ => 2
  | .int _ => 3
  | .fn _ _ => 4
  | .none => 5
def tgS : Nat → Str
  | 0 => "ref"
  | 1 => "str"
  | 2 => "con"
  | 3 => "int"
  | 4 => "fun"
  | _ => "none"
theorem tgS_inj : ∀ i < 6, ∀ j < 6, tgS i = tgS j → i = j := by decide +kernel
theorem tgN_lt (c : Cl) : tgN c < 6 := by cases c <;> simp [tgN]
def wd (c : Cl) : Str := tgS (tgN c)
theorem eC_head (c : Cl) : ∃ r, eC c = .tup (.str (wd c) :: r) := by cases c <;> exact ⟨_, rfl⟩
theorem eC_inj {a b : Cl} (e : eC a = eC b) : a = b := by
  have hw : wd a = wd b := by
    obtain ⟨r, e1⟩ := eC_head a
    obtain ⟨r', e2⟩ := eC_head b
    rw [e1, e2] at e
    simp only [D.tup.injEq, List.cons.injEq, D.str.injEq] at e
    exact e.1
  have ht := tgS_inj _ (tgN_lt a) _ (tgN_lt b) hw
  cases a <;> cases b <;> first | (simp [tgN] at ht; done) | skip
  · simp only [eC, D.tup.injEq, List.cons.injEq, true_and, and_true] at e
    rw [eA_inj e]
  · simp only [eC, eA, D.tup.injEq, List.cons.injEq, D.int.injEq, true_and, and_true] at e
    rw [show _ = _ from Int.ofNat.inj e]
  · simp only [eC, D.tup.injEq, List.cons.injEq, D.str.injEq, true_and, and_true] at e
    rw [e]
  · simp only [eC, D.tup.injEq, List.cons.injEq, D.int.injEq, true_and, and_true] at e
    rw [e]
  · simp only [eC, D.tup.injEq, List.cons.injEq, D.str.injEq, D.int.injEq, true_and, and_true] at e
    rw [e.1, show _ = _ from Int.ofNat.inj e.2]
  · rfl
theorem okS' (s : String) : PyData.strOk (Str.ofString s) = true → True := fun _ => trivial
theorem so1 : PyData.strOk (("h" : String) : Str) = true := by decide +kernel
theorem so2 : PyData.strOk (("s" : String) : Str) = true := by decide +kernel
theorem so3 : PyData.strOk (("ref" : String) : Str) = true := by decide +kernel
theorem so4 : PyData.strOk (("str" : String) : Str) = true := by decide +kernel
theorem so5 : PyData.strOk (("con" : String) : Str) = true := by decide +kernel
theorem so6 : PyData.strOk (("int" : String) : Str) = true := by decide +kernel
theorem so7 : PyData.strOk (("fun" : String) : Str) = true := by decide +kernel
theorem so8 : PyData.strOk (("none" : String) : Str) = true := by decide +kernel
theorem pl_A (a : Ad) : Pl (eA a) := by
  cases a <;> exact ⟨by simp [eA, plD, plDs, so1, so2], by simp [eA, pd, pds, PyData.depth, PyData.depthAll]⟩
theorem pl_C {c : Cl} (h : okC c = true) : Pl (eC c) := by
  cases c with
  | ref a => exact ⟨by simp [eC, plD, plDs, so3, (pl_A a).p], by cases a <;> simp [eC, eA, pd, pds, PyData.depth, PyData.depthAll]⟩
  | str n => exact ⟨by simp [eC, plD, plDs, so4, (pl_A (.h n)).p], by simp [eC, eA, pd, pds, PyData.depth, PyData.depthAll]⟩
  | con s => exact ⟨by simp [eC, plD, plDs, so5, atom_strOk h], by simp [eC, pd, pds, PyData.depth, PyData.depthAll]⟩
  | int i => exact ⟨by simp [eC, plD, plDs, so6], by simp [eC, pd, pds, PyData.depth, PyData.depthAll]⟩
  | fn f k => exact ⟨by simp [eC, plD, plDs, so7, atom_strOk h], by simp [eC, pd, pds, PyData.depth, PyData.depthAll]⟩
  | none => exact ⟨by simp [eC, plD, plDs, so8], by simp [eC, pd, pds, PyData.depth, PyData.depthAll]⟩
section
variable {h : Hd} {Q : D → Hd → Prop}
theorem lf_eqA {a b : Ad} (q : Q (.bl (decide (a = b))) h) : Ev (eqD (eA a) (eA b) h) Q := by
  haveI : Decidable (eA a = eA b) := decidable_of_iff (a = b) ⟨fun e => by rw [e], eA_inj⟩
  refine ⟨_, _, eq_pl (pl_A a) (pl_A b), ?_⟩
  have : decide (eA a = eA b) = decide (a = b) := by rw [Bool.eq_iff_iff, decide_eq_true_eq, decide_eq_true_eq]; exact ⟨eA_inj, fun e => by rw [e]⟩
  rw [this]
  exact q
theorem lf_eqC {a b : Cl} (ha : okC a = true) (hb : okC b = true) (q : Q (.bl (decide (a = b))) h) : Ev (eqD (eC a) (eC b) h) Q := by
  haveI : Decidable (eC a = eC b) := decidable_of_iff (a = b) ⟨fun e => by rw [e], eC_inj⟩
  refine ⟨_, _, eq_pl (pl_C ha) (pl_C hb), ?_⟩
  have : decide (eC a = eC b) = decide (a = b) := by rw [Bool.eq_iff_iff, decide_eq_true_eq, decide_eq_true_eq]; exact ⟨eC_inj, fun e => by rw [e]⟩
  rw [this]
  exact q
theorem lf_neC {a b : Cl} (ha : okC a = true) (hb : okC b = true) (q : Q (.bl (!decide (a = b))) h) : Ev (neD (eC a) (eC b) h) Q := by
  haveI : Decidable (eC a = eC b) := decidable_of_iff (a = b) ⟨fun e => by rw [e], eC_inj⟩
  refine ⟨_, _, ne_pl (pl_C ha) (pl_C hb), ?_⟩
  have : decide (eC a = eC b) = decide (a = b) := by rw [Bool.eq_iff_iff, decide_eq_true_eq, decide_eq_true_eq]; exact ⟨eC_inj, fun e => by rw [e]⟩
  rw [this]
  exact q
end
def rs1 : Cl → D
  | .ref a => eA a
  | .str n => eA (.h n)
  | .con s => .str s
  | .int i => .int i
  | .fn f _ => .str f
  | .none => .non
theorem lf_c0 {c : Cl} {h : Hd} {Q : D → Hd → Prop} (q : Q (.str (wd c)) h) : Ev (subsD (eC c) (.int 0) h) Q := by
  obtain ⟨r, e⟩ := eC_head c
  rw [e]
  exact lf_ix (at0 _ _) q
theorem lf_c1 {c : Cl} {h : Hd} {Q : D → Hd → Prop} (hc : c ≠ .none) (q : Q (rs1 c) h) : Ev (subsD (eC c) (.int 1) h) Q := by
  cases c with
  | none => exact absurd rfl hc
  | _ => exact lf_ix (at1 _ _ _) q
def lt1 : Ad → Str
  | .h _ => "h"
  | .s _ => "s"
def nm : Ad → Nat
  | .h n => n
  | .s n => n
theorem lf_a0 {a : Ad} {h : Hd} {Q : D → Hd → Prop} (q : Q (.str (lt1 a)) h) : Ev (subsD (eA a) (.int 0) h) Q := by cases a <;> exact lf_ix (at0 _ _) q
theorem lf_a1 {a : Ad} {h : Hd} {Q : D → Hd → Prop} (q : Q (.int (nm a)) h) : Ev (subsD (eA a) (.int 1) h) Q := by cases a <;> exact lf_ix (at1 _ _ _) q
theorem eq_ss' {a b : Str} {h : Hd} {Q : D → Hd → Prop} (ha : PyData.strOk a = true) (hb : PyData.strOk b = true) (q : Q (.bl (decide (a = b))) h) : Ev (eqD (.str a) (.str b) h) Q := ⟨_, _, eq_ss ha hb, q⟩
theorem tgS_ok : ∀ i < 6, PyData.strOk (tgS i) = true := by decide +kernel
theorem wd_ok (c : Cl) : PyData.strOk (wd c) = true := tgS_ok _ (tgN_lt c)
theorem wd_eq {c : Cl} {k : Nat} {h : Hd} {Q : D → Hd → Prop} (hk : k < 6) (q : Q (.bl (decide (tgN c = k))) h) : Ev (eqD (.str (wd c)) (.str (tgS k)) h) Q := by
  refine eq_ss' (wd_ok c) (tgS_ok k hk) ?_
  have : decide (wd c = tgS k) = decide (tgN c = k) := by
    rw [Bool.eq_iff_iff, decide_eq_true_eq, decide_eq_true_eq]
    exact ⟨tgS_inj _ (tgN_lt c) _ hk, fun e => by rw [wd, e]⟩
  rw [this]
  exact q
theorem wd_ref {c : Cl} {h : Hd} {Q : D → Hd → Prop} (q1 : ∀ a, c = .ref a → Q (.bl true) h) (q2 : (∀ a, c ≠ .ref a) → Q (.bl false) h) : Ev (eqD (.str (wd c)) (.str "ref") h) Q := by
  refine wd_eq (k := 0) (by decide) ?_
  cases c with
  | ref a => exact q1 a rfl
  | _ => exact q2 fun a e => by cases e
theorem wd_str {c : Cl} {h : Hd} {Q : D → Hd → Prop} (q1 : ∀ a, c = .str a → Q (.bl true) h) (q2 : (∀ a, c ≠ .str a) → Q (.bl false) h) : Ev (eqD (.str (wd c)) (.str "str") h) Q := by
  refine wd_eq (k := 1) (by decide) ?_
  cases c with
  | str a => exact q1 a rfl
  | _ => exact q2 fun a e => by cases e
theorem ne_ss' {a b : Str} {h : Hd} {Q : D → Hd → Prop} (ha : PyData.strOk a = true) (hb : PyData.strOk b = true) (q : Q (.bl (!decide (a = b))) h) : Ev (neD (.str a) (.str b) h) Q := by
  refine ⟨_, _, ?_, q⟩
  unfold neD datD
  simp only [toP, PyData.canLay0, ha, hb, PyData.depth, PyData.eqv, true_and, Nat.min_self, Nat.zero_le, if_true]
  rw [Bool.beq_eq_decide_eq]
theorem wd_nstr {c : Cl} {h : Hd} {Q : D → Hd → Prop} (q1 : ∀ a, c = .str a → Q (.bl false) h) (q2 : (∀ a, c ≠ .str a) → Q (.bl true) h) : Ev (neD (.str (wd c)) (.str "str") h) Q := by
  refine ne_ss' (wd_ok c) so4 ?_
  have : decide (wd c = "str") = decide (tgN c = 1) := by
    rw [Bool.eq_iff_iff, decide_eq_true_eq, decide_eq_true_eq]
    exact ⟨tgS_inj _ (tgN_lt c) 1 (by decide), fun e => by rw [wd, e]; rfl⟩
  rw [this]
  cases c with
  | str a => exact q1 a rfl
  | _ => exact q2 fun a e => by cases e
theorem at_h {a : Ad} {h : Hd} {Q : D → Hd → Prop} (q1 : ∀ n, a = .h n → Q (.bl true) h) (q2 : ∀ n, a = .s n → Q (.bl false) h) : Ev (eqD (.str (lt1 a)) (.str "h") h) Q := by
  cases a with
  | h n =>
    show Ev (eqD (.str "h") (.str "h") h) Q
    exact lf_eqT (by decide +kernel) (q1 n rfl)
  | s n =>
    show Ev (eqD (.str "s") (.str "h") h) Q
    exact lf_eqF (by decide +kernel) (q2 n rfl)
theorem at_s {a : Ad} {h : Hd} {Q : D → Hd → Prop} (q1 : ∀ n, a = .h n → Q (.bl false) h) (q2 : ∀ n, a = .s n → Q (.bl true) h) : Ev (eqD (.str (lt1 a)) (.str "s") h) Q := by
  cases a with
  | h n =>
    show Ev (eqD (.str "h") (.str "s") h) Q
    exact lf_eqF (by decide +kernel) (q1 n rfl)
  | s n =>
    show Ev (eqD (.str "s") (.str "s") h) Q
    exact lf_eqT (by decide +kernel) (q2 n rfl)


theorem ev_is {α : Type} {r : Option (α × Hd)} {d : α} {h : Hd} (e : Ev r fun d' h' => d' = d ∧ h' = h) : r = some (d, h) := by
  obtain ⟨d', h', e, rfl, rfl⟩ := e
  exact e
/-- all but the objects of S stays as it was -/
def Fx (S : List Nat) (h h' : Hd) : Prop := h.length ≤ h'.length ∧ ∀ i, i < h.length → i ∉ S → h'[i]? = h[i]?
theorem Fx.refl (S : List Nat) (h : Hd) : Fx S h h := ⟨Nat.le_refl _, fun _ _ _ => rfl⟩
theorem Fx.trans {S : List Nat} {a b c : Hd} (x : Fx S a b) (y : Fx S b c) : Fx S a c := ⟨Nat.le_trans x.1 y.1, fun i hi hn => (y.2 i (Nat.lt_of_lt_of_le hi x.1) hn).trans (x.2 i hi hn)⟩
theorem Fx.mono {S T : List Nat} {a b : Hd} (x : Fx S a b) (h : ∀ i ∈ S, i ∈ T) : Fx T a b := ⟨x.1, fun i hi hn => x.2 i hi fun z => hn (h i z)⟩
theorem Fx.pre {S : List Nat} {h h' : Hd} (x : Pre h h') : Fx S h h' := by
  obtain ⟨g, rfl⟩ := x
  exact ⟨by simp, fun i hi _ => List.getElem?_append_left hi⟩
theorem Fx.set {S : List Nat} {h : Hd} {i : Nat} (hi : i ∈ S) (o : O) : Fx S h (h.set i o) := ⟨by simp, fun j _ hn => List.getElem?_set_ne (fun z : i = j => hn (z ▸ hi))⟩
theorem Fx.get {S : List Nat} {h h' : Hd} (x : Fx S h h') {i : Nat} {o : O} (e : h[i]? = some o) (hn : i ∉ S) : h'[i]? = some o := (x.2 i (lt_of e) hn).trans e
theorem Fx.app {S : List Nat} {h h' : Hd} (x : Fx S h h') (g : Hd) : Fx S h (h' ++ g) := x.trans (Fx.pre (Pre.app _ _))
/-- what was added behind does not matter -/
theorem Fx.drop {S : List Nat} {h h' : Hd} {n : Nat} (x : Fx (n :: S) h h') (hn : h.length ≤ n) : Fx S h h' := ⟨x.1, fun i hi hs => x.2 i hi fun z => by
  rcases List.mem_cons.mp z with rfl | z
  · omega
  · exact hs z⟩
/-! ### the store -/
structure Sto where
  cells : List Cl
  slots : List (Nat × Cl)
  noted : List Ad
  lo1 : Nat
  lo2 : Nat
def eSl (p : Nat × Cl) : Key × D := (.inl p.1, eC p.2)
structure SR (CA : Str → Addr) (o : Sto) (s c sl nt : Nat) (h : Hd) : Prop where
  os : h[s]? = some (.ins (CA "Store") [(n_cells, .at c), (n_slots, .at sl), (n_noted, .at nt), (n_low, .tup [.int o.lo1, .int o.lo2])])
  oc : h[c]? = some (.lst (o.cells.map eC))
  ol : h[sl]? = some (.dct (o.slots.map eSl))
  on : h[nt]? = some (.lst (o.noted.map eA))
  dn : c ≠ nt
  okc : ∀ x ∈ o.cells, okC x = true
  oks : ∀ p ∈ o.slots, okC p.2 = true
theorem SR.mv {CA : Str → Addr} {o : Sto} {s c sl nt : Nat} {h h' : Hd} (r : SR CA o s c sl nt h) {S : List Nat} (x : Fx S h h') (h1 : s ∉ S) (h2 : c ∉ S) (h3 : sl ∉ S) (h4 : nt ∉ S) : SR CA o s c sl nt h' :=
  ⟨x.get r.os h1, x.get r.oc h2, x.get r.ol h3, x.get r.on h4, r.dn, r.okc, r.oks⟩
theorem SR.pre {CA : Str → Addr} {o : Sto} {s c sl nt : Nat} {h h' : Hd} (r : SR CA o s c sl nt h) (x : Pre h h') : SR CA o s c sl nt h' := r.mv (S := []) (Fx.pre x) (by simp) (by simp) (by simp) (by simp)
theorem SR.nes {CA : Str → Addr} {o : Sto} {s c sl nt : Nat} {h : Hd} (r : SR CA o s c sl nt h) : s ≠ c ∧ s ≠ sl ∧ s ≠ nt ∧ c ≠ sl ∧ sl ≠ nt := by
  refine ⟨?_, ?_, ?_, ?_, ?_⟩ <;> rintro rfl
  · have := r.os; rw [r.oc] at this; cases this
  · have := r.os; rw [r.ol] at this; cases this
  · have := r.os; rw [r.on] at this; cases this
  · have := r.oc; rw [r.ol] at this; cases this
  · have := r.ol; rw [r.on] at this; cases this
def lk (o : Sto) : Ad → Option Cl
  | .h n => o.cells[n]?
  | .s n => (o.slots.find? fun p => decide (p.1 = n)).map (·.2)
theorem val_sl (ps : List (Nat × Cl)) (n : Nat) : valD (ps.map eSl) (.inl (n : Int)) = ((ps.find? fun p => decide (p.1 = n)).map (·.2)).map eC := by
  unfold valD
  induction ps with
  | nil => rfl
  | cons p ps ih =>
    rw [List.map_cons, List.find?_cons, List.find?_cons]
    by_cases e : p.1 = n
    · have h1 : decide ((eSl p).1 = Sum.inl (n : Int)) = true := by simp [eSl, e]
      rw [h1, decide_eq_true e]
      rfl
    · have h1 : decide ((eSl p).1 = Sum.inl (n : Int)) = false := decide_eq_false fun z => e (by
        simp only [eSl, Sum.inl.injEq] at z
        omega)
      rw [h1, decide_eq_false e]
      exact ih
theorem SR.ok {CA : Str → Addr} {o : Sto} {s c sl nt : Nat} {h : Hd} (r : SR CA o s c sl nt h) {a : Ad} {x : Cl} (e : lk o a = some x) : okC x = true := by
  cases a with
  | h n => exact r.okc x (List.mem_of_getElem? e)
  | s n =>
    unfold lk at e
    obtain ⟨p, h1, rfl⟩ := Option.map_eq_some_iff.mp e
    exact r.oks p (List.mem_of_find?_eq_some h1)
theorem atI_n {α : Type} {xs : List α} {n : Nat} {x : α} (e : xs[n]? = some x) : atI xs (n : Int) = some x := by
  have hl := (List.getElem?_eq_some_iff.mp e).1
  unfold atI ixN
  rw [if_pos (by omega), if_pos (by omega)]
  simpa using e
section
variable {NF RD : Nat} {CA : Str → Addr} {o : Sto} {s c sl nt : Nat} {h : Hd}
theorem r_look (r : SR CA o s c sl nt h) {a : Ad} {x : Cl} (e : lk o a = some x) : m_Store_look NF RD CA [.at s, eA a] h = some (eC x, h) := by
  refine ev_is ?_
  have os := r.os
  unfold m_Store_look
  walk_at "wq"
  refine lf_a0 ?_
  walk_at "wq"
  refine at_h (fun n hn => ?_) fun n hn => ?_
  · subst hn
    walk_at "wq"
    refine lf_a1 ?_
    refine lf_ixL (d := eC x) r.oc (atI_n ?_) ?_
    · show (o.cells.map eC)[n]? = some (eC x)
      rw [List.getElem?_map, show o.cells[n]? = some x from e]
      rfl
    walk_at "wq"
    exact ⟨rfl, rfl⟩
  · subst hn
    walk_at "wq"
    refine lf_a1 ?_
    refine lf_ixD (d := eC x) r.ol (k := .inl (n : Int)) rfl ?_ ?_
    · rw [val_sl, show (o.slots.find? fun p => decide (p.1 = n)).map (·.2) = some x from e]
      rfl
    walk_at "wq"
    exact ⟨rfl, rfl⟩
/-- the end of a cell, by n steps -/
inductive Fol (o : Sto) : Nat → Cl → Cl → Prop
  | stop {x : Cl} : (∀ a, x ≠ .ref a) → Fol o 0 x x
  | self {a : Ad} : lk o a = some (.ref a) → Fol o 0 (.ref a) (.ref a)
  | step {a : Ad} {y z : Cl} {n : Nat} : lk o a = some y → y ≠ .ref a → Fol o n y z → Fol o (n + 1) (.ref a) z
theorem r_follow (r : SR CA o s c sl nt h) {n : Nat} {x y : Cl} (f : Fol o n x y) (hx : okC x = true) (hn : n < NF) : m_Store_follow NF RD CA [.at s, eC x] h = some (eC y, h) := by
  refine ev_is ?_
  unfold m_Store_follow
  walk_at "wq"
  refine ev_while (fun n sg h' => h' = h ∧ ∃ x' p, sg = [some (.at s), some (eC x'), p] ∧ Fol o n x' y ∧ okC x' = true) ?_ NF n _ _ ⟨rfl, x, _, rfl, f, hx⟩ hn
  rintro n sg _ ⟨rfl, x', p, rfl, f, hx'⟩
  have os := r.os
  unfold C_Store_follow_0
  walk_at "wq"
  refine lf_c0 ?_
  walk_at "wq"
  refine wd_ref (fun a ha => ?_) fun hne => ?_
  · subst ha
    walk_at "wq"
    unfold B_Store_follow_1
    walk_at "wq"
    refine lf_c1 (by intro z; cases z) ?_
    cases f with
    | stop hs => exact absurd rfl (hs a)
    | self e =>
      walk_at "wq"
      refine ev_eq (r_look r e) ?_
      walk_at "wq"
      refine sq_nx ?_
      walk_at "wq"
      refine lf_eqC hx' hx' ?_
      walk_at "wq"
      refine br_t (by simp) ?_
      walk_at "wq"
      exact ⟨rfl, rfl⟩
    | step e hne f' =>
      rename_i y' m
      walk_at "wq"
      refine ev_eq (r_look r e) ?_
      walk_at "wq"
      refine sq_nx ?_
      walk_at "wq"
      refine lf_eqC (r.ok e) hx' ?_
      walk_at "wq"
      refine br_f (by simp [hne]) ?_
      walk_at "wq"
      refine sq_nx ?_
      walk_at "wq"
      exact ⟨m, by omega, rfl, y', _, rfl, f', r.ok e⟩
  · walk_at "wq"
    refine sq_nx ?_
    walk_at "wq"
    cases f with
    | stop hs => exact ⟨rfl, rfl⟩
    | self e => exact absurd rfl (hne _)
    | step e _ _ => exact absurd rfl (hne _)
end


def gdC : Cl → Bool
  | .con s => atomOk s
  | .fn f k => atomOk f && decide (1 ≤ k) && decide (k ≤ 8)
  | .int i => decide ((if i < 0 then -i else i) < BIG)
  | _ => true
theorem gd_ok {x : Cl} (h : gdC x = true) : okC x = true := by
  cases x with
  | fn f k => simp only [gdC, Bool.and_eq_true] at h; exact h.1.1
  | con s => exact h
  | _ => rfl
section
variable {NF RD : Nat} {CA : Str → Addr}
theorem r_is_place (n : Nat) (h : Hd) : m_is_place NF RD CA [.int n] h = some (.bl true, h) := by
  refine ev_is ?_
  unfold m_is_place
  walk_at "wq"
  exact ⟨by simp, rfl⟩
theorem r_is_address (a : Ad) (h : Hd) : m_is_address NF RD CA [eA a] h = some (.bl true, h) := by
  refine ev_is ?_
  unfold m_is_address
  cases a with
  | h n =>
    simp only [eA]
    walk_at "wq"
    refine sq_nx ?_
    walk_at "wq"
    refine ev_eq (r_is_place n h) ?_
    exact ⟨rfl, rfl⟩
  | s n =>
    simp only [eA]
    walk_at "wq"
    refine sq_nx ?_
    walk_at "wq"
    refine ev_eq (r_is_place n h) ?_
    exact ⟨rfl, rfl⟩
theorem r_is_cell {x : Cl} {h : Hd} (hN : 50 ≤ NF) (g : gdC x = true) : Rt (m_is_cell NF RD CA [eC x] h) (.bl true) (Pre h) := by
  refine rt_of ?_
  unfold m_is_cell
  cases x with
  | ref a =>
    simp only [eC]
    walk_at "wq"
    refine sq_nx ?_
    walk_at "wq"
    refine sq_nx ?_
    walk_at "wq"
    refine sq_nx ?_
    walk_at "wq"
    refine sq_nx ?_
    walk_at "wq"
    refine ev_eq (r_is_address a h) ?_
    walk_at "wq"
    exact ⟨rfl, Pre.refl _⟩
  | str n =>
    simp only [eC]
    walk_at "wq"
    refine sq_nx ?_
    walk_at "wq"
    refine sq_nx ?_
    walk_at "wq"
    refine sq_nx ?_
    walk_at "wq"
    refine sq_nx ?_
    walk_at "wq"
    refine ev_eq (r_is_address (.h n) h) ?_
    walk_at "wq"
    simp only [eA]
    walk_at "wq"
    exact ⟨rfl, Pre.refl _⟩
  | con s =>
    simp only [eC]
    walk_at "wq"
    refine sq_nx ?_
    walk_at "wq"
    refine sq_nx ?_
    walk_at "wq"
    refine sq_nx ?_
    walk_at "wq"
    refine sq_nx ?_
    walk_at "wq"
    refine sq_nx ?_
    walk_at "wq"
    have hl : s.length ≤ 40 := by
      have : atomOk s = true := g
      unfold atomOk at this
      simp only [Bool.and_eq_true, decide_eq_true_eq] at this
      exact this.1
    refine ev_of (by obtain ⟨h', e, p⟩ := r_is_any_atom NF RD CA s h hN (Nat.le_trans hl (by decide)); exact ⟨h', e, p⟩) fun h' p => ?_
    walk_at "wq"
    exact ⟨by rw [show atomOk s = true from g], p⟩
  | int i =>
    simp only [eC]
    walk_at "wq"
    refine sq_nx ?_
    walk_at "wq"
    refine sq_nx ?_
    walk_at "wq"
    refine sq_nx ?_
    walk_at "wq"
    refine sq_nx ?_
    walk_at "wq"
    refine sq_nx ?_
    walk_at "wq"
    refine sq_nx ?_
    walk_at "wq"
    refine ev_eq (r_is_any_number NF RD CA _ _ rfl) ?_
    walk_at "wq"
    exact ⟨congrArg D.bl g, Pre.refl _⟩
  | fn f k =>
    simp only [gdC, Bool.and_eq_true, decide_eq_true_eq] at g
    simp only [eC]
    walk_at "wq"
    refine sq_nx ?_
    walk_at "wq"
    unfold m_is_functor
    walk_at "wq"
    have hl : f.length ≤ 40 := by
      have := g.1.1
      unfold atomOk at this
      simp only [Bool.and_eq_true, decide_eq_true_eq] at this
      exact this.1
    refine ev_of (by obtain ⟨h', e, p⟩ := r_is_any_atom NF RD CA f h hN (Nat.le_trans hl (by decide)); exact ⟨h', e, p⟩) fun h' p => ?_
    rw [g.1.1]
    walk_at "wq"
    refine ev_eq (r_is_place k h') ?_
    walk_at "wq"
    refine br_t (decide_eq_true (by omega)) ?_
    walk_at "wq"
    exact ⟨congrArg D.bl (decide_eq_true (by omega)), p⟩
  | none =>
    simp only [eC]
    walk_at "wq"
    refine sq_nx ?_
    walk_at "wq"
    refine sq_nx ?_
    walk_at "wq"
    exact ⟨rfl, Pre.refl _⟩
theorem r_check {x : Cl} {h : Hd} (hN : 50 ≤ NF) (g : gdC x = true) : Rt (m_check_cell NF RD CA [eC x] h) .non (Pre h) := by
  refine rt_of ?_
  unfold m_check_cell
  walk_at "wq"
  refine ev_of (r_is_cell hN g) fun h' p => ?_
  walk_at "wq"
  exact ⟨rfl, p⟩
end
/-! ### what is written -/
def putS (ps : List (Nat × Cl)) (n : Nat) (x : Cl) : List (Nat × Cl) := if ps.any (fun p => decide (p.1 = n)) then ps.map (fun p => if p.1 = n then (p.1, x) else p) else ps ++ [(n, x)]
def wr (o : Sto) (a : Ad) (x : Cl) : Sto := match a with
  | .h n => { o with cells := o.cells.set n x }
  | .s n => { o with slots := putS o.slots n x }
def nte (o : Sto) (a : Ad) : Bool := match a with
  | .h n => decide (n < o.lo1)
  | .s n => decide (n < o.lo2)
def asg (o : Sto) (a : Ad) (x : Cl) : Sto := wr (if nte o a = true then { o with noted := o.noted ++ [a] } else o) a x
def thr (o : Sto) (a : Ad) : Prop := match a with
  | .h n => n < o.cells.length
  | .s n => (lk o (.s n)).isSome = true
theorem put_sl (ps : List (Nat × Cl)) (n : Nat) (x : Cl) : putD (ps.map eSl) (.inl (n : Int)) (eC x) = (putS ps n x).map eSl := by
  have h1 : (ps.map eSl).any (fun kv => decide (kv.1 = Sum.inl (n : Int))) = ps.any (fun p => decide (p.1 = n)) := by
    rw [List.any_map]
    congr 1
    funext p
    simp only [Function.comp_apply]
    by_cases e : p.1 = n
    · rw [decide_eq_true e, decide_eq_true (by simp [eSl, e])]
    · rw [decide_eq_false e, decide_eq_false fun z => e (by
        simp only [eSl, Sum.inl.injEq] at z
        omega)]
  unfold putD putS
  by_cases c : ps.any (fun p => decide (p.1 = n)) = true
  · rw [if_pos (by rw [← c]; exact h1), if_pos c, List.map_map, List.map_map]
    apply List.map_congr_left
    intro p _
    simp only [Function.comp_apply]
    by_cases e : p.1 = n
    · rw [if_pos (by simp [eSl, e]), if_pos e]
      simp [eSl]
    · rw [if_neg (by
        intro z
        simp only [eSl, Sum.inl.injEq] at z
        omega), if_neg e]
  · rw [if_neg (by rw [← h1] at c; exact c), if_neg c, List.map_append]
    rfl
section
variable {NF RD : Nat} {CA : Str → Addr} {o : Sto} {s c sl nt : Nat} {h : Hd}
theorem r_write_at (r : SR CA o s c sl nt h) {a : Ad} {x : Cl} (ha : thr o a) (hx : okC x = true) (hl : o.slots.length < LN) : Ev (m_Store_write_at NF RD CA [.at s, eA a, eC x] h) fun d h' => d = .non ∧ SR CA (wr o a x) s c sl nt h' ∧ Fx [c, sl, nt] h h' := by
  have os := r.os
  obtain ⟨n1, n2, n3, n4, n5⟩ := r.nes
  have n6 := r.dn
  unfold m_Store_write_at
  walk_at "wq"
  refine lf_a0 ?_
  walk_at "wq"
  refine at_h (fun n hn => ?_) fun n hn => ?_
  · subst hn
    walk_at "wq"
    refine ev_setL ?_
    walk_at "wq"
    refine lf_a1 ?_
    have hlen : n < o.cells.length := ha
    refine ⟨c, _, _, n, rfl, r.oc, rfl, ?_, ?_⟩
    · unfold ixN
      rw [if_pos (by simp [nm]), if_pos (by simp [nm]; exact hlen)]
      simp [nm]
    walk_at "wq"
    refine ⟨rfl, ⟨?_, ?_, ?_, ?_, r.dn, ?_, r.oks⟩, Fx.set (by simp) _⟩
    · rw [get_ne (by omega)]; exact os
    · rw [get_set r.oc]
      simp [wr, List.map_set]
    · rw [get_ne (by omega)]; exact r.ol
    · rw [get_ne r.dn]; exact r.on
    · intro y hy
      rcases List.mem_or_eq_of_mem_set hy with q | q
      · exact r.okc y q
      · rw [q]; exact hx
  · subst hn
    walk_at "wq"
    refine ev_setK ?_
    walk_at "wq"
    refine lf_a1 ?_
    refine ⟨sl, _, .inl (n : Int), rfl, r.ol, rfl, by simpa using hl, ?_⟩
    walk_at "wq"
    refine ⟨rfl, ⟨?_, ?_, ?_, ?_, r.dn, r.okc, ?_⟩, Fx.set (by simp) _⟩
    · rw [get_ne (by omega)]; exact os
    · rw [get_ne (by omega)]; exact r.oc
    · rw [get_set r.ol, put_sl]
      rfl
    · rw [get_ne (by omega)]; exact r.on
    · intro p hp
      unfold wr putS at hp
      simp only at hp
      split at hp
      · obtain ⟨p', hp', rfl⟩ := List.mem_map.mp hp
        split
        · exact hx
        · exact r.oks p' hp'
      · rcases List.mem_append.mp hp with q | q
        · exact r.oks p q
        · rw [List.mem_singleton.mp q]; exact hx
theorem r_assign (r : SR CA o s c sl nt h) {a : Ad} {x : Cl} (ha : thr o a) (hx : okC x = true) (hl : o.slots.length < LN) (hl2 : o.noted.length < LN) : Ev (m_Store_assign NF RD CA [.at s, eA a, eC x] h) fun d h' => d = .non ∧ SR CA (asg o a x) s c sl nt h' ∧ Fx [c, sl, nt] h h' := by
  have os := r.os
  have on := r.on
  obtain ⟨n1, n2, n3, n4, n5⟩ := r.nes
  have n6 := r.dn
  unfold m_Store_assign
  walk_at "wq"
  refine lf_a1 ?_
  walk_at "wq"
  refine lf_a0 ?_
  walk_at "wq"
  have fin : ∀ o' h1, SR CA o' s c sl nt h1 → Fx [c, sl, nt] h h1 → o' = (if nte o a = true then { o with noted := o.noted ++ [a] } else o) → Ev (exprM (methM (CA "Store") n_write_at 3 (m_Store_write_at NF RD CA) [] (varM 0) (consM (varM 1) (consM (varM 2) nilM))) ([some (.at s), some (eA a), some (eC x)] : Sg) h1)
      (BdK fun d h' => d = .non ∧ SR CA (asg o a x) s c sl nt h' ∧ Fx [c, sl, nt] h h') := by
    intro o' h1 r1 f1 e1
    have os1 := r1.os
    have hs : o'.slots = o.slots := by rw [e1]; split <;> rfl
    have hth : thr o' a := by
      have : o'.cells = o.cells := by rw [e1]; split <;> rfl
      cases a with
      | h n => show n < o'.cells.length; rw [this]; exact ha
      | s n =>
        have ha' : (lk o (.s n)).isSome = true := ha
        show (lk o' (.s n)).isSome = true
        unfold lk at ha' ⊢
        simp only at ha' ⊢
        rw [hs]
        exact ha'
    walk_at "wq"
    refine (r_write_at r1 hth hx (by rw [hs]; exact hl)).mono ?_
    rintro _ h2 ⟨rfl, r2, f2⟩
    walk_at "wq"
    refine ⟨rfl, ?_, f1.trans f2⟩
    unfold asg
    rw [← e1]
    exact r2
  refine at_s (fun n hn => ?_) fun n hn => ?_
  · subst hn
    walk_at "wq"
    refine br (fun q => ?_) fun q => ?_
    · have q' : n < o.lo1 := by simpa [nm] using q
      walk_at "wq"
      refine lf_append r.on (by simpa using hl2) ?_
      walk_at "wq"
      refine sq_nx ?_
      refine fin { o with noted := o.noted ++ [.h n] } _ ⟨?_, ?_, ?_, ?_, r.dn, r.okc, r.oks⟩ (Fx.set (by simp) _) ?_
      · rw [get_ne (by omega)]; exact os
      · rw [get_ne (by omega)]; exact r.oc
      · rw [get_ne (by omega)]; exact r.ol
      · rw [get_set r.on]; simp
      · simp [nte, q']
    · have q' : ¬ n < o.lo1 := by simpa [nm] using q
      walk_at "wq"
      refine sq_nx ?_
      exact fin o h r (Fx.refl _ _) (by simp [nte, q'])
  · subst hn
    walk_at "wq"
    refine br (fun q => ?_) fun q => ?_
    · have q' : n < o.lo2 := by simpa [nm] using q
      walk_at "wq"
      refine lf_append r.on (by simpa using hl2) ?_
      walk_at "wq"
      refine sq_nx ?_
      refine fin { o with noted := o.noted ++ [.s n] } _ ⟨?_, ?_, ?_, ?_, r.dn, r.okc, r.oks⟩ (Fx.set (by simp) _) ?_
      · rw [get_ne (by omega)]; exact os
      · rw [get_ne (by omega)]; exact r.oc
      · rw [get_ne (by omega)]; exact r.ol
      · rw [get_set r.on]; simp
      · simp [nte, q']
    · have q' : ¬ n < o.lo2 := by simpa [nm] using q
      walk_at "wq"
      refine sq_nx ?_
      exact fin o h r (Fx.refl _ _) (by simp [nte, q'])
end

def add (o : Sto) (x : Cl) : Sto := { o with cells := o.cells ++ [x] }

section
variable {NF RD : Nat} {CA : Str → Addr} {o : Sto} {s c sl nt : Nat} {h : Hd}
theorem SR.add {x : Cl} (r : SR CA o s c sl nt h) (hx : okC x = true) : SR CA (add o x) s c sl nt (h.set c (.lst (o.cells.map eC ++ [eC x]))) := by
  obtain ⟨n1, n2, n3, n4, n5⟩ := r.nes
  have n6 := r.dn
  refine ⟨?_, ?_, ?_, ?_, r.dn, ?_, r.oks⟩
  · rw [get_ne (by omega)]; exact r.os
  · rw [get_set r.oc]; simp [K50.add]
  · rw [get_ne (by omega)]; exact r.ol
  · rw [get_ne (by omega)]; exact r.on
  · intro y hy
    rcases List.mem_append.mp hy with q | q
    · exact r.okc y q
    · rw [List.mem_singleton.mp q]; exact hx
theorem r_is_there (r : SR CA o s c sl nt h) {a : Ad} (ha : thr o a) : m_Store_is_there NF RD CA [.at s, eA a] h = some (.bl true, h) := by
  refine ev_is ?_
  have os := r.os
  have oc := r.oc
  unfold m_Store_is_there
  walk_at "wq"
  refine ev_eq (r_is_address a h) ?_
  walk_at "wq"
  refine sq_nx ?_
  walk_at "wq"
  refine lf_a0 ?_
  walk_at "wq"
  refine at_h (fun n hn => ?_) fun n hn => ?_
  · subst hn
    walk_at "wq"
    refine lf_a1 ?_
    walk_at "wq"
    have : n < o.cells.length := ha
    exact ⟨congrArg D.bl (decide_eq_true (by simp [nm]; exact this)), rfl⟩
  · subst hn
    walk_at "wq"
    refine lf_a1 ?_
    walk_at "wq"
    refine lf_inK (k := .inl (n : Int)) r.ol rfl ?_
    walk_at "wq"
    have : (lk o (.s n)).isSome = true := ha
    unfold lk at this
    exact ⟨by rw [val_sl, Option.isSome_map, this]; rfl, rfl⟩
theorem r_check_there (r : SR CA o s c sl nt h) {a : Ad} (ha : thr o a) : m_Store_check_there NF RD CA [.at s, eA a] h = some (.non, h) := by
  refine ev_is ?_
  have os := r.os
  unfold m_Store_check_there
  walk_at "wq"
  refine ev_eq (r_is_there r ha) ?_
  walk_at "wq"
  exact ⟨rfl, rfl⟩
theorem r_new (r : SR CA o s c sl nt h) (hl : o.cells.length < LN) : Ev (m_Store_new NF RD CA [.at s] h) fun d h' => d = eA (.h o.cells.length) ∧ SR CA (add o (.ref (.h o.cells.length))) s c sl nt h' ∧ Fx [c] h h' := by
  have os := r.os
  have oc := r.oc
  have hl' : (o.cells.map eC).length < LN := by simpa using hl
  unfold m_Store_new
  walk_at "wp"
  refine lf_append oc hl' ?_
  walk_at "wp"
  refine ⟨?_, ?_, Fx.set (by simp) _⟩
  · simp [eA]
  · have e : (D.tup [.str "ref", .tup [.str "h", .int ((o.cells.map eC).length : Nat)]]) = eC (.ref (.h o.cells.length)) := by simp [eC, eA]
    have := r.add (x := .ref (.h o.cells.length)) rfl
    rw [← e] at this
    exact this
theorem r_trail (r : SR CA o s c sl nt h) : m_Store_trail NF RD CA [.at s] h = some (.at h.length, h ++ [.lst (o.noted.map eA)]) := by
  refine ev_is ?_
  have os := r.os
  have on := r.on
  unfold m_Store_trail
  walk_at "wp"
  exact ⟨rfl, rfl⟩
def emp : Sto := ⟨[], [], [], 0, 0⟩
theorem hp1 {X : Hd} {i : Nat} {p q : O} (hi : i < X.length) : (X.set i p ++ [q])[i]? = some p := by
  rw [List.getElem?_append_left (by simpa using hi), List.getElem?_set_self hi]
theorem hp2 {X : Hd} {i : Nat} {p : O} (hi : i < X.length) : (X.set i p)[i]? = some p := List.getElem?_set_self hi
theorem r_init {sg : Sg} {Q : D → Hd → Prop} (q : ∀ h', Pre h h' → SR CA emp h.length (h.length + 1) (h.length + 2) (h.length + 3) h' → Q (.at h.length) h') : Ev (makeM (CA "Store") 1 (m_Store___init__ NF RD CA) [] nilM sg h) Q := by
  unfold m_Store___init__
  walk_at "wp"
  refine sfld_k (hp1 (by simp)) List.mem_cons_self (Nat.le_of_ble_eq_true rfl) ?_
  walk_at "wp"
  refine sfld_k (hp1 (by simp)) List.mem_cons_self (Nat.le_of_ble_eq_true rfl) ?_
  walk_at "wp"
  refine sfld_k (hp2 (by simp)) List.mem_cons_self (Nat.le_of_ble_eq_true rfl) ?_
  walk_at "wp"
  refine q _ ?_ ?_
  · simp [List.set_append, Pre]
  · have : ∀ (a b c d : O), Pre h (h ++ [a, b, c, d]) := fun a b c d => Pre.app _ _
    simp [List.set_append, putFD, n_cells, n_slots, n_noted, n_low]
    refine ⟨?_, ?_, ?_, ?_, by omega, by simp [emp], by simp [emp]⟩
    · simp [emp, n_cells, n_slots, n_noted, n_low]
    · simp [emp, List.getElem?_append]
    · simp [emp, List.getElem?_append]
    · simp [emp, List.getElem?_append]
end

/-! ### keys of trees -/
mutual
theorem nk_inj : ∀ (a b : D) (k : NestedKey), nkD a = some k → nkD b = some k → a = b
  | .non, b, k, ha, hb => by
    unfold nkD at ha
    cases ha
    cases b <;> unfold nkD at hb <;> first | rfl | (cases hb; done) | (split at hb <;> cases hb)
  | .int i, b, k, ha, hb => by
    unfold nkD at ha
    cases ha
    cases b <;> unfold nkD at hb <;> first | (cases hb; first | rfl | done) | (split at hb <;> cases hb)
  | .str i, b, k, ha, hb => by
    unfold nkD at ha
    cases ha
    cases b <;> unfold nkD at hb <;> first | (cases hb; first | rfl | done) | (split at hb <;> cases hb)
  | .tup xs, b, k, ha, hb => by
    unfold nkD at ha
    split at ha
    · rename_i ks e
      cases ha
      cases b <;> unfold nkD at hb <;> first | (cases hb; done) | skip
      rename_i ys
      split at hb
      · rename_i ks' e'
        cases hb
        rw [nks_inj xs ys _ e e']
      · cases hb
    · cases ha
  | .bl _, b, k, ha, hb => by unfold nkD at ha; cases ha
  | .ty _, b, k, ha, hb => by unfold nkD at ha; cases ha
  | .rol _, b, k, ha, hb => by unfold nkD at ha; cases ha
  | .at _, b, k, ha, hb => by unfold nkD at ha; cases ha
  | .ad _, b, k, ha, hb => by unfold nkD at ha; cases ha
theorem nks_inj : ∀ (as bs : List D) (k : List NestedKey), nkDs as = some k → nkDs bs = some k → as = bs
  | [], bs, k, ha, hb => by
    unfold nkDs at ha
    cases ha
    cases bs with
    | nil => rfl
    | cons b bs => unfold nkDs at hb; split at hb <;> cases hb
  | a :: as, bs, k, ha, hb => by
    unfold nkDs at ha
    split at ha
    · rename_i k1 k2 e1 e2
      cases ha
      cases bs with
      | nil => unfold nkDs at hb; cases hb
      | cons b bs =>
        unfold nkDs at hb
        split at hb
        · rename_i k1' k2' e1' e2'
          cases hb
          rw [nk_inj a b _ e1 e1', nks_inj as bs _ e2 e2']
        · cases hb
    · cases ha
end
theorem dep_A (a : Ad) : depN (eA a) = true := by cases a <;> simp [depN, eA, nkD, nkDs, NestedKey.depth, NestedKey.depthAll]
theorem nk_A (a : Ad) : ∃ k, nkD (eA a) = some k ∧ k.depth ≤ 8 := by
  have := dep_A a
  obtain ⟨xs, nk, _, h2, h3⟩ := depN_of this
  exact ⟨nk, h2, h3⟩
theorem nk_C (x : Cl) : ∃ k, nkD (eC x) = some k ∧ k.depth ≤ 4 := by
  cases x with
  | ref a => cases a <;> exact ⟨_, by simp [eC, eA, nkD, nkDs]; rfl, by simp [NestedKey.depth, NestedKey.depthAll]⟩
  | _ => exact ⟨_, by simp [eC, eA, nkD, nkDs]; rfl, by simp [NestedKey.depth, NestedKey.depthAll]⟩
def eP (p : Cl × Cl) : D := .tup [eC p.1, eC p.2]
theorem eP_inj {p q : Cl × Cl} (e : eP p = eP q) : p = q := by
  simp only [eP, D.tup.injEq, List.cons.injEq, and_true] at e
  exact Prod.ext (eC_inj e.1) (eC_inj e.2)
theorem nk_P (p : Cl × Cl) : ∃ k, nkD (eP p) = some k ∧ k.depth ≤ 8 := by
  obtain ⟨k1, h1, d1⟩ := nk_C p.1
  obtain ⟨k2, h2, d2⟩ := nk_C p.2
  exact ⟨.tup [k1, k2], by simp [eP, nkD, nkDs, h1, h2], by simp [NestedKey.depth, NestedKey.depthAll]; omega⟩
theorem dep_P (p : Cl × Cl) : depN (eP p) = true := by
  obtain ⟨k, h, d⟩ := nk_P p
  unfold depN
  simp only [eP] at h ⊢
  rw [h]
  exact decide_eq_true d
theorem same_iff {a b : D} {k : NestedKey} (ha : nkD a = some k) (v : D) : sameN a (b, v) = true ↔ b = a := by
  unfold sameN
  rw [decide_eq_true_eq]
  exact ⟨fun e => nk_inj b a k (e.trans ha) ha, fun e => by rw [e]⟩
/-- a dict used as a set -/
def stN {α : Type} (f : α → D) (xs : List α) : List (D × D) := xs.map fun x => (f x, .bl true)
theorem val_st {α : Type} {f : α → D} (inj : ∀ x y, f x = f y → x = y) (nk : ∀ x, ∃ k, nkD (f x) = some k) (xs : List α) (x : α) [Decidable (x ∈ xs)] : (valN (stN f xs) (f x)).isSome = decide (x ∈ xs) := by
  obtain ⟨k, hk⟩ := nk x
  unfold valN stN
  rw [Option.isSome_map]
  rw [Bool.eq_iff_iff, List.find?_isSome, decide_eq_true_eq]
  constructor
  · rintro ⟨y, hy, h⟩
    obtain ⟨z, hz, rfl⟩ := List.mem_map.mp hy
    rw [← inj _ _ ((same_iff hk _).mp h)]
    exact hz
  · intro hx
    exact ⟨_, List.mem_map.mpr ⟨x, hx, rfl⟩, (same_iff hk _).mpr rfl⟩
theorem put_st {α : Type} {f : α → D} (inj : ∀ x y, f x = f y → x = y) (nk : ∀ x, ∃ k, nkD (f x) = some k) {xs : List α} {x : α} (hx : x ∉ xs) : putN (stN f xs) (f x) (.bl true) = stN f (xs ++ [x]) := by
  obtain ⟨k, hk⟩ := nk x
  unfold putN
  have : ¬ (stN f xs).any (sameN (f x)) = true := by
    rw [List.any_eq_true]
    rintro ⟨y, hy, h⟩
    obtain ⟨z, hz, rfl⟩ := List.mem_map.mp hy
    rw [inj _ _ ((same_iff hk _).mp h)] at hz
    exact hx hz
  rw [if_neg this]
  simp [stN]
/-! ### what a cell leads to -/
inductive Reach (o : Sto) (a : Ad) : Nat → Cl → Prop
  | here {k : Nat} : Reach o a k (.ref a)
  | ref {k : Nat} {b : Ad} {y : Cl} : lk o b = some y → Reach o a k y → Reach o a k (.ref b)
  | str {k n j m : Nat} {f : Str} : lk o (.h n) = some (.fn f m) → 1 ≤ j → j ≤ m → Reach o a k (.ref (.h (n + j))) → Reach o a (k + 1) (.str n)
theorem Reach.no_self {o : Sto} {a b : Ad} (hne : b ≠ a) (e : lk o b = some (.ref b)) {k : Nat} {x : Cl} (r : Reach o a k x) : x ≠ .ref b := by
  induction r with
  | here => intro z; cases z; exact hne rfl
  | ref e' _ ih =>
    intro z
    cases z
    rw [e] at e'
    cases e'
    exact ih rfl
  | str => intro z; cases z
/-- following, and meeting an address -/
inductive FN (o : Sto) (a : Ad) : Nat → Cl → Option Cl → Prop
  | hit : FN o a 0 (.ref a) none
  | stop {x : Cl} : (∀ b, x ≠ .ref b) → FN o a 0 x (some x)
  | self {b : Ad} : b ≠ a → lk o b = some (.ref b) → FN o a 0 (.ref b) (some (.ref b))
  | step {b : Ad} {y : Cl} {n : Nat} {r : Option Cl} : b ≠ a → lk o b = some y → y ≠ .ref b → FN o a n y r → FN o a (n + 1) (.ref b) r
theorem Fol.fn {o : Sto} (a : Ad) {n : Nat} {x y : Cl} (f : Fol o n x y) : ∃ m r, m ≤ n ∧ FN o a m x r ∧ (r = none ∨ r = some y) := by
  induction f with
  | stop h => exact ⟨0, _, Nat.le_refl _, .stop h, .inr rfl⟩
  | @self b e =>
    by_cases q : b = a
    · subst q; exact ⟨0, _, Nat.le_refl _, .hit, .inl rfl⟩
    · exact ⟨0, _, Nat.le_refl _, .self q e, .inr rfl⟩
  | @step b y z n e hne _ ih =>
    by_cases q : b = a
    · subst q; exact ⟨0, _, Nat.zero_le _, .hit, .inl rfl⟩
    · obtain ⟨m, r, hm, f, hr⟩ := ih
      exact ⟨m + 1, r, by omega, .step q e hne f, hr⟩
theorem FN.hits {o : Sto} {a : Ad} {n : Nat} {x : Cl} {r : Option Cl} (f : FN o a n x r) (hr : r = none) (k : Nat) : Reach o a k x := by
  induction f with
  | hit => exact .here
  | stop => cases hr
  | self => cases hr
  | step _ e _ _ ih => exact .ref e (ih hr)
theorem FN.iff {o : Sto} {a : Ad} {n : Nat} {x y : Cl} {r : Option Cl} (f : FN o a n x r) (hr : r = some y) (k : Nat) : Reach o a k x ↔ Reach o a k y := by
  induction f with
  | hit => cases hr
  | stop => cases hr; exact Iff.rfl
  | self => cases hr; exact Iff.rfl
  | @step b z n r q e _ _ ih =>
    rw [← ih hr]
    refine ⟨fun h => ?_, fun h => .ref e h⟩
    cases h with
    | here => exact absurd rfl q
    | ref e' h => rw [e] at e'; cases e'; exact h
theorem FN.end {o : Sto} {a : Ad} {n : Nat} {x y : Cl} {r : Option Cl} (f : FN o a n x r) (hr : r = some y) : (∀ b, y ≠ .ref b) ∨ ∃ b, b ≠ a ∧ y = .ref b ∧ lk o b = some (.ref b) := by
  induction f with
  | hit => cases hr
  | stop h => cases hr; exact .inl h
  | self h e => cases hr; exact .inr ⟨_, h, rfl, e⟩
  | step _ _ _ _ ih => exact ih hr
/-! ### a store whose chains end -/
def VC (o : Sto) : Cl → Prop
  | .ref a => (lk o a).isSome = true
  | .str n => ∃ f k, lk o (.h n) = some (.fn f k) ∧ 1 ≤ k ∧ k ≤ 8 ∧ n + k < o.cells.length
  | _ => True
structure WF (o : Sto) (B : Nat) : Prop where
  ch : ∀ a, (lk o a).isSome = true → ∃ i y, i ≤ B ∧ Fol o i (.ref a) y
  vc : ∀ a x, lk o a = some x → VC o x
theorem WF.fol {o : Sto} {B : Nat} (w : WF o B) {x : Cl} (v : VC o x) : ∃ i y, i ≤ B ∧ Fol o i x y := by
  cases x with
  | ref a => exact w.ch a v
  | _ => exact ⟨0, _, Nat.zero_le _, .stop fun a e => by cases e⟩
theorem FN.vc {o : Sto} {B : Nat} (w : WF o B) {a : Ad} {n : Nat} {x y : Cl} {r : Option Cl} (f : FN o a n x r) (v : VC o x) (hr : r = some y) : VC o y := by
  induction f with
  | hit => cases hr
  | stop => cases hr; exact v
  | self => cases hr; exact v
  | step _ e _ _ ih => exact ih (w.vc _ _ e) hr
theorem Fol.vc {o : Sto} {B : Nat} (w : WF o B) {n : Nat} {x y : Cl} (f : Fol o n x y) (v : VC o x) : VC o y := by
  induction f with
  | stop => exact v
  | self => exact v
  | step e _ _ ih => exact ih (w.vc _ _ e)
/-! ### the search -/
structure Inv (o : Sto) (a : Ad) (c : Cl) (ws : List Cl) (seen : List Nat) : Prop where
  i1 : ∀ k, Reach o a k c → ∃ w ∈ ws, ∃ j, Reach o a j w
  i2 : ∀ m ∈ seen, ∀ k, Reach o a k (.str m) → ∃ w ∈ ws, ∃ j, j < k ∧ Reach o a j w
  i3 : ∀ w ∈ ws, ∀ k, Reach o a k w → ∃ j, Reach o a j c
theorem Inv.drop {o : Sto} {a : Ad} {c : Cl} {ws : List Cl} {x y : Cl} {seen : List Nat} (v : Inv o a c (ws ++ [x]) seen) (e : ∀ k, Reach o a k x ↔ Reach o a k y) (hy : ∀ k, ¬ Reach o a k y) : Inv o a c ws seen := by
  refine ⟨fun k h => ?_, fun m hm k h => ?_, fun w hw => v.i3 w (by simp [hw])⟩
  · obtain ⟨w, hw, j, r⟩ := v.i1 k h
    rcases List.mem_append.mp hw with q | q
    · exact ⟨w, q, j, r⟩
    · rw [List.mem_singleton.mp q] at r
      exact absurd ((e j).mp r) (hy j)
  · obtain ⟨w, hw, j, hj, r⟩ := v.i2 m hm k h
    rcases List.mem_append.mp hw with q | q
    · exact ⟨w, q, j, hj, r⟩
    · rw [List.mem_singleton.mp q] at r
      exact absurd ((e j).mp r) (hy j)
theorem Inv.old {o : Sto} {a : Ad} {c : Cl} {ws : List Cl} {x : Cl} {m : Nat} {seen : List Nat} (v : Inv o a c (ws ++ [x]) seen) (e : ∀ k, Reach o a k x ↔ Reach o a k (.str m)) (hm : m ∈ seen) : Inv o a c ws seen := by
  have key : ∀ K, ∀ m' ∈ seen, Reach o a K (.str m') → ∃ w ∈ ws, ∃ j, j < K ∧ Reach o a j w := by
    intro K
    induction K using Nat.strongRecOn with
    | ind K ih =>
      intro m' hm' r
      obtain ⟨w, hw, j, hj, r⟩ := v.i2 m' hm' K r
      rcases List.mem_append.mp hw with q | q
      · exact ⟨w, q, j, hj, r⟩
      · rw [List.mem_singleton.mp q] at r
        obtain ⟨w, hw, j', hj', r'⟩ := ih j hj m hm ((e j).mp r)
        exact ⟨w, hw, j', by omega, r'⟩
  refine ⟨fun k h => ?_, fun m' hm' k h => key k m' hm' h, fun w hw => v.i3 w (by simp [hw])⟩
  obtain ⟨w, hw, j, r⟩ := v.i1 k h
  rcases List.mem_append.mp hw with q | q
  · exact ⟨w, q, j, r⟩
  · rw [List.mem_singleton.mp q] at r
    obtain ⟨w, hw, j', _, r'⟩ := key j m hm ((e j).mp r)
    exact ⟨w, hw, j', r'⟩
def kids (m k : Nat) : List Cl := (List.range k).map fun i => .ref (.h (m + (i + 1)))
theorem kid_mem {m k j : Nat} (h1 : 1 ≤ j) (h2 : j ≤ k) : (Cl.ref (.h (m + j))) ∈ kids m k := by
  refine List.mem_map.mpr ⟨j - 1, List.mem_range.mpr (by omega), ?_⟩
  rw [show j - 1 + 1 = j by omega]
theorem Inv.new {o : Sto} {a : Ad} {c : Cl} {ws : List Cl} {x : Cl} {m k : Nat} {f : Str} {seen : List Nat} (v : Inv o a c (ws ++ [x]) seen) (e : ∀ k, Reach o a k x ↔ Reach o a k (.str m)) (hf : lk o (.h m) = some (.fn f k)) : Inv o a c (ws ++ kids m k) (seen ++ [m]) := by
  have dn : ∀ j, Reach o a j (.str m) → ∃ w ∈ kids m k, ∃ j', j' < j ∧ Reach o a j' w := by
    intro j r
    cases r with
    | str e' h1 h2 r =>
      rw [hf] at e'
      cases e'
      exact ⟨_, kid_mem h1 h2, _, by omega, r⟩
  have mv : ∀ j w, w ∈ ws ++ [x] → Reach o a j w → ∃ w ∈ ws ++ kids m k, ∃ j', j' ≤ j ∧ Reach o a j' w := by
    intro j w hw r
    rcases List.mem_append.mp hw with q | q
    · exact ⟨w, by simp [q], j, Nat.le_refl _, r⟩
    · rw [List.mem_singleton.mp q] at r
      obtain ⟨w, hw, j', hj, r'⟩ := dn j ((e j).mp r)
      exact ⟨w, by simp [hw], j', by omega, r'⟩
  refine ⟨fun k h => ?_, fun m' hm' k h => ?_, fun w hw k h => ?_⟩
  · obtain ⟨w, hw, j, r⟩ := v.i1 k h
    obtain ⟨w, hw, j', _, r'⟩ := mv j w hw r
    exact ⟨w, hw, j', r'⟩
  · rcases List.mem_append.mp hm' with q | q
    · obtain ⟨w, hw, j, hj, r⟩ := v.i2 m' q k h
      obtain ⟨w, hw, j', hj', r'⟩ := mv j w hw r
      exact ⟨w, hw, j', by omega, r'⟩
    · rw [List.mem_singleton.mp q] at h
      obtain ⟨w, hw, j', hj', r'⟩ := dn k h
      exact ⟨w, by simp [hw], j', hj', r'⟩
  · rcases List.mem_append.mp hw with q | q
    · exact v.i3 w (by simp [q]) k h
    · obtain ⟨i, hi, rfl⟩ := List.mem_map.mp q
      exact v.i3 x (by simp) (k + 1) ((e _).mpr (.str hf (by omega) (by have := List.mem_range.mp hi; omega) h))
/-- the functors not seen yet -/
def un (N : Nat) (seen : List Nat) : Nat := ((List.range N).filter fun n => !seen.contains n).length
theorem un_le (N : Nat) (seen : List Nat) : un N seen ≤ N := by
  have := List.length_filter_le (fun n => !seen.contains n) (List.range N)
  simpa [un] using this
theorem un_new {N m : Nat} {seen : List Nat} (hm : m < N) (hs : m ∉ seen) : un N (seen ++ [m]) < un N seen := by
  unfold un
  have h1 : ((List.range N).filter fun n => !(seen ++ [m]).contains n) = (((List.range N).filter fun n => !seen.contains n).filter fun n => n != m) := by
    rw [List.filter_filter]
    congr 1
    funext n
    by_cases q1 : n ∈ seen <;> by_cases q2 : n = m <;> simp [q1, q2]
  rw [h1]
  have h2 : m ∈ (List.range N).filter fun n => !seen.contains n := List.mem_filter.mpr ⟨List.mem_range.mpr hm, by simp [hs]⟩
  generalize (List.range N).filter (fun n => !seen.contains n) = l at h2
  have := List.length_filter_lt_length_iff_exists (p := fun n => n != m) (l := l)
  exact this.mpr ⟨m, h2, by simp⟩


section
variable {NF RD : Nat} {CA : Str → Addr} {o : Sto} {s c sl nt : Nat} {h : Hd}
theorem _root_.K50.Fx.setN {S : List Nat} {h h' : Hd} (x : Fx S h h') {i : Nat} (hi : h.length ≤ i) (o : O) : Fx S h (h'.set i o) := ⟨by simpa using x.1, fun j hj hn => by rw [get_ne (by omega)]; exact x.2 j hj hn⟩
theorem lf_fn2 {f : Str} {k : Nat} {h : Hd} {Q : D → Hd → Prop} (q : Q (.int k) h) : Ev (subsD (eC (.fn f k)) (.int 2) h) Q := lf_ix (at2 _ _ _ _) q
theorem eq_CN {x : Cl} {h : Hd} {Q : D → Hd → Prop} (hx : okC x = true) (q : Q (.bl false) h) : Ev (eqD (eC x) .non h) Q := by
  refine ⟨_, _, ?_, q⟩
  unfold eqD
  rw [datD_pl (pl_C hx).p]
  have : datD h .non = some .none := by simp [datD, toP]
  rw [this]
  simp only
  rw [if_pos ⟨(dat_pl (r := fun _ => none) _ (pl_C hx).p).2, by simp [PyData.canLay0], by simp [PyData.depth]⟩]
  obtain ⟨r, e⟩ := eC_head x
  rw [e]
  simp [pd, PyData.eqv]
/-- the state of the search -/
def stR (s l0 w d : Nat) (a : Ad) (p6 p7 p8 p9 : Option D) : Sg := [some (.at s), some (eA a), some (.at l0), some .non, some (.at w), some (.at d), p6, p7, p8, p9]
theorem r_inner {l0 w d : Nat} {a : Ad} {p8 p9 : Option D} {Q : Fl → Hd → Prop} (r : SR CA o s c sl nt h) {n : Nat} {x : Cl} {rs : Option Cl} (f : FN o a n x rs) (hx : okC x = true) (hn : n < NF) {p7 : Option D}
    (q1 : rs = none → Q (.rt (.bl true)) h) (q2 : ∀ y p7, rs = some y → okC y = true → Q (.nx (stR s l0 w d a (some (eC y)) p7 p8 p9)) h) :
    Ev (whileM (C_reaches_1 NF RD CA) (B_reaches_2 NF RD CA) NF (stR s l0 w d a (some (eC x)) p7 p8 p9) h) Q := by
  refine ev_while (fun n sg h' => h' = h ∧ ∃ x' p7, sg = stR s l0 w d a (some (eC x')) p7 p8 p9 ∧ FN o a n x' rs ∧ okC x' = true) ?_ NF n _ _ ⟨rfl, x, _, rfl, f, hx⟩ hn
  rintro n sg _ ⟨rfl, x', p7, rfl, f, hx'⟩
  have os := r.os
  unfold C_reaches_1 stR
  walk_at "wq"
  refine lf_c0 ?_
  walk_at "wq"
  refine wd_ref (fun b hb => ?_) fun hne => ?_
  · subst hb
    walk_at "wq"
    unfold B_reaches_2
    walk_at "wq"
    refine lf_c1 (by intro z; cases z) ?_
    walk_at "wq"
    refine lf_eqA ?_
    walk_at "wq"
    cases f with
    | hit =>
      refine br_t (by simp) ?_
      walk_at "wq"
      exact q1 rfl
    | stop hs => exact absurd rfl (hs b)
    | self hba e =>
      refine br_f (by simp [hba]) ?_
      walk_at "wq"
      refine sq_nx ?_
      walk_at "wq"
      refine lf_c1 (by intro z; cases z) ?_
      walk_at "wq"
      refine ev_eq (r_look r e) ?_
      walk_at "wq"
      refine sq_nx ?_
      walk_at "wq"
      refine lf_eqC hx' hx' ?_
      walk_at "wq"
      refine br_t (by simp) ?_
      walk_at "wq"
      exact q2 _ _ rfl hx'
    | step hba e hne f' =>
      rename_i y' m
      refine br_f (by simp [hba]) ?_
      walk_at "wq"
      refine sq_nx ?_
      walk_at "wq"
      refine lf_c1 (by intro z; cases z) ?_
      walk_at "wq"
      refine ev_eq (r_look r e) ?_
      walk_at "wq"
      refine sq_nx ?_
      walk_at "wq"
      refine lf_eqC (r.ok e) hx' ?_
      walk_at "wq"
      refine br_f (by simp [hne]) ?_
      walk_at "wq"
      refine sq_nx ?_
      walk_at "wq"
      exact ⟨m, by omega, rfl, y', _, rfl, f', r.ok e⟩
  · walk_at "wq"
    cases f with
    | hit => exact absurd rfl (hne _)
    | stop hs => exact q2 _ _ rfl hx'
    | self _ e => exact absurd rfl (hne _)
    | step _ e _ _ => exact absurd rfl (hne _)
def IR (o : Sto) (a : Ad) (x : Cl) (s l0 : Nat) (h : Hd) (M : Nat) (n : Nat) (sg : Sg) (h' : Hd) : Prop :=
  ∃ ws seen p6 p7 p8 p9, sg = stR s l0 h.length (h.length + 1) a p6 p7 p8 p9 ∧ Fx [] h h' ∧ h'[h.length]? = some (.lst (ws.map eC)) ∧ h'[h.length + 1]? = some (.dcn (stN (fun n => eA (.h n)) seen)) ∧ (∀ y ∈ ws, okC y = true ∧ VC o y) ∧ Inv o a x ws seen ∧ ws.length + 9 * un o.cells.length seen = n ∧ n ≤ M ∧ seen.length + un o.cells.length seen ≤ o.cells.length
theorem r_reaches {B : Nat} (r : SR CA o s c sl nt h) (wf : WF o B) {x : Cl} {a : Ad} {l0 : Nat} (hv : VC o x) (hx : okC x = true) (hl : h[l0]? = some (.lst [eC x])) (hB : B < NF) (hN : 2 + 9 * o.cells.length < NF) (hL : 2 + 9 * o.cells.length < LN) (h10 : 10 < NF) :
    Ev (m_reaches NF RD CA [.at s, eA a, .at l0, .non] h) fun d h' => Fx [] h h' ∧ ∃ b, d = .bl b ∧ (b = true ↔ ∃ k, Reach o a k x) := by
  unfold m_reaches
  walk_at "wp"
  generalize hM : 1 + 9 * o.cells.length = M
  have hi : ∀ sg h', sg = stR s l0 h.length (h.length + 1) a none none none none → h' = h ++ [O.lst [eC x]] ++ [.dcn []] → ∃ n, n < NF ∧ IR o a x s l0 h M n sg h' := by
    rintro sg h' rfl rfl
    have hu := un_le o.cells.length []
    refine ⟨_, ?_, [x], [], none, none, none, none, rfl, ?_, ?_, ?_, ?_, ?_, rfl, ?_, by simpa using hu⟩
    · simp only [List.length_cons, List.length_nil]; omega
    · exact ((Fx.refl _ _).app _).app _
    · simp [List.getElem?_append]
    · simp [List.getElem?_append, stN]
    · intro y hy; rw [List.mem_singleton.mp hy]; exact ⟨hx, hv⟩
    · exact ⟨fun k r => ⟨x, by simp, k, r⟩, fun m hm => (by cases hm), fun w hw k r => ⟨k, by rw [← List.mem_singleton.mp hw]; exact r⟩⟩
    · simp only [List.length_cons, List.length_nil]; omega
  obtain ⟨n, hn, hI⟩ := hi _ _ rfl rfl
  rw [show (h ++ [O.lst [eC x]]).length = h.length + 1 by simp]
  refine ev_while (IR o a x s l0 h M) ?_ NF n _ _ hI hn
  clear hI hi hn n
  rintro n sg h' ⟨ws, seen, p6, p7, p8, p9, rfl, hf, hw, hd, hok, inv, hn, hnM, hsl⟩
  have r' := r.mv hf (by simp) (by simp) (by simp) (by simp)
  have os := r'.os
  unfold C_reaches_3 stR
  walk_at "wq"
  refine tr_lst hw ?_
  rcases List.eq_nil_or_concat ws with rfl | ⟨ws0, x0, rfl⟩
  · refine br_f rfl ?_
    walk_at "wp"
    exact ⟨hf, false, rfl, by simp; intro k hk; obtain ⟨w, hw, _⟩ := inv.i1 k hk; cases hw⟩
  rw [List.concat_eq_append] at hw hok inv hn
  refine br_t (by simp) ?_
  have hw' : h'[h.length]? = some (.lst (ws0.map eC ++ [eC x0])) := by rw [hw]; simp
  obtain ⟨ho0, hv0⟩ := hok x0 (by simp)
  unfold B_reaches_4
  walk_at "wq"
  refine lf_pop hw' ?_
  have hf2 : Fx [] h (h'.set h.length (.lst (ws0.map eC))) := hf.setN (Nat.le_refl _) _
  have hw2 := get_set (p := O.lst (ws0.map eC)) hw
  have hd2 : (h'.set h.length (.lst (ws0.map eC)))[h.length + 1]? = some (.dcn (stN (fun n => eA (.h n)) seen)) := by rw [get_ne (by omega)]; exact hd
  generalize h'.set h.length (.lst (ws0.map eC)) = g at hf2 hw2 hd2
  clear os r' hw hw' hd hf h'
  have r' := r.mv hf2 (by simp) (by simp) (by simp) (by simp)
  have os := r'.os
  walk_at "wq"
  refine sq_nx ?_
  walk_at "wq"
  obtain ⟨i, y0, hi, fo⟩ := wf.fol hv0
  obtain ⟨m, rs, hm, fn, hrs⟩ := fo.fn a
  refine r_inner r' fn ho0 (by omega) (fun hno => ?_) fun y p7 hy hoy => ?_
  · walk_at "wp"
    exact ⟨hf2, true, rfl, by simp; exact inv.i3 x0 (by simp) 0 (fn.hits hno 0)⟩
  subst hy
  have hiff := fn.iff rfl
  have hvy := fn.vc wf hv0 rfl
  have hend := fn.end rfl
  refine sq_nx ?_
  unfold stR
  walk_at "wq"
  refine eq_CN hoy ?_
  walk_at "wq"
  refine sq_nx ?_
  walk_at "wq"
  refine lf_c0 ?_
  walk_at "wq"
  simp only [List.length_append, List.length_cons, List.length_nil] at hn
  refine wd_str (fun m' hm' => ?_) fun hns => ?_
  · subst hm'
    walk_at "wq"
    refine lf_c1 (by intro z; cases z) ?_
    walk_at "wq"
    refine lf_inN (x := eA (.h m')) hd2 (dep_A _) ?_
    rw [val_st (f := fun n => eA (.h n)) (fun a b e => by cases eA_inj e; rfl) (fun n => by obtain ⟨k, h, _⟩ := nk_A (.h n); exact ⟨k, h⟩) seen m']
    walk_at "wq"
    by_cases hs : m' ∈ seen
    · refine br_f (by simp [hs]) ?_
      walk_at "wq"
      exact ⟨_, by omega, ws0, seen, _, _, _, _, rfl, hf2, hw2, hd2, fun y hy => hok y (by simp [hy]), inv.old hiff hs, rfl, by omega, hsl⟩
    · refine br_t (by simp [hs]) ?_
      obtain ⟨f, k, hfk, hk1, hk8, hkl⟩ := hvy
      walk_at "wq"
      refine ev_setN ?_
      walk_at "wq"
      refine lf_c1 (by intro z; cases z) ?_
      have hu := un_le o.cells.length seen
      refine ⟨_, _, rfl, hd2, dep_A (.h m'), by simp [stN]; omega, ?_⟩
      have hput : putN (stN (fun n => eA (.h n)) seen) (rs1 (.str m')) (.bl true) = stN (fun n => eA (.h n)) (seen ++ [m']) := put_st (f := fun n => eA (.h n)) (fun a b e => by cases eA_inj e; rfl) (fun n => by obtain ⟨k, h, _⟩ := nk_A (.h n); exact ⟨k, h⟩) hs
      rw [hput]
      have hf3 := hf2.setN (Nat.le_succ h.length) (O.dcn (stN (fun n => eA (.h n)) (seen ++ [m'])))
      have hd3 := get_set (p := O.dcn (stN (fun n => eA (.h n)) (seen ++ [m']))) hd2
      have hw3 : (g.set (h.length + 1) (O.dcn (stN (fun n => eA (.h n)) (seen ++ [m']))))[h.length]? = some (.lst (ws0.map eC)) := by rw [get_ne (by omega)]; exact hw2
      generalize g.set (h.length + 1) (O.dcn (stN (fun n => eA (.h n)) (seen ++ [m']))) = g3 at hf3 hd3 hw3
      clear os r' hw2 hd2 hf2 g
      have r' := r.mv hf3 (by simp) (by simp) (by simp) (by simp)
      have os := r'.os
      refine sq_nx ?_
      walk_at "wq"
      refine lf_c1 (by intro z; cases z) ?_
      walk_at "wq"
      refine ev_eq (r_look r' hfk) ?_
      walk_at "wq"
      refine lf_fn2 ?_
      walk_at "wq"
      refine sq_nx ?_
      walk_at "wq"
      have hun := un_new (by omega : m' < o.cells.length) hs
      refine ev_lc ?_
      walk_at "wq"
      refine ⟨_, _, rfl, ⟨by omega, by omega, by omega, by omega⟩, ?_⟩
      rw [show ((k : Int) + 1 - 1).toNat = k by omega]
      unfold rngD
      refine ⟨_, fun cs ys h3 => Fx [] g3 h3 ∧ ys = cs.map fun d => match d with | .int i => .tup [.str "ref", .tup [.str "h", .int (m' + i)]] | d => d, ?_, ?_, ⟨Fx.pre (Pre.app _ _), rfl⟩, fun _ _ _ _ _ => yl_fix, ?_, ?_⟩
      · simp; omega
      · simp; omega
      · rintro cs z bs ys h3 ez ⟨hp3, rfl⟩ e3
        unfold E_reaches_0
        have hz : z ∈ (List.range k).map fun (i : Nat) => D.int (1 + (i : Nat)) := by rw [ez]; simp
        obtain ⟨i, _, rfl⟩ := List.mem_map.mp hz
        walk_at "wq"
        refine lf_c1 (by intro z; cases z) ?_
        walk_at "wq"
        refine lf_a1 (a := .h m') ?_
        walk_at "wq"
        exact ⟨e3, hp3.setN (Nat.le_refl _) _, by simp [nm]⟩
      · rintro zs h3 e3 ⟨hp3, rfl⟩
        walk_at "wq"
        refine lf_addIL (hp3.get hw3 (by simp)) e3 (by simp; omega) ?_
        walk_at "wq"
        have hlen := hf3.1
        have hlt := lt_of hd3
        refine ⟨(ws0 ++ kids m' k).length + 9 * un o.cells.length (seen ++ [m']), ?_, ws0 ++ kids m' k, seen ++ [m'], _, _, _, _, rfl, (hf3.trans hp3).setN (Nat.le_refl _) _, ?_, ?_, ?_, inv.new hiff hfk, rfl, ?_, ?_⟩
        · simp [kids]; omega
        · rw [get_set (hp3.get hw3 (by simp))]
          simp [kids, eC, eA]
          intro i _
          omega
        · rw [get_ne (by omega)]; exact hp3.get hd3 (by simp)
        · intro y hy
          rcases List.mem_append.mp hy with q | q
          · exact hok y (by simp [q])
          · obtain ⟨i, hi, rfl⟩ := List.mem_map.mp q
            have := List.mem_range.mp hi
            exact ⟨rfl, by simp only [VC, lk]; rw [List.getElem?_eq_getElem (by omega)]; rfl⟩
        · simp [kids]; omega
        · simp; omega
  · walk_at "wq"
    refine ⟨_, by omega, ws0, seen, _, _, _, _, rfl, hf2, hw2, hd2, fun y hy => hok y (by simp [hy]), inv.drop hiff (fun k hk => ?_), rfl, by omega, hsl⟩
    rcases hend with q | ⟨b, hb, rfl, e⟩
    · cases hk with
      | here => exact q _ rfl
      | ref => exact q _ rfl
      | str => exact hns _ rfl
    · exact hk.no_self hb e rfl
end


open PySem.W in
def adLt (a b : Ad) : Bool := dataLt (pd (eA a)) (pd (eA b))
theorem adLt_h (n m : Nat) : adLt (.h n) (.h m) = decide (n < m) := by
  unfold adLt
  simp only [eA, pd, pds]
  rw [PySem.W.dataLt_pair (by simp [PySem.W.alike]) (by simp [PySem.W.alike]), PySem.W.dataLt_int]
  simp [PyData.eqv]
  omega
def mxA (a b : Ad) : Ad := if adLt a b = true then b else a
def mnA (a b : Ad) : Ad := if adLt b a = true then b else a
theorem ord_A (a b : Ad) : okOrd (pd (eA a)) (pd (eA b)) = true := by
  cases a <;> cases b <;> simp [okOrd, eA, pd, pds, PySem.W.alike, PySem.W.alikeAll, PyData.depth, PyData.depthAll]
theorem lf_mxA {a b : Ad} {h : Hd} {Q : D → Hd → Prop} (q : Q (eA (mxA a b)) h) : Ev (maxPD [eA a, eA b] h) Q := by
  refine lf_maxP (datD_pl (pl_A a).p) (datD_pl (pl_A b).p) (ord_A a b) ?_
  unfold mxA adLt at q
  split at q
  · rename_i e; rw [if_pos e]; exact q
  · rename_i e; rw [if_neg e]; exact q
theorem lf_mnA {a b : Ad} {h : Hd} {Q : D → Hd → Prop} (q : Q (eA (mnA a b)) h) : Ev (minPD [eA a, eA b] h) Q := by
  refine lf_minP (datD_pl (pl_A a).p) (datD_pl (pl_A b).p) (ord_A a b) ?_
  unfold mnA adLt at q
  split at q
  · rename_i e; rw [if_pos e]; exact q
  · rename_i e; rw [if_neg e]; exact q
def Rc (o : Sto) (a : Ad) (x : Cl) : Prop := ∃ k, Reach o a k x
inductive Bnd (o : Sto) : Cl → Cl → Bool → Sto → Prop
  | rr {a b : Ad} : Bnd o (.ref a) (.ref b) true (asg o (mxA a b) (.ref (mnA a b)))
  | lf {a : Ad} {y : Cl} : (∀ b, y ≠ .ref b) → (∀ n, y = .str n → ¬ Rc o a y) → Bnd o (.ref a) y true (asg o a y)
  | rt {b : Ad} {x : Cl} : (∀ a, x ≠ .ref a) → (∀ n, x = .str n → ¬ Rc o b x) → Bnd o x (.ref b) true (asg o b x)
  | lfF {a : Ad} {n : Nat} : Rc o a (.str n) → Bnd o (.ref a) (.str n) false o
  | rtF {b : Ad} {n : Nat} : Rc o b (.str n) → Bnd o (.str n) (.ref b) false o
/-- what a search and a write need -/
structure Szd (o : Sto) : Prop where
  c : o.cells.length ≤ 10000
  n : o.noted.length ≤ 10000000
  s : o.slots.length ≤ 10000
theorem thr_of {o : Sto} {a : Ad} (e : (lk o a).isSome = true) : thr o a := by
  cases a with
  | h n =>
    unfold lk at e
    unfold thr
    simp only at e ⊢
    rw [Option.isSome_iff_exists] at e
    obtain ⟨x, e⟩ := e
    exact (List.getElem?_eq_some_iff.mp e).1
  | s n => exact e
section
variable {NF RD : Nat} {CA : Str → Addr} {o : Sto} {s c sl nt : Nat} {h : Hd}
def tailB (NF RD : Nat) (CA : Str → Addr) : MS := (seqM (ifSM (tandM (testM (opM eqD (opM subsD (varM 4) (cM (.int 0))) (cM (.str "str")))) (truM (callM 4 (m_reaches NF RD CA) [.non] (consM (varM 0) (consM (opM subsD (varM 3) (cM (.int 1))) (consM (lstM (consM (varM 4) nilM)) nilM)))))) (retM (cM (.bl false))) passM) (seqM (exprM (methM (CA "Store") n_assign 3 (m_Store_assign NF RD CA) [] (varM 0) (consM (opM subsD (varM 3) (cM (.int 1))) (consM (varM 4) nilM)))) (retM (cM (.bl true)))))
theorem r_tail {B : Nat} (r : SR CA o s c sl nt h) (hN : 10000000 ≤ NF) (wf : WF o B) (hB : B < NF) (z : Szd o) {a : Ad} {v : Cl} {b : Bool} {o1 : Sto} {p1 p2 : Option D} (hnr : ∀ a, v ≠ .ref a) (hva : (lk o a).isSome = true) (hv : VC o v) (hx : okC v = true)
    (hb : (b = true ∧ o1 = asg o a v ∧ ∀ n, v = .str n → ¬ Rc o a v) ∨ (b = false ∧ o1 = o ∧ ∃ n, v = .str n ∧ Rc o a v)) :
    Ev (tailB NF RD CA [some (.at s), p1, p2, some (eC (.ref a)), some (eC v)] h) (BdK fun d h' => d = .bl b ∧ SR CA o1 s c sl nt h' ∧ Fx [c, sl, nt] h h') := by
  have hz := z.c
  have hzn := z.n
  have hzs := z.s
  have hLN := LN_eq
  have os := r.os
  unfold tailB
  have asgn : ∀ h1, Fx [] h h1 → b = true → o1 = asg o a v → Ev ((seqM (exprM (methM (CA "Store") n_assign 3 (m_Store_assign NF RD CA) [] (varM 0) (consM (opM subsD (varM 3) (cM (.int 1))) (consM (varM 4) nilM)))) (retM (cM (.bl true)))) ([some (.at s), p1, p2, some (eC (.ref a)), some (eC v)] : Sg) h1) (BdK fun d h' => d = .bl b ∧ SR CA o1 s c sl nt h' ∧ Fx [c, sl, nt] h h') := by
    intro h1 f1 e1 e2
    have r1 := r.mv f1 (by simp) (by simp) (by simp) (by simp)
    have os1 := r1.os
    walk_at "wq"
    refine lf_c1 (by intro z; cases z) ?_
    walk_at "wq"
    refine (r_assign (a := a) (x := v) r1 (thr_of hva) hx (by omega) (by omega)).mono ?_
    rintro _ h2 ⟨rfl, r2, f2⟩
    refine sq_nx ?_
    walk_at "wq"
    exact ⟨by rw [e1], by rw [e2]; exact r2, (f1.mono (by simp)).trans f2⟩
  walk_at "wq"
  refine lf_c0 ?_
  walk_at "wq"
  refine wd_str (fun n hn => ?_) fun hns => ?_
  · subst hn
    walk_at "wq"
    refine lf_c1 (by intro z; cases z) ?_
    walk_at "wq"
    have rn := r.pre (Pre.app h [.lst [eC (.str n)]])
    refine (r_reaches (B := B) rn wf hv hx (get_new _ _) hB (by omega) (by omega) (by omega)).mono ?_
    rintro d h2 ⟨f, b', rfl, hb'⟩
    have f' : Fx [] h h2 := ((Fx.refl [] h).app _).trans f
    walk_at "wq"
    rcases hb with ⟨e1, e2, e3⟩ | ⟨e1, e2, _, _, e3⟩
    · have : b' = false := by
        cases b' with
        | false => rfl
        | true => exact absurd (hb'.mp rfl) (e3 n rfl)
      subst this
      refine br_f rfl ?_
      walk_at "wq"
      refine sq_nx ?_
      exact asgn h2 f' e1 e2
    · have : b' = true := hb'.mpr e3
      subst this
      refine br_t rfl ?_
      walk_at "wq"
      exact ⟨by rw [e1], by rw [e2]; exact r.mv f' (by simp) (by simp) (by simp) (by simp), f'.mono (by simp)⟩
  · walk_at "wq"
    refine sq_nx ?_
    rcases hb with ⟨e1, e2, e3⟩ | ⟨e1, e2, n, rfl, e3⟩
    · exact asgn h (Fx.refl _ _) e1 e2
    · exact absurd rfl (hns n)
theorem r_bind {B : Nat} (r : SR CA o s c sl nt h) (hN : 10000000 ≤ NF) (wf : WF o B) (hB : B < NF) (z : Szd o) {x y : Cl} {b : Bool} {o1 : Sto} (bd : Bnd o x y b o1) (hvx : VC o x) (hvy : VC o y) (hx : okC x = true) (hy : okC y = true) :
    Ev (m_bind_or_not NF RD CA [.at s, eC x, eC y] h) fun d h' => d = .bl b ∧ SR CA o1 s c sl nt h' ∧ Fx [c, sl, nt] h h' := by
  have hz := z.c
  have hzn := z.n
  have hzs := z.s
  have hLN := LN_eq
  have os := r.os
  unfold m_bind_or_not
  walk_at "wq"
  refine lf_c0 ?_
  walk_at "wq"
  refine wd_ref (fun a hax => ?_) fun hnx => ?_
  · subst hax
    walk_at "wq"
    refine lf_c0 ?_
    walk_at "wq"
    refine wd_ref (fun a2 hay => ?_) fun hny => ?_
    · subst hay
      cases bd with
      | rr =>
        walk_at "wq"
        refine lf_c1 (by intro z; cases z) ?_
        walk_at "wq"
        refine lf_c1 (by intro z; cases z) ?_
        walk_at "wq"
        refine lf_mxA ?_
        walk_at "wq"
        refine lf_c1 (by intro z; cases z) ?_
        walk_at "wq"
        refine lf_c1 (by intro z; cases z) ?_
        walk_at "wq"
        refine lf_mnA ?_
        walk_at "wq"
        have ht : thr o (mxA a a2) := by unfold mxA; split; exact thr_of hvy; exact thr_of hvx
        refine (r_assign (x := .ref (mnA a a2)) r ht rfl (by omega) (by omega)).mono ?_
        rintro _ h2 ⟨rfl, r2, f2⟩
        refine sq_nx ?_
        walk_at "wq"
        exact ⟨rfl, r2, f2⟩
      | lf q => exact absurd rfl (q _)
      | rt q => exact absurd rfl (q _)
    · walk_at "wq"
      refine sq_nx ?_
      walk_at "wq"
      refine lf_c0 ?_
      walk_at "wq"
      refine wd_ref (fun _ _ => ?_) fun hnx => absurd rfl (hnx _)
      walk_at "wq"
      refine sq_nx ?_
      refine r_tail r hN wf hB z hny hvx hvy hy ?_
      cases bd with
      | rr => exact absurd rfl (hny _)
      | lf _ q => exact .inl ⟨rfl, rfl, q⟩
      | rt q => exact absurd rfl (q _)
      | lfF q => exact .inr ⟨rfl, rfl, _, rfl, q⟩
  · walk_at "wq"
    refine sq_nx ?_
    walk_at "wq"
    refine lf_c0 ?_
    walk_at "wq"
    refine wd_ref (fun a ha => absurd ha (hnx a)) fun _ => ?_
    walk_at "wq"
    refine sq_nx ?_
    cases bd with
    | rr => exact absurd rfl (hnx _)
    | lf q => exact absurd rfl (hnx _)
    | rt q1 q => exact r_tail r hN wf hB z hnx hvy hvx hx (.inl ⟨rfl, rfl, q⟩)
    | lfF q => exact absurd rfl (hnx _)
    | rtF q => exact r_tail r hN wf hB z hnx hvy hvx hx (.inr ⟨rfl, rfl, _, rfl, q⟩)
end

/-! ### stores that grow -/
def app (o : Sto) (g : List Cl) : Sto := { o with cells := o.cells ++ g }
theorem app_nil (o : Sto) : app o [] = o := by simp [app]
theorem app_app (o : Sto) (g g' : List Cl) : app (app o g) g' = app o (g ++ g') := by simp [app]
theorem app_one (o : Sto) (x : Cl) : app o [x] = add o x := rfl
theorem lk_app {o : Sto} {g : List Cl} {a : Ad} {z : Cl} (e : lk o a = some z) : lk (app o g) a = some z := by
  cases a with
  | h n =>
    have hn := (List.getElem?_eq_some_iff.mp (show o.cells[n]? = some z from e)).1
    show (o.cells ++ g)[n]? = some z
    rw [List.getElem?_append_left hn]
    exact e
  | s n => exact e
theorem lk_new {o : Sto} {g : List Cl} {i : Nat} {z : Cl} (e : g[i]? = some z) : lk (app o g) (.h (o.cells.length + i)) = some z := by
  show (o.cells ++ g)[o.cells.length + i]? = some z
  rw [List.getElem?_append_right (by omega)]
  simpa using e
theorem Fol.app {o : Sto} {g : List Cl} {n : Nat} {x y : Cl} (f : Fol o n x y) : Fol (app o g) n x y := by
  induction f with
  | stop h => exact .stop h
  | self e => exact .self (lk_app e)
  | step e h _ ih => exact .step (lk_app e) h ih
theorem VC.app {o : Sto} {g : List Cl} {x : Cl} (v : VC o x) : VC (app o g) x := by
  cases x with
  | ref a =>
    obtain ⟨z, e⟩ := Option.isSome_iff_exists.mp (show (lk o a).isSome = true from v)
    show (lk (K50.app o g) a).isSome = true
    rw [lk_app e]
    rfl
  | str n =>
    obtain ⟨f, k, h1, h2, h3, h4⟩ := v
    exact ⟨f, k, lk_app h1, h2, h3, by simp [K50.app]; omega⟩
  | _ => trivial
theorem lk_inv {o : Sto} {x z : Cl} {a : Ad} (e : lk (add o x) a = some z) : lk o a = some z ∨ (a = .h o.cells.length ∧ z = x) := by
  cases a with
  | s n => exact .inl e
  | h n =>
    have e' : (o.cells ++ [x])[n]? = some z := e
    by_cases q : n < o.cells.length
    · rw [List.getElem?_append_left q] at e'
      exact .inl e'
    · have hn := (List.getElem?_eq_some_iff.mp e').1
      simp at hn
      have : n = o.cells.length := by omega
      subst this
      simp at e'
      exact .inr ⟨rfl, e'.symm⟩
theorem WF.add {o : Sto} {B : Nat} {x : Cl} (w : WF o B) (hB : 1 ≤ B) (v : VC o x) (hx : ∀ a, x = .ref a → ∃ i y, i < B ∧ Fol o i x y) : WF (add o x) B := by
  have hnew : lk (K50.add o x) (.h o.cells.length) = some x := lk_new (o := o) (g := [x]) (i := 0) rfl
  have hself : x ≠ .ref (.h o.cells.length) := by
    rintro rfl
    have : (lk o (.h o.cells.length)).isSome = true := v
    simp [lk] at this
  refine ⟨fun a ha => ?_, fun a z e => ?_⟩
  · obtain ⟨z, e⟩ := Option.isSome_iff_exists.mp ha
    rcases lk_inv e with q | ⟨rfl, rfl⟩
    · obtain ⟨i, y, hi, f⟩ := w.ch a (by rw [q]; rfl)
      exact ⟨i, y, hi, f.app⟩
    · by_cases q : ∃ a, z = .ref a
      · obtain ⟨a, rfl⟩ := q
        obtain ⟨i, y, hi, f⟩ := hx a rfl
        exact ⟨i + 1, y, by omega, .step hnew hself f.app⟩
      · exact ⟨1, z, hB, .step hnew hself (.stop fun a e => q ⟨a, e⟩)⟩
  · rcases lk_inv e with q | ⟨rfl, rfl⟩
    · exact (w.vc a z q).app (g := [x])
    · exact v.app (g := [z])
theorem WF.new {o : Sto} {B : Nat} (w : WF o B) : WF (K50.add o (.ref (.h o.cells.length))) B := by
  have hnew : lk (K50.add o (.ref (.h o.cells.length))) (.h o.cells.length) = some (.ref (.h o.cells.length)) := lk_new (o := o) (g := [.ref (.h o.cells.length)]) (i := 0) rfl
  refine ⟨fun a ha => ?_, fun a z e => ?_⟩
  · obtain ⟨z, e⟩ := Option.isSome_iff_exists.mp ha
    rcases lk_inv e with q | ⟨rfl, rfl⟩
    · obtain ⟨i, y, hi, f⟩ := w.ch a (by rw [q]; rfl)
      exact ⟨i, y, hi, f.app⟩
    · exact ⟨0, _, by omega, .self hnew⟩
  · rcases lk_inv e with q | ⟨rfl, rfl⟩
    · exact (w.vc a z q).app (g := [_])
    · show (lk _ _).isSome = true
      rw [hnew]
      rfl
/-! ### writing -/
theorem find_putS {ps : List (Nat × Cl)} {n m : Nat} {x : Cl} (h : ps.any (fun p => decide (p.1 = n)) = true) : ((putS ps n x).find? fun p => decide (p.1 = m)).map (·.2) = if m = n then some x else (ps.find? fun p => decide (p.1 = m)).map (·.2) := by
  unfold putS
  rw [if_pos h]
  induction ps with
  | nil => cases h
  | cons p ps ih =>
    rw [List.map_cons, List.find?_cons, List.find?_cons]
    by_cases e : p.1 = n
    · rw [if_pos e]
      by_cases e2 : m = n
      · rw [if_pos e2]
        have : p.1 = m := by rw [e, e2]
        simp [this]
      · rw [if_neg e2]
        have : ¬ p.1 = m := fun z => e2 (by rw [← z, e])
        simp only [this, decide_false]
        by_cases q : ps.any (fun p => decide (p.1 = n)) = true
        · have := ih q
          rw [if_neg e2] at this
          exact this
        · have hmap : ps.map (fun p => if p.1 = n then (p.1, x) else p) = ps := by
            conv => rhs; rw [← List.map_id ps]
            apply List.map_congr_left
            intro z hz
            rw [if_neg]
            · rfl
            · intro ez
              exact q (List.any_eq_true.mpr ⟨z, hz, by simp [ez]⟩)
          rw [hmap]
    · rw [if_neg e]
      have q : ps.any (fun p => decide (p.1 = n)) = true := by
        rw [List.any_cons] at h
        simpa [e] using h
      by_cases e3 : p.1 = m
      · have : ¬ m = n := fun z => e (by rw [e3, z])
        simp [e3, this]
      · simp only [e3, decide_false]
        exact ih q
theorem any_of {o : Sto} {n : Nat} (h : (lk o (.s n)).isSome = true) : o.slots.any (fun p => decide (p.1 = n)) = true := by
  unfold lk at h
  rw [Option.isSome_map, List.find?_isSome] at h
  exact List.any_eq_true.mpr h
theorem lk_asg {o : Sto} {a b : Ad} {v : Cl} (h : (lk o a).isSome = true) : lk (asg o a v) b = if b = a then some v else lk o b := by
  have e0 : ∀ nt, lk (wr { o with noted := nt } a v) b = if b = a then some v else lk o b := by
    intro nt
    cases a with
    | h n =>
      obtain ⟨z, e⟩ := Option.isSome_iff_exists.mp h
      have hn := (List.getElem?_eq_some_iff.mp (show o.cells[n]? = some z from e)).1
      cases b with
      | h m =>
        show (o.cells.set n v)[m]? = _
        by_cases q : m = n
        · subst q
          rw [List.getElem?_set_self hn, if_pos rfl]
        · rw [List.getElem?_set_ne (fun z => q z.symm), if_neg (by simpa using q)]
          rfl
      | s m => rw [if_neg (by simp)]; rfl
    | s n =>
      cases b with
      | h m => rw [if_neg (by simp)]; rfl
      | s m =>
        show ((putS o.slots n v).find? fun p => decide (p.1 = m)).map (·.2) = _
        rw [find_putS (any_of h)]
        by_cases q : m = n
        · rw [if_pos q, if_pos (by rw [q])]
        · rw [if_neg q, if_neg (by simpa using q)]
          rfl
  unfold asg
  split
  · exact e0 _
  · exact e0 o.noted
theorem asg_len {o : Sto} {a : Ad} {v : Cl} (h : (lk o a).isSome = true) : (asg o a v).cells.length = o.cells.length ∧ (asg o a v).slots.length = o.slots.length ∧ (asg o a v).noted.length ≤ o.noted.length + 1 ∧ (asg o a v).lo1 = o.lo1 ∧ (asg o a v).lo2 = o.lo2 := by
  unfold asg
  cases a with
  | h n => split <;> simp [wr]
  | s n =>
    have hp : (putS o.slots n v).length = o.slots.length := by
      unfold putS
      rw [if_pos (any_of h)]
      simp
    split <;> simp [wr, hp]
section
variable {o o1 : Sto} {a : Ad} {v : Cl}
/-- one self reference is written over -/
structure Up (o : Sto) (a : Ad) (v : Cl) (o1 : Sto) : Prop where
  s : lk o a = some (.ref a)
  l : ∀ b, lk o1 b = if b = a then some v else lk o b
  n : o1.cells.length = o.cells.length
theorem Up.ne (u : Up o a v o1) {b : Ad} (h : b ≠ a) : lk o1 b = lk o b := by rw [u.l, if_neg h]
theorem Up.eq (u : Up o a v o1) : lk o1 a = some v := by rw [u.l, if_pos rfl]
theorem Fol.keep (u : Up o a v o1) {i : Nat} {x y : Cl} (f : Fol o i x y) (hy : y ≠ .ref a) : Fol o1 i x y := by
  induction f with
  | stop h => exact .stop h
  | self e' => exact .self (by rw [u.ne (fun z => hy (by rw [z]))]; exact e')
  | @step b y' z m e' hne _ ih =>
    refine .step ?_ hne (ih hy)
    rw [u.ne]
    · exact e'
    · rintro rfl
      rw [u.s] at e'
      cases e'
      exact hne rfl
theorem Fol.past (u : Up o a v o1) (hv : v ≠ .ref a) {ye : Cl} {k : Nat} (g : Fol o1 k v ye) {i : Nat} {x y : Cl} (f : Fol o i x y) (hy : y = .ref a) : Fol o1 (i + 1 + k) x ye := by
  induction f with
  | stop h => exact absurd hy (h _)
  | self e' =>
    cases hy
    rw [show 0 + 1 + k = k + 1 by omega]
    exact .step u.eq hv g
  | @step b y' z m e' hne _ ih =>
    rw [show m + 1 + 1 + k = (m + 1 + k) + 1 by omega]
    refine .step ?_ hne (ih hy)
    rw [u.ne]
    · exact e'
    · rintro rfl
      rw [u.s] at e'
      cases e'
      exact hne rfl
theorem Up.fn (u : Up o a v o1) {n k : Nat} {f : Str} (e : lk o (.h n) = some (.fn f k)) : lk o1 (.h n) = some (.fn f k) := by
  rw [u.ne]
  · exact e
  · rintro rfl
    rw [u.s] at e
    cases e
theorem VC.keep (u : Up o a v o1) {x : Cl} (h : VC o x) : VC o1 x := by
  cases x with
  | ref b =>
    show (lk o1 b).isSome = true
    rw [u.l]
    split
    · rfl
    · exact h
  | str m =>
    obtain ⟨f, k, h1, h2, h3, h4⟩ := h
    exact ⟨f, k, u.fn h1, h2, h3, by rw [u.n]; exact h4⟩
  | _ => trivial
end
/-! ### order of references -/
theorem adLt_hs (n m : Nat) : adLt (.h n) (.s m) = true := by
  unfold adLt
  simp only [eA, pd, pds]
  rw [PySem.W.dataLt_pair (by simp [PySem.W.alike]) (by simp [PySem.W.alike]), PySem.W.dataLt_str]
  have h1 : (PyData.str (Str.ofString "h")).eqv (PyData.str (Str.ofString "s")) = false := by
    simp only [PyData.eqv]
    decide +kernel
  rw [h1, if_neg Bool.false_ne_true]
  decide +kernel
theorem adLt_sh (n m : Nat) : adLt (.s n) (.h m) = false := by
  unfold adLt
  simp only [eA, pd, pds]
  rw [PySem.W.dataLt_pair (by simp [PySem.W.alike]) (by simp [PySem.W.alike]), PySem.W.dataLt_str]
  have h1 : (PyData.str (Str.ofString "s")).eqv (PyData.str (Str.ofString "h")) = false := by
    simp only [PyData.eqv]
    decide +kernel
  rw [h1, if_neg Bool.false_ne_true]
  decide +kernel
theorem adLt_s (n m : Nat) : adLt (.s n) (.s m) = decide (n < m) := by
  unfold adLt
  simp only [eA, pd, pds]
  rw [PySem.W.dataLt_pair (by simp [PySem.W.alike]) (by simp [PySem.W.alike]), PySem.W.dataLt_int]
  simp [PyData.eqv]
  omega
theorem adLt_tri (a b : Ad) : a = b ∨ adLt a b = true ∨ adLt b a = true := by
  cases a <;> cases b
  · simp only [adLt_h, Ad.h.injEq, decide_eq_true_eq]; omega
  · exact .inr (.inl (adLt_hs _ _))
  · exact .inr (.inr (adLt_hs _ _))
  · simp only [adLt_s, Ad.s.injEq, decide_eq_true_eq]; omega
theorem adLt_asym (a b : Ad) (h : adLt a b = true) : adLt b a = false := by
  cases a <;> cases b
  · rw [adLt_h] at h ⊢; simp at h ⊢; omega
  · exact adLt_sh _ _
  · rw [adLt_sh] at h; cases h
  · rw [adLt_s] at h ⊢; simp at h ⊢; omega
def rk (L : Nat) : Ad → Nat
  | .h n => n
  | .s n => L + n
theorem rk_lt {L : Nat} {a b : Ad} (h : adLt b a = true) (hb : ∀ n, b = .h n → n < L) : rk L b < rk L a := by
  cases a <;> cases b
  · rw [adLt_h] at h; simpa [rk] using h
  · rw [adLt_sh] at h; cases h
  · have := hb _ rfl
    simp only [rk]; omega
  · rw [adLt_s] at h; simp at h; simp only [rk]; omega
def Od (o : Sto) : Prop := ∀ a b, lk o a = some (.ref b) → b = a ∨ adLt b a = true
theorem lk_lt {o : Sto} {n : Nat} {x : Cl} (e : lk o (.h n) = some x) : n < o.cells.length := (List.getElem?_eq_some_iff.mp (show o.cells[n]? = some x from e)).1
theorem chain {o : Sto} (od : Od o) (vc : ∀ a x, lk o a = some x → VC o x) : ∀ (r : Nat) (a : Ad), rk o.cells.length a < r → (lk o a).isSome = true → ∃ i y, i ≤ rk o.cells.length a + 1 ∧ Fol o i (.ref a) y
  | 0, a, h, _ => by omega
  | r + 1, a, h, hs => by
    obtain ⟨x, e⟩ := Option.isSome_iff_exists.mp hs
    by_cases q : ∃ b, x = .ref b
    · obtain ⟨b, rfl⟩ := q
      rcases od a b e with rfl | hlt
      · exact ⟨0, _, by omega, .self e⟩
      · have hsb : (lk o b).isSome = true := vc a _ e
        have hr := rk_lt (L := o.cells.length) hlt (fun n en => by
          subst en
          obtain ⟨z, ez⟩ := Option.isSome_iff_exists.mp hsb
          exact lk_lt ez)
        obtain ⟨i, y, hi, f⟩ := chain od vc r b (by omega) hsb
        refine ⟨i + 1, y, by omega, .step e ?_ f⟩
        intro z
        cases z
        have := adLt_asym _ _ hlt
        rw [hlt] at this
        cases this
    · exact ⟨1, x, by omega, .step e (fun z => q ⟨_, z⟩) (.stop fun b z => q ⟨b, z⟩)⟩
theorem Fol.det {o : Sto} {i j : Nat} {x y z : Cl} (f : Fol o i x y) (g : Fol o j x z) : y = z ∧ i = j := by
  induction f generalizing j with
  | stop h =>
    cases g with
    | stop => exact ⟨rfl, rfl⟩
    | self => exact absurd rfl (h _)
    | step => exact absurd rfl (h _)
  | self e =>
    cases g with
    | stop h => exact absurd rfl (h _)
    | self => exact ⟨rfl, rfl⟩
    | step e' hne _ => rw [e] at e'; cases e'; exact absurd rfl hne
  | step e hne _ ih =>
    cases g with
    | stop h => exact absurd rfl (h _)
    | self e' => rw [e] at e'; cases e'; exact absurd rfl hne
    | step e' _ g' =>
      rw [e] at e'
      cases e'
      obtain ⟨q1, q2⟩ := ih g'
      exact ⟨q1, by rw [q2]⟩
theorem Fol.endd {o : Sto} {i : Nat} {x y : Cl} (f : Fol o i x y) : (∀ b, y ≠ .ref b) ∨ ∃ b, y = .ref b ∧ lk o b = some (.ref b) := by
  induction f with
  | stop h => exact .inl h
  | self e => exact .inr ⟨_, rfl, e⟩
  | step _ _ _ ih => exact ih

/-! ### no structure holds itself -/
inductive Fin (o : Sto) : Nat → Cl → Prop
  | leaf {x y : Cl} {i n : Nat} : Fol o i x y → (∀ p, y ≠ .str p) → Fin o n x
  | node {x : Cl} {i n p k : Nat} {f : Str} : Fol o i x (.str p) → lk o (.h p) = some (.fn f k) → (∀ j, 1 ≤ j → j ≤ k → Fin o n (.ref (.h (p + j)))) → Fin o (n + 1) x
theorem Fin.mono {o : Sto} {n : Nat} {x : Cl} (h : Fin o n x) : ∀ m, n ≤ m → Fin o m x := by
  induction h with
  | leaf f h => exact fun m _ => .leaf f h
  | node f e _ ih =>
    intro m hm
    cases m with
    | zero => omega
    | succ m => exact .node f e fun j j1 j2 => ih j j1 j2 m (by omega)
theorem Fin.of {o : Sto} {n i : Nat} {x y : Cl} (h : Fin o n x) (f : Fol o i x y) : Fin o n y := by
  have hy : ∃ i, Fol o i y y := by
    rcases f.endd with q | ⟨b, rfl, e⟩
    · exact ⟨0, .stop q⟩
    · exact ⟨0, .self e⟩
  obtain ⟨i', fy⟩ := hy
  cases h with
  | leaf g q =>
    obtain ⟨rfl, _⟩ := f.det g
    exact .leaf fy q
  | node g e k =>
    obtain ⟨rfl, _⟩ := f.det g
    exact .node fy e k
/-- the two ways on -/
inductive Rch (o : Sto) (a : Ad) : Cl → Prop
  | here {x : Cl} {i : Nat} : Fol o i x (.ref a) → Rch o a x
  | down {x : Cl} {i p k j : Nat} {f : Str} : Fol o i x (.str p) → lk o (.h p) = some (.fn f k) → 1 ≤ j → j ≤ k → Rch o a (.ref (.h (p + j))) → Rch o a x
/-- a functor below a cell -/
inductive Blw (o : Sto) (q : Nat) : Cl → Prop
  | here {x : Cl} {i : Nat} : Fol o i x (.str q) → Blw o q x
  | down {x : Cl} {i p k j : Nat} {f : Str} : Fol o i x (.str p) → lk o (.h p) = some (.fn f k) → 1 ≤ j → j ≤ k → Blw o q (.ref (.h (p + j))) → Blw o q x
theorem Blw.trans {o : Sto} {q r : Nat} {x : Cl} (h : Blw o q x) (g : Blw o r (.str q)) : Blw o r x := by
  induction h with
  | here f =>
    cases g with
    | here f' => cases f' with | stop => exact .here f
    | down f' e j1 j2 b => cases f' with | stop => exact .down f e j1 j2 b
  | down f e j1 j2 _ ih => exact .down f e j1 j2 ih
/-- what is finite is not below itself -/
theorem Fin.irr {o : Sto} : ∀ (n : Nat) (p : Nat), Fin o n (.str p) → ∀ f k j, lk o (.h p) = some (.fn f k) → 1 ≤ j → j ≤ k → ¬ Blw o p (.ref (.h (p + j))) := by
  have down : ∀ {n : Nat} {x : Cl} {q : Nat}, Fin o n x → Blw o q x → Fin o n (.str q) := by
    intro n x q h b
    induction b generalizing n with
    | here f => exact h.of f
    | down f e j1 j2 _ ih =>
      cases h with
      | leaf g z => obtain ⟨rfl, _⟩ := f.det g; exact absurd rfl (z _)
      | node g e' k =>
        obtain ⟨ee, _⟩ := f.det g
        cases ee
        rw [e] at e'
        cases e'
        exact (ih (k _ j1 j2)).mono _ (by omega)
  intro n
  induction n with
  | zero =>
    intro p h
    cases h with
    | leaf f z => cases f with | stop => exact absurd rfl (z _)
  | succ n ih =>
    intro p h f k j e j1 j2 b
    cases h with
    | leaf f z => cases f with | stop => exact absurd rfl (z _)
    | node g e' kk =>
      cases g with
      | stop =>
        rw [e] at e'
        cases e'
        exact ih p (down (kk j j1 j2) b) f k j e j1 j2 b
/-- as high as there are functors -/
theorem Fin.bd {o : Sto} : ∀ (m : Nat) (S : List Nat), S.length = m → ∀ (n : Nat) (x : Cl), Fin o n x → (∀ q, Blw o q x → q ∈ S) → Fin o m x := by
  intro m
  induction m with
  | zero =>
    intro S hS n x h hb
    cases h with
    | leaf f z => exact .leaf f z
    | node f e k =>
      have := hb _ (.here f)
      rw [List.eq_nil_of_length_eq_zero hS] at this
      cases this
  | succ m ih =>
    intro S hS n x h hb
    cases h with
    | leaf f z => exact .leaf f z
    | @node _ i n p k g f e kk =>
      have hp := hb _ (.here f)
      have hF : Fin o (n + 1) (.str p) := .node (.stop fun a z => by cases z) e kk
      refine .node f e fun j j1 j2 => ih (S.erase p) ?_ n _ (kk j j1 j2) fun q hq => ?_
      · rw [List.length_erase_of_mem hp, hS]; rfl
      · have hq2 : q ∈ S := hb _ (.down f e j1 j2 hq)
        have hne : q ≠ p := by
          rintro rfl
          exact hF.irr _ _ _ _ _ e j1 j2 hq
        exact (List.mem_erase_of_ne hne).mpr hq2
theorem Rch.of_reach {o : Sto} {a : Ad} (ha : lk o a = some (.ref a)) (ch : ∀ x, VC o x → ∃ i y, Fol o i x y) (vc : ∀ a x, lk o a = some x → VC o x) {k : Nat} {x : Cl} (r : Reach o a k x) (hv : VC o x) : Rch o a x := by
  induction r with
  | here => exact .here (.self ha)
  | @ref _ b y e r ih =>
    have := ih (vc _ _ e)
    by_cases q : y = .ref b
    · subst q; exact this
    · cases this with
      | here f => exact .here (.step e q f)
      | down f e' j1 j2 r' => exact .down (.step e q f) e' j1 j2 r'
  | @str k n j m f e j1 j2 r ih =>
    refine .down (.stop fun a z => by cases z) e j1 j2 (ih ?_)
    obtain ⟨f', k', h1, _, _, h4⟩ := hv
    rw [e] at h1
    cases h1
    show (lk o (.h (n + j))).isSome = true
    unfold lk
    simp only
    rw [List.getElem?_eq_getElem (by omega)]
    rfl
theorem Fol.back {o : Sto} {a : Ad} {i k : Nat} {x y : Cl} (f : Fol o i x y) (r : Reach o a k y) : Reach o a k x := by
  induction f with
  | stop => exact r
  | self => exact r
  | step e _ _ ih => exact .ref e (ih r)
theorem Rch.reach {o : Sto} {a : Ad} {x : Cl} (r : Rch o a x) : Rc o a x := by
  induction r with
  | here f => exact ⟨0, f.back .here⟩
  | down f e j1 j2 _ ih =>
    obtain ⟨k, ih⟩ := ih
    exact ⟨k + 1, f.back (.str e j1 j2 ih)⟩
/-! ### writing over a self reference -/
section
variable {o o1 : Sto} {a : Ad} {v : Cl}
theorem Fin.away (u : Up o a v o1) {n : Nat} {x : Cl} (h : Fin o n x) (hn : ¬ Rch o a x) : Fin o1 n x := by
  induction h with
  | leaf f z => exact .leaf (f.keep u fun e => hn (.here (by rw [← e]; exact f))) z
  | node f e _ ih => exact .node (f.keep u (by intro z; cases z)) (u.fn e) fun j j1 j2 => ih j j1 j2 fun r => hn (.down f e j1 j2 r)
theorem Fin.over (u : Up o a v o1) (hv : v ≠ .ref a) {ye : Cl} {k m : Nat} (g : Fol o1 k v ye) (hm : Fin o1 m v) {n : Nat} {x : Cl} (h : Fin o n x) : Fin o1 (n + m) x := by
  induction h with
  | @leaf x y i n f z =>
    by_cases q : y = .ref a
    · have f' := Fol.past u hv g f q
      have hy := hm.of g
      refine Fin.mono (n := m) ?_ _ (by omega)
      cases hy with
      | leaf g' z' =>
        have : Fol o1 0 ye ye := by
          rcases g.endd with q | ⟨b, rfl, e⟩
          · exact .stop q
          · exact .self e
        obtain ⟨rfl, _⟩ := this.det g'
        exact .leaf f' z'
      | node g' e kk =>
        have : Fol o1 0 ye ye := by
          rcases g.endd with q | ⟨b, rfl, e⟩
          · exact .stop q
          · exact .self e
        obtain ⟨rfl, _⟩ := this.det g'
        exact .node f' e kk
    · exact .leaf (f.keep u q) z
  | @node x i n p k f' f e _ ih =>
    rw [show n + 1 + m = n + m + 1 by omega]
    exact .node (f.keep u (by intro z; cases z)) (u.fn e) ih
end

def isFn : Option Cl → Bool
  | some (.fn _ _) => true
  | _ => false
def fns (o : Sto) : List Nat := (List.range o.cells.length).filter fun n => isFn (lk o (.h n))
structure Gd (o : Sto) : Prop where
  vc : ∀ a x, lk o a = some x → VC o x
  od : Od o
  fin : ∀ x, VC o x → ∃ n, Fin o n x
  sl : ∀ n, (lk o (.s n)).isSome = true → n ≤ 30
  fc : (fns o).length ≤ 170
  sz : o.cells.length ≤ 2000
  ss : o.slots.length ≤ 30
  nr : ∀ a b, lk o a = some (.ref b) → isFn (lk o b) = false
  nk : ∀ p f k, lk o (.h p) = some (.fn f k) → ∀ j, 1 ≤ j → j ≤ k → isFn (lk o (.h (p + j))) = false
  cp : ∀ p f k, lk o (.h p) = some (.fn f k) → p + k < o.cells.length ∧ 1 ≤ k ∧ k ≤ 8
  nn : ∀ a, lk o a ≠ some .none
  sf : ∀ n, isFn (lk o (.s n)) = false
/-- no functor, and no way to one -/
structure Nf (o : Sto) (x : Cl) : Prop where
  a : isFn (some x) = false
  b : ∀ a, x = .ref a → isFn (lk o a) = false
  n : x ≠ .none
theorem Gd.nf {o : Sto} (g : Gd o) {x z : Cl} {i : Nat} (f : Fol o i x z) (h : Nf o x) : Nf o z := by
  induction f with
  | stop => exact h
  | self => exact h
  | @step b y z n e hne _ ih =>
    apply ih
    have := h.b b rfl
    rw [e] at this
    exact ⟨this, (fun a ea => by subst ea; exact g.nr _ _ e), fun z => g.nn _ (by rw [e, z])⟩
theorem Gd.ch {o : Sto} (g : Gd o) {x : Cl} (v : VC o x) : ∃ i y, i ≤ o.cells.length + 31 ∧ Fol o i x y := by
  cases x with
  | ref a =>
    have v' : (lk o a).isSome = true := v
    obtain ⟨i, y, hi, f⟩ := chain g.od g.vc _ a (Nat.lt_succ_self _) v'
    refine ⟨i, y, Nat.le_trans hi ?_, f⟩
    cases a with
    | h n =>
      obtain ⟨z, ez⟩ := Option.isSome_iff_exists.mp v'
      have := lk_lt ez
      simp only [rk]; omega
    | s n =>
      have := g.sl n v'
      simp only [rk]; omega
  | _ => exact ⟨0, _, Nat.zero_le _, .stop fun a e => by cases e⟩
theorem Gd.wf {o : Sto} (g : Gd o) : WF o 2031 := ⟨fun a ha => by
  obtain ⟨i, y, hi, f⟩ := g.ch (x := .ref a) ha
  have := g.sz
  exact ⟨i, y, by omega, f⟩, g.vc⟩
theorem Gd.le {o : Sto} (g : Gd o) {x y : Cl} {i : Nat} (v : VC o x) (f : Fol o i x y) : i ≤ o.cells.length + 31 := by
  obtain ⟨j, z, hj, f'⟩ := g.ch v
  rw [(f.det f').2]
  exact hj
theorem Blw.fn {o : Sto} (g : Gd o) {q : Nat} {x : Cl} (b : Blw o q x) (v : VC o x) : q ∈ fns o := by
  induction b with
  | here f =>
    obtain ⟨g', k, h1, _, _, h4⟩ := f.vc g.wf v
    exact List.mem_filter.mpr ⟨List.mem_range.mpr (by omega), by rw [h1]; rfl⟩
  | @down x i p k j f' f e j1 j2 _ ih =>
    apply ih
    obtain ⟨g', k', h1, _, _, h4⟩ := f.vc g.wf v
    rw [e] at h1
    cases h1
    show (lk o (.h (p + j))).isSome = true
    unfold lk
    simp only
    rw [List.getElem?_eq_getElem (by omega)]
    rfl
theorem Gd.fin60 {o : Sto} (g : Gd o) {x : Cl} (v : VC o x) : Fin o 170 x := by
  obtain ⟨n, h⟩ := g.fin x v
  exact (Fin.bd _ (fns o) rfl n x h fun q b => b.fn g v).mono _ g.fc
theorem Up.fns {o o1 : Sto} {a : Ad} {v : Cl} (u : Up o a v o1) (hv : isFn (some v) = false) : fns o1 = fns o := by
  unfold K50.fns
  rw [u.n]
  congr 1
  funext n
  rw [u.l]
  split
  · rename_i h
    rw [h, u.s, hv]
    rfl
  · rfl
theorem Gd.up {o o1 : Sto} {a : Ad} {v ye : Cl} {k m : Nat} (g : Gd o) (u : Up o a v o1) (hv : VC o v) (hne : v ≠ .ref a) (hod : ∀ b, v = .ref b → adLt b a = true) (hf : isFn (some v) = false) (f : Fol o1 k v ye) (hm : Fin o1 m v) (hs : o1.slots.length = o.slots.length) (hnf : Nf o v) : Gd o1 := by
  have iss : ∀ b, (lk o1 b).isSome = true → (lk o b).isSome = true := by
    intro b hb
    rw [u.l] at hb
    split at hb
    · rename_i e; rw [e, u.s]; rfl
    · exact hb
  have vback : ∀ x, VC o1 x → VC o x := by
    intro x hx
    cases x with
    | ref b => exact iss b hx
    | str p =>
      obtain ⟨f', k', h1, h2, h3, h4⟩ := hx
      refine ⟨f', k', ?_, h2, h3, by rw [← u.n]; exact h4⟩
      rw [u.l] at h1
      split at h1
      · cases h1; cases hf
      · exact h1
    | _ => trivial
  refine ⟨fun b x e => ?_, fun b c e => ?_, fun x hx => ?_, fun n hn => g.sl n (iss _ hn), by rw [u.fns hf]; exact g.fc, by rw [u.n]; exact g.sz, by rw [hs]; exact g.ss, fun b c e => ?_, fun p f' k' e j j1 j2 => ?_, fun p f' k' e => ?_, fun b e => ?_, fun n => ?_⟩
  · rw [u.l] at e
    split at e
    · cases e; exact hv.keep u
    · exact (g.vc b x e).keep u
  · rw [u.l] at e
    split at e
    · rename_i h
      cases e
      rw [h]
      exact .inr (hod c rfl)
    · exact g.od b c e
  · obtain ⟨n, h⟩ := g.fin x (vback x hx)
    exact ⟨_, Fin.over u hne f hm h⟩
  · have fnl : ∀ c, isFn (lk o c) = false → isFn (lk o1 c) = false := by
      intro c hc
      rw [u.l]
      split
      · exact hf
      · exact hc
    rw [u.l] at e
    split at e
    · cases e; exact fnl _ (hnf.b c rfl)
    · exact fnl _ (g.nr b c e)
  · have fnl : ∀ c, isFn (lk o c) = false → isFn (lk o1 c) = false := by
      intro c hc
      rw [u.l]
      split
      · exact hf
      · exact hc
    rw [u.l] at e
    split at e
    · cases e; cases hf
    · exact fnl _ (g.nk p f' k' e j j1 j2)
  · rw [u.l] at e
    split at e
    · cases e; cases hf
    · rw [u.n]; exact g.cp p f' k' e
  · rw [u.l] at e
    split at e
    · cases e; exact hnf.n rfl
    · exact g.nn b e
  · rw [u.l]
    split
    · exact hf
    · exact g.sf n
theorem up_of {o : Sto} {a : Ad} {v : Cl} (h : lk o a = some (.ref a)) : Up o a v (asg o a v) := ⟨h, fun b => lk_asg (by rw [h]; rfl), (asg_len (by rw [h]; rfl)).1⟩
/-- a binding keeps all -/
structure Kp (o o1 : Sto) : Prop where
  g : Gd o1
  f : fns o1 = fns o
  n : o1.noted.length ≤ o.noted.length + 1
  v : ∀ x, VC o x → VC o1 x
  w : ∀ x, Nf o x → Nf o1 x
  c : o1.cells.length = o.cells.length
  l1 : o1.lo1 = o.lo1
  l2 : o1.lo2 = o.lo2
theorem Gd.bnd {o o1 : Sto} (g : Gd o) {x y x0 y0 : Cl} {i j : Nat} (fx : Fol o i x0 x) (fy : Fol o j y0 y) (hne : x ≠ y) (vx : VC o x) (vy : VC o y) (hx : Nf o x) (hy : Nf o y) (b : Bnd o x y true o1) : Kp o o1 := by
  have self : ∀ {i z0 c}, Fol o i z0 (.ref c) → lk o c = some (.ref c) := by
    intro i z0 c f
    rcases f.endd with q | ⟨b, e, h⟩
    · exact absurd rfl (q c)
    · cases e; exact h
  have fin : ∀ {a : Ad} {v : Cl} {ye : Cl} {k m : Nat}, lk o a = some (.ref a) → VC o v → v ≠ .ref a → (∀ b, v = .ref b → adLt b a = true) → Nf o v → Fol (asg o a v) k v ye → Fin (asg o a v) m v → Kp o (asg o a v) := by
    intro a v ye k m h1 h2 h3 h4 h5 h6 h7
    have u := up_of (v := v) h1
    have l := asg_len (o := o) (a := a) (v := v) (by rw [h1]; rfl)
    exact ⟨g.up u h2 h3 h4 h5.a h6 h7 l.2.1 h5, u.fns h5.a, l.2.2.1, fun x hx => hx.keep u, (fun x hx => ⟨hx.a, (fun b e => by
      rw [u.l]
      split
      · exact h5.a
      · exact hx.b b e), hx.n⟩), l.1, l.2.2.2.1, l.2.2.2.2⟩
  have one : ∀ {a : Ad} {v : Cl} {z0 : Cl} {i : Nat}, Fol o i z0 (.ref a) → VC o v → Nf o v → (∀ b, v ≠ .ref b) → (∀ n, v = .str n → ¬ Rc o a v) → Kp o (asg o a v) := by
    intro a v z0 i f h2 h5 hr hc
    have h1 := self f
    have u := up_of (v := v) h1
    refine fin (k := 0) (ye := v) h1 h2 (hr a) (fun b e => absurd e (hr b)) h5 (.stop hr) (m := 170) ?_
    by_cases q : ∃ n, v = .str n
    · obtain ⟨n, rfl⟩ := q
      exact (g.fin60 h2).away u fun r => hc n rfl r.reach
    · exact .leaf (.stop hr) fun p e => q ⟨p, e⟩
  cases b with
  | @rr a b =>
    have ha := self fx
    have hb := self fy
    have hab : a ≠ b := fun z => hne (by rw [z])
    have main : ∀ {c d : Ad}, lk o c = some (.ref c) → lk o d = some (.ref d) → adLt d c = true → Kp o (asg o c (.ref d)) := by
      intro c d hc hd hlt
      have hcd : d ≠ c := by
        rintro rfl
        have := adLt_asym _ _ hlt
        rw [hlt] at this
        cases this
      have u := up_of (v := .ref d) hc
      have hd1 : lk (asg o c (.ref d)) d = some (.ref d) := by rw [u.ne hcd]; exact hd
      exact fin (k := 0) (ye := .ref d) hc (by show (lk o d).isSome = true; rw [hd]; rfl) (by intro z; cases z; exact hcd rfl) (fun b e => by cases e; exact hlt) ⟨rfl, (fun b e => by cases e; rw [hd]; rfl), by intro z; cases z⟩ (.self hd1) (m := 0) (.leaf (.self hd1) fun p e => by cases e)
    unfold mxA mnA
    rcases adLt_tri a b with q | q | q
    · exact absurd q hab
    · have q' := adLt_asym _ _ q
      rw [if_pos q, if_neg (by rw [q']; exact Bool.false_ne_true)]
      exact main hb ha q
    · have q' := adLt_asym _ _ q
      rw [if_neg (by rw [q']; exact Bool.false_ne_true), if_pos q]
      exact main ha hb q
  | lf hr hc => exact one fx vy hy hr hc
  | rt hr hc => exact one fy vx hx hr hc
/-! ### the run of a join -/
abbrev Pr := Cl × Cl
def kidsP (p q k : Nat) : List Pr := (List.range k).map fun i => (.ref (.h (p + (i + 1))), .ref (.h (q + (i + 1))))
structure Hd2 (o : Sto) (x y xe ye : Cl) (i j : Nat) : Prop where
  g : Gd o
  n : o.noted.length ≤ 9000000
  vx : VC o x
  vy : VC o y
  fx : Fol o i x xe
  fy : Fol o j y ye
inductive JS : Sto → List Pr → List Pr → Bool → Sto → Nat → Prop
  | nil {o : Sto} {dn : List Pr} : JS o [] dn true o 0
  | skip {o o' : Sto} {x y xe ye : Cl} {i j n : Nat} {row dn : List Pr} {r : Bool} : Hd2 o x y xe ye i j → (xe = ye ∨ (xe, ye) ∈ dn) → JS o row dn r o' n → JS o ((x, y) :: row) dn r o' (n + 1)
  | bind {o o1 o' : Sto} {x y xe ye : Cl} {i j n : Nat} {row dn : List Pr} {r : Bool} : Hd2 o x y xe ye i j → xe ≠ ye → (xe, ye) ∉ dn → ((∃ a, xe = .ref a) ∨ ∃ a, ye = .ref a) → Bnd o xe ye true o1 → JS o1 row dn r o' n → JS o ((x, y) :: row) dn r o' (n + 1)
  | bindF {o o1 : Sto} {x y xe ye : Cl} {i j n : Nat} {row dn : List Pr} : Hd2 o x y xe ye i j → xe ≠ ye → (xe, ye) ∉ dn → ((∃ a, xe = .ref a) ∨ ∃ a, ye = .ref a) → Bnd o xe ye false o1 → JS o ((x, y) :: row) dn false o1 (n + 1)
  | fail1 {o : Sto} {x y xe ye : Cl} {i j n : Nat} {row dn : List Pr} : Hd2 o x y xe ye i j → xe ≠ ye → (xe, ye) ∉ dn → (∀ a, xe ≠ .ref a) → (∀ a, ye ≠ .ref a) → ((∀ n, xe ≠ .str n) ∨ ∀ n, ye ≠ .str n) → JS o ((x, y) :: row) dn false o (n + 1)
  | fail2 {o : Sto} {x y : Cl} {p q i j n : Nat} {f g : Str} {k l : Nat} {row dn : List Pr} : Hd2 o x y (.str p) (.str q) i j → (Cl.str p, Cl.str q) ∉ dn → lk o (.h p) = some (.fn f k) → lk o (.h q) = some (.fn g l) → (f ≠ g ∨ k ≠ l) → JS o ((x, y) :: row) dn false o (n + 1)
  | open' {o o' : Sto} {x y : Cl} {p q i j n : Nat} {f : Str} {k : Nat} {row dn : List Pr} {r : Bool} : Hd2 o x y (.str p) (.str q) i j → p ≠ q → (Cl.str p, Cl.str q) ∉ dn → lk o (.h p) = some (.fn f k) → lk o (.h q) = some (.fn f k) → k ≤ 8 → JS o (kidsP p q k ++ row) (dn ++ [(.str p, .str q)]) r o' n → JS o ((x, y) :: row) dn r o' (n + 1)
theorem JS.inv {o o' : Sto} {x y : Cl} {row dn : List Pr} {r : Bool} {n : Nat} (js : JS o ((x, y) :: row) dn r o' n) : ∃ xe ye i j m, n = m + 1 ∧ Hd2 o x y xe ye i j ∧
    (((xe = ye ∨ (xe, ye) ∈ dn) ∧ JS o row dn r o' m) ∨
     (xe ≠ ye ∧ (xe, ye) ∉ dn ∧
      ((((∃ a, xe = .ref a) ∨ ∃ a, ye = .ref a) ∧ ∃ b o1, Bnd o xe ye b o1 ∧ ((b = true ∧ JS o1 row dn r o' m) ∨ (b = false ∧ r = false ∧ o1 = o'))) ∨
       ((∀ a, xe ≠ .ref a) ∧ (∀ a, ye ≠ .ref a) ∧
        ((r = false ∧ o = o' ∧ ((∀ n, xe ≠ .str n) ∨ ∀ n, ye ≠ .str n)) ∨
         ∃ p q f k g l, xe = .str p ∧ ye = .str q ∧ lk o (.h p) = some (.fn f k) ∧ lk o (.h q) = some (.fn g l) ∧
          ((r = false ∧ o = o' ∧ (f ≠ g ∨ k ≠ l)) ∨ (f = g ∧ k = l ∧ k ≤ 8 ∧ JS o (kidsP p q k ++ row) (dn ++ [(.str p, .str q)]) r o' m))))))) := by
  cases js with
  | skip a e f => exact ⟨_, _, _, _, _, rfl, a, .inl ⟨e, f⟩⟩
  | bind a e f g k js => exact ⟨_, _, _, _, _, rfl, a, .inr ⟨e, f, .inl ⟨g, _, _, k, .inl ⟨rfl, js⟩⟩⟩⟩
  | bindF a e f g k => exact ⟨_, _, _, _, _, rfl, a, .inr ⟨e, f, .inl ⟨g, _, _, k, .inr ⟨rfl, rfl, rfl⟩⟩⟩⟩
  | fail1 a e f g k l => exact ⟨_, _, _, _, _, rfl, a, .inr ⟨e, f, .inr ⟨g, k, .inl ⟨rfl, rfl, l⟩⟩⟩⟩
  | fail2 a f g k l => exact ⟨_, _, _, _, _, rfl, a, .inr ⟨(by
      intro z
      cases z
      rw [g] at k
      cases k
      simp at l), f, .inr ⟨(fun _ z => by cases z), (fun _ z => by cases z), .inr ⟨_, _, _, _, _, _, rfl, rfl, g, k, .inl ⟨rfl, rfl, l⟩⟩⟩⟩⟩
  | open' a e f g k l js => exact ⟨_, _, _, _, _, rfl, a, .inr ⟨(by intro z; cases z; exact e rfl), f, .inr ⟨(fun _ z => by cases z), (fun _ z => by cases z), .inr ⟨_, _, _, _, _, _, rfl, rfl, g, k, .inr ⟨rfl, rfl, l, js⟩⟩⟩⟩⟩
/-! ### each join ends -/
def prs (o : Sto) : List Pr := (fns o).flatMap fun p => (fns o).map fun q => (.str p, .str q)
def un2 (o : Sto) (dn : List Pr) : Nat := ((prs o).filter fun p => !dn.contains p).length
theorem prs_len (o : Sto) (h : (fns o).length ≤ 170) : (prs o).length ≤ 28900 := by
  have : ∀ (l m : List Nat), (l.flatMap fun p => m.map fun q => ((.str p, .str q) : Pr)).length = l.length * m.length := by
    intro l m
    induction l with
    | nil => simp
    | cons x l ih => rw [List.flatMap_cons, List.length_append, ih, List.length_map, List.length_cons, Nat.succ_mul, Nat.add_comm]
  unfold prs
  rw [this]
  exact Nat.mul_le_mul h h
theorem un2_le (o : Sto) (dn : List Pr) (h : (fns o).length ≤ 170) : un2 o dn ≤ 28900 := Nat.le_trans (List.length_filter_le _ _) (prs_len o h)
theorem un2_new {o : Sto} {dn : List Pr} {p q : Nat} (hp : p ∈ fns o) (hq : q ∈ fns o) (hn : (Cl.str p, Cl.str q) ∉ dn) : un2 o (dn ++ [(.str p, .str q)]) < un2 o dn := by
  unfold un2
  have h1 : ((prs o).filter fun n => !(dn ++ [(Cl.str p, Cl.str q)]).contains n) = (((prs o).filter fun n => !dn.contains n).filter fun n => n != (Cl.str p, Cl.str q)) := by
    rw [List.filter_filter]
    congr 1
    funext n
    by_cases q1 : n ∈ dn <;> by_cases q2 : n = (Cl.str p, Cl.str q) <;> simp [q1, q2]
  rw [h1]
  have h2 : (Cl.str p, Cl.str q) ∈ (prs o).filter fun n => !dn.contains n := List.mem_filter.mpr ⟨List.mem_flatMap.mpr ⟨p, hp, List.mem_map.mpr ⟨q, hq, rfl⟩⟩, by simp [hn]⟩
  generalize (prs o).filter (fun n => !dn.contains n) = l at h2
  exact (List.length_filter_lt_length_iff_exists (p := fun n => n != (Cl.str p, Cl.str q)) (l := l)).mpr ⟨_, h2, by simp⟩
/-- from o to o' -/
structure Kq (o o' : Sto) (M : Nat) : Prop where
  g : Gd o'
  f : fns o' = fns o
  n : o'.noted.length ≤ o.noted.length + M
  v : ∀ x, VC o x → VC o' x
  w : ∀ x, Nf o x → Nf o' x
  c : o'.cells.length = o.cells.length
  l1 : o'.lo1 = o.lo1
  l2 : o'.lo2 = o.lo2
theorem Kq.refl {o : Sto} (g : Gd o) (M : Nat) : Kq o o M := ⟨g, rfl, by omega, fun _ h => h, fun _ h => h, rfl, rfl, rfl⟩
theorem Kq.le {o o' : Sto} {M M' : Nat} (k : Kq o o' M) (h : M ≤ M') : Kq o o' M' := ⟨k.g, k.f, by have := k.n; omega, k.v, k.w, k.c, k.l1, k.l2⟩
theorem Kq.step {o o1 o' : Sto} {M : Nat} (k : Kp o o1) (q : Kq o1 o' M) : Kq o o' (M + 1) := ⟨q.g, q.f.trans k.f, by have := k.n; have := q.n; omega, fun x h => q.v x (k.v x h), fun x h => q.w x (k.w x h), q.c.trans k.c, q.l1.trans k.l1, q.l2.trans k.l2⟩
theorem un2_eq {o o1 : Sto} (h : fns o1 = fns o) (dn : List Pr) : un2 o1 dn = un2 o dn := by
  unfold un2 prs
  rw [h]
theorem kid_vc {o : Sto} (g : Gd o) {p : Nat} (v : VC o (.str p)) {f : Str} {k : Nat} (e : lk o (.h p) = some (.fn f k)) {j : Nat} (j1 : 1 ≤ j) (j2 : j ≤ k) : VC o (.ref (.h (p + j))) ∧ Nf o (.ref (.h (p + j))) := by
  obtain ⟨g', k', h1, _, _, h4⟩ := v
  have e2 := e
  rw [h1] at e2
  cases e2
  refine ⟨?_, rfl, (fun a ea => by cases ea; exact g.nk p f k e j j1 j2), by intro z; cases z⟩
  show (lk o (.h (p + j))).isSome = true
  unfold lk
  simp only
  rw [List.getElem?_eq_getElem (by omega)]
  rfl
theorem js_all : ∀ (M : Nat) (o : Sto) (row dn : List Pr), Gd o → (∀ p ∈ row, VC o p.1 ∧ VC o p.2 ∧ Nf o p.1 ∧ Nf o p.2) → row.length + 9 * un2 o dn ≤ M → o.noted.length + M ≤ 9000000 →
    ∃ r o' n, n ≤ M ∧ JS o row dn r o' n ∧ Kq o o' M := by
  intro M
  induction M with
  | zero =>
    intro o row dn g hr hm hn
    cases row with
    | nil => exact ⟨true, o, 0, Nat.le_refl _, .nil, .refl g _⟩
    | cons p row => simp at hm
  | succ M ih =>
    intro o row dn g hr hm hn
    cases row with
    | nil => exact ⟨true, o, 0, Nat.zero_le _, .nil, .refl g _⟩
    | cons p row =>
      obtain ⟨x, y⟩ := p
      obtain ⟨vx, vy, nx, ny⟩ := hr (x, y) (by simp)
      have hr' : ∀ p ∈ row, VC o p.1 ∧ VC o p.2 ∧ Nf o p.1 ∧ Nf o p.2 := fun p hp => hr p (by simp [hp])
      simp only [List.length_cons] at hm
      obtain ⟨i, xe, _, fx⟩ := g.ch vx
      obtain ⟨j, ye, _, fy⟩ := g.ch vy
      have hd : Hd2 o x y xe ye i j := ⟨g, by omega, vx, vy, fx, fy⟩
      have vxe := fx.vc g.wf vx
      have vye := fy.vc g.wf vy
      have nxe := g.nf fx nx
      have nye := g.nf fy ny
      by_cases h1 : xe = ye ∨ (xe, ye) ∈ dn
      · obtain ⟨r, o', n, hn', js, k⟩ := ih o row dn g hr' (by omega) (by omega)
        exact ⟨r, o', n + 1, by omega, .skip hd h1 js, k.le (by omega)⟩
      have hne : xe ≠ ye := fun z => h1 (.inl z)
      have hnd : (xe, ye) ∉ dn := fun z => h1 (.inr z)
      by_cases h2 : (∃ a, xe = .ref a) ∨ ∃ a, ye = .ref a
      · have hb : ∃ b o1, Bnd o xe ye b o1 ∧ (b = false → o1 = o) := by
          by_cases q1 : ∃ a, xe = .ref a
          · obtain ⟨a, rfl⟩ := q1
            by_cases q2 : ∃ b, ye = .ref b
            · obtain ⟨b, rfl⟩ := q2
              exact ⟨true, _, .rr, fun z => by cases z⟩
            · by_cases q3 : ∃ n, ye = .str n ∧ Rc o a ye
              · obtain ⟨n, rfl, hc⟩ := q3
                exact ⟨false, o, .lfF hc, fun _ => rfl⟩
              · exact ⟨true, _, .lf (fun b e => q2 ⟨b, e⟩) (fun n e hc => q3 ⟨n, e, hc⟩), fun z => by cases z⟩
          · obtain ⟨b, rfl⟩ : ∃ b, ye = .ref b := h2.resolve_left q1
            by_cases q3 : ∃ n, xe = .str n ∧ Rc o b xe
            · obtain ⟨n, rfl, hc⟩ := q3
              exact ⟨false, o, .rtF hc, fun _ => rfl⟩
            · exact ⟨true, _, .rt (fun a e => q1 ⟨a, e⟩) (fun n e hc => q3 ⟨n, e, hc⟩), fun z => by cases z⟩
        obtain ⟨b, o1, bd, hbo⟩ := hb
        cases b with
        | false =>
          have := hbo rfl
          subst this
          exact ⟨false, o1, 0 + 1, by omega, .bindF hd hne hnd h2 bd, .refl g _⟩
        | true =>
          have kp := g.bnd fx fy hne vxe vye nxe nye bd
          obtain ⟨r, o', n, hn', js, k⟩ := ih o1 row dn kp.g (fun p hp => by
            obtain ⟨a1, a2, a3, a4⟩ := hr' p hp
            exact ⟨kp.v _ a1, kp.v _ a2, kp.w _ a3, kp.w _ a4⟩) (by rw [un2_eq kp.f]; omega) (by have := kp.n; omega)
          exact ⟨r, o', n + 1, by omega, .bind hd hne hnd h2 bd js, k.step kp⟩
      have hnx : ∀ a, xe ≠ .ref a := fun a z => h2 (.inl ⟨a, z⟩)
      have hny : ∀ a, ye ≠ .ref a := fun a z => h2 (.inr ⟨a, z⟩)
      by_cases h3 : (∀ n, xe ≠ .str n) ∨ ∀ n, ye ≠ .str n
      · exact ⟨false, o, 0 + 1, by omega, .fail1 hd hne hnd hnx hny h3, .refl g _⟩
      obtain ⟨p, rfl⟩ : ∃ p, xe = .str p := Classical.byContradiction fun z => h3 (.inl fun n e => z ⟨n, e⟩)
      obtain ⟨q, rfl⟩ : ∃ q, ye = .str q := Classical.byContradiction fun z => h3 (.inr fun n e => z ⟨n, e⟩)
      obtain ⟨f, k, lp, k1, k2, k3⟩ := vxe
      obtain ⟨f', k', lq, k1', k2', k3'⟩ := vye
      by_cases h4 : f = f' ∧ k = k'
      · obtain ⟨rfl, rfl⟩ := h4
        have hp : p ∈ fns o := List.mem_filter.mpr ⟨List.mem_range.mpr (by omega), by rw [lp]; rfl⟩
        have hq : q ∈ fns o := List.mem_filter.mpr ⟨List.mem_range.mpr (by omega), by rw [lq]; rfl⟩
        have hu := un2_new hp hq hnd
        obtain ⟨r, o', n, hn', js, kq⟩ := ih o (kidsP p q k ++ row) (dn ++ [(.str p, .str q)]) g (fun pr hpr => by
          rcases List.mem_append.mp hpr with z | z
          · obtain ⟨i, hi, rfl⟩ := List.mem_map.mp z
            have := List.mem_range.mp hi
            have a1 := kid_vc g (p := p) ⟨f, k, lp, k1, k2, k3⟩ lp (j := i + 1) (by omega) (by omega)
            have a2 := kid_vc g (p := q) ⟨f, k, lq, k1', k2', k3'⟩ lq (j := i + 1) (by omega) (by omega)
            exact ⟨a1.1, a2.1, a1.2, a2.2⟩
          · exact hr' pr z) (by simp [kidsP]; omega) (by omega)
        exact ⟨r, o', n + 1, by omega, .open' hd (fun z => hne (by rw [z])) hnd lp lq k2 js, kq.le (by omega)⟩
      · exact ⟨false, o, 0 + 1, by omega, .fail2 hd hnd lp lq (by
          by_cases e1 : f = f'
          · exact .inr fun e2 => h4 ⟨e1, e2⟩
          · exact .inl e1), .refl g _⟩


theorem kids_rev (p q k : Nat) : ((List.range k).map fun (i : Nat) => eP (.ref (.h (p + (k - i))), .ref (.h (q + (k - i))))) = ((kidsP p q k).map eP).reverse := by
  apply List.ext_getElem
  · simp [kidsP]
  · intro i h1 h2
    simp [kidsP] at h1 h2 ⊢
    rw [show k - 1 - i + 1 = k - i by omega]
def stJ (s w d : Nat) (p1 p2 p5 p6 p7 p8 : Option D) : Sg := [some (.at s), p1, p2, some (.at w), some (.at d), p5, p6, p7, p8]
def IJ (CA : Str → Addr) (s c sl nt : Nat) (h : Hd) (res : Bool) (o' : Sto) (n : Nat) (sg : Sg) (h' : Hd) : Prop :=
  ∃ o row dn p1 p2 p5 p6 p7 p8, sg = stJ s h.length (h.length + 1) p1 p2 p5 p6 p7 p8 ∧ SR CA o s c sl nt h' ∧ Fx [c, sl, nt] h h' ∧ h'[h.length]? = some (.lst (row.map eP).reverse) ∧ h'[h.length + 1]? = some (.dcn (stN eP dn)) ∧ (∀ p ∈ row, okC p.1 = true ∧ okC p.2 = true) ∧ JS o row dn res o' n ∧ row.length + 8 * n ≤ 10000000 ∧ dn.length + n ≤ 1000000
theorem Fol.ok {CA : Str → Addr} {o : Sto} {s c sl nt : Nat} {h : Hd} (r : SR CA o s c sl nt h) {n : Nat} {x y : Cl} (f : Fol o n x y) (hx : okC x = true) : okC y = true := by
  induction f with
  | stop => exact hx
  | self => exact hx
  | step e _ _ ih => exact ih (r.ok e)
section
variable {NF RD : Nat} {CA : Str → Addr} {o : Sto} {s c sl nt : Nat} {h : Hd}
theorem r_joined {n : Nat} (r : SR CA o s c sl nt h) (hN : 10000000 ≤ NF) {x y : Cl} (hx : okC x = true) (hy : okC y = true) {res : Bool} {o' : Sto} (js : JS o [(x, y)] [] res o' n) (hn : n < 1000000) :
    Ev (m_joined NF RD CA [.at s, eC x, eC y] h) fun d h' => d = .bl res ∧ SR CA o' s c sl nt h' ∧ Fx [c, sl, nt] h h' := by
  have hLN := LN_eq
  unfold m_joined
  walk_at "wp"
  rw [show (h ++ [O.lst [D.tup [eC x, eC y]]]).length = h.length + 1 by simp]
  refine ev_while (IJ CA s c sl nt h res o') ?_ NF n _ _ ⟨o, [(x, y)], [], _, _, none, none, none, none, rfl, (r.pre (Pre.app _ _)).pre (Pre.app _ _), ((Fx.refl _ _).app _).app _, by simp [List.getElem?_append, eP], by simp [List.getElem?_append, stN], by simp; exact ⟨hx, hy⟩, js, by simp; omega, by simp; omega⟩ (by omega)
  have ls := lt_of r.os
  have lc := lt_of r.oc
  have lsl := lt_of r.ol
  have lnt := lt_of r.on
  clear js hn r
  rintro n sg h' ⟨o, row, dn, p1, p2, p5, p6, p7, p8, rfl, r, hf, hw, hd, hok, js, hl1, hl2⟩
  have os := r.os
  unfold C_joined_1 stJ
  walk_at "wq"
  refine tr_lst hw ?_
  cases row with
  | nil =>
    refine br_f rfl ?_
    walk_at "wp"
    cases js with
    | nil => exact ⟨rfl, r, hf⟩
  | cons p row =>
    obtain ⟨x, y⟩ := p
    refine br_t (by simp) ?_
    obtain ⟨hox, hoy⟩ := hok (x, y) (by simp)
    simp only [List.map_cons, List.reverse_cons] at hw
    unfold B_joined_2
    walk_at "wq"
    refine lf_pop hw ?_
    have hf2 := hf.setN (Nat.le_refl h.length) (O.lst (row.map eP).reverse)
    have hw2 := get_set (p := O.lst (row.map eP).reverse) hw
    have hd2 : (h'.set h.length (.lst (row.map eP).reverse))[h.length + 1]? = some (.dcn (stN eP dn)) := by rw [get_ne (by omega)]; exact hd
    have r2 : SR CA o s c sl nt (h'.set h.length (.lst (row.map eP).reverse)) := r.mv (Fx.set (S := [h.length]) (by simp) _) (by simp; omega) (by simp; omega) (by simp; omega) (by simp; omega)
    have hl := lt_of hd2
    generalize h'.set h.length (.lst (row.map eP).reverse) = g at hf2 hw2 hd2 r2 hl
    clear os hw hd hf r h'
    have os := r2.os
    obtain ⟨xe, ye, i, j, m, rfl, hd2', js⟩ := js.inv
    have fx := hd2'.fx
    have fy := hd2'.fy
    have hi := hd2'.g.le hd2'.vx fx
    have hj := hd2'.g.le hd2'.vy fy
    have hsz := hd2'.g.sz
    have hxe := fx.ok r2 hox
    have hye := fy.ok r2 hoy
    have hokr : ∀ p ∈ row, okC p.1 = true ∧ okC p.2 = true := fun p hp => hok p (by simp [hp])
    simp only [List.length_cons] at hl1
    have vst := val_st (fun a b => eP_inj) (fun p => by obtain ⟨k, h, _⟩ := nk_P p; exact ⟨k, h⟩) dn (xe, ye)
    unfold eP
    walk_at "wq"
    refine sq_nx ?_
    walk_at "wq"
    refine ev_eq (r_follow r2 fx hox (by omega)) ?_
    walk_at "wq"
    refine ev_eq (r_follow r2 fy hoy (by omega)) ?_
    walk_at "wq"
    refine sq_nx ?_
    walk_at "wq"
    refine lf_eqC hxe hye ?_
    walk_at "wq"
    by_cases heq : xe = ye
    · refine br_t (by simp [heq]) ?_
      walk_at "wq"
      rcases js with ⟨_, js⟩ | ⟨q, _⟩
      · exact ⟨m, by omega, o, row, dn, _, _, p5, p6, p7, p8, rfl, r2, hf2, hw2, hd2, hokr, js, by omega, by omega⟩
      · exact absurd heq q
    refine br_f (by simp [heq]) ?_
    walk_at "wq"
    refine lf_inN (x := eP (xe, ye)) hd2 (dep_P _) ?_
    rw [vst]
    walk_at "wq"
    by_cases hin : (xe, ye) ∈ dn
    · refine br_t (by simp [hin]) ?_
      walk_at "wq"
      rcases js with ⟨_, js⟩ | ⟨_, q, _⟩
      · exact ⟨m, by omega, o, row, dn, _, _, p5, p6, p7, p8, rfl, r2, hf2, hw2, hd2, hokr, js, by omega, by omega⟩
      · exact absurd hin q
    refine br_f (by simp [hin]) ?_
    walk_at "wq"
    refine sq_nx ?_
    rcases js with ⟨q, _⟩ | ⟨_, _, js⟩
    · rcases q with q | q
      · exact absurd q heq
      · exact absurd q hin
    walk_at "wq"
    refine lf_c0 ?_
    walk_at "wq"
    have binds : ((∃ a, xe = .ref a) ∨ ∃ a, ye = .ref a) → Ev (m_bind_or_not NF RD CA ([D.at s, eC xe, eC ye] ++ []) g) fun x_1 h1 => TrK h1 x_1 fun b => Br (!b) (Ev (retM (cM (.bl false)) ([some (.at s), some (eC xe), some (eC ye), some (.at h.length), some (.at (h.length + 1)), p5, p6, p7, p8] : Sg) h1) (LpK (fun f h1 => SqK (retM (cM (D.bl true))) (BdK fun d h' => d = D.bl res ∧ SR CA o' s c sl nt h' ∧ Fx [c, sl, nt] h h') f h1) fun sg2 h2 => ∃ m', m' < m + 1 ∧ IJ CA s c sl nt h res o' m' sg2 h2)) (Ev (passM ([some (.at s), some (eC xe), some (eC ye), some (.at h.length), some (.at (h.length + 1)), p5, p6, p7, p8] : Sg) h1) (LpK (fun f h1 => SqK (retM (cM (D.bl true))) (BdK fun d h' => d = D.bl res ∧ SR CA o' s c sl nt h' ∧ Fx [c, sl, nt] h h') f h1) fun sg2 h2 => ∃ m', m' < m + 1 ∧ IJ CA s c sl nt h res o' m' sg2 h2)) := by
      intro hr
      rcases js with ⟨_, b, o1, bd, js⟩ | ⟨q1, q2, _⟩
      · refine (r_bind r2 hN hd2'.g.wf (by omega) ⟨by have := hd2'.g.sz; omega, by have := hd2'.n; omega, by have := hd2'.g.ss; omega⟩ bd (fx.vc hd2'.g.wf hd2'.vx) (fy.vc hd2'.g.wf hd2'.vy) hxe hye).mono ?_
        rintro _ h2 ⟨rfl, r3, f3⟩
        walk_at "wq"
        rcases js with ⟨rfl, js⟩ | ⟨rfl, rfl, rfl⟩
        · refine br_f rfl ?_
          walk_at "wq"
          exact ⟨m, by omega, o1, row, dn, _, _, p5, p6, p7, p8, rfl, r3, hf2.trans f3, f3.get hw2 (by simp; omega), f3.get hd2 (by simp; omega), hokr, js, by omega, by omega⟩
        · refine br_t rfl ?_
          walk_at "wp"
          exact ⟨rfl, r3, hf2.trans f3⟩
      · rcases hr with ⟨a, rfl⟩ | ⟨a, rfl⟩
        · exact absurd rfl (q1 _)
        · exact absurd rfl (q2 _)
    refine wd_ref (fun a ha => ?_) fun hnx => ?_
    · walk_at "wq"
      exact binds (.inl ⟨a, ha⟩)
    walk_at "wq"
    refine lf_c0 ?_
    walk_at "wq"
    refine wd_ref (fun a ha => ?_) fun hny => ?_
    · walk_at "wq"
      exact binds (.inr ⟨a, ha⟩)
    clear binds
    walk_at "wq"
    refine lf_c0 ?_
    walk_at "wq"
    rcases js with ⟨q, _⟩ | ⟨_, _, js⟩
    · rcases q with ⟨a, rfl⟩ | ⟨a, rfl⟩
      · exact absurd rfl (hnx _)
      · exact absurd rfl (hny _)
    refine wd_nstr (fun p hp => ?_) fun hnp => ?_
    rotate_left
    · walk_at "wq"
      rcases js with ⟨rfl, rfl, _⟩ | ⟨p, q, f, k, g, l, rfl, _⟩
      · walk_at "wp"
        exact ⟨rfl, r2, hf2⟩
      · exact absurd rfl (hnp _)
    subst hp
    walk_at "wq"
    refine lf_c0 ?_
    walk_at "wq"
    refine wd_nstr (fun q hq => ?_) fun hnq => ?_
    rotate_left
    · walk_at "wq"
      rcases js with ⟨rfl, rfl, _⟩ | ⟨p, q, f, k, g, l, _, rfl, _⟩
      · walk_at "wp"
        exact ⟨rfl, r2, hf2⟩
      · exact absurd rfl (hnq _)
    subst hq
    walk_at "wq"
    rcases js with ⟨_, _, q | q⟩ | ⟨p', q', f, k, g', l, ep, eq, lp, lq, js⟩
    · exact absurd rfl (q _)
    · exact absurd rfl (q _)
    cases ep
    cases eq
    refine lf_c1 (by intro z; cases z) ?_
    walk_at "wq"
    refine ev_eq (r_look r2 lp) ?_
    walk_at "wq"
    refine lf_c1 (by intro z; cases z) ?_
    walk_at "wq"
    refine ev_eq (r_look r2 lq) ?_
    walk_at "wq"
    refine lf_neC (r2.ok lp) (r2.ok lq) ?_
    walk_at "wq"
    rcases js with ⟨rfl, rfl, hne⟩ | ⟨rfl, rfl, hk8, js⟩
    · refine br_t ?_ ?_
      · have : ¬ (Cl.fn f k = Cl.fn g' l) := by
          intro z
          cases z
          simp at hne
        simp [this]
      walk_at "wp"
      exact ⟨rfl, r2, hf2⟩
    refine br_f (by simp) ?_
    walk_at "wq"
    refine ev_setN ?_
    walk_at "wq"
    refine ⟨_, _, rfl, hd2, dep_P (.str p, .str q), by simp [stN]; omega, ?_⟩
    have hput : putN (stN eP dn) (.tup [eC (.str p), eC (.str q)]) (.bl true) = stN eP (dn ++ [(.str p, .str q)]) := put_st (f := eP) (fun a b => eP_inj) (fun p => by obtain ⟨k, h, _⟩ := nk_P p; exact ⟨k, h⟩) hin
    rw [hput]
    have hf3 := hf2.setN (Nat.le_succ h.length) (O.dcn (stN eP (dn ++ [(.str p, .str q)])))
    have hd3 := get_set (p := O.dcn (stN eP (dn ++ [(.str p, .str q)]))) hd2
    have hw3 : (g.set (h.length + 1) (O.dcn (stN eP (dn ++ [(.str p, .str q)]))))[h.length]? = some (.lst (row.map eP).reverse) := by rw [get_ne (by omega)]; exact hw2
    have r3 : SR CA o s c sl nt (g.set (h.length + 1) (O.dcn (stN eP (dn ++ [(.str p, .str q)])))) := r2.mv (Fx.set (S := [h.length + 1]) (by simp) _) (by simp; omega) (by simp; omega) (by simp; omega) (by simp; omega)
    generalize g.set (h.length + 1) (O.dcn (stN eP (dn ++ [(.str p, .str q)]))) = g3 at hf3 hd3 hw3 r3
    clear os hw2 hd2 hf2 r2 hl
    have os := r3.os
    have hl := lt_of hd3
    refine sq_nx ?_
    walk_at "wq"
    refine lf_c1 (by intro z; cases z) ?_
    walk_at "wq"
    refine ev_eq (r_look r3 lp) ?_
    walk_at "wq"
    refine lf_fn2 ?_
    walk_at "wq"
    refine sq_nx ?_
    walk_at "wq"
    refine lf_c1 (by intro z; cases z) ?_
    walk_at "wq"
    refine lf_a1 (a := .h p) ?_
    walk_at "wq"
    refine lf_c1 (by intro z; cases z) ?_
    walk_at "wq"
    refine lf_a1 (a := .h q) ?_
    walk_at "wq"
    refine sq_nx ?_
    walk_at "wq"
    refine ⟨k, 0, rfl, ⟨by omega, by omega, by omega, by omega⟩, ?_⟩
    rw [show ((k : Int) - 0).toNat = k by omega]
    unfold rngC
    refine ev_for (fun as sg h3 => ∃ p8, sg = [some (.at s), some (eC (.str p)), some (eC (.str q)), some (.at h.length), some (.at (h.length + 1)), some (.int k), some (.int p), some (.int q), p8] ∧ Fx [h.length] g3 h3 ∧ h3[h.length]? = some (.lst ((row.map eP).reverse ++ as.map fun d => match d with | .int i => .tup [.tup [.str "ref", .tup [.str "h", .int (p + i)]], .tup [.str "ref", .tup [.str "h", .int (q + i)]]] | d => d))) ⟨p8, rfl, Fx.refl _ _, by simpa using hw3⟩ (by simp; omega) (fun _ _ _ _ => yl_fix) ?_ ?_
    · rintro as z bs sg h3 ez ⟨p8', rfl, f3, hw4⟩
      have hz : z ∈ (List.range k).map fun (i : Nat) => D.int ((k : Int) + (i : Nat) * (-1)) := by rw [ez]; simp
      have hlz : as.length < k := by
        have := congrArg List.length ez
        simp at this
        omega
      obtain ⟨i, _, rfl⟩ := List.mem_map.mp hz
      walk_at "wq"
      unfold B_joined_0
      walk_at "wq"
      refine lf_append hw4 ?_ ?_
      · simp; omega
      walk_at "wq"
      refine ⟨_, rfl, f3.trans (Fx.set (by simp) _), ?_⟩
      rw [get_set hw4]
      simp
    · rintro sg h3 ⟨p8', rfl, f3, hw4⟩
      walk_at "wq"
      refine ⟨m, by omega, o, kidsP p q k ++ row, dn ++ [(.str p, .str q)], _, _, _, _, _, _, rfl, r3.mv f3 (by simp; omega) (by simp; omega) (by simp; omega) (by simp; omega), (((hf3.mono (T := h.length :: [c, sl, nt]) (by simp)).trans (f3.mono (by simp))).drop (Nat.le_refl _)), ?_, f3.get hd3 (by simp), ?_, js, ?_, ?_⟩
      · rw [hw4, List.map_append, List.reverse_append, ← kids_rev]
        congr 3
        rw [List.map_map]
        apply List.map_congr_left
        intro i hi
        have := List.mem_range.mp hi
        simp only [Function.comp_apply, eP, eC, eA]
        rw [show (p : Int) + ((k : Int) + (i : Nat) * (-1)) = ((p + (k - i) : Nat) : Int) by omega, show (q : Int) + ((k : Int) + (i : Nat) * (-1)) = ((q + (k - i) : Nat) : Int) by omega]
      · intro pr hpr
        rcases List.mem_append.mp hpr with q | q
        · obtain ⟨i, _, rfl⟩ := List.mem_map.mp q
          exact ⟨rfl, rfl⟩
        · exact hokr pr q
      · simp [kidsP]; omega
      · simp; omega
end


local macro_rules | `(tactic| walk_at "ev") => `(tactic| simp only [bodyM, startD, varM, cM, opM, testM, chainM, nilM, consM, tupM, lstM, DL.andM, DL.orM, DL.notM, truM, tandM, torM, tnotM, ifM, negM,
  addD, subD, mulD, fdivD, modD, powD, ltD, leD, gtD, geD, subsD, seqD, keyD, noM, partM, sliceD, slM, cbM, lenD, absD, intD, isiD, kdD, kb1, kb2, kb3, kb4, kb5, kb6, kb7, kb8, kb9, kb10, kb11, kb12, kb13, kb14, kb15, kb16, eq_ii, ne_ii,
  bmM, isDct, dnewM, nameG, nilG, consG, tupG, passM, brkM, cntM, exprM, retM, asgM, seqM, ifSM, neverM, augM, addID, parM, par3M, callM, truD, k_MOST_ARGUMENTS, k_MOST_SIGNS, k_TOO_GREAT, seqI, backM, backD, tuplD,
  List.map_cons, List.map_nil, List.length_cons, List.length_nil, List.cons_append, List.nil_append, List.append_nil, List.getElem?_cons_zero, List.getElem?_cons_succ, List.getElem?_nil, List.replicate, List.set_cons_zero, List.set_cons_succ,
  if_true, if_false, ↓reduceIte, Bool.false_eq_true, Bool.not_true, Bool.not_false, decide_true, decide_false, Nat.reduceSub, Nat.reduceAdd, Nat.reduceLeDiff, Nat.reduceEqDiff, Int.reduceLT, Int.reduceLE, Nat.zero_le, String.reduceBEq, beq_self_eq_true])
section
variable (NF RD : Nat) (CA : Str → Addr)
theorem r_is_compound (d : D) (h : Hd) (hd : flat d = true) : m_is_compound NF RD CA [d] h = some (.bl (isCmp d), h) := by
  unfold m_is_compound
  cases d <;> first | (cases hd; done) | (walk_at "ev"; rfl)
theorem r_is_variable {d : D} (h : Hd) (t : T d) : m_is_variable NF RD CA [d] h = some (.bl (isVar d), h) := by
  unfold m_is_variable
  cases t with
  | var n hn =>
    have hi := r_is_int NF RD CA (.int n) h rfl
    walk_at "ev"
    simp only [at0, hi, isInt, Int.cast_ofNat_Int, decide_true, isVar, Nat.zero_add]
    rfl
  | int i _ => walk_at "ev"; rfl
  | str s _ => walk_at "ev"; rfl
  | cmp f a as _ _ _ =>
    walk_at "ev"
    have : ¬ (((as.length + 1 + 1 : Nat) : Int) = 1) := by omega
    simp only [this, decide_false]
    rfl
end
/-! ### lists that grow and shrink -/
theorem c_wait {i : Nat} {sg : Sg} {h : Hd} {w : Nat} {ws : List D} (e : sg[i]? = some (some (.at w))) (eh : h[w]? = some (.lst ws)) (ht : ∀ d ∈ ws, toP (rP 2 (h ++ [.lst []])) d = some (pd d) ∧ (pd d).canLay0 = true) :
    testM (opM neD (varM i) (lstM nilM)) sg h = some (!ws.isEmpty, h ++ [.lst []]) := by
  have h1 := ne_nil ((Pre.app h [.lst []]).get eh) (get_new h (.lst [])) ht
  unfold testM opM varM lstM nilM
  simp only [e, List.length_nil, Nat.zero_le, if_true, h1]
theorem while_nx {c : MT} {b : MS} {sg sg2 : Sg} {h h1 h2 : Hd} {k : Nat} (hc : c sg h = some (true, h1)) (hb : b sg h1 = some (.nx sg2, h2)) : whileM c b (k + 1) sg h = whileM c b k sg2 h2 := by
  rw [whileM]
  simp only [hc, hb]
theorem while_end {c : MT} {b : MS} {sg : Sg} {h h1 : Hd} {k : Nat} (hc : c sg h = some (false, h1)) : whileM c b (k + 1) sg h = some (.nx sg, h1) := by
  rw [whileM]
  simp only [hc]
theorem snoc_of {α : Type} {ws : List α} (h : ws ≠ []) : ∃ i d, ws = i ++ [d] := ⟨ws.dropLast, ws.getLast h, (List.dropLast_concat_getLast h).symm⟩
/-! ### arguments -/
def args : D → List D
  | .tup (_ :: as) => as
  | _ => []
theorem parts_args {d : D} (t : T d) : parts d = d :: partss (args d) := by
  cases t <;> simp [parts, partsT, args, partss]
theorem T.args {d : D} (t : T d) : ∀ a ∈ args d, T a := by
  cases t with
  | var n h => intro a ha; cases ha
  | int i h => intro a ha; cases ha
  | str s h => intro a ha; cases ha
  | cmp f a as hf hl ht => exact ht
theorem args_few {d : D} (t : T d) : (args d).length ≤ 8 := by
  cases t with
  | var n h => simp [K50.args]
  | int i h => simp [K50.args]
  | str s h => simp [K50.args]
  | cmp f a as hf hl ht => simp [K50.args]; omega
theorem atom_len {s : Str} (h : atomOk s = true) : s.length ≤ 40 := by
  unfold atomOk at h
  simpa using (Bool.and_eq_true_iff.mp h).1
theorem isCmp_cmp (f a : D) (as : List D) : isCmp (.tup (f :: a :: as)) = true := by
  simp only [isCmp, List.length_cons, decide_eq_true_eq]
  omega
theorem cut1 (f : D) (as : List D) : cutD (f :: as) (some 1) none = as := by
  have h1 : HT.sIx (f :: as).length 0 (some 1) = 1 := by
    unfold HT.sIx
    simp
  have h2 : HT.sIx (f :: as).length (f :: as).length none = as.length + 1 := by
    unfold HT.sIx
    simp
  unfold cutD
  rw [h1, h2]
  simp
section
variable (NF RD : Nat) (CA : Str → Addr)
theorem b_is_term {x : D} {w : Nat} {p : Option D} {h : Hd} {ws : List D} {d : D} (hN : 50 ≤ NF) (e : h[w]? = some (.lst (ws ++ [d]))) (t : T d) (hl : ws.length + 8 ≤ LN) :
    Rt (B_is_term_1 NF RD CA [some x, some (.at w), p] h) (.nx [some x, some (.at w), some d]) (Pre (h.set w (.lst (ws ++ args d)))) := by
  refine rt_of ?_
  have e2 := get_set (p := .lst ws) e
  unfold B_is_term_1
  walk_at "wp"
  refine lf_pop e ?_
  walk_at "wp"
  refine ev_eq (r_is_compound NF RD CA d _ t.flat) ?_
  cases t with
  | var n hn =>
    walk_at "wp"
    refine ev_eq (r_is_variable NF RD CA _ (T.var n hn)) ?_
    walk_at "wp"
    refine br_f (by simp [isVar, hn]) ?_
    walk_at "wp"
    exact ⟨rfl, by simp [args]; exact Pre.refl _⟩
  | int i hi =>
    walk_at "wp"
    refine ev_eq (r_is_variable NF RD CA _ (T.int i hi)) ?_
    walk_at "wp"
    refine ev_eq (r_is_any_number NF RD CA _ _ rfl) ?_
    walk_at "wp"
    refine br_f (by simp [hi]) ?_
    walk_at "wp"
    exact ⟨rfl, by simp [args]; exact Pre.refl _⟩
  | str s hs =>
    walk_at "wp"
    refine ev_eq (r_is_variable NF RD CA _ (T.str s hs)) ?_
    walk_at "wp"
    refine ev_eq (r_is_any_number NF RD CA _ _ rfl) ?_
    walk_at "wp"
    refine ev_of (r_is_any_atom NF RD CA s _ hN (Nat.le_trans (atom_len hs) (by decide))) fun h' p => ?_
    walk_at "wp"
    refine br_f (by simp [hs]) ?_
    walk_at "wp"
    exact ⟨rfl, by simp [args]; exact p⟩
  | cmp f a as hf hn ht =>
    refine tr_bl (br_t (isCmp_cmp _ _ _) ?_)
    walk_at "wp"
    refine br_f (by simp only [List.length_cons, decide_eq_false_iff_not]; omega) ?_
    walk_at "wp"
    refine ev_of (r_is_any_atom NF RD CA f _ hN (Nat.le_trans (atom_len hf) (by decide))) fun h' p => ?_
    walk_at "wp"
    refine br_f (by simp [hf]) ?_
    have e3 := p.get e2
    walk_at "wp"
    refine lf_extendT e3 ?_ ?_
    · rw [cut1]; simp only [List.length_cons]; omega
    rw [cut1]
    refine ⟨rfl, ?_⟩
    obtain ⟨g, rfl⟩ := p
    rw [List.set_append_left _ _ (by simpa using lt_of e), List.set_set]
    exact Pre.app _ _
theorem r_is_term {d : D} {h : Hd} (t : T d) (hN : 50 ≤ NF) (hl : (parts d).length < NF) (hl2 : (parts d).length + 16 ≤ LN) : Rt (m_is_term NF RD CA [d] h) (.bl true) (Pre h) := by
  refine rt_of ?_
  unfold m_is_term
  walk_at "wp"
  refine ev_while (fun n sg h1 => ∃ ws p, sg = [some d, some (.at h.length), p] ∧ n = (partss ws).length ∧ (∀ x ∈ ws, T x) ∧ h1[h.length]? = some (.lst ws) ∧ Pre h h1 ∧ n ≤ (parts d).length) ?_ NF (parts d).length _ _ ⟨[d], none, rfl, by simp [partss], by simpa using t, get_new _ _, Pre.app _ _, Nat.le_refl _⟩ hl
  rintro n sg h1 ⟨ws, p, rfl, rfl, ht, e, hp, hn⟩
  unfold C_is_term_0
  refine ev_eq (c_wait rfl e (T.datL ht)) ?_
  cases hw : ws.isEmpty with
  | true =>
    walk_at "wp"
    exact ⟨rfl, hp.app' _⟩
  | false =>
    obtain ⟨i, y, rfl⟩ := snoc_of (ws := ws) (by rintro rfl; cases hw)
    have e2 := (Pre.app h1 [.lst []]).get e
    have hl3 := len_partss (i ++ [y])
    have ty := ht y (by simp)
    refine br_tt ?_
    refine ev_of (b_is_term NF RD CA hN e2 ty (by simp at hl3; omega)) fun h' p' => ?_
    refine lp_nx ⟨_, ?_, i ++ args y, _, rfl, rfl, ?_, p'.get (get_set e2), ((hp.app' _).set (Nat.le_refl _) _).trans p', ?_⟩
    · rw [partss_app, partss_app]
      simp only [partss, parts_args ty, List.length_append, List.length_cons, List.append_nil]
      omega
    · intro z hz
      rcases List.mem_append.mp hz with q | q
      · exact ht z (by simp [q])
      · exact ty.args z q
    · rw [partss_app] at hn ⊢
      simp only [partss, parts_args ty, List.length_append, List.length_cons, List.append_nil] at hn
      simp only [List.length_append]
      omega
end


/-! ### drawn terms -/
mutual
/-- the compounds of a term -/
def nf : D → Nat
  | .tup xs => (if 1 < xs.length then 1 else 0) + nfs xs
  | .int _ => 0
  | .str _ => 0
  | .bl _ => 0
  | .non => 0
  | .ty _ => 0
  | .rol _ => 0
  | .at _ => 0
  | .ad _ => 0
def nfs : List D → Nat
  | [] => 0
  | d :: ds => nf d + nfs ds
end
theorem nfs_le {n : Nat} : ∀ {ds : List D}, (∀ d ∈ ds, nf d ≤ n) → nfs ds ≤ n * ds.length
  | [], _ => by simp [nfs]
  | d :: ds, h => by
    have h1 := h d (by simp)
    have h2 := nfs_le (ds := ds) fun x hx => h x (by simp [hx])
    simp only [nfs, List.length_cons, Nat.mul_succ]
    omega
theorem partss_le {n : Nat} : ∀ {ds : List D}, (∀ d ∈ ds, (parts d).length ≤ n) → (partss ds).length ≤ n * ds.length
  | [], _ => by simp [partss]
  | d :: ds, h => by
    have h1 := h d (by simp)
    have h2 := partss_le (ds := ds) fun x hx => h x (by simp [hx])
    simp only [partss, List.length_append, List.length_cons, Nat.mul_succ]
    omega
def Nn : Nat → Nat
  | 0 => 0
  | 1 => 0
  | n + 2 => 1 + 3 * Nn (n + 1)
def Pn : Nat → Nat
  | 0 => 1
  | 1 => 1
  | n + 2 => 1 + 3 * Pn (n + 1)
def Dn : Nat → Nat
  | 0 => 4
  | 1 => 4
  | n + 2 => 40 + 3 * Dn (n + 1)
theorem big20 : (if ((10 : Int) ^ Int.toNat 20) < 0 then -((10 : Int) ^ Int.toNat 20) else (10 : Int) ^ Int.toNat 20) < BIG := by decide +kernel
section
variable {NF RD : Nat} {CA : Str → Addr}
theorem ev_draws {it : MI} {a : ME} {n0 c w K : Nat} {sg : Sg} {h : Hd} {Q : D → Hd → Prop} (hN : 10000000 ≤ NF) (hc : c ≤ 8) (hit : Ev (it sg h) fun s h1 => s = rngD 0 c ∧ Fw w h h1 ∧ Wl (Dn n0 * c + K) w h1)
    (ha : ∀ K' h' z, Wl (Dn n0 + K') w h' → Ev (a ((wipeD sg [6]).set 6 (some z)) h') fun r h'' => T r ∧ (parts r).length ≤ Pn n0 ∧ nf r ≤ Nn n0 ∧ Fw w h' h'' ∧ Wl K' w h'')
    (q : ∀ ds h' m, ds.length = c → (∀ d ∈ ds, T d ∧ (parts d).length ≤ Pn n0 ∧ nf d ≤ Nn n0) → Fw w h h' → Wl K w h' → h'[m]? = some (.lst ds) → Q (.at m) h') : Ev (lcM it (nameG 6) yesM a [6] NF sg h) Q := by
  have hLN := LN_eq
  refine ev_lc ?_
  refine hit.mono ?_
  rintro _ h1 ⟨rfl, f1, w1⟩
  unfold rngD
  have hl1 := f1.len
  refine ⟨_, fun as ys h3 => ys.length = as.length ∧ (∀ d ∈ ys, T d ∧ (parts d).length ≤ Pn n0 ∧ nf d ≤ Nn n0) ∧ Fw w h h3 ∧ Wl (Dn n0 * (c - as.length) + K) w h3, ?_, ?_, ⟨rfl, by simp, f1.app _, w1.pre (Pre.app _ _)⟩, fun _ _ _ _ _ => yl_fix, ?_, ?_⟩
  · simp; omega
  · simp; omega
  · rintro as z bs ys h3 ez ⟨hn, hd, f3, w3⟩ e3
    have hlz : as.length < c := by
      have := congrArg List.length ez
      simp at this
      omega
    walk_at "wq"
    refine (ha (Dn n0 * (c - (as.length + 1)) + K) h3 z (w3.le ?_)).mono ?_
    · rw [show c - as.length = (c - (as.length + 1)) + 1 by omega, Nat.mul_succ]
      omega
    rintro r h4 ⟨t, p, nn, f4, w4⟩
    have hlt := lt_of e3
    have hwl := w1.lt
    have hne : h1.length ≠ w := by omega
    refine ⟨f4.get e3 hne, by simp [hn], ?_, (f3.trans f4).set' hl1 _, (w4.ne hne _).le (by simp)⟩
    intro x hx
    rcases List.mem_append.mp hx with q | q
    · exact hd x q
    · rw [List.mem_singleton.mp q]; exact ⟨t, p, nn⟩
  · rintro zs h3 e3 ⟨hn, hd, f3, w3⟩
    exact q zs h3 _ (by simpa using hn) hd f3 (w3.le (by simp)) e3
theorem r_term {mv : Int} (hm0 : 0 ≤ mv) (hm1 : mv ≤ 8000) (hN : 10000000 ≤ NF) : ∀ (n k K w : Nat) (h : Hd), 1 ≤ n → n ≤ 4 → n ≤ k → Wl (Dn n + K) w h → Ev (m__law_term NF RD CA k [.at w, .int n, .int mv] h) fun r h' => T r ∧ (parts r).length ≤ Pn n ∧ nf r ≤ Nn n ∧ Fw w h h' ∧ Wl K w h'
  | n, 0, K, w, h, h1, h4, hk, hw => by omega
  | n, k + 1, K, w, h, h1, h4, hk, hw => by
    have hLN := LN_eq
    have hD : 4 ≤ Dn n := by
      match n with
      | 0 => decide
      | 1 => decide
      | n + 2 => simp only [Dn]; omega
    have hP : 1 ≤ Pn n := by
      match n with
      | 0 => decide
      | 1 => decide
      | n + 2 => simp only [Pn]; omega
    have big : (1000 : Int) < BIG := by decide +kernel
    unfold m__law_term
    walk_at "wq"
    refine (r_draw (k := Dn n + K - 1) (by rw [show Dn n + K - 1 + 1 = Dn n + K by omega]; exact hw) (by decide) (by decide)).mono ?_
    rintro r h2 ⟨way, rfl, w0, w1, hf1, hw1⟩
    walk_at "wq"
    refine sq_nx ?_
    walk_at "wq"
    have leafI : ∀ (Q : D → Hd → Prop), (∀ r h', T r → (parts r).length = 1 → nf r = 0 → Fw w h h' → Wl K w h' → Q r h') → ∀ xs : List D, xs.length = 4 → (∀ r ∈ xs, T r ∧ (parts r).length = 1 ∧ nf r = 0) → Ev (m__law_one NF RD CA [.at w, .at h2.length] (h2 ++ [O.lst xs])) Q := by
      intro Q q xs hx hxs
      refine (r_one (k := Dn n + K - 2) ((hw1.le (by omega)).pre (Pre.app _ _)) (get_new _ _) (by have := hw1.lt; omega) (by omega) (by omega)).mono ?_
      rintro r h3 ⟨hr, f3, w3⟩
      obtain ⟨a, b, c⟩ := hxs r hr
      exact q r h3 a b c (hf1.trans ((Fw.pre (Pre.app _ _)).trans f3)) (w3.le (by omega))
    refine br (fun c1 => ?_) fun c1 => ?_
    focus
      walk_at "wq"
      refine br (fun c2 => ?_) fun c2 => ?_
      · have hmv : 0 < mv := by simpa using c2
        walk_at "wq"
        refine (r_draw (k := Dn n + K - 2) (hw1.le (by omega)) hmv (by have := Nat.log2_le_self mv.natAbs; omega)).mono ?_
        rintro r h3 ⟨v, rfl, v0, v1, f3, w3⟩
        walk_at "wp"
        exact ⟨.var v v0, by simpa [parts, partsT, partss] using hP, by simp [nf, nfs], hf1.trans f3, w3.le (by omega)⟩
    all_goals
      walk_at "wq"
      refine sq_nx ?_
      walk_at "wq"
      have hints : ∀ r ∈ [D.int 0, .int 1, .int (-1), .int ((10 : Int) ^ Int.toNat 20)], T r ∧ (parts r).length = 1 ∧ nf r = 0 := by
        intro r hr
        simp only [List.mem_cons, List.not_mem_nil, or_false] at hr
        rcases hr with rfl | rfl | rfl | rfl
        · exact ⟨.int _ (by decide +kernel), by simp [parts], by simp [nf]⟩
        · exact ⟨.int _ (by decide +kernel), by simp [parts], by simp [nf]⟩
        · exact ⟨.int _ (by decide +kernel), by simp [parts], by simp [nf]⟩
        · exact ⟨.int _ big20, by simp [parts], by simp [nf]⟩
      have hstrs : ∀ r ∈ [D.str "a", .str "b", .str "[]", .str ""], T r ∧ (parts r).length = 1 ∧ nf r = 0 := by
        intro r hr
        simp only [List.mem_cons, List.not_mem_nil, or_false] at hr
        rcases hr with rfl | rfl | rfl | rfl <;> exact ⟨.str _ (by decide +kernel), by simp [parts], by simp [nf]⟩
      by_cases a1 : way = 2
      · have d1 : decide (way = 2) = true := decide_eq_true a1
        walk_at "wp"
        refine leafI _ (fun r h' a b c f w' => ?_) _ rfl hints
        walk_at "wp"
        exact ⟨a, by omega, by omega, f, w'⟩
      have d1 : decide (way = 2) = false := decide_eq_false a1
      by_cases a2 : n ≤ 1
      · have d2 : decide ((n : Int) ≤ 1) = true := decide_eq_true (by omega)
        by_cases a3 : way = 3
        · have d3 : decide (way = 3) = true := decide_eq_true a3
          walk_at "wp"
          refine leafI _ (fun r h' a b c f w' => ?_) _ rfl hints
          walk_at "wp"
          exact ⟨a, by omega, by omega, f, w'⟩
        · have d3 : decide (way = 3) = false := decide_eq_false a3
          walk_at "wp"
          refine leafI _ (fun r h' a b c f w' => ?_) _ rfl hstrs
          walk_at "wp"
          exact ⟨a, by omega, by omega, f, w'⟩
      have d2 : decide ((n : Int) ≤ 1) = false := decide_eq_false (by omega)
      by_cases a3 : way = 3
      · have d3 : decide (way = 3) = true := decide_eq_true a3
        walk_at "wp"
        refine leafI _ (fun r h' a b c f w' => ?_) _ rfl hstrs
        walk_at "wp"
        exact ⟨a, by omega, by omega, f, w'⟩
      have d3 : decide (way = 3) = false := decide_eq_false a3
      walk_at "wp"
      clear leafI hints hstrs
      obtain ⟨m, rfl⟩ : ∃ m, n = m + 2 := ⟨n - 2, by omega⟩
      simp only [Dn] at hw1 hD hw
      refine (r_one (k := 36 + 3 * Dn (m + 1) + K) ((hw1.le (by omega)).pre (Pre.app _ _)) (get_new _ _) (by have := hw1.lt; omega) (by simp) (by simp)).mono ?_
      rintro r h3 ⟨hr, f3, w3⟩
      have hf3 := hf1.trans ((Fw.pre (Pre.app _ _)).trans f3)
      obtain ⟨nm', ct', rfl, hat, hc1, hc3⟩ : ∃ (nm' : Str) (ct' : Nat), r = .tup [.str nm', .int ct'] ∧ atomOk nm' = true ∧ 1 ≤ ct' ∧ ct' ≤ 3 := by
        simp only [List.mem_cons, List.not_mem_nil, or_false] at hr
        rcases hr with rfl | rfl | rfl | rfl | rfl | rfl
        · exact ⟨"f", 1, rfl, by decide +kernel, by decide, by decide⟩
        · exact ⟨"g", 2, rfl, by decide +kernel, by decide, by decide⟩
        · exact ⟨"g", 2, rfl, by decide +kernel, by decide, by decide⟩
        · exact ⟨".", 2, rfl, by decide +kernel, by decide, by decide⟩
        · exact ⟨"f", 3, rfl, by decide +kernel, by decide, by decide⟩
        · exact ⟨"f", 3, rfl, by decide +kernel, by decide, by decide⟩
      clear hr
      -- a compound of drawn parts
      have comp : ∀ (f : Str) (ds : List D) (n0 : Nat), atomOk f = true → 1 ≤ ds.length → ds.length ≤ 8 → 1 ≤ n0 → (∀ d ∈ ds, T d ∧ (parts d).length ≤ Pn n0 ∧ nf d ≤ Nn n0) → T (.tup (.str f :: ds)) ∧ (parts (.tup (.str f :: ds))).length ≤ 1 + Pn n0 * ds.length ∧ nf (.tup (.str f :: ds)) ≤ 1 + Nn n0 * ds.length := by
        intro f ds n0 hf h1 h8 _ hd
        have hp := partss_le (n := Pn n0) fun d hd' => (hd d hd').2.1
        have hn := nfs_le (n := Nn n0) fun d hd' => (hd d hd').2.2
        cases ds with
        | nil => simp at h1
        | cons a as =>
          refine ⟨.cmp f a as hf (by simp at h8; omega) fun x hx => (hd x hx).1, ?_, ?_⟩
          · simp only [parts, partsT, List.length_cons] at hp ⊢
            omega
          · simp only [nf, nfs, List.length_cons] at hn ⊢
            rw [if_pos (by omega)]
            omega
      walk_at "wq"
      refine sq_nx ?_
      walk_at "wq"
      have hm3 : Dn 1 = 4 ∧ 4 ≤ Dn (m + 1) := ⟨rfl, by
        match m with
        | 0 => decide
        | m + 1 => simp only [Dn]; omega⟩
      have fin : ∀ h4 p4, Fw w h h4 → Wl (3 * Dn (m + 1) + K) w h4 → Ev ((retM (opM addD (tupM (consM (varM 4) nilM)) (cbM tuplD (consM (lcM (rngI (consM (varM 5) nilM)) (nameG 6) yesM (E__law_term_0 NF RD CA (m__law_term NF RD CA k)) [6] NF) nilM)))) ([some (.at w), some (.int (m + 2 : Nat)), some (.int mv), p4, some (.str nm'), some (.int ct'), none] : Sg) h4) (BdK fun r h' => T r ∧ (parts r).length ≤ Pn (m + 2) ∧ nf r ≤ Nn (m + 2) ∧ Fw w h h' ∧ Wl K w h') := by
        intro h4 p4 f4 w4
        walk_at "wq"
        refine ev_draws (n0 := m + 1) (c := ct') (w := w) (K := K) hN (by omega) ?_ ?_ ?_
        · walk_at "wq"
          refine ⟨_, rfl, ⟨by omega, by omega⟩, ?_⟩
          refine ⟨by rw [show ((ct' : Int)).toNat = ct' by omega], Fw.refl _ _, w4.le ?_⟩
          have := Nat.mul_le_mul_left (Dn (m + 1)) hc3
          omega
        · intro K' h' z w'
          unfold E__law_term_0
          walk_at "wq"
          rw [show (((m + 2 : Nat) : Int) - 1) = ((m + 1 : Nat) : Int) by omega]
          refine (r_term hm0 hm1 hN (m + 1) k K' w h' (by omega) (by omega) (by omega) w').mono ?_
          rintro r h'' q
          walk_at "wq"
          exact q
        · intro ds h5 mm hl hd f5 w5 e5
          walk_at "wq"
          obtain ⟨c1', c2', c3'⟩ := comp nm' ds (m + 1) hat (by omega) (by omega) (by omega) hd
          have q1 := Nat.mul_le_mul_left (Pn (m + 1)) (show ds.length ≤ 3 by omega)
          have q2 := Nat.mul_le_mul_left (Nn (m + 1)) (show ds.length ≤ 3 by omega)
          refine lf_addT (by simp; omega) ?_
          walk_at "wq"
          exact ⟨c1', by simp only [Pn]; simp only [List.cons_append, List.nil_append]; omega, by simp only [Nn]; simp only [List.cons_append, List.nil_append]; omega, f4.trans f5, w5⟩
      by_cases b1 : m = 2
      · subst b1
        have D3 : Dn (2 + 1) = Dn 3 := rfl
        have D3' : Dn 3 = 196 := by decide
        refine br_t (decide_eq_true (by omega)) ?_
        walk_at "wq"
        refine (r_draw (k := 35 + 3 * Dn 3 + K) (w3.le (by omega)) (by decide) (by decide)).mono ?_
        rintro r h4 ⟨v, rfl, v0, v1, f4, w4⟩
        walk_at "wq"
        refine br (fun c2 => ?_) fun c2 => ?_
        · walk_at "wq"
          have drawn : Ev (lcM (rngI (consM (opM addD (cM (.int 4)) (callM 2 (m__law_draw NF RD CA) [] (consM (varM 0) (consM (cM (.int 5)) nilM)))) nilM)) (nameG 6) yesM (E__law_term_1 NF RD CA (m__law_term NF RD CA k)) [6] NF ([some (.at w), some (.int (2 + 2 : Nat)), some (.int mv), some (.int way), some (.str nm'), some (.int ct'), none] : Sg) h4) fun r h' => ∃ mm ds, r = .at mm ∧ 4 ≤ ds.length ∧ ds.length ≤ 8 ∧ (∀ d ∈ ds, T d ∧ (parts d).length ≤ Pn 1 ∧ nf d ≤ Nn 1) ∧ Fw w h4 h' ∧ Wl K w h' ∧ h'[mm]? = some (.lst ds) := by
            obtain ⟨r5, h5, e5, v5, rfl, v50, v51, f5, w5⟩ := r_draw (NF := NF) (RD := RD) (CA := CA) (k := 34 + 3 * Dn 3 + K) (many := 5) (w := w) (h := h4) (w4.le (by omega)) (by decide) (by decide)
            obtain ⟨v6, rfl⟩ : ∃ v6 : Nat, v5 = v6 := ⟨v5.toNat, by omega⟩
            refine ev_draws (n0 := 1) (c := 4 + v6) (w := w) (K := K) hN (by omega) ?_ ?_ ?_
            · walk_at "wq"
              refine ev_eq e5 ?_
              walk_at "wq"
              refine ⟨_, rfl, ⟨by omega, by omega⟩, ?_⟩
              exact ⟨by rw [show ((4 : Int) + (v6 : Int)).toNat = 4 + v6 by omega], f5, w5.le (by show 4 * (4 + v6) + K ≤ _; omega)⟩
            · intro K' h' z w'
              unfold E__law_term_1
              walk_at "wq"
              refine (r_term hm0 hm1 hN 1 k K' w h' (by omega) (by omega) (by omega) w').mono ?_
              rintro r h'' q
              walk_at "wq"
              exact q
            · intro ds h6 mm hl hd f6 w6 e6
              exact ⟨mm, ds, rfl, by omega, by omega, hd, f6, w6, e6⟩
          refine drawn.mono ?_
          rintro _ h5 ⟨mm, ds, rfl, l1, l2, hd, f5, w5, e5⟩
          walk_at "wq"
          obtain ⟨c1', c2', c3'⟩ := comp "h" ds 1 (by decide +kernel) (by omega) (by omega) (by omega) hd
          have P1 : Pn 1 = 1 := rfl
          have N1 : Nn 1 = 0 := rfl
          have P4 : Pn (2 + 2) = 40 := by decide
          have N4 : Nn (2 + 2) = 13 := by decide
          rw [P1] at c2'
          rw [N1] at c3'
          refine lf_addT (by simp; omega) ?_
          walk_at "wq"
          exact ⟨c1', by simp only [List.cons_append, List.nil_append]; omega, by simp only [List.cons_append, List.nil_append]; omega, (hf3.trans f4).trans f5, w5⟩
        · walk_at "wq"
          refine sq_nx ?_
          exact fin h4 _ (hf3.trans f4) (w4.le (by omega))
      · refine br_f (decide_eq_false (by omega)) ?_
        walk_at "wq"
        refine sq_nx ?_
        exact fin h3 _ hf3 (w3.le (by omega))
end

/-! ### a heap that is being built -/
/-- a variable that is there: new, or of those that stood ahead -/
def GV (nB : Nat) (cs : List Cl) (v : Nat) : Prop := ∃ z, cs[v]? = some z ∧ z ≠ .none ∧ isFn (some z) = false ∧ (z = .ref (.h v) ∨ v < nB)
def LC (nB : Nat) (cs : List Cl) (i : Nat) : Cl → Prop
  | .ref (.h v) => v ≤ i ∧ GV nB cs v
  | .ref (.s _) => False
  | .str n => i < n ∧ ∃ f k, cs[n]? = some (.fn f k)
  | .fn f k => 1 ≤ k ∧ k ≤ 8 ∧ atomOk f = true ∧ ∀ j, 1 ≤ j → j ≤ k → isFn cs[i + j]? = false
  | .con s => atomOk s = true
  | .int i => (if i < 0 then -i else i) < BIG
  | .none => True
def BS (nB : Nat) (cs : List Cl) : Prop := ∀ i x, nB ≤ i → cs[i]? = some x → LC nB cs i x
/-- all functors but the one at e have their arguments -/
def Cp (cs : List Cl) (e : Nat) : Prop := ∀ i f k, cs[i]? = some (.fn f k) → i ≠ e → i + k < cs.length
theorem get_app {cs : List Cl} {x y : Cl} {i : Nat} (e : cs[i]? = some y) : (cs ++ [x])[i]? = some y := by
  rw [List.getElem?_append_left (List.getElem?_eq_some_iff.mp e).1]
  exact e
theorem GV.app {nB : Nat} {cs : List Cl} {v : Nat} (h : GV nB cs v) (x : Cl) : GV nB (cs ++ [x]) v := by
  obtain ⟨z, a, b⟩ := h
  exact ⟨z, get_app a, b⟩
theorem GV.lt {nB : Nat} {cs : List Cl} {v : Nat} (h : GV nB cs v) : v < cs.length := by
  obtain ⟨z, a, b⟩ := h
  exact (List.getElem?_eq_some_iff.mp a).1
theorem GV.self {nB : Nat} {cs : List Cl} : GV nB (cs ++ [Cl.ref (.h cs.length)]) cs.length := ⟨.ref (.h cs.length), by simp, (by intro z; cases z), rfl, .inl rfl⟩
theorem app_inv {cs : List Cl} {x y : Cl} {i : Nat} (e : (cs ++ [x])[i]? = some y) : cs[i]? = some y ∨ (i = cs.length ∧ y = x) := by
  by_cases q : i < cs.length
  · rw [List.getElem?_append_left q] at e
    exact .inl e
  · have hn := (List.getElem?_eq_some_iff.mp e).1
    simp at hn
    have : i = cs.length := by omega
    subst this
    simp at e
    exact .inr ⟨rfl, e.symm⟩
theorem fn_app {cs : List Cl} {x : Cl} {i : Nat} (h : isFn cs[i]? = false) (hx : i = cs.length → isFn (some x) = false) : isFn (cs ++ [x])[i]? = false := by
  by_cases q : i < cs.length
  · rw [List.getElem?_append_left q]; exact h
  · rw [List.getElem?_append_right (by omega)]
    by_cases q2 : i = cs.length
    · rw [q2]; simpa using hx q2
    · rw [List.getElem?_eq_none (by simp; omega)]; rfl
section
variable {nB : Nat}
theorem LC.app {cs : List Cl} {x y : Cl} {i : Nat} (h : LC nB cs i y) (hx : ∀ f k j, y = .fn f k → 1 ≤ j → j ≤ k → i + j = cs.length → isFn (some x) = false) : LC nB (cs ++ [x]) i y := by
  cases y with
  | ref a =>
    cases a with
    | h v => exact ⟨h.1, h.2.app _⟩
    | s v => exact h
  | str n => obtain ⟨h1, f, k, h2⟩ := h; exact ⟨h1, f, k, get_app h2⟩
  | fn f k => exact ⟨h.1, h.2.1, h.2.2.1, fun j j1 j2 => fn_app (h.2.2.2 j j1 j2) fun e => hx f k j rfl j1 j2 e⟩
  | con s => exact h
  | int i => exact h
  | none => trivial
theorem BS.app {cs : List Cl} {x : Cl} (b : BS nB cs) (hx : isFn (some x) = false) (hl : LC nB (cs ++ [x]) cs.length x) : BS nB (cs ++ [x]) := by
  intro i y hi e
  rcases app_inv e with q | ⟨rfl, rfl⟩
  · exact (b i y hi q).app fun _ _ _ _ _ _ _ => hx
  · exact hl
theorem BS.appF {cs : List Cl} {f : Str} {k : Nat} (b : BS nB cs) (c : Cp cs cs.length) (h1 : 1 ≤ k) (h8 : k ≤ 8) (hf : atomOk f = true) : BS nB (cs ++ [.fn f k]) := by
  intro i y hi e
  rcases app_inv e with q | ⟨rfl, rfl⟩
  · refine (b i y hi q).app fun f' k' j ey j1 j2 ei => ?_
    subst ey
    have hi := (List.getElem?_eq_some_iff.mp q).1
    have := c i f' k' q (by omega)
    omega
  · refine ⟨h1, h8, hf, fun j j1 j2 => ?_⟩
    rw [List.getElem?_eq_none (by simp; omega)]
    rfl
theorem GV.set {cs : List Cl} {pl n : Nat} {v : Nat} (hp : cs[pl]? = some .none) (h : GV nB cs v) : GV nB (cs.set pl (.str n)) v := by
  obtain ⟨z, a, b, c⟩ := h
  refine ⟨z, ?_, b, c⟩
  rw [List.getElem?_set_ne]
  · exact a
  · rintro rfl
    rw [hp] at a
    cases a
    exact b rfl
theorem BS.set {cs : List Cl} {pl n k : Nat} {f : Str} (b : BS nB cs) (hp : cs[pl]? = some .none) (hn : cs[n]? = some (.fn f k)) (hlt : pl < n) : BS nB (cs.set pl (.str n)) := by
  have hpl := (List.getElem?_eq_some_iff.mp hp).1
  have keep : ∀ {i : Nat} {z : Cl}, cs[i]? = some z → z ≠ Cl.none → (cs.set pl (.str n))[i]? = some z := by
    intro i z e hz
    rw [List.getElem?_set_ne]
    · exact e
    · rintro rfl
      rw [hp] at e
      cases e
      exact hz rfl
  intro i y hi e
  by_cases q : i = pl
  · subst q
    rw [List.getElem?_set_self hpl] at e
    cases e
    exact ⟨hlt, f, k, keep hn (by intro z; cases z)⟩
  · rw [List.getElem?_set_ne (fun z => q z.symm)] at e
    have h := b i y hi e
    cases y with
    | ref a =>
      cases a with
      | h v => exact ⟨h.1, h.2.set hp⟩
      | s v => exact h
    | str m => obtain ⟨h1, f, k, h2⟩ := h; exact ⟨h1, f, k, keep h2 (by intro z; cases z)⟩
    | fn f' k' =>
      refine ⟨h.1, h.2.1, h.2.2.1, fun j j1 j2 => ?_⟩
      by_cases q2 : pl = i + j
      · rw [← q2, List.getElem?_set_self hpl]; rfl
      · rw [List.getElem?_set_ne q2]; exact h.2.2.2 j j1 j2
    | con s => exact h
    | int i => exact h
    | none => trivial
end
theorem Cp.set {cs : List Cl} {pl n e : Nat} (c : Cp cs e) : Cp (cs.set pl (.str n)) e := by
  intro i f k h hi
  rw [List.length_set]
  by_cases q : pl = i
  · subst q
    have hl := (List.getElem?_eq_some_iff.mp h).1
    rw [List.length_set] at hl
    rw [List.getElem?_set_self hl] at h
    cases h
  · rw [List.getElem?_set_ne q] at h
    exact c i f k h hi
theorem Cp.app {cs : List Cl} {x : Cl} {e : Nat} (c : Cp cs e) (hx : isFn (some x) = false) : Cp (cs ++ [x]) e := by
  intro i f k h hi
  rcases app_inv h with q | ⟨rfl, rfl⟩
  · have := c i f k q hi
    simp
    omega
  · cases hx
theorem Cp.appF {cs : List Cl} {f : Str} {k : Nat} (c : Cp cs cs.length) : Cp (cs ++ [.fn f k]) cs.length := by
  intro i f' k' h hi
  rcases app_inv h with q | ⟨rfl, _⟩
  · have hl := (List.getElem?_eq_some_iff.mp q).1
    have := c i f' k' q (by omega)
    simp
    omega
  · exact absurd rfl hi
/-- the number of functors -/
def fc (cs : List Cl) : Nat := (cs.filter fun x => isFn (some x)).length
theorem fc_app (cs : List Cl) (x : Cl) : fc (cs ++ [x]) = fc cs + (if isFn (some x) = true then 1 else 0) := by
  unfold fc
  rw [List.filter_append, List.length_append]
  congr 1
  cases h : isFn (some x) <;> simp [List.filter_cons, h]
theorem fc_set {cs : List Cl} {pl : Nat} {x : Cl} (h : isFn cs[pl]? = false) (hx : isFn (some x) = false) : fc (cs.set pl x) = fc cs := by
  unfold fc
  induction cs generalizing pl with
  | nil => rfl
  | cons y cs ih =>
    cases pl with
    | zero =>
      have h' : isFn (some y) = false := by simpa using h
      rw [List.set_cons_zero, List.filter_cons, List.filter_cons, hx, h', if_neg Bool.false_ne_true, if_neg Bool.false_ne_true]
    | succ pl =>
      rw [List.set_cons_succ, List.filter_cons, List.filter_cons]
      have := ih (pl := pl) (by simpa using h)
      split
      · rw [List.length_cons, List.length_cons, this]
      · exact this
theorem fns_fc : ∀ cs : List Cl, ((List.range cs.length).filter fun n => isFn cs[n]?).length = fc cs := by
  intro cs
  induction h : cs.length generalizing cs with
  | zero =>
    have : cs = [] := List.eq_nil_of_length_eq_zero h
    subst this
    rfl
  | succ n ih =>
    rcases List.eq_nil_or_concat cs with rfl | ⟨cs', x, rfl⟩
    · cases h
    rw [List.concat_eq_append] at h ⊢
    have hn : cs'.length = n := by simpa using h
    rw [fc_app, List.range_succ, List.filter_append, List.length_append, ← ih cs' hn]
    congr 1
    · congr 1
      apply List.filter_congr
      intro i hi
      rw [List.getElem?_append_left (by have := List.mem_range.mp hi; omega)]
    · subst hn
      have e : (cs' ++ [x])[cs'.length]? = some x := by simp
      cases h : isFn (some x) <;> simp [List.filter_cons, h]
theorem Fin.back {o : Sto} {i n : Nat} {z y : Cl} (f : Fol o i z y) (h : Fin o n y) : Fin o n z := by
  have this : Fol o 0 y y := by
    rcases f.endd with q | ⟨b, rfl, e⟩
    · exact .stop q
    · exact .self e
  cases h with
  | leaf g q =>
    obtain ⟨rfl, _⟩ := this.det g
    exact .leaf f q
  | node g e kk =>
    obtain ⟨rfl, _⟩ := this.det g
    exact .node f e kk
/-- what is built behind a good store is good -/
theorem gd_app {o : Sto} {cs : List Cl} (g : Gd o) (b : BS o.cells.length cs) (c : Cp cs cs.length) (hx : ∀ (i : Nat) (z : Cl), o.cells[i]? = some z → cs[i]? = some z) (hn : ∀ i : Nat, cs[i]? ≠ some .none) (h60 : fc cs ≤ 170) (hc : cs.length ≤ 2000) : Gd { o with cells := cs } := by
  have hle : o.cells.length ≤ cs.length := by
    rcases Nat.eq_zero_or_pos o.cells.length with q | q
    · omega
    · have := hx (o.cells.length - 1) _ (List.getElem?_eq_getElem (by omega))
      have := (List.getElem?_eq_some_iff.mp this).1
      omega
  have up : ∀ a z, lk o a = some z → lk { o with cells := cs } a = some z := by
    intro a z e
    cases a with
    | h n => exact hx n z e
    | s n => exact e
  have dn : ∀ n z, n < o.cells.length → cs[n]? = some z → lk o (.h n) = some z := by
    intro n z h e
    have h1 := hx n _ (List.getElem?_eq_getElem h)
    rw [e] at h1
    cases h1
    exact List.getElem?_eq_getElem h
  have eo : app o (cs.drop o.cells.length) = { o with cells := cs } := by
    have e : o.cells ++ cs.drop o.cells.length = cs := by
      have : cs.take o.cells.length = o.cells := by
        apply List.ext_getElem?
        intro i
        by_cases h : i < o.cells.length
        · rw [List.getElem?_take_of_lt h, hx i _ (List.getElem?_eq_getElem h), List.getElem?_eq_getElem h]
        · rw [List.getElem?_eq_none (by simp; omega), List.getElem?_eq_none (by omega)]
      conv => lhs; lhs; rw [← this]
      exact List.take_append_drop _ _
    show ({ o with cells := o.cells ++ cs.drop o.cells.length } : Sto) = _
    rw [e]
  have fup : ∀ {n : Nat} {x y : Cl}, Fol o n x y → Fol { o with cells := cs } n x y := fun f => by rw [← eo]; exact f.app
  have vup : ∀ {x : Cl}, VC o x → VC { o with cells := cs } x := fun v => by rw [← eo]; exact v.app
  have finup : ∀ {n : Nat} {x : Cl}, Fin o n x → Fin { o with cells := cs } n x := by
    intro n x h
    induction h with
    | leaf f h => exact .leaf (fup f) h
    | node f e _ ih => exact .node (fup f) (up _ _ e) ih
  have gvv : ∀ v, GV o.cells.length cs v → ∃ z, cs[v]? = some z ∧ isFn (some z) = false ∧ (z = .ref (.h v) ∨ lk o (.h v) = some z) := by
    rintro v ⟨z, e, _, hf, q⟩
    exact ⟨z, e, hf, q.imp id fun h => dn v z h e⟩
  have vc : ∀ a x, lk { o with cells := cs } a = some x → VC { o with cells := cs } x := by
    intro a x e
    cases a with
    | s n => exact vup (g.vc (.s n) x e)
    | h n =>
      by_cases q : n < o.cells.length
      · exact vup (g.vc _ x (dn n x q e))
      have h := b n x (by omega) e
      cases x with
      | ref a =>
        cases a with
        | h v =>
          obtain ⟨z, ez, _⟩ := h.2
          show (cs[v]?).isSome = true
          rw [ez]; rfl
        | s v => exact h.elim
      | str m =>
        obtain ⟨h1, f, k, h2⟩ := h
        have h3 := b m _ (by omega) h2
        exact ⟨f, k, h2, h3.1, h3.2.1, c m f k h2 (by have := (List.getElem?_eq_some_iff.mp h2).1; omega)⟩
      | _ => trivial
  have finv : ∀ v, GV o.cells.length cs v → ∃ n, Fin { o with cells := cs } n (.ref (.h v)) := by
    intro v h
    obtain ⟨z, e, hf, q⟩ := gvv v h
    rcases q with rfl | q
    · exact ⟨0, .leaf (.self e) fun p z => by cases z⟩
    · obtain ⟨n, h⟩ := g.fin (.ref (.h v)) (by show (lk o (.h v)).isSome = true; rw [q]; rfl)
      exact ⟨n, finup h⟩
  have all : ∀ (k : Nat) (F : Nat → Nat → Prop), (∀ j n m, F j n → n ≤ m → F j m) → (∀ j, 1 ≤ j → j ≤ k → ∃ n, F j n) → ∃ n, ∀ j, 1 ≤ j → j ≤ k → F j n := by
    intro k F mono
    induction k with
    | zero => exact fun _ => ⟨0, fun j _ _ => by omega⟩
    | succ k ih =>
      intro h
      obtain ⟨n, hn⟩ := ih fun j a b => h j a (by omega)
      obtain ⟨m, hm⟩ := h (k + 1) (by omega) (Nat.le_refl _)
      refine ⟨max n m, fun j a b => ?_⟩
      by_cases q : j = k + 1
      · subst q; exact mono _ _ _ hm (Nat.le_max_right _ _)
      · exact mono _ _ _ (hn j a (by omega)) (Nat.le_max_left _ _)
  have stp : ∀ {a : Ad} {x : Cl}, lk { o with cells := cs } a = some x → (∀ d, x ≠ .ref d) → (∀ n, x ≠ .str n) → Fin { o with cells := cs } 0 (.ref a) := by
    intro a x e h1 h2
    exact .leaf (.step e (h1 a) (.stop h1)) h2
  have hfin : ∀ d p f k, cs.length ≤ p + d → o.cells.length ≤ p → lk { o with cells := cs } (.h p) = some (.fn f k) → ∃ n, Fin { o with cells := cs } n (.str p) := by
    intro d
    induction d with
    | zero =>
      intro p f k hp _ e
      have := (List.getElem?_eq_some_iff.mp (show cs[p]? = some _ from e)).1
      omega
    | succ d ih =>
      intro p f k hp hb e
      have hl := c p f k e (by have := (List.getElem?_eq_some_iff.mp (show cs[p]? = some _ from e)).1; omega)
      obtain ⟨n, hn'⟩ := all k (fun j n => Fin { o with cells := cs } n (.ref (.h (p + j)))) (fun j n m h1 h2 => h1.mono _ h2) (fun j j1 j2 => by
        obtain ⟨x, ex⟩ : ∃ x, cs[p + j]? = some x := ⟨_, List.getElem?_eq_getElem (by omega)⟩
        have hx := b (p + j) x (by omega) ex
        have ex' : lk { o with cells := cs } (.h (p + j)) = some x := ex
        cases x with
        | ref a =>
          cases a with
          | s v => exact hx.elim
          | h v =>
            by_cases q : v = p + j
            · subst q
              exact ⟨0, .leaf (.self ex') fun p z => by cases z⟩
            · obtain ⟨n, h⟩ := finv v hx.2
              have hne : Cl.ref (.h v) ≠ .ref (.h (p + j)) := by intro z; cases z; exact q rfl
              cases h with
              | leaf f' h' => exact ⟨n, .leaf (.step ex' hne f') h'⟩
              | node f' e' kk => exact ⟨_, .node (.step ex' hne f') e' kk⟩
        | str n =>
          obtain ⟨h1, f', k', h2⟩ := hx
          obtain ⟨m, h⟩ := ih n f' k' (by omega) (by omega) h2
          exact ⟨m, Fin.back (.step ex' (by intro z; cases z) (.stop fun a z => by cases z)) h⟩
        | con s => exact ⟨0, stp ex' (fun d z => by cases z) fun n z => by cases z⟩
        | int s => exact ⟨0, stp ex' (fun d z => by cases z) fun n z => by cases z⟩
        | fn s t => exact ⟨0, stp ex' (fun d z => by cases z) fun n z => by cases z⟩
        | none => exact ⟨0, stp ex' (fun d z => by cases z) fun n z => by cases z⟩)
      exact ⟨n + 1, .node (.stop fun a z => by cases z) e hn'⟩
  have finS : ∀ n, VC { o with cells := cs } (.str n) → ∃ m, Fin { o with cells := cs } m (.str n) := by
    rintro n ⟨f, k, h1, h2, h3, h4⟩
    by_cases q : n < o.cells.length
    · have e := dn n _ q h1
      obtain ⟨m, h⟩ := g.fin (.str n) ⟨f, k, e, h2, h3, (g.cp n f k e).1⟩
      exact ⟨m, finup h⟩
    · exact hfin cs.length n f k (by omega) (by omega) h1
  have fnl : ∀ d, (lk o d).isSome = true → isFn (lk o d) = false → isFn (lk { o with cells := cs } d) = false := by
    intro d h1 h2
    obtain ⟨z, ez⟩ := Option.isSome_iff_exists.mp h1
    rw [up d z ez]
    rw [ez] at h2
    exact h2
  refine ⟨vc, fun a d e => ?_, fun x v => ?_, fun n hn => g.sl n hn, by unfold K50.fns; exact Nat.le_trans (Nat.le_of_eq (fns_fc cs)) h60, hc, g.ss, fun a d e => ?_, fun p f k e j j1 j2 => ?_, fun p f k e => ⟨c p f k e (by have := (List.getElem?_eq_some_iff.mp (show cs[p]? = some _ from e)).1; omega), by
      by_cases q : p < o.cells.length
      · exact (g.cp p f k (dn p _ q e)).2
      · have h3 := b p _ (by omega) e
        exact ⟨h3.1, h3.2.1⟩⟩, fun a e => ?_, fun n => g.sf n⟩
  · cases a with
    | s n => exact g.od (.s n) d e
    | h n =>
      by_cases q : n < o.cells.length
      · exact g.od _ d (dn n _ q e)
      have h := b n _ (by omega) e
      cases d with
      | h v =>
        by_cases q : v = n
        · exact .inl (by rw [q])
        · right
          rw [adLt_h]
          have := h.1
          exact decide_eq_true (by omega)
      | s v => exact h.elim
  · cases x with
    | ref a =>
      obtain ⟨x, ex⟩ := Option.isSome_iff_exists.mp (show (lk { o with cells := cs } a).isSome = true from v)
      cases a with
      | s n =>
        obtain ⟨m, h⟩ := g.fin (.ref (.s n)) v
        exact ⟨m, finup h⟩
      | h n =>
        by_cases q : n < o.cells.length
        · obtain ⟨m, h⟩ := g.fin (.ref (.h n)) (by show (lk o (.h n)).isSome = true; rw [dn n x q ex]; rfl)
          exact ⟨m, finup h⟩
        have hb := b n x (by omega) ex
        cases x with
        | ref a =>
          cases a with
          | s v => exact hb.elim
          | h v =>
            by_cases q : v = n
            · subst q
              exact ⟨0, .leaf (.self ex) fun p z => by cases z⟩
            · obtain ⟨m, h⟩ := finv v hb.2
              have hne : Cl.ref (.h v) ≠ .ref (.h n) := by intro z; cases z; exact q rfl
              cases h with
              | leaf f' h' => exact ⟨m, .leaf (.step ex hne f') h'⟩
              | node f' e' kk => exact ⟨_, .node (.step ex hne f') e' kk⟩
        | str m =>
          obtain ⟨m', h⟩ := finS m (vc _ _ ex)
          exact ⟨m', Fin.back (.step ex (by intro z; cases z) (.stop fun a z => by cases z)) h⟩
        | con s => exact ⟨0, stp ex (fun d z => by cases z) fun n z => by cases z⟩
        | int s => exact ⟨0, stp ex (fun d z => by cases z) fun n z => by cases z⟩
        | fn s t => exact ⟨0, stp ex (fun d z => by cases z) fun n z => by cases z⟩
        | none => exact ⟨0, stp ex (fun d z => by cases z) fun n z => by cases z⟩
    | str n => exact finS n v
    | con s => exact ⟨0, .leaf (.stop fun a z => by cases z) fun p z => by cases z⟩
    | int s => exact ⟨0, .leaf (.stop fun a z => by cases z) fun p z => by cases z⟩
    | fn s t => exact ⟨0, .leaf (.stop fun a z => by cases z) fun p z => by cases z⟩
    | none => exact ⟨0, .leaf (.stop fun a z => by cases z) fun p z => by cases z⟩
  · have old : ∀ {a}, lk o a = some (.ref d) → isFn (lk { o with cells := cs } d) = false := fun {a} e' => fnl d (g.vc a _ e') (g.nr a d e')
    cases a with
    | s n => exact old (a := .s n) e
    | h n =>
      by_cases q : n < o.cells.length
      · exact old (dn n _ q e)
      have h := b n _ (by omega) e
      cases d with
      | h v =>
        obtain ⟨z, ez, hz, _⟩ := gvv v h.2
        show isFn cs[v]? = false
        rw [ez]; exact hz
      | s v => exact h.elim
  · by_cases q : p < o.cells.length
    · have e' := dn p _ q e
      have hcp := (g.cp p f k e').1
      have := g.nk p f k e' j j1 j2
      refine fnl _ ?_ this
      show (o.cells[p + j]?).isSome = true
      rw [List.getElem?_eq_getElem (by omega)]; rfl
    · exact (b p _ (by omega) e).2.2.2 j j1 j2
  · cases a with
    | h n => exact hn n e
    | s n => exact g.nn (.s n) e


def eW : Option Nat × D → D
  | (none, t) => .tup [.non, t]
  | (some p, t) => .tup [.int p, t]
def wc (o : Sto) (cs : List Cl) : Sto := { o with cells := cs }
def NM (nB : Nat) (cs : List Cl) (nms : List (Nat × Cl)) : Prop := ∀ p ∈ nms, ∃ v, p.2 = .ref (.h v) ∧ GV nB cs v
theorem NM.app {nB : Nat} {cs : List Cl} {nms : List (Nat × Cl)} (h : NM nB cs nms) (x : Cl) : NM nB (cs ++ [x]) nms := fun p hp => by
  obtain ⟨v, e1, e2⟩ := h p hp
  exact ⟨v, e1, e2.app _⟩
structure WQ (cs : List Cl) (W : List (Option Nat × D)) : Prop where
  t : ∀ p ∈ W, T p.2 ∧ isCmp p.2 = true ∧ ∀ pl, p.1 = some pl → cs[pl]? = some .none
  d : (W.filterMap (·.1)).Nodup
  c : ∀ i : Nat, cs[i]? = some .none → ∃ p ∈ W, p.1 = some i
theorem WQ.app {cs : List Cl} {W : List (Option Nat × D)} (h : WQ cs W) (x : Cl) (hx : x ≠ .none) : WQ (cs ++ [x]) W := ⟨fun p hp => by
  obtain ⟨a, b, c⟩ := h.t p hp
  exact ⟨a, b, fun pl e => get_app (c pl e)⟩, h.d, fun i e => by
  rcases app_inv e with q | ⟨_, q⟩
  · exact h.c i q
  · exact absurd q.symm hx⟩
/-- what a part that is no compound becomes -/
inductive Sm1 (pl : Nat) (nms : List (Nat × Cl)) : Cl → List (Nat × Cl) → Prop
  | int {i : Int} : (if i < 0 then -i else i) < BIG → Sm1 pl nms (.int i) nms
  | con {s : Str} : atomOk s = true → Sm1 pl nms (.con s) nms
  | old {p : Nat × Cl} : p ∈ nms → Sm1 pl nms p.2 nms
  | new {i : Nat} : Sm1 pl nms (.ref (.h pl)) (nms ++ [(i, .ref (.h pl))])
section
variable {NF RD : Nat} {CA : Str → Addr}
theorem r_constI (i : Int) (h : Hd) : m_constant NF RD CA [.int i] h = some (eC (.int i), h) := by
  refine ev_is ?_
  unfold m_constant
  walk_at "wq"
  exact ⟨rfl, rfl⟩
theorem r_constS (s : Str) (h : Hd) : m_constant NF RD CA [.str s] h = some (eC (.con s), h) := by
  refine ev_is ?_
  unfold m_constant
  walk_at "wq"
  exact ⟨rfl, rfl⟩
theorem kd_dct {h : Hd} {n : Nat} {ws : List (Key × D)} {A : Prop} (e : h[n]? = some (.dct ws)) (q : A) : KdK "dict" h (.at n) A := ⟨by
  unfold kindD
  simp only [e]
  rfl, q⟩
theorem r_simple {d : D} {nm pl : Nat} {nms : List (Nat × Cl)} {h : Hd} (t : T d) (hc : isCmp d = false) (e : h[nm]? = some (.dct (nms.map eSl))) (hl : nms.length < LN) :
    Ev (m_simple NF RD CA [d, .at nm, eC (.ref (.h pl))] h) fun r h' => ∃ x nms', r = eC x ∧ h'[nm]? = some (.dct (nms'.map eSl)) ∧ Fx [nm] h h' ∧ Sm1 pl nms x nms' := by
  unfold m_simple
  cases t with
  | int i hi =>
    walk_at "wq"
    refine ev_eq (r_constI i h) ?_
    walk_at "wq"
    exact ⟨_, nms, rfl, e, Fx.refl _ _, .int hi⟩
  | str s hs =>
    walk_at "wq"
    refine ev_eq (r_constS s h) ?_
    walk_at "wq"
    exact ⟨_, nms, rfl, e, Fx.refl _ _, .con hs⟩
  | var n hn =>
    obtain ⟨n', rfl⟩ : ∃ n' : Nat, n = n' := ⟨n.toNat, by omega⟩
    walk_at "wq"
    refine sq_nx ?_
    walk_at "wq"
    refine kd_dct e ?_
    walk_at "wq"
    cases q : nms.find? fun p => decide (p.1 = n') with
    | some p =>
      refine lf_setdT (k := .inl (n' : Int)) (d := eC p.2) e rfl ?_ ?_
      · rw [val_sl, q]; rfl
      walk_at "wq"
      exact ⟨_, nms, rfl, e, Fx.refl _ _, .old (List.mem_of_find?_eq_some q)⟩
    | none =>
      refine lf_setdF (k := .inl (n' : Int)) e rfl (by rw [val_sl, q]; rfl) (by simpa using hl) ?_
      walk_at "wq"
      refine ⟨_, nms ++ [(n', .ref (.h pl))], rfl, ?_, Fx.set (by simp) _, .new⟩
      rw [get_set e]
      have hp := put_sl nms n' (.ref (.h pl))
      rw [hp]
      unfold putS
      rw [if_neg]
      rw [List.any_eq_true]
      rintro ⟨z, hz, ez⟩
      have := List.find?_eq_none.mp q z hz
      exact this ez
  | cmp f a as _ _ _ => rw [isCmp_cmp] at hc; cases hc
/-- a cell of an argument is laid behind -/
theorem lay {nB : Nat} {cs : List Cl} {nms nms' : List (Nat × Cl)} {x : Cl} (b : BS nB cs) (hn : NM nB cs nms) (s : Sm1 cs.length nms x nms') : BS nB (cs ++ [x]) ∧ NM nB (cs ++ [x]) nms' ∧ isFn (some x) = false ∧ nms'.length ≤ nms.length + 1 ∧ gdC x = true ∧ x ≠ .none := by
  have hself : GV nB (cs ++ [Cl.ref (.h cs.length)]) cs.length := .self
  cases s with
  | int hi => exact ⟨b.app rfl hi, hn.app _, rfl, by omega, by simpa [gdC] using hi, by intro z; cases z⟩
  | con hs => exact ⟨b.app rfl hs, hn.app _, rfl, by omega, hs, by intro z; cases z⟩
  | @old p hp =>
    obtain ⟨v, e1, e2⟩ := hn p hp
    rw [e1]
    have hv := e2.lt
    exact ⟨b.app rfl ⟨by omega, e2.app _⟩, hn.app _, rfl, by omega, rfl, by intro z; cases z⟩
  | new =>
    refine ⟨b.app rfl ⟨Nat.le_refl _, hself⟩, ?_, rfl, by simp, rfl, by intro z; cases z⟩
    intro p hp
    rcases List.mem_append.mp hp with q | q
    · exact hn.app _ p q
    · rw [List.mem_singleton.mp q]
      exact ⟨_, rfl, hself⟩
/-- what the loop keeps -/
structure BI (nB : Nat) (CA : Str → Addr) (o : Sto) (s c sl nt nm wl : Nat) (h : Hd) (h' : Hd) (cs : List Cl) (nms : List (Nat × Cl)) (W : List (Option Nat × D)) (e : Nat) : Prop where
  r : SR CA (wc o cs) s c sl nt h'
  n : h'[nm]? = some (.dct (nms.map eSl))
  w : h'[wl]? = some (.lst (W.map eW))
  f : Fx [c, nm] h h'
  b : BS nB cs
  p : Cp cs e
  nn : NM nB cs nms
  q : WQ cs W
  l : nms.length ≤ cs.length + 4
def IB (nB : Nat) (CA : Str → Addr) (o : Sto) (s c sl nt nm : Nat) (t : D) (csI : List Cl) (n0 C0 F0 : Nat) (h : Hd) (n : Nat) (sg : Sg) (h' : Hd) : Prop :=
  ∃ cs nms W p5 p6 p7 p8, sg = [some (.at s), some t, some (.at nm), some (.at h.length), some (eC (.str n0)), p5, p6, p7, p8] ∧ BI nB CA o s c sl nt nm h.length h h' cs nms W cs.length ∧
    n = nfs (W.map (·.2)) ∧ cs.length + 9 * n ≤ C0 ∧ fc cs + n ≤ F0 ∧ n0 ≤ cs.length ∧ ((∃ f k, cs[n0]? = some (.fn f k)) ∨ (W ≠ [] ∧ cs.length = n0)) ∧ (∀ (i : Nat) (z : Cl), z ≠ .none → csI[i]? = some z → cs[i]? = some z)
theorem nf_cmp {f : Str} {a : D} {as : List D} : nf (.tup (.str f :: a :: as)) = 1 + nfs (a :: as) := by
  simp only [nf, nfs, List.length_cons]
  rw [if_pos (by omega)]
  omega
end


section
variable {nB NF RD : Nat} {CA : Str → Addr} {o : Sto} {s c sl nt nm wl : Nat} {h h' : Hd} {cs : List Cl} {nms : List (Nat × Cl)} {W : List (Option Nat × D)} {e : Nat}
/-- one more argument -/
theorem b_arg {d : D} {p1 p4 p5 p6 p8 : Option D} (i : BI nB CA o s c sl nt nm wl h h' cs nms W e) (t : T d) (hw : h.length ≤ wl) (hnm : nm < h.length) (hcc : c < h.length) (hss : s < h.length) (hsl : sl < h.length) (hnt : nt < h.length) (hd : nm ≠ c ∧ nm ≠ s ∧ nm ≠ sl ∧ nm ≠ nt) (hcl : cs.length ≤ 2500) (hWl : W.length ≤ 2500) :
    Ev (B_built_0 NF RD CA [some (.at s), p1, some (.at nm), some (.at wl), p4, p5, p6, some d, p8] h') fun f h2 => ∃ x nms' W', f = .nx [some (.at s), p1, some (.at nm), some (.at wl), p4, p5, p6, some d, some (.int cs.length)] ∧ BI nB CA o s c sl nt nm wl h h2 (cs ++ [x]) nms' W' e ∧ isFn (some x) = false ∧ nfs (W'.map (·.2)) = nfs (W.map (·.2)) + nf d ∧ W'.length ≤ W.length + 1 := by
  have hLN := LN_eq
  have os := i.r.os
  have oc := i.r.oc
  have hn2 := i.l
  unfold B_built_0
  walk_at "wq"
  refine ev_eq (d := .int (cs.length : Nat)) (h' := h') (ev_is (by
    unfold m_Store_size
    walk_at "wq"
    exact ⟨by simp [wc], rfl⟩)) ?_
  walk_at "wq"
  refine sq_nx ?_
  walk_at "wq"
  have done : ∀ (x : Cl) (nms' : List (Nat × Cl)) (W' : List (Option Nat × D)) (h2 : Hd), SR CA (wc o cs) s c sl nt h2 → h2[nm]? = some (.dct (nms'.map eSl)) → h2[wl]? = some (.lst (W'.map eW)) → Fx [c, nm] h h2 → BS nB (cs ++ [x]) → NM nB (cs ++ [x]) nms' → WQ (cs ++ [x]) W' → isFn (some x) = false → gdC x = true → nms'.length ≤ nms.length + 1 → nfs (W'.map (·.2)) = nfs (W.map (·.2)) + nf d → W'.length ≤ W.length + 1 →
      BI nB CA o s c sl nt nm wl h (h2.set c (.lst (((wc o cs).cells.map eC) ++ [eC x]))) (cs ++ [x]) nms' W' e := by
    intro x nms' W' h2 r2 n2 w2 f2 b2 nn2 q2 hf hg hl2 hnf hwl2
    refine ⟨?_, ?_, ?_, f2.trans (Fx.set (by simp) _), b2, i.p.app hf, nn2, q2, ?_⟩
    · exact r2.add (x := x) (gd_ok hg)
    · rw [get_ne (by omega)]; exact n2
    · rw [get_ne (by omega)]; exact w2
    · simp; omega
  cases hcmp : isCmp d with
  | true =>
    obtain ⟨f, a, as, rfl⟩ : ∃ f a as, d = .tup (.str f :: a :: as) := by
      cases t with
      | var n hn => simp [isCmp] at hcmp
      | int i hi => simp [isCmp] at hcmp
      | str s hs => simp [isCmp] at hcmp
      | cmp f a as _ _ _ => exact ⟨f, a, as, rfl⟩
    have iw := i.w
    walk_at "wq"
    refine lf_append iw (by simp; omega) ?_
    walk_at "wq"
    refine sq_nx ?_
    have fw : Fx [wl] h' (h'.set wl (.lst (W.map eW ++ [.tup [.int cs.length, .tup (.str f :: a :: as)]]))) := Fx.set (by simp) _
    have r2 := i.r.mv fw (by simp; omega) (by simp; omega) (by simp; omega) (by simp; omega)
    have n2 := fw.get i.n (by simp; omega)
    have w2 := get_set (p := O.lst (W.map eW ++ [.tup [.int cs.length, .tup (.str f :: a :: as)]])) iw
    have f2 := i.f.setN hw (O.lst (W.map eW ++ [.tup [.int cs.length, .tup (.str f :: a :: as)]]))
    generalize h'.set wl (.lst (W.map eW ++ [.tup [.int cs.length, .tup (.str f :: a :: as)]])) = h2 at r2 n2 w2 f2
    have os2 := r2.os
    have oc2 := r2.oc
    walk_at "wq"
    refine lf_append oc2 (by simp [wc]; omega) ?_
    walk_at "wq"
    refine ⟨.none, nms, W ++ [(some cs.length, .tup (.str f :: a :: as))], rfl, done .none nms _ h2 r2 n2 (by rw [w2, List.map_append]; rfl) f2 (i.b.app rfl trivial) (i.nn.app _) ⟨?_, ?_, ?_⟩ rfl rfl (by omega) ?_ (by simp), rfl, ?_, by simp⟩
    · intro p hp
      rcases List.mem_append.mp hp with z | z
      · obtain ⟨a1, a2, a3⟩ := i.q.t p z
        exact ⟨a1, a2, fun pl e => get_app (a3 pl e)⟩
      · rw [List.mem_singleton.mp z]
        exact ⟨t, hcmp, fun pl e => by cases e; simp⟩
    · rw [List.filterMap_append, List.nodup_append]
      refine ⟨i.q.d, by simp, ?_⟩
      intro x hx y hy exy
      simp at hy
      subst exy
      subst hy
      obtain ⟨p, hp, ep⟩ := List.mem_filterMap.mp hx
      have := (i.q.t p hp).2.2 _ ep
      simp at this
    · intro j ej
      rcases app_inv ej with z | ⟨z, _⟩
      · obtain ⟨p, hp, ep⟩ := i.q.c j z
        exact ⟨p, List.mem_append_left _ hp, ep⟩
      · exact ⟨_, List.mem_append_right _ (List.mem_singleton.mpr rfl), by rw [z]⟩
    · simp only [List.map_append, List.map_cons, List.map_nil]
      have : ∀ (l : List D) (z : D), nfs (l ++ [z]) = nfs l + nf z := by
        intro l z
        induction l with
        | nil => simp [nfs]
        | cons y l ih => simp only [List.cons_append, nfs, ih]; omega
      exact this _ _
    · simp only [List.map_append, List.map_cons, List.map_nil]
      have : ∀ (l : List D) (z : D), nfs (l ++ [z]) = nfs l + nf z := by
        intro l z
        induction l with
        | nil => simp [nfs]
        | cons y l ih => simp only [List.cons_append, nfs, ih]; omega
      exact this _ _
  | false =>
    have goOn : Ev (m_simple NF RD CA ([d, .at nm, eC (.ref (.h cs.length))] ++ []) h') fun x1 h1 => Ev (nilM ([some (.at s), p1, some (.at nm), some (.at wl), p4, p5, p6, some d, some (.int cs.length)] : Sg) h1) fun xs h2 => Ev (appendD (.at c) (x1 :: xs) h2) fun _ h1 => ∃ x nms' W', Fl.nx ([some (.at s), p1, some (.at nm), some (.at wl), p4, p5, p6, some d, some (.int cs.length)] : Sg) = .nx [some (.at s), p1, some (.at nm), some (.at wl), p4, p5, p6, some d, some (.int cs.length)] ∧ BI nB CA o s c sl nt nm wl h h1 (cs ++ [x]) nms' W' e ∧ isFn (some x) = false ∧ nfs (W'.map (·.2)) = nfs (W.map (·.2)) + nf d ∧ W'.length ≤ W.length + 1 := by
      refine (r_simple (pl := cs.length) (d := d) t hcmp i.n (by omega)).mono ?_
      rintro _ h2 ⟨x, nms', rfl, n2, f2, sm⟩
      obtain ⟨l1, l2, l3, l4, l5, l6⟩ := lay i.b i.nn sm
      have r2 := i.r.mv f2 (by simp; omega) (by simp; omega) (by simp; omega) (by simp; omega)
      have oc2 := r2.oc
      walk_at "wq"
      refine lf_append oc2 (by simp [wc]; omega) ?_
      have hnf0 : nf d = 0 := by
        cases t with
        | var n hn => simp [nf, nfs]
        | int i hi => simp [nf]
        | str s hs => simp [nf]
        | cmp f a as _ _ _ => rw [isCmp_cmp] at hcmp; cases hcmp
      exact ⟨x, nms', W, rfl, done x nms' W h2 r2 n2 (f2.get i.w (by simp; omega)) (i.f.trans (f2.mono (by simp))) l1 l2 (i.q.app _ l6) l3 l5 l4 (by omega) (by omega), l3, by omega, by omega⟩
    cases t with
    | var n hn =>
      walk_at "wq"
      exact goOn
    | int i2 hi => walk_at "wq"; exact goOn
    | str s2 hs => walk_at "wq"; exact goOn
    | cmp f a as _ _ _ => rw [isCmp_cmp] at hcmp; cases hcmp
end


theorem nfs_app : ∀ (l m : List D), nfs (l ++ m) = nfs l + nfs m
  | [], m => by simp [nfs]
  | y :: l, m => by simp only [List.cons_append, nfs, nfs_app l m]; omega
theorem nfs_len : ∀ {W : List (Option Nat × D)}, (∀ p ∈ W, T p.2 ∧ isCmp p.2 = true ∧ (∀ pl, p.1 = some pl → True)) → W.length ≤ nfs (W.map (·.2))
  | [], _ => by simp [nfs]
  | p :: W, h => by
    have h1 := h p (by simp)
    have h2 := nfs_len (W := W) fun q hq => h q (by simp [hq])
    obtain ⟨at', d⟩ := p
    have : 1 ≤ nf d := by
      obtain ⟨t, hc, _⟩ := h1
      cases t with
      | var n hn => simp [isCmp] at hc
      | int i hi => simp [isCmp] at hc
      | str s hs => simp [isCmp] at hc
      | cmp f a as _ _ _ => rw [nf_cmp]; omega
    simp only [List.map_cons, nfs, List.length_cons]
    omega
def eAt : Option Nat → D
  | none => .non
  | some p => .int p
section
variable {nB NF RD : Nat} {CA : Str → Addr} {o : Sto} {s c sl nt nm : Nat} {h : Hd}
theorem r_size {cs : List Cl} (r : SR CA (wc o cs) s c sl nt h) : m_Store_size NF RD CA [.at s] h = some (.int (cs.length : Nat), h) := by
  refine ev_is ?_
  have os := r.os
  have oc := r.oc
  unfold m_Store_size
  walk_at "wq"
  exact ⟨by simp [wc], rfl⟩
theorem b_step {csI : List Cl} {t0 : D} {n0 C0 F0 n : Nat} {sg : Sg} {h' : Hd} (hN : 10000000 ≤ NF) (hnm : nm < h.length) (hcc : c < h.length) (hss : s < h.length) (hsl : sl < h.length) (hnt : nt < h.length) (hd : nm ≠ c ∧ nm ≠ s ∧ nm ≠ sl ∧ nm ≠ nt) (hC : C0 ≤ 2400) (hn : 0 < n)
    (I : IB nB CA o s c sl nt nm t0 csI n0 C0 F0 h n sg h') : Ev (B_built_2 NF RD CA sg h') fun f h2 => ∃ n' sg', n' < n ∧ f = .nx sg' ∧ IB nB CA o s c sl nt nm t0 csI n0 C0 F0 h n' sg' h2 := by
  have hLN := LN_eq
  obtain ⟨cs, nms, W, p5, p6, p7, p8, rfl, i, hnW, hC0, hF0, hn0, hfirst, hext⟩ := I
  have hWl := nfs_len (W := W) fun p hp => ⟨(i.q.t p hp).1, (i.q.t p hp).2.1, fun _ _ => trivial⟩
  cases W with
  | nil => simp [nfs] at hnW; omega
  | cons w0 W' =>
    obtain ⟨at', one⟩ := w0
    obtain ⟨t1, hc1, hpl⟩ := i.q.t (at', one) (by simp)
    obtain ⟨f, a, as, rfl⟩ : ∃ f a as, one = .tup (.str f :: a :: as) := by
      cases t1 with
      | var n hn => simp [isCmp] at hc1
      | int i hi => simp [isCmp] at hc1
      | str s hs => simp [isCmp] at hc1
      | cmp f a as _ _ _ => exact ⟨f, a, as, rfl⟩
    obtain ⟨hf, h8, hta⟩ : atomOk f = true ∧ as.length < 8 ∧ ∀ x ∈ a :: as, T x := by
      cases t1 with
      | cmp f a as h1 h2 h3 => exact ⟨h1, h2, h3⟩
    simp only [List.map_cons, nfs, nf_cmp, List.length_cons] at hnW hWl
    have iw := i.w
    simp only [List.map_cons] at iw
    unfold B_built_2
    walk_at "wq"
    refine lf_pop0 iw ?_
    have fw : Fx [h.length] h' (h'.set h.length (.lst (W'.map eW))) := Fx.set (by simp) _
    have r2 := i.r.mv fw (by simp; omega) (by simp; omega) (by simp; omega) (by simp; omega)
    have n2 := fw.get i.n (by simp; omega)
    have w2 := get_set (p := O.lst (W'.map eW)) iw
    have f2 := i.f.setN (Nat.le_refl h.length) (O.lst (W'.map eW))
    generalize h'.set h.length (.lst (W'.map eW)) = g at r2 n2 w2 f2
    have hq' : (W'.filterMap (·.1)).Nodup := by
      have := i.q.d
      rw [List.filterMap_cons] at this
      cases at' with
      | none => exact this
      | some pl => exact (List.nodup_cons.mp this).2
    -- the functor and its arguments
    have rest : ∀ (cs0 : List Cl) (g : Hd), SR CA (wc o cs0) s c sl nt g → g[nm]? = some (.dct (nms.map eSl)) → g[h.length]? = some (.lst (W'.map eW)) → Fx [c, nm] h g → cs0.length = cs.length → fc cs0 = fc cs → BS nB (cs0 ++ [.fn f (as.length + 1)]) → Cp (cs0 ++ [.fn f (as.length + 1)]) cs.length → NM nB (cs0 ++ [.fn f (as.length + 1)]) nms → WQ (cs0 ++ [.fn f (as.length + 1)]) W' →
        (∀ (i : Nat) (z : Cl), z ≠ .none → cs[i]? = some z → cs0[i]? = some z) →
        Ev ((seqM (exprM (bmM "list" appendD (fldM [CA "Store"] n_cells (varM 0)) (consM (tupM (consM (cM (.str "fun")) (consM (opM subsD (varM 6) (cM (.int 0))) (consM (opM subD (cbM lenD (consM (varM 6) nilM)) (cM (.int 1))) nilM)))) nilM))) (forSM (seqI (slM (varM 6) (partM (cM (.int 1))) noM)) (nameG 7) (B_built_0 NF RD CA) NF)) ([some (.at s), some t0, some (.at nm), some (.at h.length), some (eC (.str n0)), some (eAt at'), some (.tup (.str f :: a :: as)), p7, p8] : Sg) g) fun f h2 => ∃ n' sg', n' < n ∧ f = .nx sg' ∧ IB nB CA o s c sl nt nm t0 csI n0 C0 F0 h n' sg' h2 := by
      intro cs0 g r2 n2 w2 f2 hl0 hfc b0 p0 nn0 q0 hk0
      have os2 := r2.os
      have oc2 := r2.oc
      walk_at "wq"
      refine lf_append oc2 (by simp [wc]; omega) ?_
      have ecell : (D.tup [.str "fun", .str f, .int ((((D.str f :: a :: as).length : Nat) : Int) - 1)]) = eC (.fn f (as.length + 1)) := by
        simp only [eC, List.length_cons]
        congr 4
        congr 1
        omega
      have r3 : SR CA (wc o (cs0 ++ [.fn f (as.length + 1)])) s c sl nt (g.set c (.lst ((wc o cs0).cells.map eC ++ [D.tup [.str "fun", .str f, .int ((((D.str f :: a :: as).length : Nat) : Int) - 1)]]))) := by
        rw [ecell]
        exact r2.add (x := .fn f (as.length + 1)) hf
      have n3 : (g.set c (.lst ((wc o cs0).cells.map eC ++ [D.tup [.str "fun", .str f, .int ((((D.str f :: a :: as).length : Nat) : Int) - 1)]])))[nm]? = some (.dct (nms.map eSl)) := by rw [get_ne (by omega)]; exact n2
      have w3 : (g.set c (.lst ((wc o cs0).cells.map eC ++ [D.tup [.str "fun", .str f, .int ((((D.str f :: a :: as).length : Nat) : Int) - 1)]])))[h.length]? = some (.lst (W'.map eW)) := by rw [get_ne (by omega)]; exact w2
      have f3 : Fx [c, nm] h (g.set c (.lst ((wc o cs0).cells.map eC ++ [D.tup [.str "fun", .str f, .int ((((D.str f :: a :: as).length : Nat) : Int) - 1)]]))) := f2.trans (Fx.set (by simp) _)
      generalize g.set c (.lst ((wc o cs0).cells.map eC ++ [D.tup [.str "fun", .str f, .int ((((D.str f :: a :: as).length : Nat) : Int) - 1)]])) = g3 at r3 n3 w3 f3
      refine sq_nx ?_
      walk_at "wq"
      rw [cut1]
      walk_at "wq"
      have i0 := i.l
      refine ev_for (xs := a :: as) (fun as' sg h3 => ∃ cs2 nms2 W2 p7 p8, sg = [some (.at s), some t0, some (.at nm), some (.at h.length), some (eC (.str n0)), some (eAt at'), some (.tup (.str f :: a :: as)), p7, p8] ∧ BI nB CA o s c sl nt nm h.length h h3 cs2 nms2 W2 cs.length ∧ cs2.length = cs.length + 1 + as'.length ∧ cs2[cs.length]? = some (.fn f (as.length + 1)) ∧ fc cs2 = fc cs + 1 ∧ nfs (W2.map (·.2)) = nfs (W'.map (·.2)) + nfs as' ∧ W2.length ≤ W'.length + as'.length ∧ (∀ (i : Nat) (z : Cl), z ≠ .none → cs[i]? = some z → cs2[i]? = some z))
        ⟨cs0 ++ [.fn f (as.length + 1)], nms, W', p7, p8, rfl, ⟨r3, n3, w3, f3, b0, p0, nn0, q0, by simp; omega⟩, by simp; omega, by rw [← hl0]; simp, by rw [fc_app, hfc]; rfl, by simp [nfs], by simp, fun i z hz e => get_app (hk0 i z hz e)⟩ (by simp; omega) (fun _ _ _ _ => yl_fix) ?_ ?_
      · rintro as' z bs sg h3 ez ⟨cs2, nms2, W2, p7, p8, rfl, i2, l2, e2, c2, nf2, wl2, k2⟩
        have hz : z ∈ a :: as := by rw [ez]; simp
        have hlz : as'.length < as.length + 1 := by
          have := congrArg List.length ez
          simp at this
          omega
        walk_at "wq"
        refine (b_arg i2 (hta z hz) (Nat.le_refl _) hnm hcc hss hsl hnt hd (by omega) (by omega)).mono ?_
        rintro _ h4 ⟨x, nms3, W3, rfl, i3, hx, nf3, wl3⟩
        walk_at "wq"
        refine ⟨cs2 ++ [x], nms3, W3, _, _, rfl, i3, by simp; omega, get_app e2, by rw [fc_app, hx, c2]; rfl, ?_, by simp; omega, fun i z hz e => get_app (k2 i z hz e)⟩
        · rw [nf3, nf2, nfs_app]; simp only [nfs]; omega
      · rintro sg h3 ⟨cs2, nms2, W2, p7, p8, rfl, i2, l2, e2, c2, nf2, wl2, k2⟩
        simp only [List.length_cons] at l2
        simp only [nfs] at nf2
        refine ⟨nfs (W2.map (·.2)), _, by omega, rfl, cs2, nms2, W2, _, _, _, _, rfl, ⟨i2.r, i2.n, i2.w, i2.f, i2.b, ?_, i2.nn, i2.q, i2.l⟩, rfl, by omega, by omega, by omega, ?_, fun i z hz e => k2 i z hz (hext i z hz e)⟩
        · intro i' f' k' e' hi'
          by_cases q : i' = cs.length
          · subst q
            rw [e2] at e'
            cases e'
            omega
          · exact i2.p i' f' k' e' q
        · left
          rcases hfirst with q | ⟨_, q⟩
          · obtain ⟨f', k', e⟩ := q
            exact ⟨f', k', k2 _ _ (by intro z; cases z) e⟩
          · rw [← q]; exact ⟨_, _, e2⟩
    have bF := i.b.appF i.p (f := f) (k := as.length + 1) (by omega) (by omega) hf
    have pF := i.p.appF (f := f) (k := as.length + 1)
    have nF := i.nn.app (.fn f (as.length + 1))
    cases at' with
    | none =>
      unfold eW
      walk_at "wq"
      refine sq_nx ?_
      walk_at "wq"
      refine sq_nx ?_
      exact rest cs g r2 n2 w2 f2 rfl rfl bF pF nF ⟨fun p hp => ⟨(i.q.t p (by simp [hp])).1, (i.q.t p (by simp [hp])).2.1, fun pl e => get_app ((i.q.t p (by simp [hp])).2.2 pl e)⟩, hq', fun j ej => by
        rcases app_inv ej with z | ⟨_, z⟩
        · obtain ⟨p, hp, ep⟩ := i.q.c j z
          rcases List.mem_cons.mp hp with rfl | hp
          · cases ep
          · exact ⟨p, hp, ep⟩
        · cases z⟩ fun _ _ _ e => e
    | some pl =>
      have hpl' := hpl pl rfl
      have hlt := (List.getElem?_eq_some_iff.mp hpl').1
      unfold eW
      walk_at "wq"
      refine sq_nx ?_
      have os2 := r2.os
      walk_at "wq"
      refine ev_setL ?_
      walk_at "wq"
      refine ev_eq (r_size r2) ?_
      walk_at "wq"
      have hlc : ((wc o cs).cells.map eC).length = cs.length := by simp [wc]
      refine ⟨c, _, (pl : Int), pl, rfl, r2.oc, rfl, ?_, ?_⟩
      · rw [hlc]
        unfold ixN
        rw [if_pos (by omega), if_pos (by omega)]
        simp
      obtain ⟨m1, m2, m3, m4, m5⟩ := r2.nes
      have m6 := r2.dn
      have r3 : SR CA (wc o (cs.set pl (.str cs.length))) s c sl nt (g.set c (.lst (((wc o cs).cells.map eC).set pl (.tup [.str "str", .tup [.str "h", .int (cs.length : Nat)]])))) := by
        refine ⟨?_, ?_, ?_, ?_, m6, ?_, r2.oks⟩
        · rw [get_ne (by omega)]; exact r2.os
        · rw [get_set r2.oc]; simp [wc, List.map_set, eC, eA]
        · rw [get_ne (by omega)]; exact r2.ol
        · rw [get_ne (by omega)]; exact r2.on
        · intro y hy
          rcases List.mem_or_eq_of_mem_set hy with q | q
          · exact r2.okc y q
          · rw [q]; rfl
      have hset : cs.set pl (Cl.str cs.length) ++ [Cl.fn f (as.length + 1)] = (cs ++ [Cl.fn f (as.length + 1)]).set pl (Cl.str cs.length) := by rw [List.set_append_left _ _ hlt]
      have hfn : (cs ++ [Cl.fn f (as.length + 1)])[cs.length]? = some (.fn f (as.length + 1)) := by simp
      have keep : ∀ {i : Nat} {z : Cl}, (cs ++ [Cl.fn f (as.length + 1)])[i]? = some z → z ≠ Cl.none → ((cs ++ [Cl.fn f (as.length + 1)]).set pl (.str cs.length))[i]? = some z := by
        intro i z e hz
        rw [List.getElem?_set_ne]
        · exact e
        · rintro rfl
          rw [get_app hpl'] at e
          cases e
          exact hz rfl
      refine sq_nx ?_
      refine rest (cs.set pl (.str cs.length)) _ r3 (by rw [get_ne (by omega)]; exact n2) (by rw [get_ne (by omega)]; exact w2) (f2.trans (Fx.set (by simp) _)) (by simp) (fc_set (by rw [hpl']; rfl) rfl) (by rw [hset]; exact bF.set (get_app hpl') hfn hlt) (by rw [hset]; exact pF.set) (fun p hp => ?_) ⟨fun p hp => ?_, hq', fun j ej => ?_⟩ fun i' z' hz' e' => ?_
      · obtain ⟨v, e1, e2⟩ := nF p hp
        exact ⟨v, e1, by rw [hset]; exact e2.set (get_app hpl')⟩
      · obtain ⟨a1, a2, a3⟩ := i.q.t p (by simp [hp])
        refine ⟨a1, a2, fun pl2 e2 => ?_⟩
        rw [hset, List.getElem?_set_ne]
        · exact get_app (a3 pl2 e2)
        · rintro rfl
          have hd2 := i.q.d
          rw [List.filterMap_cons] at hd2
          exact (List.nodup_cons.mp hd2).1 (List.mem_filterMap.mpr ⟨p, hp, e2⟩)
      · rw [hset] at ej
        by_cases qj : j = pl
        · subst qj
          rw [List.getElem?_set_self (by simp; omega)] at ej
          cases ej
        · rw [List.getElem?_set_ne (fun z => qj z.symm)] at ej
          rcases app_inv ej with z | ⟨_, z⟩
          · obtain ⟨p, hp, ep⟩ := i.q.c j z
            rcases List.mem_cons.mp hp with rfl | hp
            · cases ep
              exact absurd rfl qj
            · exact ⟨p, hp, ep⟩
          · cases z
      · rw [List.getElem?_set_ne]
        · exact e'
        · rintro rfl
          rw [hpl'] at e'
          cases e'
          exact hz' rfl
end


section
variable {nB NF RD : Nat} {CA : Str → Addr} {o : Sto} {s c sl nt nm : Nat} {h : Hd}
/-- what stands between two builds -/
structure BG (nB : Nat) (CA : Str → Addr) (o : Sto) (s c sl nt nm : Nat) (h : Hd) (cs : List Cl) (nms : List (Nat × Cl)) : Prop where
  r : SR CA (wc o cs) s c sl nt h
  n : h[nm]? = some (.dct (nms.map eSl))
  b : BS nB cs
  p : Cp cs cs.length
  nn : NM nB cs nms
  no : ∀ i : Nat, cs[i]? ≠ some .none
  l : nms.length ≤ cs.length + 4
/-- a cell that may be handed in -/
def XC (cs : List Cl) (x : Cl) : Prop := gdC x = true ∧ isFn (some x) = false ∧ (∀ v, x = .ref (.h v) → ∃ z, cs[v]? = some z ∧ z ≠ .none ∧ isFn (some z) = false) ∧ (∀ v, x ≠ .ref (.s v)) ∧ (∀ n, x = .str n → ∃ f k, cs[n]? = some (.fn f k)) ∧ x ≠ .none
def Ext (cs cs' : List Cl) : Prop := ∀ (i : Nat) (z : Cl), z ≠ .none → cs[i]? = some z → cs'[i]? = some z
theorem XC.ext {cs cs' : List Cl} {x : Cl} (h : XC cs x) (e : Ext cs cs') : XC cs' x := ⟨h.1, h.2.1, (fun v ev => by
  obtain ⟨z, a, b, c⟩ := h.2.2.1 v ev
  exact ⟨z, e _ _ b a, b, c⟩), h.2.2.2.1, (fun n en => by
  obtain ⟨f, k, q⟩ := h.2.2.2.2.1 n en
  exact ⟨f, k, e _ _ (by intro z; cases z) q⟩), h.2.2.2.2.2⟩
theorem GV.xc {nB : Nat} {cs : List Cl} {v : Nat} (h : GV nB cs v) : XC cs (.ref (.h v)) := ⟨rfl, rfl, (fun u e => by
  cases e
  obtain ⟨z, a, b, c, _⟩ := h
  exact ⟨z, a, b, c⟩), (fun u e => by cases e), (fun n e => by cases e), by intro z; cases z⟩
theorem r_simpleO {d fr : D} {nm : Nat} {x : Cl} {h : Hd} (hx : (∃ i, d = .int i ∧ x = .int i) ∨ (∃ z, d = .str z ∧ x = .con z) ∨ ∃ (n : Nat) (p : Nat × Cl) (nms : List (Nat × Cl)), d = .tup [.int n] ∧ h[nm]? = some (.dct (nms.map eSl)) ∧ nms.find? (fun p => decide (p.1 = n)) = some p ∧ x = p.2) :
    m_simple NF RD CA [d, .at nm, fr] h = some (eC x, h) := by
  refine ev_is ?_
  unfold m_simple
  rcases hx with ⟨i, rfl, rfl⟩ | ⟨z, rfl, rfl⟩ | ⟨n, p, nms, rfl, e, q, rfl⟩
  · walk_at "wq"
    refine ev_eq (r_constI i h) ?_
    walk_at "wq"
    exact ⟨rfl, rfl⟩
  · walk_at "wq"
    refine ev_eq (r_constS z h) ?_
    walk_at "wq"
    exact ⟨rfl, rfl⟩
  · walk_at "wq"
    refine sq_nx ?_
    walk_at "wq"
    refine kd_dct e ?_
    walk_at "wq"
    refine lf_setdT (k := .inl (n : Int)) (d := eC p.2) e rfl ?_ ?_
    · rw [val_sl, q]; rfl
    walk_at "wq"
    exact ⟨rfl, rfl⟩
theorem r_built {cs : List Cl} {nms : List (Nat × Cl)} {d : D} (hN : 10000000 ≤ NF) (g : BG nB CA o s c sl nt nm h cs nms) (hd : nm ≠ c ∧ nm ≠ s ∧ nm ≠ sl ∧ nm ≠ nt) (t : T d) (hC : cs.length + 9 * nf d + 1 ≤ 2400) :
    Ev (m_built NF RD CA [.at s, d, .at nm] h) fun r h' => ∃ x cs' nms', r = eC x ∧ BG nB CA o s c sl nt nm h' cs' nms' ∧ Fx [c, nm] h h' ∧ cs'.length ≤ cs.length + 9 * nf d + 1 ∧ fc cs' ≤ fc cs + nf d ∧ XC cs' x ∧ Ext cs cs' := by
  have hLN := LN_eq
  have hnm := lt_of g.n
  have hss := lt_of g.r.os
  have hcc := lt_of g.r.oc
  have hsl := lt_of g.r.ol
  have hnt := lt_of g.r.on
  have os := g.r.os
  have oc := g.r.oc
  unfold m_built
  cases t with
  | cmp f a as hf h8 hta =>
    have d1 : decide (1 < (((D.str f :: a :: as).length : Nat) : Int)) = true := decide_eq_true (by simp only [List.length_cons]; omega)
    walk_at "wq"
    refine sq_nx ?_
    walk_at "wq"
    refine ev_eq (r_size (g.r.pre (Pre.app _ _))) ?_
    walk_at "wq"
    refine sq_nx ?_
    walk_at "wq"
    have nfd : nf (.tup (.str f :: a :: as)) = 1 + nfs (a :: as) := nf_cmp
    refine ev_while (IB nB CA o s c sl nt nm (.tup (.str f :: a :: as)) cs cs.length (cs.length + 9 * nf (.tup (.str f :: a :: as))) (fc cs + nf (.tup (.str f :: a :: as))) h) ?_ NF (nf (.tup (.str f :: a :: as))) _ _
      ⟨cs, nms, [(none, .tup (.str f :: a :: as))], none, none, none, none, rfl, ⟨g.r.pre (Pre.app _ _), (Pre.app _ _).get g.n, by rw [get_new]; rfl, (Fx.refl _ _).app _, g.b, g.p, g.nn, ⟨fun p hp => by rw [List.mem_singleton.mp hp]; exact ⟨.cmp f a as hf h8 hta, isCmp_cmp _ _ _, fun pl e => by cases e⟩, by simp, fun i e => absurd e (g.no i)⟩, g.l⟩, by simp [nfs], by omega, by omega, Nat.le_refl _, .inr ⟨by simp, rfl⟩, fun _ _ _ e => e⟩ (by omega)
    rintro n sg h1 I
    obtain ⟨cs2, nms2, W, p5, p6, p7, p8, rfl, i, hnW, hC0, hF0, hn0, hfirst, hext⟩ := id I
    unfold C_built_1
    walk_at "wq"
    refine tr_lst i.w ?_
    cases W with
    | nil =>
      refine br_f rfl ?_
      walk_at "wp"
      refine ⟨.str cs.length, cs2, nms2, rfl, ⟨i.r, i.n, i.b, i.p, i.nn, (fun j e => by obtain ⟨p, hp, _⟩ := i.q.c j e; cases hp), i.l⟩, i.f, by omega, by omega, ⟨rfl, rfl, fun v e => (by cases e), fun v e => (by cases e), (fun n e => ?_), by intro z; cases z⟩, hext⟩
      cases e
      rcases hfirst with q | ⟨q, _⟩
      · exact q
      · exact absurd rfl q
    | cons w0 W' =>
      refine br_t (by simp) ?_
      have hpos : 0 < n := by
        have := nfs_len (W := w0 :: W') fun p hp => ⟨(i.q.t p hp).1, (i.q.t p hp).2.1, fun _ _ => trivial⟩
        rw [hnW]
        simp only [List.length_cons] at this
        omega
      refine (b_step hN hnm hcc hss hsl hnt hd (by omega) hpos I).mono ?_
      rintro _ h2 ⟨n', sg', hlt, rfl, I'⟩
      exact ⟨n', hlt, I'⟩
  | int i hi =>
    walk_at "wp"
    refine ev_eq (r_simpleO (x := .int i) (.inl ⟨i, rfl, rfl⟩)) ?_
    walk_at "wp"
    exact ⟨.int i, cs, nms, rfl, g, Fx.refl _ _, by omega, by omega, ⟨by simpa [gdC] using hi, rfl, fun v e => (by cases e), fun v e => (by cases e), (fun n e => by cases e), by intro z; cases z⟩, fun _ _ _ e => e⟩
  | str z hz =>
    walk_at "wp"
    refine ev_eq (r_simpleO (x := .con z) (.inr (.inl ⟨z, rfl, rfl⟩))) ?_
    walk_at "wp"
    exact ⟨.con z, cs, nms, rfl, g, Fx.refl _ _, by omega, by omega, ⟨hz, rfl, fun v e => (by cases e), fun v e => (by cases e), (fun n e => by cases e), by intro z; cases z⟩, fun _ _ _ e => e⟩
  | var n hn =>
    obtain ⟨n', rfl⟩ : ∃ n' : Nat, n = n' := ⟨n.toNat, by omega⟩
    have d1 : decide (1 < ((([D.int (n' : Nat)] : List D).length : Nat) : Int)) = false := decide_eq_false (by simp)
    walk_at "wq"
    refine sq_nx ?_
    walk_at "wq"
    refine lf_inK (k := .inl (n' : Int)) g.n rfl ?_
    rw [val_sl]
    walk_at "wq"
    cases q : nms.find? fun p => decide (p.1 = n') with
    | some p =>
      refine br_f rfl ?_
      walk_at "wq"
      refine sq_nx ?_
      walk_at "wq"
      refine ev_eq (r_simpleO (x := p.2) (.inr (.inr ⟨n', p, nms, rfl, g.n, q, rfl⟩))) ?_
      walk_at "wq"
      obtain ⟨v, e1, e2⟩ := g.nn p (List.mem_of_find?_eq_some q)
      exact ⟨p.2, cs, nms, rfl, g, Fx.refl _ _, by omega, by omega, (by rw [e1]; exact e2.xc), fun _ _ _ e => e⟩
    | none =>
      refine br_t rfl ?_
      walk_at "wq"
      refine ev_setK ?_
      walk_at "wq"
      refine (r_new (o := wc o cs) g.r (by show cs.length < LN; omega)).mono ?_
      rintro _ h1 ⟨rfl, r1, f1⟩
      walk_at "wq"
      have n1 := f1.get g.n (by simp; omega)
      have hll := g.l
      refine ⟨nm, _, .inl (n' : Int), rfl, n1, rfl, by simp; omega, ?_⟩
      have hput := put_sl nms n' (.ref (.h cs.length))
      have hps : putS nms n' (.ref (.h cs.length)) = nms ++ [(n', .ref (.h cs.length))] := by
        unfold putS
        rw [if_neg]
        rw [List.any_eq_true]
        rintro ⟨z, hz, ez⟩
        exact List.find?_eq_none.mp q z hz ez
      rw [hps] at hput
      have hput' : putD (nms.map eSl) (.inl (n' : Int)) (.tup [.str "ref", eA (.h (wc o cs).cells.length)]) = (nms ++ [(n', Cl.ref (.h cs.length))]).map eSl := hput
      rw [hput']
      refine sq_nx ?_
      have n2 := get_set (p := O.dct ((nms ++ [(n', Cl.ref (.h cs.length))]).map eSl)) n1
      have r2 : SR CA (wc o (cs ++ [.ref (.h cs.length)])) s c sl nt (h1.set nm (.dct ((nms ++ [(n', Cl.ref (.h cs.length))]).map eSl))) := SR.mv (o := wc o (cs ++ [.ref (.h cs.length)])) r1 (Fx.set (S := [nm]) (by simp) _) (by simp; omega) (by simp; omega) (by simp; omega) (by simp; omega)
      have f2 : Fx [c, nm] h (h1.set nm (.dct ((nms ++ [(n', Cl.ref (.h cs.length))]).map eSl))) := (f1.mono (by simp)).trans (Fx.set (by simp) _)
      generalize h1.set nm (.dct ((nms ++ [(n', Cl.ref (.h cs.length))]).map eSl)) = h2 at n2 r2 f2
      walk_at "wq"
      have qf : (nms ++ [(n', Cl.ref (.h cs.length))]).find? (fun p => decide (p.1 = n')) = some (n', .ref (.h cs.length)) := by
        rw [List.find?_append, q]
        simp
      refine ev_eq (r_simpleO (x := .ref (.h cs.length)) (.inr (.inr ⟨n', _, _, rfl, n2, qf, rfl⟩))) ?_
      walk_at "wq"
      obtain ⟨l1, l2, l3, l4, l5, l6⟩ := lay g.b g.nn (.new (i := n'))
      have hself : (cs ++ [Cl.ref (.h cs.length)])[cs.length]? = some (.ref (.h cs.length)) := by simp
      exact ⟨.ref (.h cs.length), cs ++ [.ref (.h cs.length)], _, rfl, ⟨r2, n2, l1, by simpa using (show Cp (cs ++ [Cl.ref (.h cs.length)]) (cs ++ [Cl.ref (.h cs.length)]).length from fun i f k e hi => (by
        rcases app_inv e with z | ⟨_, z⟩
        · have := g.p i f k z (by have := (List.getElem?_eq_some_iff.mp z).1; omega)
          simp
          omega
        · cases z)), l2, (fun i e => by
        rcases app_inv e with z | ⟨_, z⟩
        · exact g.no i z
        · cases z), by simp <;> omega⟩, f2, by simp <;> omega, by rw [fc_app]; simp [isFn], GV.xc (nB := nB) .self, fun i z hz e => get_app e⟩
theorem r_build {cs : List Cl} {nms : List (Nat × Cl)} {d : D} (hN : 10000000 ≤ NF) (g : BG nB CA o s c sl nt nm h cs nms) (hd : nm ≠ c ∧ nm ≠ s ∧ nm ≠ sl ∧ nm ≠ nt) (t : T d) (hP : (parts d).length ≤ 100) (hC : cs.length + 9 * nf d + 1 ≤ 2400) :
    Ev (m_Store_build NF RD CA [.at s, d, .at nm] h) fun r h' => ∃ x cs' nms', r = eC x ∧ BG nB CA o s c sl nt nm h' cs' nms' ∧ Fx [c, nm] h h' ∧ cs'.length ≤ cs.length + 9 * nf d + 1 ∧ fc cs' ≤ fc cs + nf d ∧ XC cs' x ∧ Ext cs cs' := by
  have hLN := LN_eq
  unfold m_Store_build
  walk_at "wq"
  refine ev_of (r_is_term NF RD CA t (by omega) (by omega) (by omega)) fun h1 p1 => ?_
  have n1 := p1.get g.n
  walk_at "wp"
  refine lf_isi (k := "dict") (b := true) (by unfold kdD; simp only [n1]) (by decide +kernel) ?_
  walk_at "wp"
  refine (r_built hN ⟨g.r.pre p1, n1, g.b, g.p, g.nn, g.no, g.l⟩ hd t hC).mono ?_
  rintro _ h2 ⟨x, cs', nms', rfl, g2, f2, a1, a2, a3, a4⟩
  walk_at "wp"
  exact ⟨x, cs', nms', rfl, g2, (Fx.pre p1).trans f2, a1, a2, a3, a4⟩
end


theorem gd_xc {o : Sto} (g : Gd o) {x : Cl} (h2 : XC o.cells x) : VC o x ∧ Nf o x := by
  refine ⟨?_, h2.2.1, ?_, h2.2.2.2.2.2⟩
  · cases x with
    | ref a =>
      cases a with
      | h v =>
        obtain ⟨z, e, _⟩ := h2.2.2.1 v rfl
        show (o.cells[v]?).isSome = true
        rw [e]; rfl
      | s v => exact absurd rfl (h2.2.2.2.1 v)
    | str n =>
      obtain ⟨f, k, e⟩ := h2.2.2.2.2.1 n rfl
      exact ⟨f, k, e, (g.cp n f k e).2.1, (g.cp n f k e).2.2, (g.cp n f k e).1⟩
    | _ => trivial
  · rintro a rfl
    cases a with
    | h v =>
      obtain ⟨z, e, _, q⟩ := h2.2.2.1 v rfl
      show isFn (o.cells[v]?) = false
      rw [e]; exact q
    | s v => exact absurd rfl (h2.2.2.2.1 v)
section
variable {NF RD : Nat} {CA : Str → Addr} {o : Sto} {s c sl nt : Nat} {h : Hd}
theorem r_join {n : Nat} (r : SR CA o s c sl nt h) (hN : 10000000 ≤ NF) {x y : Cl} (hx : gdC x = true) (hy : gdC y = true) {res : Bool} {o' : Sto} (js : JS o [(x, y)] [] res o' n) (hn : n < 1000000) :
    Ev (m_Store_join NF RD CA [.at s, eC x, eC y] h) fun d h' => d = .bl res ∧ SR CA o' s c sl nt h' ∧ Fx [c, sl, nt] h h' := by
  unfold m_Store_join
  walk_at "wp"
  refine ev_of (r_check (by omega) hx) fun h1 p1 => ?_
  walk_at "wp"
  refine ev_of (r_check (by omega) hy) fun h2 p2 => ?_
  walk_at "wp"
  refine (r_joined (r.pre (p1.trans p2)) hN (gd_ok hx) (gd_ok hy) js hn).mono ?_
  rintro _ h3 ⟨rfl, r3, f3⟩
  walk_at "wp"
  exact ⟨rfl, r3, (Fx.pre (p1.trans p2)).trans f3⟩
theorem r_heap (r : SR CA o s c sl nt h) : m_Store_heap NF RD CA [.at s] h = some (.at h.length, h ++ [.lst (o.cells.map eC)]) := by
  refine ev_is ?_
  have os := r.os
  have oc := r.oc
  unfold m_Store_heap
  walk_at "wp"
  exact ⟨rfl, rfl⟩
theorem r_at (r : SR CA o s c sl nt h) {a : Ad} {x : Cl} (e : lk o a = some x) : m_Store_at NF RD CA [.at s, eA a] h = some (eC x, h) := by
  refine ev_is ?_
  have os := r.os
  unfold m_Store_at
  walk_at "wp"
  refine ev_eq (r_check_there r (thr_of (by rw [e]; rfl))) ?_
  walk_at "wp"
  refine ev_eq (r_look r e) ?_
  walk_at "wp"
  exact ⟨rfl, rfl⟩
theorem r_free (r : SR CA o s c sl nt h) (k : Nat) (hl : o.slots.length < LN) : Ev (m_Store_free NF RD CA [.at s, .int k] h) fun d h' => d = .non ∧ SR CA { o with slots := putS o.slots k (.ref (.s k)) } s c sl nt h' ∧ Fx [sl] h h' := by
  have os := r.os
  obtain ⟨n1, n2, n3, n4, n5⟩ := r.nes
  unfold m_Store_free
  walk_at "wp"
  refine ev_eq (r_is_place k h) ?_
  walk_at "wp"
  refine ev_setK ?_
  walk_at "wp"
  refine ⟨sl, _, .inl (k : Int), rfl, r.ol, rfl, by simpa using hl, ?_⟩
  walk_at "wp"
  have ecell : (D.tup [.str "ref", .tup [.str "s", .int k]]) = eC (.ref (.s k)) := rfl
  refine ⟨rfl, ⟨?_, ?_, ?_, ?_, r.dn, r.okc, ?_⟩, Fx.set (by simp) _⟩
  · rw [get_ne (by omega)]; exact os
  · rw [get_ne (by omega)]; exact r.oc
  · rw [get_set r.ol, ecell, put_sl]
  · rw [get_ne (by omega)]; exact r.on
  · intro p hp
    unfold putS at hp
    simp only at hp
    split at hp
    · obtain ⟨p', hp', rfl⟩ := List.mem_map.mp hp
      split
      · rfl
      · exact r.oks p' hp'
    · rcases List.mem_append.mp hp with q | q
      · exact r.oks p q
      · rw [List.mem_singleton.mp q]; rfl
theorem r_marks (r : SR CA o s c sl nt h) (a b : Nat) : Ev (m_Store_marks NF RD CA [.at s, .int a, .int b] h) fun d h' => d = .non ∧ SR CA { o with lo1 := a, lo2 := b } s c sl nt h' ∧ Fx [s] h h' := by
  have os := r.os
  obtain ⟨n1, n2, n3, n4, n5⟩ := r.nes
  unfold m_Store_marks
  walk_at "wp"
  refine ev_eq (r_is_place a h) ?_
  walk_at "wp"
  refine ev_eq (r_is_place b h) ?_
  walk_at "wp"
  refine ⟨rfl, ⟨?_, ?_, ?_, ?_, r.dn, r.okc, r.oks⟩, Fx.set (by simp) _⟩
  · rw [get_set os]; rfl
  · rw [get_ne (by omega)]; exact r.oc
  · rw [get_ne (by omega)]; exact r.ol
  · rw [get_ne (by omega)]; exact r.on
end


/-! ### what is below the marks -/
def low (n m : Nat) : Ad → Prop
  | .h i => i < n
  | .s i => i < m
structure Rel (K : Sto) (m : Nat) (o : Sto) (new : List Ad) : Prop where
  l1 : o.lo1 = K.cells.length
  l2 : o.lo2 = m
  n : o.noted = K.noted ++ new
  w : ∀ a ∈ new, low K.cells.length m a ∧ lk K a = some (.ref a)
  k : ∀ a, low K.cells.length m a → a ∉ new → lk o a = lk K a
  c : K.cells.length ≤ o.cells.length
  s : ∀ i, i < m → (lk o (.s i)).isSome = true
theorem nte_low {o : Sto} {n m : Nat} (h1 : o.lo1 = n) (h2 : o.lo2 = m) (a : Ad) : nte o a = true ↔ low n m a := by
  cases a with
  | h i => simp [nte, low, h1]
  | s i => simp [nte, low, h2]
theorem Rel.asg {K o : Sto} {m : Nat} {new : List Ad} (r : Rel K m o new) {a : Ad} {v : Cl} (e : lk o a = some (.ref a)) : ∃ new', Rel K m (asg o a v) new' := by
  have hs : (lk o a).isSome = true := by rw [e]; rfl
  have hl := asg_len (v := v) hs
  have hk := fun b => lk_asg (b := b) (v := v) hs
  have hss : ∀ i, i < m → (lk (K50.asg o a v) (.s i)).isSome = true := by
    intro i hi
    rw [hk]
    split
    · rfl
    · exact r.s i hi
  by_cases q : nte o a = true
  · have hlow := (nte_low r.l1 r.l2 a).mp q
    have hKa : lk K a = some (.ref a) := by
      by_cases z : a ∈ new
      · exact (r.w a z).2
      · rw [← r.k a hlow z]; exact e
    refine ⟨new ++ [a], hl.2.2.2.1.trans r.l1, hl.2.2.2.2.trans r.l2, ?_, ?_, ?_, by rw [hl.1]; exact r.c, hss⟩
    · unfold K50.asg
      rw [if_pos q]
      cases a <;> simp [wr, r.n]
    · intro b hb
      rcases List.mem_append.mp hb with z | z
      · exact r.w b z
      · rw [List.mem_singleton.mp z]; exact ⟨hlow, hKa⟩
    · intro b hb hn
      rw [hk, if_neg (fun z => hn (by rw [z]; simp))]
      exact r.k b hb fun z => hn (List.mem_append_left _ z)
  · refine ⟨new, hl.2.2.2.1.trans r.l1, hl.2.2.2.2.trans r.l2, ?_, r.w, ?_, by rw [hl.1]; exact r.c, hss⟩
    · unfold K50.asg
      rw [if_neg q]
      cases a <;> exact r.n
    · intro b hb hn
      rw [hk, if_neg]
      · exact r.k b hb hn
      · rintro rfl
        exact q ((nte_low r.l1 r.l2 b).mpr hb)
theorem Rel.bnd {K o o1 : Sto} {m i j : Nat} {new : List Ad} {x y xe ye : Cl} (r : Rel K m o new) (fx : Fol o i x xe) (fy : Fol o j y ye) (b : Bnd o xe ye true o1) : ∃ new', Rel K m o1 new' := by
  have self : ∀ {i z0 c}, Fol o i z0 (.ref c) → lk o c = some (.ref c) := by
    intro i z0 c f
    rcases f.endd with q | ⟨b, e, h⟩
    · exact absurd rfl (q c)
    · cases e; exact h
  cases b with
  | @rr a b =>
    refine r.asg ?_
    unfold mxA
    split
    · exact self fy
    · exact self fx
  | lf _ _ => exact r.asg (self fx)
  | rt _ _ => exact r.asg (self fy)
theorem JS.rel {K : Sto} {m : Nat} {o o' : Sto} {row dn : List Pr} {res : Bool} {n : Nat} (js : JS o row dn res o' n) : ∀ new, Rel K m o new → ∃ new', Rel K m o' new' := by
  induction js with
  | nil => exact fun new r => ⟨new, r⟩
  | skip _ _ _ ih => exact ih
  | bind hd _ _ _ b _ ih =>
    intro new r
    obtain ⟨n1, r1⟩ := r.bnd hd.fx hd.fy b
    exact ih n1 r1
  | bindF hd _ _ _ b =>
    intro new r
    cases b <;> exact ⟨new, r⟩
  | fail1 => exact fun new r => ⟨new, r⟩
  | fail2 => exact fun new r => ⟨new, r⟩
  | open' _ _ _ _ _ _ _ ih => exact ih
theorem Rel.build {K o : Sto} {m : Nat} {new : List Ad} {cs : List Cl} (r : Rel K m o new) (hx : ∀ (i : Nat) (z : Cl), o.cells[i]? = some z → cs[i]? = some z) (hl : o.cells.length ≤ cs.length) : Rel K m { o with cells := cs } new := by
  refine ⟨r.l1, r.l2, r.n, r.w, fun a ha hn => ?_, Nat.le_trans r.c hl, r.s⟩
  have h := r.k a ha hn
  cases a with
  | s i => exact h
  | h i =>
    have hi : i < o.cells.length := Nat.lt_of_lt_of_le ha r.c
    rw [← h]
    show cs[i]? = o.cells[i]?
    rw [List.getElem?_eq_getElem hi]
    exact hx i _ (List.getElem?_eq_getElem hi)
theorem find_new {ps : List (Nat × Cl)} {n m : Nat} {x : Cl} (h : n ≠ m) : ((putS ps n x).find? fun p => decide (p.1 = m)).map (·.2) = (ps.find? fun p => decide (p.1 = m)).map (·.2) := by
  by_cases q : ps.any (fun p => decide (p.1 = n)) = true
  · rw [find_putS q, if_neg (fun z => h z.symm)]
  · unfold putS
    rw [if_neg q, List.find?_append]
    cases ps.find? fun p => decide (p.1 = m) with
    | some p => rfl
    | none => simp [h]
theorem Rel.free {K o : Sto} {m k : Nat} {new : List Ad} {x : Cl} (r : Rel K m o new) (hk : m ≤ k) : Rel K m { o with slots := putS o.slots k x } new := by
  have e : ∀ i, i < m → lk { o with slots := putS o.slots k x } (.s i) = lk o (.s i) := fun i hi => find_new (by omega)
  refine ⟨r.l1, r.l2, r.n, r.w, fun a ha hn => ?_, r.c, fun i hi => by rw [e i hi]; exact r.s i hi⟩
  cases a with
  | h i => exact r.k _ ha hn
  | s i => rw [e i ha]; exact r.k _ ha hn
/-- as it was -/
structure UD (K : Sto) (m : Nat) (o : Sto) : Prop where
  c : o.cells = K.cells
  n : o.noted = K.noted
  s : ∀ i, i < m → lk o (.s i) = lk K (.s i)
inductive Chain : List (Sto × Nat) → Sto → Prop
  | nil {o : Sto} : Chain [] o
  | one {K o : Sto} {m : Nat} {new : List Ad} : Rel K m o new → Chain [(K, m)] o
  | cons {K o K' : Sto} {m m' : Nat} {new : List Ad} {ks : List (Sto × Nat)} : Rel K m o new → Chain ((K', m') :: ks) K → m' ≤ m → Chain ((K, m) :: (K', m') :: ks) o
def Evo (many : Nat) (o o' : Sto) : Prop := ∀ K m new, m ≤ many → Rel K m o new → ∃ new', Rel K m o' new'
theorem Evo.refl (n : Nat) (o : Sto) : Evo n o o := fun _ _ new _ r => ⟨new, r⟩
theorem Evo.trans {n n' : Nat} {a b c : Sto} (x : Evo n a b) (y : Evo n' b c) (h : n ≤ n') : Evo n a c := fun K m new hm r => by
  obtain ⟨n1, r1⟩ := x K m new hm r
  exact y K m n1 (by omega) r1
theorem Chain.evo {ks : List (Sto × Nat)} {o o' : Sto} {many : Nat} (c : Chain ks o) (e : Evo many o o') (h : ∀ p ∈ ks.head?, p.2 ≤ many) : Chain ks o' := by
  cases c with
  | nil => exact .nil
  | one r =>
    obtain ⟨n, r'⟩ := e _ _ _ (h (_, _) rfl) r
    exact .one r'
  | cons r c q =>
    obtain ⟨n, r'⟩ := e _ _ _ (h (_, _) rfl) r
    exact .cons r' c q
theorem Chain.mark {ks : List (Sto × Nat)} {o : Sto} {many : Nat} (c : Chain ks o) (h : ∀ p ∈ ks.head?, p.2 ≤ many) (hs : ∀ i, i < many → (lk o (.s i)).isSome = true) : Chain ((o, many) :: ks) { o with lo1 := o.cells.length, lo2 := many } := by
  have r : Rel o many { o with lo1 := o.cells.length, lo2 := many } [] := ⟨rfl, rfl, by simp, by simp, (fun a _ _ => by cases a <;> rfl), Nat.le_refl _, fun i hi => hs i hi⟩
  cases ks with
  | nil => exact .one r
  | cons p ks => exact .cons r c (h p rfl)
/-- after an undo, the marks of the next one set -/
theorem Chain.back {K K' o' : Sto} {m m' : Nat} {ks : List (Sto × Nat)} {o : Sto} (c : Chain ((K, m) :: (K', m') :: ks) o) (u : UD K m o') : Chain ((K', m') :: ks) { o' with lo1 := K'.cells.length, lo2 := m' } := by
  cases c with
  | cons r c q =>
    have main : ∀ new', Rel K' m' K new' → Rel K' m' { o' with lo1 := K'.cells.length, lo2 := m' } new' := by
      intro new' r'
      refine ⟨rfl, rfl, ?_, r'.w, fun a ha hn => ?_, by show _ ≤ o'.cells.length; rw [u.c]; exact r'.c, fun i hi => ?_⟩
      · show o'.noted = _
        rw [u.n]; exact r'.n
      · rw [← r'.k a ha hn]
        cases a with
        | h i => show o'.cells[i]? = K.cells[i]?; rw [u.c]
        | s i => exact u.s i (Nat.lt_of_lt_of_le ha q)
      · show (lk o' (.s i)).isSome = true
        rw [u.s i (by omega)]; exact r'.s i hi
    cases c with
    | one r' => exact .one (main _ r')
    | cons r' c' q' => exact .cons (main _ r') c' q'
theorem lk_wr {o : Sto} {a b : Ad} {v : Cl} (h : (lk o a).isSome = true) : lk (wr o a v) b = if b = a then some v else lk o b := by
  have e : asg { o with lo1 := 0, lo2 := 0 } a v = wr { o with lo1 := 0, lo2 := 0 } a v := by
    unfold asg
    rw [if_neg]
    cases a <;> simp [nte]
  have := lk_asg (o := { o with lo1 := 0, lo2 := 0 }) (b := b) (v := v) (a := a) (by cases a <;> exact h)
  rw [e] at this
  have e1 : lk (wr { o with lo1 := 0, lo2 := 0 } a v) b = lk (wr o a v) b := by cases a <;> cases b <;> rfl
  have e2 : lk { o with lo1 := 0, lo2 := 0 } b = lk o b := by cases b <;> rfl
  rw [e1, e2] at this
  exact this
theorem wr_len {o : Sto} {a : Ad} {v : Cl} (h : (lk o a).isSome = true) : (wr o a v).cells.length = o.cells.length ∧ (wr o a v).slots.length = o.slots.length ∧ (wr o a v).noted = o.noted ∧ (wr o a v).lo1 = o.lo1 ∧ (wr o a v).lo2 = o.lo2 := by
  cases a with
  | h n => simp [wr]
  | s n =>
    have hp : (putS o.slots n v).length = o.slots.length := by
      unfold putS
      rw [if_pos (any_of h)]
      simp
    simp [wr, hp]
section
variable {NF RD : Nat} {CA : Str → Addr} {o : Sto} {s c sl nt : Nat} {h : Hd}
theorem r_undo {N new : List Ad} {sz : Nat} (r : SR CA o s c sl nt h) (hn : o.noted = N ++ new) (hth : ∀ a ∈ new, (lk o a).isSome = true) (hsz : sz ≤ o.cells.length) (hf : new.length < NF) (hl : o.slots.length < LN) :
    Ev (m_Store_undo NF RD CA [.at s, .int N.length, .int sz] h) fun d h' => d = .non ∧ ∃ o', SR CA o' s c sl nt h' ∧ Fx [c, sl, nt] h h' ∧ o'.noted = N ∧ o'.cells.length = sz ∧ o'.slots.length = o.slots.length ∧ (∀ i, i < sz → o'.cells[i]? = if Ad.h i ∈ new then some (.ref (.h i)) else o.cells[i]?) ∧ ∀ i, lk o' (.s i) = if Ad.s i ∈ new then some (.ref (.s i)) else lk o (.s i) := by
  have os := r.os
  have oc := r.oc
  have on := r.on
  unfold m_Store_undo
  walk_at "wq"
  refine ev_eq (r_is_place _ h) ?_
  walk_at "wq"
  refine br_f (by simp [hn]; omega) ?_
  walk_at "wq"
  refine sq_nx ?_
  walk_at "wq"
  refine ev_eq (r_is_place _ h) ?_
  walk_at "wq"
  refine br_f (by simp; omega) ?_
  walk_at "wq"
  refine sq_nx ?_
  walk_at "wq"
  refine ev_while (fun n sg h' => ∃ o2 pre suf p, sg = [some (.at s), some (.int N.length), some (.int sz), p] ∧ n = pre.length ∧ new = pre ++ suf ∧ SR CA o2 s c sl nt h' ∧ Fx [c, sl, nt] h h' ∧ o2.noted = N ++ pre ∧ o2.cells.length = o.cells.length ∧ o2.slots.length = o.slots.length ∧ ∀ a, lk o2 a = if a ∈ suf then some (.ref a) else lk o a) ?_ NF new.length _ _ ⟨o, new, [], _, rfl, rfl, by simp, r, Fx.refl _ _, hn, rfl, rfl, by simp⟩ hf
  rintro n sg h' ⟨o2, pre, suf, p, rfl, rfl, en, r2, f2, n2, c2, s2, l2⟩
  have os2 := r2.os
  have oc2 := r2.oc
  have on2 := r2.on
  unfold C_Store_undo_0
  walk_at "wq"
  rcases List.eq_nil_or_concat pre with rfl | ⟨pre', a, rfl⟩
  · refine br_f (by simp [n2]) ?_
    walk_at "wq"
    refine sq_nx ?_
    refine ev_delS ?_
    walk_at "wq"
    refine ⟨_, rfl, ?_⟩
    walk_at "wq"
    refine ⟨_, _, rfl, oc2, by omega, ?_⟩
    walk_at "wq"
    obtain ⟨m1, m2, m3, m4, m5⟩ := r2.nes
    have m6 := r2.dn
    refine ⟨rfl, { o2 with cells := o2.cells.take sz }, ⟨?_, ?_, ?_, ?_, m6, fun x hx => r2.okc x (List.mem_of_mem_take hx), r2.oks⟩, f2.trans (Fx.set (by simp) _), by simpa using n2, by simp; omega, s2, ?_, ?_⟩
    · rw [get_ne (by omega)]; exact os2
    · rw [get_set oc2]
      simp
    · rw [get_ne (by omega)]; exact r2.ol
    · rw [get_ne (by omega)]; exact on2
    · intro i hi
      have := l2 (.h i)
      show (o2.cells.take sz)[i]? = _
      rw [List.getElem?_take_of_lt hi]
      simp only [List.nil_append] at en
      rw [en]
      exact this
    · intro i
      simp only [List.nil_append] at en
      rw [en]
      exact l2 (.s i)
  · rw [List.concat_eq_append] at *
    refine br_t (by simp [n2]; omega) ?_
    unfold B_Store_undo_1
    walk_at "wq"
    have on2' := on2
    rw [n2, ← List.append_assoc, List.map_append, List.map_singleton] at on2'
    refine lf_pop on2' ?_
    obtain ⟨m1, m2, m3, m4, m5⟩ := r2.nes
    have m6 := r2.dn
    have r3 : SR CA { o2 with noted := N ++ pre' } s c sl nt (h'.set nt (.lst ((N ++ pre').map eA))) := by
      refine ⟨?_, ?_, ?_, ?_, m6, r2.okc, r2.oks⟩
      · rw [get_ne (by omega)]; exact os2
      · rw [get_ne (by omega)]; exact oc2
      · rw [get_ne (by omega)]; exact r2.ol
      · rw [get_set on2]
    have f3 : Fx [c, sl, nt] h (h'.set nt (.lst ((N ++ pre').map eA))) := f2.trans (Fx.set (by simp) _)
    generalize h'.set nt (.lst ((N ++ pre').map eA)) = h3 at r3 f3
    have os3 := r3.os
    walk_at "wq"
    refine sq_nx ?_
    walk_at "wq"
    have ha : (lk o2 a).isSome = true := by
      rw [l2]
      split
      · rfl
      · exact hth a (by rw [en]; simp)
    have ha3 : (lk { o2 with noted := N ++ pre' } a).isSome = true := by cases a <;> exact ha
    refine (r_write_at r3 (x := .ref a) (thr_of ha3) rfl (by show o2.slots.length < LN; omega)).mono ?_
    rintro _ h4 ⟨rfl, r4, f4⟩
    walk_at "wq"
    have hw := wr_len (v := .ref a) ha3
    refine ⟨pre'.length, by simp, _, pre', a :: suf, _, rfl, rfl, by rw [en]; simp, r4, f3.trans f4, hw.2.2.1, hw.1.trans c2, hw.2.1.trans s2, fun b => ?_⟩
    rw [lk_wr ha3]
    have e2 : lk { o2 with noted := N ++ pre' } b = lk o2 b := by cases b <;> rfl
    rw [e2, l2]
    by_cases q : b = a
    · subst q
      rw [if_pos rfl, if_pos (by simp)]
    · rw [if_neg q]
      simp [q]
theorem undone {K o : Sto} {m : Nat} {new : List Ad} (r : SR CA o s c sl nt h) (rl : Rel K m o new) (hf : o.noted.length < NF) (hl : o.slots.length < LN) :
    Ev (m_Store_undo NF RD CA [.at s, .int K.noted.length, .int K.cells.length] h) fun d h' => d = .non ∧ ∃ o', SR CA o' s c sl nt h' ∧ Fx [c, sl, nt] h h' ∧ UD K m o' ∧ o'.slots.length = o.slots.length := by
  have hlen : new.length ≤ o.noted.length := by rw [rl.n]; simp
  refine (r_undo r rl.n (fun a ha => ?_) rl.c (by omega) hl).mono ?_
  · obtain ⟨h1, h2⟩ := rl.w a ha
    cases a with
    | h i =>
      show (o.cells[i]?).isSome = true
      have : i < o.cells.length := Nat.lt_of_lt_of_le h1 rl.c
      rw [List.getElem?_eq_getElem this]; rfl
    | s i => exact rl.s i h1
  · rintro d h' ⟨rfl, o', r', f', n', c', s', k1, k2⟩
    refine ⟨rfl, o', r', f', ⟨?_, n', fun i hi => ?_⟩, s'⟩
    · apply List.ext_getElem?
      intro i
      by_cases q : i < K.cells.length
      · rw [k1 i q]
        split
        · rename_i z
          exact (rl.w _ z).2.symm
        · rename_i z
          exact rl.k (.h i) q z
      · rw [List.getElem?_eq_none (by omega), List.getElem?_eq_none (by omega)]
    · rw [k2 i]
      split
      · rename_i z
        exact (rl.w _ z).2.symm
      · rename_i z
        exact rl.k (.s i) hi z
end


/-! ### more that is kept -/
theorem fol_up {o o' : Sto} (u : ∀ a z, lk o a = some z → lk o' a = some z) {n : Nat} {x y : Cl} (f : Fol o n x y) : Fol o' n x y := by
  induction f with
  | stop h => exact .stop h
  | self e => exact .self (u _ _ e)
  | step e h _ ih => exact .step (u _ _ e) h ih
theorem fin_up {o o' : Sto} (u : ∀ a z, lk o a = some z → lk o' a = some z) {n : Nat} {x : Cl} (f : Fin o n x) : Fin o' n x := by
  induction f with
  | leaf f h => exact .leaf (fol_up u f) h
  | node f e _ ih => exact .node (fol_up u f) (u _ _ e) ih
theorem putS_new {ps : List (Nat × Cl)} {n : Nat} {x : Cl} (h : ¬ ps.any (fun p => decide (p.1 = n)) = true) : putS ps n x = ps ++ [(n, x)] := by
  unfold putS
  rw [if_neg h]
theorem any_no {o : Sto} {n : Nat} (h : ¬ (lk o (.s n)).isSome = true) : ¬ o.slots.any (fun p => decide (p.1 = n)) = true := by
  intro q
  apply h
  unfold lk
  rw [Option.isSome_map, List.find?_isSome]
  exact List.any_eq_true.mp q
theorem lk_free {o : Sto} {k : Nat} {x : Cl} (h : ¬ (lk o (.s k)).isSome = true) (a : Ad) : lk { o with slots := putS o.slots k x } a = if a = .s k then some x else lk o a := by
  cases a with
  | h i => rw [if_neg (by simp)]; rfl
  | s i =>
    by_cases q : i = k
    · subst q
      rw [if_pos rfl]
      show ((putS o.slots i x).find? fun p => decide (p.1 = i)).map (·.2) = _
      rw [putS_new (any_no h), List.find?_append]
      have : (o.slots.find? fun p => decide (p.1 = i)) = none := by
        cases z : o.slots.find? fun p => decide (p.1 = i) with
        | none => rfl
        | some p => exact absurd (by show (Option.map _ (o.slots.find? _)).isSome = true; rw [z]; rfl) h
      rw [this]
      simp
    · rw [if_neg (by simpa using q)]
      exact find_new (fun z => q z.symm)
theorem gd_free {o : Sto} {k : Nat} (g : Gd o) (h : ¬ (lk o (.s k)).isSome = true) (hk : k ≤ 30) (hs : o.slots.length + 1 ≤ 30) : Gd { o with slots := putS o.slots k (.ref (.s k)) } := by
  have l := fun a => lk_free (x := .ref (.s k)) h a
  have u : ∀ a z, lk o a = some z → lk { o with slots := putS o.slots k (.ref (.s k)) } a = some z := by
    intro a z e
    rw [l, if_neg]
    · exact e
    · rintro rfl
      rw [e] at h
      exact h rfl
  have vu : ∀ x, VC o x → VC { o with slots := putS o.slots k (.ref (.s k)) } x := by
    intro x v
    cases x with
    | ref a =>
      obtain ⟨z, ez⟩ := Option.isSome_iff_exists.mp (show (lk o a).isSome = true from v)
      show (lk _ a).isSome = true
      rw [u a z ez]; rfl
    | str n => exact v
    | _ => trivial
  have fl : ∀ a, isFn (lk o a) = false → isFn (lk { o with slots := putS o.slots k (.ref (.s k)) } a) = false := by
    intro a e
    rw [l]
    split
    · rfl
    · exact e
  refine ⟨fun a x e => ?_, fun a b e => ?_, fun x v => ?_, fun n hn => ?_, g.fc, g.sz, ?_, fun a b e => ?_, fun p f k' e j j1 j2 => g.nk p f k' e j j1 j2, fun p f k' e => g.cp p f k' e, fun a e => ?_, fun n => fl _ (g.sf n)⟩
  · rw [l] at e
    split at e
    · cases e
      show (lk _ (.s k)).isSome = true
      rw [l, if_pos rfl]; rfl
    · exact vu x (g.vc a x e)
  · rw [l] at e
    split at e
    · rename_i q; cases e; exact .inl q.symm
    · exact g.od a b e
  · by_cases q : x = .ref (.s k)
    · subst q
      exact ⟨0, .leaf (.self (by rw [l, if_pos rfl])) fun p z => by cases z⟩
    · have v' : VC o x := by
        cases x with
        | ref a =>
          have v2 : (lk _ a).isSome = true := v
          rw [l, if_neg (fun z => q (by rw [z]))] at v2
          exact v2
        | str n => exact v
        | _ => trivial
      obtain ⟨n, f⟩ := g.fin x v'
      exact ⟨n, fin_up u f⟩
  · rw [l] at hn
    split at hn
    · rename_i q; cases q; exact hk
    · exact g.sl n hn
  · show (putS o.slots k _).length ≤ 30
    rw [putS_new (any_no h)]
    simpa using hs
  · rw [l] at e
    split at e
    · cases e
      rw [l, if_pos rfl]; rfl
    · exact fl b (g.nr a b e)
  · rw [l] at e
    split at e
    · cases e
    · exact g.nn a e
theorem cp_of {o : Sto} (g : Gd o) : Cp o.cells o.cells.length := fun i f k e _ => (g.cp i f k e).1
theorem gd_new {o : Sto} (g : Gd o) (hc : o.cells.length + 1 ≤ 2000) : Gd { o with cells := o.cells ++ [.ref (.h o.cells.length)] } := by
  refine gd_app g (fun i x hi e => ?_) (fun i f k e hi => ?_) (fun i z e => get_app e) (fun i e => ?_) ?_ (by simpa using hc)
  · rcases app_inv e with q | ⟨rfl, rfl⟩
    · have := (List.getElem?_eq_some_iff.mp q).1; omega
    · exact ⟨Nat.le_refl _, .self⟩
  · rcases app_inv e with q | ⟨_, q⟩
    · have := (g.cp i f k q).1
      simp; omega
    · cases q
  · rcases app_inv e with q | ⟨_, q⟩
    · exact g.nn (.h i) q
    · cases q
  · rw [fc_app]
    have := g.fc
    have e : (fns o).length = fc o.cells := fns_fc o.cells
    simp [isFn]
    omega
structure Ss (o o' : Sto) : Prop where
  l : o'.slots.length = o.slots.length
  s : ∀ i, (lk o' (.s i)).isSome = (lk o (.s i)).isSome
theorem Ss.trans {a b c : Sto} (x : Ss a b) (y : Ss b c) : Ss a c := ⟨y.l.trans x.l, fun i => (y.s i).trans (x.s i)⟩
theorem Ss.asg {o : Sto} {a : Ad} {v : Cl} (h : lk o a = some (.ref a)) : Ss o (asg o a v) := by
  have hs : (lk o a).isSome = true := by rw [h]; rfl
  refine ⟨(asg_len hs).2.1, fun i => ?_⟩
  rw [lk_asg hs]
  split
  · rename_i q; rw [q, h]; rfl
  · rfl
theorem JS.sl {o o' : Sto} {row dn : List Pr} {res : Bool} {n : Nat} (js : JS o row dn res o' n) : Ss o o' := by
  induction js with
  | nil => exact ⟨rfl, fun _ => rfl⟩
  | skip _ _ _ ih => exact ih
  | bind hd _ _ _ b _ ih =>
    have self : ∀ {i z0 c} {o : Sto}, Fol o i z0 (.ref c) → lk o c = some (.ref c) := by
      intro i z0 c o f
      rcases f.endd with q | ⟨b, e, h⟩
      · exact absurd rfl (q c)
      · cases e; exact h
    refine Ss.trans ?_ ih
    have fx := hd.fx
    have fy := hd.fy
    cases b with
    | rr =>
      refine Ss.asg ?_
      unfold mxA
      split
      · exact self fy
      · exact self fx
    | lf _ _ => exact Ss.asg (self fx)
    | rt _ _ => exact Ss.asg (self fy)
  | bindF hd _ _ _ b => cases b <;> exact ⟨rfl, fun _ => rfl⟩
  | fail1 => exact ⟨rfl, fun _ => rfl⟩
  | fail2 => exact ⟨rfl, fun _ => rfl⟩
  | open' _ _ _ _ _ _ _ ih => exact ih
/-! ### a turn of the work -/
structure Dis (s c sl nt nm w : Nat) : Prop where
  a : nm ≠ c ∧ nm ≠ s ∧ nm ≠ sl ∧ nm ≠ nt
  b : w ≠ s ∧ w ≠ c ∧ w ≠ sl ∧ w ≠ nt ∧ w ≠ nm
structure WS (CA : Str → Addr) (o : Sto) (s c sl nt nm w : Nat) (nms : List (Nat × Cl)) (many t : Nat) (h : Hd) (N : Nat) : Prop where
  r : SR CA o s c sl nt h
  g : Gd o
  n : h[nm]? = some (.dct (nms.map eSl))
  nn : ∀ p ∈ nms, ∃ v z, p.2 = .ref (.h v) ∧ o.cells[v]? = some z ∧ isFn (some z) = false
  nl : nms.length ≤ o.cells.length + 4
  cl : o.cells.length ≤ 74 * t
  fb : fc o.cells ≤ 8 * t
  nb : o.noted.length ≤ 262000 * t
  mb : many ≤ t
  ss : o.slots.length ≤ t
  sl : ∀ i, (lk o (.s i)).isSome = true ↔ i < many
  w : Wl N w h
theorem WS.bg {CA : Str → Addr} {o : Sto} {s c sl nt nm w : Nat} {nms : List (Nat × Cl)} {many t : Nat} {h : Hd} {N : Nat} (x : WS CA o s c sl nt nm w nms many t h N) {h' : Hd} (r : SR CA o s c sl nt h') (n : h'[nm]? = some (.dct (nms.map eSl))) : BG o.cells.length CA o s c sl nt nm h' o.cells nms :=
  ⟨r, n, (fun i z hi e => by have := (List.getElem?_eq_some_iff.mp e).1; omega), cp_of x.g, (fun p hp => by
    obtain ⟨v, z, e1, e2, e3⟩ := x.nn p hp
    exact ⟨v, e1, z, e2, (fun q => x.g.nn (.h v) (by rw [← q]; exact e2)), e3, .inr (List.getElem?_eq_some_iff.mp e2).1⟩), fun i => x.g.nn (.h i), x.nl⟩
section
variable {NF RD : Nat} {CA : Str → Addr} {o : Sto} {s c sl nt nm w : Nat} {h : Hd} {nms : List (Nat × Cl)} {many t : Nat}
theorem lf_lenDc {n : Nat} {ws : List (Nat × Cl)} {h : Hd} {Q : D → Hd → Prop} (e : h[n]? = some (.dct (ws.map eSl))) (q : Q (.int (ws.length : Nat)) h) : Ev (lenD [.at n] h) Q := ⟨.int (ws.length : Nat), h, by simp [lenD, e], q⟩
theorem Wl.fx {k w : Nat} {h h' : Hd} {S : List Nat} (x : Wl k w h) (f : Fx S h h') (hn : w ∉ S) : Wl k w h' := by
  obtain ⟨a, b, c', e, q⟩ := x
  exact ⟨a, b, c', f.get e hn, q⟩
theorem fx_w {w : Nat} {h h' : Hd} (f : Fw w h h') : Fx [w] h h' := ⟨f.len, fun i hi hn => f.at' i hi (by simpa using hn)⟩
theorem b_turn {N : Nat} {p4 p5 p6 p7 : Option D} (hN : 10000000 ≤ NF) (hR : 3 ≤ RD) (x : WS CA o s c sl nt nm w nms many t h (N + 1000)) (ht : t < 20) (d : Dis s c sl nt nm w) :
    Ev (B__law_work_1 NF RD CA [some (.at w), some (.at s), some (.at nm), some (.int many), p4, p5, p6, p7] h) fun f h' => ∃ o' nms' many' q5 q6 q7, f = .nx [some (.at w), some (.at s), some (.at nm), some (.int (many' : Nat)), p4, q5, q6, q7] ∧ WS CA o' s c sl nt nm w nms' many' (t + 1) h' N ∧ Fx [c, sl, nt, nm, w] h h' ∧ many ≤ many' ∧ Evo many o o' := by
  have hLN := LN_eq
  obtain ⟨da1, da2, da3, da4⟩ := d.a
  obtain ⟨db1, db2, db3, db4, db5⟩ := d.b
  obtain ⟨m1, m2, m3, m4, m5⟩ := x.r.nes
  have m6 := x.r.dn
  have hcl := x.cl
  have hss := x.ss
  have hfb := x.fb
  have hnb := x.nb
  have hmb := x.mb
  have hnl := x.nl
  unfold B__law_work_1
  walk_at "wq"
  refine (r_draw (k := N + 999) (x.w.le (by omega)) (by decide) (by decide)).mono ?_
  rintro _ h1 ⟨way, rfl, w0, w1, f1, wl1⟩
  have x1 := fx_w f1
  have r1 := x.r.mv x1 (by simp; omega) (by simp; omega) (by simp; omega) (by simp; omega)
  have n1 := x1.get x.n (by simp; omega)
  have os1 := r1.os
  walk_at "wq"
  refine sq_nx ?_
  walk_at "wq"
  by_cases a0 : way = 0
  · refine br_t (decide_eq_true a0) ?_
    walk_at "wq"
    refine (r_free r1 many (by omega)).mono ?_
    rintro _ h2 ⟨rfl, r2, f2⟩
    walk_at "wq"
    refine sq_nx ?_
    walk_at "wq"
    have hno : ¬ (lk o (.s many)).isSome = true := fun z => by have := (x.sl many).mp z; omega
    refine ⟨_, nms, many + 1, _, _, _, rfl, ⟨r2, gd_free x.g hno (by omega) (by omega), f2.get n1 (by simp; omega), x.nn, hnl, by show o.cells.length ≤ _; omega, by show fc o.cells ≤ _; omega, by show o.noted.length ≤ _; omega, by omega, ?_, fun i => ?_, (wl1.fx f2 (by simp; omega)).le (by omega)⟩, (x1.mono (by simp)).trans (f2.mono (by simp)), by omega, fun K m new hm r => ⟨new, r.free hm⟩⟩
    · show (putS o.slots many _).length ≤ t + 1
      rw [putS_new (any_no hno)]
      simp; omega
    · rw [lk_free hno]
      have := x.sl i
      by_cases q : i = many
      · subst q; simp
      · rw [if_neg (by simpa using q), this]; omega
  refine br_f (decide_eq_false a0) ?_
  walk_at "wq"
  by_cases a1 : way = 1
  · refine br_t (decide_eq_true a1) ?_
    walk_at "wq"
    refine ev_setK ?_
    walk_at "wq"
    refine (r_new r1 (by omega)).mono ?_
    rintro _ h2 ⟨rfl, r2, f2⟩
    have n2 := f2.get n1 (by simp; omega)
    walk_at "wq"
    refine lf_lenDc n2 ?_
    walk_at "wq"
    refine ⟨nm, _, .inl (nms.length : Int), rfl, n2, by simp [keyD], by simp; omega, ?_⟩
    have hput := put_sl nms nms.length (.ref (.h o.cells.length))
    have hput' : putD (nms.map eSl) (.inl (nms.length : Int)) (.tup [.str "ref", eA (.h o.cells.length)]) = (putS nms nms.length (Cl.ref (.h o.cells.length))).map eSl := hput
    rw [hput']
    have hg := gd_new x.g (by omega)
    have hpl : (putS nms nms.length (Cl.ref (.h o.cells.length))).length ≤ nms.length + 1 := by
      unfold putS
      split <;> simp
    refine ⟨{ o with cells := o.cells ++ [.ref (.h o.cells.length)] }, putS nms nms.length (Cl.ref (.h o.cells.length)), many, _, _, _, rfl, ⟨SR.mv (o := { o with cells := o.cells ++ [.ref (.h o.cells.length)] }) r2 (Fx.set (S := [nm]) (by simp) _) (by simp; omega) (by simp; omega) (by simp; omega) (by simp; omega), hg, get_set n2, fun p hp => ?_, by simp; omega, by simp; omega, by simp [fc_app, isFn]; omega, by show o.noted.length ≤ _; omega, by omega, by show o.slots.length ≤ _; omega, x.sl, (wl1.fx (S := [c, nm]) ((f2.mono (by simp)).trans (Fx.set (by simp) _)) (by simp; omega)).le (by omega)⟩, ?_, by omega, fun K m new hm r => ⟨new, r.build (fun i z e => get_app e) (by simp)⟩⟩
    · have hself : (o.cells ++ [Cl.ref (.h o.cells.length)])[o.cells.length]? = some (.ref (.h o.cells.length)) := by simp
      have old : ∀ q ∈ nms, ∃ v z, q.2 = .ref (.h v) ∧ (o.cells ++ [Cl.ref (.h o.cells.length)])[v]? = some z ∧ isFn (some z) = false := fun q hq => by
        obtain ⟨v, z, e1, e2, e3⟩ := x.nn q hq
        exact ⟨v, z, e1, get_app e2, e3⟩
      unfold putS at hp
      split at hp
      · obtain ⟨p', hp', rfl⟩ := List.mem_map.mp hp
        split
        · exact ⟨_, _, rfl, hself, rfl⟩
        · exact old p' hp'
      · rcases List.mem_append.mp hp with q | q
        · exact old p q
        · rw [List.mem_singleton.mp q]; exact ⟨_, _, rfl, hself, rfl⟩
    · exact (x1.mono (by simp)).trans ((f2.mono (by simp)).trans (Fx.set (by simp) _))
  refine br_f (decide_eq_false a1) ?_
  walk_at "wq"
  have hw1 := lt_of os1
  have hc1 := lt_of r1.oc
  have hsl1 := lt_of r1.ol
  have hnt1 := lt_of r1.on
  have hnm1 := lt_of n1
  have hww1 := wl1.lt
  have hno : ∀ i : Nat, o.cells[i]? ≠ some .none := fun i => x.g.nn (.h i)
  have bg1 := x.bg (r1.pre (Pre.app _ [O.lst []])) ((Pre.app _ [O.lst []]).get n1)
  have tb : Dn 3 ≤ 200 ∧ Pn 3 ≤ 40 ∧ Nn 3 ≤ 4 := by decide
  refine ev_lc ?_
  walk_at "wq"
  refine ⟨2, rfl, by decide, ?_⟩
  unfold rngD
  refine ⟨_, fun as ys h4 => ∃ cs nms' rows, ys = rows.map eC ∧ rows.length = as.length ∧ BG o.cells.length CA o s c sl nt nm h4 cs nms' ∧ (∀ x ∈ rows, XC cs x) ∧ cs.length ≤ o.cells.length + 37 * as.length ∧ fc cs ≤ fc o.cells + 4 * as.length ∧ Ext o.cells cs ∧ Fx [c, nm, w] h1 h4 ∧ Wl (N + 900 - 300 * as.length) w h4, ?_, ?_, ⟨o.cells, nms, [], rfl, rfl, bg1, by simp, by simp, by simp, fun _ _ _ e => e, (Fx.refl _ _).app _, (wl1.pre (Pre.app _ _)).le (by simp)⟩, fun _ _ _ _ _ => yl_fix, ?_, ?_⟩
  · simp; omega
  · simp; omega
  · rintro as z bs ys h4 ez ⟨cs, nms', rows, rfl, hrl, bg, hxc, hcc, hfc, hext, x4, w4⟩ e4
    have hlz : as.length < 2 := by
      have := congrArg List.length ez
      simp at this
      omega
    have osx := bg.r.os
    have hnl4 := bg.l
    walk_at "wq"
    unfold E__law_work_0
    walk_at "wq"
    refine lf_lenDc bg.n ?_
    walk_at "wq"
    refine (r_term (mv := (nms'.length : Nat)) (by omega) (by omega) hN 3 RD (N + 700 - 300 * as.length) w h4 (by omega) (by omega) (by omega) (w4.le (by omega))).mono ?_
    rintro dd h6 ⟨td, pd', nd, f6, w6⟩
    have f6x := fx_w f6
    have e6 := f6x.get e4 (by simp; omega)
    have bg6 : BG o.cells.length CA o s c sl nt nm h6 cs nms' := ⟨bg.r.mv f6x (by simp; omega) (by simp; omega) (by simp; omega) (by simp; omega), f6x.get bg.n (by simp; omega), bg.b, bg.p, bg.nn, bg.no, bg.l⟩
    walk_at "wq"
    refine (r_build hN bg6 (by omega) td (by omega) (by omega)).mono ?_
    rintro _ h7 ⟨y, cs', nms'', rfl, bg7, x7, c7, c7', xc7, ext7⟩
    have e7 := x7.get e6 (by simp; omega)
    have w7 : Wl (N + 700 - 300 * as.length) w h7 := w6.fx x7 (by simp; omega)
    have hlt7 := lt_of e7
    refine ⟨e7, cs', nms'', rows ++ [y], by simp, by simp [hrl], ⟨bg7.r.mv (Fx.set (S := [h1.length]) (by simp) _) (by simp; omega) (by simp; omega) (by simp; omega) (by simp; omega), ?_, bg7.b, bg7.p, bg7.nn, bg7.no, bg7.l⟩, ?_, by simp; omega, by simp; omega, fun i z hz e => ext7 i z hz (hext i z hz e), (x4.trans ((f6x.mono (by simp)).trans (x7.mono (by simp)))).setN (Nat.le_refl _) _, (w7.ne (by omega) _).le (by simp; omega)⟩
    · rw [get_ne (by omega)]; exact bg7.n
    · intro y hy
      rcases List.mem_append.mp hy with q | q
      · exact (hxc y q).ext ext7
      · rw [List.mem_singleton.mp q]; exact xc7
  · rintro zs h4 e4 ⟨cs, nms', rows, rfl, hrl, bg, hxc, hcc, hfc, hext, x4, w4⟩
    have h22 : ((List.range (Int.toNat 2)).map fun (i : Nat) => D.int (0 + (i : Nat))).length = 2 := by simp
    rw [h22] at hrl hcc hfc w4
    obtain ⟨u, v, rfl⟩ : ∃ u v, rows = [u, v] := by
      match rows, hrl with
      | [u, v], _ => exact ⟨u, v, rfl⟩
    have hle : o.cells.length ≤ cs.length := by
      rcases Nat.eq_zero_or_pos o.cells.length with q | q
      · omega
      · have h0 := List.getElem?_eq_getElem (l := o.cells) (i := o.cells.length - 1) (by omega)
        have := hext (o.cells.length - 1) _ (fun z => hno (o.cells.length - 1) (h0.trans (congrArg some z))) h0
        have := (List.getElem?_eq_some_iff.mp this).1
        omega
    have hpre : ∀ (i : Nat) (z : Cl), o.cells[i]? = some z → cs[i]? = some z := fun i z e => hext i z (fun q => hno i (by rw [← q]; exact e)) e
    have g4 : Gd { o with cells := cs } := gd_app x.g bg.b bg.p hpre bg.no (by omega) (by omega)
    have r4 : SR CA { o with cells := cs } s c sl nt h4 := bg.r
    obtain ⟨vu, nu⟩ := gd_xc g4 (x := u) (hxc u (by simp))
    obtain ⟨vv, nv⟩ := gd_xc g4 (x := v) (hxc v (by simp))
    have gu := (hxc u (by simp)).1
    have gv := (hxc v (by simp)).1
    have hsl4 : ∀ i, (lk { o with cells := cs } (.s i)).isSome = true ↔ i < many := x.sl
    walk_at "wq"
    refine sq_nx ?_
    walk_at "wq"
    -- the join
    have goOn : ∀ (v : Cl) (h5 : Hd) (q7 : Option D), VC { o with cells := cs } v → Nf { o with cells := cs } v → gdC v = true → SR CA { o with cells := cs } s c sl nt h5 → h5[nm]? = some (.dct (nms'.map eSl)) → h5[h1.length]? = some (.lst [eC u, eC v]) → Fx [c, nm, w] h1 h5 → Wl N w h5 →
        Ev ((exprM (methM (CA "Store") n_join 3 (m_Store_join NF RD CA) [] (varM 1) (consM (opM subsD (varM 6) (cM (.int 0))) (consM (opM subsD (varM 6) (cM (.int 1))) nilM)))) ([some (.at w), some (.at s), some (.at nm), some (.int many), p4, some (.int way), some (.at h1.length), q7] : Sg) h5) fun f h' => ∃ o' nms' many' q5 q6 q7, f = .nx [some (.at w), some (.at s), some (.at nm), some (.int (many' : Nat)), p4, q5, q6, q7] ∧ WS CA o' s c sl nt nm w nms' many' (t + 1) h' N ∧ Fx [c, sl, nt, nm, w] h h' ∧ many ≤ many' ∧ Evo many o o' := by
      intro v h5 q7 vv nv gv r5 n5 e5 f5 w5
      have os5 := r5.os
      walk_at "wq"
      refine lf_ixL e5 (at0 _ _) ?_
      walk_at "wq"
      refine lf_ixL e5 (at1 _ _ _) ?_
      walk_at "wq"
      have hun := un2_le { o with cells := cs } [] g4.fc
      obtain ⟨res, o', n, hn, js, kq⟩ := js_all 260101 { o with cells := cs } [(u, v)] [] g4 (by intro p hp; rw [List.mem_singleton.mp hp]; exact ⟨vu, vv, nu, nv⟩) (by simp; omega) (by show o.noted.length + _ ≤ _; omega)
      refine (r_join r5 hN gu gv js (by omega)).mono ?_
      rintro _ h6 ⟨rfl, r6, f6⟩
      have hs := js.sl
      have hkc := kq.c
      have hkf : fc o'.cells = fc cs := by
        have e1 : (fns o').length = fc o'.cells := fns_fc o'.cells
        have e2 : (fns { o with cells := cs }).length = fc cs := fns_fc cs
        rw [← e1, ← e2, kq.f]
      have hkn := kq.n
      refine ⟨o', nms', many, _, _, _, rfl, ⟨r6, kq.g, f6.get n5 (by simp; omega), fun p hp => ?_, by rw [hkc]; exact bg.l, by rw [hkc]; show cs.length ≤ _; omega, by omega, by simp at hkn; omega, by omega, by rw [hs.l]; show o.slots.length ≤ _; omega, fun i => by rw [hs.s]; exact hsl4 i, w5.fx f6 (by simp; omega)⟩, (x1.mono (by simp)).trans ((f5.mono (by simp)).trans (f6.mono (by simp))), Nat.le_refl _, fun K m new hm r => ?_⟩
      · obtain ⟨i, e1, z, e2, e3, e4, _⟩ := bg.nn p hp
        have hnf : Nf { o with cells := cs } (.ref (.h i)) := ⟨rfl, (fun a ea => by cases ea; show isFn (cs[i]?) = false; rw [e2]; exact e4), by intro z; cases z⟩
        have hb := (kq.w _ hnf).b _ rfl
        have hi : i < o'.cells.length := by rw [hkc]; exact (List.getElem?_eq_some_iff.mp e2).1
        refine ⟨i, _, e1, List.getElem?_eq_getElem hi, ?_⟩
        have hb' : isFn (o'.cells[i]?) = false := hb
        rwa [List.getElem?_eq_getElem hi] at hb'
      · exact js.rel _ (r.build hpre hle)
    have w4' := w4.le (show N + 300 ≤ N + 900 - 300 * 2 by omega)
    by_cases b0 : 0 < many ∧ way = 2
    · refine br_t (decide_eq_true (by omega)) ?_
      walk_at "wq"
      refine br_t (decide_eq_true b0.2) ?_
      walk_at "wq"
      refine ev_setL ?_
      walk_at "wq"
      refine (r_draw (k := N + 299) (many := (many : Nat)) (w4'.le (by omega)) (by omega) (by have := Nat.log2_le_self ((many : Nat) : Int).natAbs; omega)).mono ?_
      rintro _ h5 ⟨k, rfl, k0, k1, f5, w5⟩
      have f5x := fx_w f5
      obtain ⟨k', rfl⟩ : ∃ k' : Nat, k = k' := ⟨k.toNat, by omega⟩
      have e5 := f5x.get e4 (by simp; omega)
      walk_at "wq"
      refine ⟨h1.length, _, 1, 1, rfl, e5, rfl, rfl, ?_⟩
      refine sq_nx ?_
      have hk : (lk { o with cells := cs } (.s k')).isSome = true := (hsl4 k').mpr (by omega)
      refine goOn (.ref (.s k')) _ _ hk ⟨rfl, (fun a e => by cases e; exact g4.sf k'), by intro z; cases z⟩ rfl ((r4.mv f5x (by simp; omega) (by simp; omega) (by simp; omega) (by simp; omega)).mv (Fx.set (S := [h1.length]) (by simp) _) (by simp; omega) (by simp; omega) (by simp; omega) (by simp; omega)) ?_ ?_ ((x4.trans (f5x.mono (by simp))).setN (Nat.le_refl _) _) ((w5.ne (by omega) _).le (by omega))
      · rw [get_ne (by omega)]; exact f5x.get bg.n (by simp; omega)
      · rw [get_set e5]; rfl
    · have last := goOn v h4 p7 vv nv gv r4 bg.n e4 x4 (w4'.le (by omega))
      by_cases b1 : 0 < many
      · have hw2 : ¬ way = 2 := fun z => b0 ⟨b1, z⟩
        refine br_t (decide_eq_true (by omega)) ?_
        walk_at "wq"
        refine br_f (decide_eq_false hw2) ?_
        walk_at "wq"
        refine sq_nx ?_
        exact last
      · refine br_f (decide_eq_false (by omega)) ?_
        walk_at "wq"
        refine sq_nx ?_
        exact last
end


theorem Fx.base {S : List Nat} {h g h' : Hd} (a : Fx [] h g) (b : Fx S g h') (hs : ∀ i ∈ S, h.length ≤ i) : Fx [] h h' := ⟨Nat.le_trans a.1 b.1, fun i hi _ => by
  rw [b.2 i (Nat.lt_of_lt_of_le hi a.1) fun z => by have := hs i z; omega]
  exact a.2 i hi (by simp)⟩
theorem gd_same {o : Sto} (g : Gd o) (a b : Nat) : Gd { o with lo1 := a, lo2 := b } := by
  have l : ∀ d, lk { o with lo1 := a, lo2 := b } d = lk o d := fun d => by cases d <;> rfl
  have u : ∀ d z, lk o d = some z → lk { o with lo1 := a, lo2 := b } d = some z := fun d z e => by rw [l]; exact e
  have vu : ∀ x, VC o x ↔ VC { o with lo1 := a, lo2 := b } x := by
    intro x
    cases x with
    | ref d => show (lk o d).isSome = true ↔ (lk _ d).isSome = true; rw [l]
    | str n => exact Iff.rfl
    | _ => exact Iff.rfl
  refine ⟨fun d x e => (vu x).mp (g.vc d x (by rw [← l]; exact e)), fun d b' e => g.od d b' (by rw [← l]; exact e), fun x v => ?_, fun n hn => g.sl n hn, g.fc, g.sz, g.ss, fun d b' e => by rw [l] at e ⊢; exact g.nr d b' e, fun p f k e j j1 j2 => g.nk p f k e j j1 j2, fun p f k e => g.cp p f k e, fun d e => g.nn d (by rw [← l]; exact e), fun n => g.sf n⟩
  obtain ⟨n, f⟩ := g.fin x ((vu x).mpr v)
  exact ⟨n, fin_up u f⟩
theorem WS.le {CA : Str → Addr} {o : Sto} {s c sl nt nm w : Nat} {nms : List (Nat × Cl)} {many t t' : Nat} {h : Hd} {N N' : Nat} (x : WS CA o s c sl nt nm w nms many t h N) (ht : t ≤ t') (hN : N' ≤ N) : WS CA o s c sl nt nm w nms many t' h N' := by
  have h1 := x.cl
  have h2 := x.fb
  have h3 := x.nb
  have h4 := x.mb
  have h5 := x.ss
  exact ⟨x.r, x.g, x.n, x.nn, x.nl, by omega, by omega, by omega, by omega, by omega, x.sl, x.w.le hN⟩
theorem WS.fx {CA : Str → Addr} {o : Sto} {s c sl nt nm w : Nat} {nms : List (Nat × Cl)} {many t : Nat} {h h' : Hd} {N : Nat} {S : List Nat} (x : WS CA o s c sl nt nm w nms many t h N) (f : Fx S h h') (hs : ∀ i ∈ S, i ≠ s ∧ i ≠ c ∧ i ≠ sl ∧ i ≠ nt ∧ i ≠ nm ∧ i ≠ w) : WS CA o s c sl nt nm w nms many t h' N :=
  ⟨x.r.mv f (fun z => (hs _ z).1 rfl) (fun z => (hs _ z).2.1 rfl) (fun z => (hs _ z).2.2.1 rfl) (fun z => (hs _ z).2.2.2.1 rfl), x.g, f.get x.n (fun z => (hs _ z).2.2.2.2.1 rfl), x.nn, x.nl, x.cl, x.fb, x.nb, x.mb, x.ss, x.sl, x.w.fx f (fun z => (hs _ z).2.2.2.2.2 rfl)⟩
section
variable {NF RD : Nat} {CA : Str → Addr} {o : Sto} {s c sl nt nm w kp : Nat} {h : Hd} {nms : List (Nat × Cl)} {many t : Nat}
theorem r_work {N : Nat} (hN : 10000000 ≤ NF) (hR : 3 ≤ RD) (x : WS CA o s c sl nt nm w nms many t h (N + 6000)) (ht : t ≤ 15) (d : Dis s c sl nt nm w) :
    Ev (m__law_work NF RD CA [.at w, .at s, .at nm, .int many] h) fun r h' => ∃ o' nms' many', r = .int (many' : Nat) ∧ WS CA o' s c sl nt nm w nms' many' (t + 5) h' N ∧ Fx [c, sl, nt, nm, w] h h' ∧ many ≤ many' ∧ Evo many o o' := by
  have hLN := LN_eq
  obtain ⟨db1, db2, db3, db4, db5⟩ := d.b
  obtain ⟨da1, da2, da3, da4⟩ := d.a
  unfold m__law_work
  walk_at "wq"
  refine (r_draw (k := N + 5999) (x.w.le (by omega)) (by decide) (by decide)).mono ?_
  rintro _ h1 ⟨v, rfl, v0, v1, f1, wl1⟩
  have x1 := fx_w f1
  obtain ⟨v', rfl⟩ : ∃ v' : Nat, v = v' := ⟨v.toNat, by omega⟩
  walk_at "wq"
  refine ⟨_, rfl, ⟨by omega, by omega⟩, ?_⟩
  rw [show ((1 : Int) + (v' : Int)).toNat = v' + 1 by omega]
  unfold rngD
  refine ev_for (xs := (List.range (v' + 1)).map fun (i : Nat) => D.int (0 + (i : Nat))) (fun as sg h' => ∃ o' nms' many' p4 p5 p6 p7, sg = [some (.at w), some (.at s), some (.at nm), some (.int (many' : Nat)), p4, p5, p6, p7] ∧ WS CA o' s c sl nt nm w nms' many' (t + as.length) h' (N + 1000 * (5 - as.length)) ∧ Fx [c, sl, nt, nm, w] h h' ∧ many ≤ many' ∧ Evo many o o') ⟨o, nms, many, _, _, _, _, rfl, ?_, x1.mono (by simp), Nat.le_refl _, .refl _ _⟩ (by simp; omega) (fun _ _ _ _ => yl_fix) ?_ ?_
  · exact ⟨x.r.mv x1 (by simp; omega) (by simp; omega) (by simp; omega) (by simp; omega), x.g, x1.get x.n (by simp; omega), x.nn, x.nl, x.cl, x.fb, x.nb, x.mb, x.ss, x.sl, wl1.le (by simp)⟩
  · rintro as z bs sg hD ez ⟨oD, nmsD, manyD, q4, q5, q6, q7, rfl, xD, fD, mD, eD⟩
    have hlz : as.length < v' + 1 := by
      have := congrArg List.length ez
      simp at this
      omega
    walk_at "wq"
    refine (b_turn (N := N + 1000 * (4 - as.length)) hN hR (xD.le (Nat.le_refl _) (by omega)) (by omega) d).mono ?_
    rintro _ hE ⟨oE, nmsE, manyE, r5, r6, r7, rfl, xE, fE, mE, eE⟩
    refine lp_nx ⟨oE, nmsE, manyE, _, _, _, _, rfl, ?_, fD.trans fE, by omega, eD.trans eE mD⟩
    rw [List.length_append, List.length_singleton]
    exact xE.le (by omega) (by omega)
  · rintro sg hD ⟨oD, nmsD, manyD, q4, q5, q6, q7, rfl, xD, fD, mD, eD⟩
    refine sq_nx ?_
    walk_at "wq"
    exact ⟨oD, nmsD, manyD, rfl, xD.le (by simp; omega) (by omega), fD, mD, eD⟩
theorem r_slots (r : SR CA o s c sl nt h) {m : Nat} (hm : m ≤ 1000) (hN : 10000000 ≤ NF) (hs : ∀ i, i < m → (lk o (.s i)).isSome = true) :
    Ev (m__law_slots NF RD CA [.at s, .int m] h) fun d h' => ∃ (a : Nat) (L : List Cl), d = .at a ∧ h.length ≤ a ∧ h'[a]? = some (.lst (L.map eC)) ∧ L.length = m ∧ (∀ i : Nat, i < m → L[i]? = lk o (.s i)) ∧ Pre h h' := by
  have hLN := LN_eq
  unfold m__law_slots
  walk_at "wq"
  refine ev_lc ?_
  walk_at "wq"
  refine ⟨_, rfl, ⟨by omega, by omega⟩, ?_⟩
  rw [show ((m : Nat) : Int).toNat = m by omega]
  unfold rngD
  refine ⟨_, fun as ys h4 => ∃ L : List Cl, ys = L.map eC ∧ L.length = as.length ∧ (∀ i : Nat, i < as.length → L[i]? = lk o (.s i)) ∧ Pre h h4, ?_, ?_, ⟨[], rfl, rfl, by simp, Pre.app _ _⟩, fun _ _ _ _ _ => yl_fix, ?_, ?_⟩
  · simp; omega
  · simp; omega
  · rintro as z bs ys h4 ez ⟨L, rfl, hl, hL, p4⟩ e4
    have hlz : as.length < m := by
      have := congrArg List.length ez
      simp at this
      omega
    obtain rfl : z = .int (as.length : Nat) := by
      have := congrArg (fun l => l[as.length]?) ez
      simp [hlz] at this
      exact this.symm
    have r4 := r.pre p4
    have os4 := r4.os
    obtain ⟨y, ey⟩ := Option.isSome_iff_exists.mp (hs as.length hlz)
    walk_at "wq"
    unfold E__law_slots_0
    walk_at "wq"
    refine ev_eq (r_at (a := .s as.length) r4 ey) ?_
    walk_at "wq"
    refine ⟨e4, L ++ [y], by simp, by simp [hl], fun i hi => ?_, p4.set (Nat.le_refl _) _⟩
    rw [List.length_append, List.length_singleton] at hi
    by_cases q : i = as.length
    · subst q
      rw [List.getElem?_append_right (by omega), hl, Nat.sub_self, ey]; rfl
    · rw [List.getElem?_append_left (by omega)]
      exact hL i (by omega)
  · rintro zs h4 e4 ⟨L, rfl, hl, hL, p4⟩
    have hh : ((List.range m).map fun (i : Nat) => D.int (0 + (i : Nat))).length = m := by simp
    rw [hh] at hl hL
    walk_at "wq"
    exact ⟨h.length, L, rfl, Nat.le_refl _, e4, hl, hL, p4⟩
/-! ### what is kept -/
def Kept (K : Sto) (m B : Nat) (x : D) (h : Hd) : Prop := ∃ (a1 a2 a3 : Nat) (L : List Cl), x = .tup [.at a1, .at a2, .at a3] ∧ (B ≤ a1 ∧ B ≤ a2 ∧ B ≤ a3) ∧ h[a1]? = some (.lst (K.cells.map eC)) ∧ h[a2]? = some (.lst (L.map eC)) ∧ h[a3]? = some (.lst (K.noted.map eA)) ∧ L.length = m ∧ (∀ i : Nat, i < m → L[i]? = lk K (.s i)) ∧ (∀ i, i < m → (lk K (.s i)).isSome = true) ∧ m ≤ 1000
theorem Kept.fx {K : Sto} {m B : Nat} {x : D} {h h' : Hd} {S : List Nat} (k : Kept K m B x h) (f : Fx S h h') (hs : ∀ i ∈ S, i < B) : Kept K m B x h' := by
  obtain ⟨a1, a2, a3, L, e, ⟨b1, b2, b3⟩, e1, e2, e3, q⟩ := k
  exact ⟨a1, a2, a3, L, e, ⟨b1, b2, b3⟩, f.get e1 (fun z => by have := hs _ z; omega), f.get e2 (fun z => by have := hs _ z; omega), f.get e3 (fun z => by have := hs _ z; omega), q⟩
def KL (B : Nat) (h : Hd) : List (Sto × Nat) → List D → Prop
  | [], xs => xs = []
  | (K, m) :: ks, xs => ∃ ys x, xs = ys ++ [x] ∧ Kept K m B x h ∧ KL B h ks ys
theorem KL.fx {B : Nat} {h h' : Hd} {S : List Nat} (f : Fx S h h') (hs : ∀ i ∈ S, i < B) : ∀ {ks : List (Sto × Nat)} {xs : List D}, KL B h ks xs → KL B h' ks xs
  | [], _, k => k
  | (K, m) :: ks, xs, ⟨ys, x, e, k, r⟩ => ⟨ys, x, e, k.fx f hs, KL.fx f hs r⟩
structure Lay (s c sl nt nm w kp B : Nat) : Prop where
  d : w < s ∧ c = s + 1 ∧ sl = s + 2 ∧ nt = s + 3 ∧ nt < nm ∧ kp = nm + 1 ∧ kp < B
theorem Lay.dis {B : Nat} (l : Lay s c sl nt nm w kp B) : Dis s c sl nt nm w := by
  obtain ⟨h1, h2, h3, h4, h5, h6, h7⟩ := l.d
  exact ⟨by omega, by omega⟩
theorem b_keep {N B : Nat} {ks : List (Sto × Nat)} {xs : List D} {p0 p1 p7 p8 p9 p10 : Option D} (hN : 10000000 ≤ NF) (hR : 3 ≤ RD) (x : WS CA o s c sl nt nm w nms many t h (N + 6000)) (ht : t ≤ 15) (l : Lay s c sl nt nm w kp B) (hB : B ≤ h.length)
    (hk : h[kp]? = some (.lst xs)) (hxs : xs.length ≤ 10) (kl : KL B h ks xs) (ch : Chain ks o) (hm : ∀ p ∈ ks.head?, p.2 ≤ many) :
    Ev (B_law_1 NF RD CA [p0, p1, some (.at w), some (.at s), some (.at nm), some (.at kp), some (.int (many : Nat)), p7, p8, p9, p10] h) fun f h' => ∃ o' nms' many' K x', f = .nx [p0, p1, some (.at w), some (.at s), some (.at nm), some (.at kp), some (.int (many' : Nat)), p7, p8, p9, p10] ∧ WS CA o' s c sl nt nm w nms' many' (t + 5) h' N ∧ h'[kp]? = some (.lst (xs ++ [x'])) ∧ KL B h' ((K, many') :: ks) (xs ++ [x']) ∧ Chain ((K, many') :: ks) o' ∧ Fx [s, c, sl, nt, nm, w, kp] h h' := by
  have hLN := LN_eq
  obtain ⟨l1, l2, l3, l4, l5, l6, l7⟩ := l.d
  unfold B_law_1
  walk_at "wq"
  refine (r_work hN hR x ht l.dis).mono ?_
  rintro _ h1 ⟨K, nms', many', rfl, x1, f1, hmm, ev⟩
  have hk1 := f1.get hk (by simp; omega)
  have kl1 := kl.fx f1 (by intro i hi; simp at hi; omega)
  have ch1 := ch.evo ev hm
  have os1 := x1.r.os
  have hB1 : B ≤ h1.length := Nat.le_trans hB f1.1
  walk_at "wq"
  refine sq_nx ?_
  walk_at "wq"
  refine ev_eq (r_heap x1.r) ?_
  have pa := Pre.app h1 [O.lst (K.cells.map eC)]
  have ea := get_new h1 (O.lst (K.cells.map eC))
  have xa := x1.fx (S := []) (Fx.pre pa) (by simp)
  generalize hq : h1 ++ [O.lst (K.cells.map eC)] = h2 at pa ea xa
  have os2 := xa.r.os
  walk_at "wq"
  refine (r_slots xa.r (m := many') (by have := x1.mb; omega) hN fun i hi => (xa.sl i).mpr hi).mono ?_
  rintro _ h3 ⟨a2, L, rfl, ha2, e2, hL1, hL2, p3⟩
  have x3 := xa.fx (S := []) (Fx.pre p3) (by simp)
  have os3 := x3.r.os
  walk_at "wq"
  refine ev_eq (r_trail x3.r) ?_
  have p4 := Pre.app h3 [O.lst (K.noted.map eA)]
  have e4 := get_new h3 (O.lst (K.noted.map eA))
  have x4 := x3.fx (S := []) (Fx.pre p4) (by simp)
  have pall := (pa.trans p3).trans p4
  have ea4 := (p3.trans p4).get ea
  have e24 := p4.get e2
  have hk4 := pall.get hk1
  have hl12 := pa.len
  have hl23 := p3.len
  generalize hq2 : h3 ++ [O.lst (K.noted.map eA)] = h4 at p4 e4 x4 pall ea4 e24 hk4
  walk_at "wq"
  refine lf_append hk4 (by omega) ?_
  walk_at "wq"
  refine sq_nx ?_
  have f5 : Fx [kp] h4 (h4.set kp (.lst (xs ++ [.tup [.at h1.length, .at a2, .at h3.length]]))) := Fx.set (by simp) _
  have hk5 := get_set (p := O.lst (xs ++ [.tup [.at h1.length, .at a2, .at h3.length]])) hk4
  have x5 := x4.fx f5 (by intro i hi; simp at hi; omega)
  have kl5 : KL B (h4.set kp (.lst (xs ++ [.tup [.at h1.length, .at a2, .at h3.length]]))) ((K, many') :: ks) (xs ++ [.tup [.at h1.length, .at a2, .at h3.length]]) :=
    ⟨xs, _, rfl, Kept.fx ⟨h1.length, a2, h3.length, L, rfl, ⟨by omega, by omega, by omega⟩, ea4, e24, e4, hL1, hL2, fun i hi => (x1.sl i).mpr hi, by have := x1.mb; omega⟩ f5 (by intro i hi; simp at hi; omega), (kl1.fx (Fx.pre (S := []) pall) (by simp)).fx f5 (by intro i hi; simp at hi; omega)⟩
  generalize h4.set kp (.lst (xs ++ [.tup [.at h1.length, .at a2, .at h3.length]])) = h5 at f5 hk5 x5 kl5
  have os5 := x5.r.os
  walk_at "wq"
  refine ev_eq (r_size (o := K) (cs := K.cells) x5.r) ?_
  walk_at "wq"
  refine (r_marks x5.r K.cells.length many').mono ?_
  rintro _ h6 ⟨rfl, r6, f6⟩
  walk_at "wq"
  have hs5 := x5.mb
  refine ⟨_, nms', many', K, _, rfl, ⟨r6, gd_same x5.g _ _, f6.get x5.n (by simp; omega), x5.nn, x5.nl, x5.cl, x5.fb, x5.nb, x5.mb, x5.ss, x5.sl, x5.w.fx f6 (by simp; omega)⟩, f6.get hk5 (by simp; omega), kl5.fx f6 (by intro i hi; simp at hi; omega), ch1.mark (fun p hp => by have := hm p hp; omega) (fun i hi => (x1.sl i).mpr hi), ?_⟩
  exact (f1.mono (by simp)).trans ((Fx.pre pall).trans ((f5.mono (by simp)).trans (f6.mono (by simp))))
end


theorem dat_LP {h : Hd} {n : Nat} {ws : List D} (e : h[n]? = some (.lst ws)) (p : plDs ws = true) : datD h (.at n) = some (.list (pds ws)) := by
  unfold datD
  rw [toP, rP, e]
  simp only [(dats_pl (r := rP 2 h) ws p).1]
theorem lf_neB {a b : Bool} {h : Hd} {Q : D → Hd → Prop} (q : Q (.bl (!decide (a = b))) h) : Ev (neD (.bl a) (.bl b) h) Q := by
  refine ⟨_, _, ?_, q⟩
  unfold neD datD
  simp only [toP]
  rw [if_pos ⟨by simp [PyData.canLay0], by simp [PyData.canLay0], by simp [PyData.depth]⟩]
  cases a <;> cases b <;> simp [PyData.eqv]
theorem ne_same {h : Hd} {n m : Nat} {ws : List D} {Q : D → Hd → Prop} (e1 : h[n]? = some (.lst ws)) (e2 : h[m]? = some (.lst ws)) (p : plDs ws = true) (dd : PyData.depthAll (pds ws) ≤ 60) (q : Q (.bl false) h) : Ev (neD (.at n) (.at m) h) Q := by
  refine ⟨_, _, ?_, q⟩
  unfold neD
  rw [dat_LP e1 p, dat_LP e2 p]
  simp only
  rw [if_pos ⟨by rw [PyData.canLay0]; exact (dats_pl (r := fun _ => none) _ p).2, by rw [PyData.canLay0]; exact (dats_pl (r := fun _ => none) _ p).2, by
    simp only [PyData.depth]
    omega⟩]
  have : (PyData.list (pds ws)).eqv (.list (pds ws)) = true := by
    rw [PyData.eqv]
    exact (eqv_pls ws ws p p).mpr rfl
  rw [this]
  rfl
theorem plCs : ∀ {cs : List Cl}, (∀ x ∈ cs, okC x = true) → plDs (cs.map eC) = true
  | [], _ => rfl
  | c :: cs, h => by simp only [List.map_cons, plDs, (pl_C (h c (by simp))).p, plCs (cs := cs) fun q hq => h q (by simp [hq]), Bool.and_self]
theorem plAs : ∀ {cs : List Ad}, plDs (cs.map eA) = true
  | [] => rfl
  | c :: cs => by simp only [List.map_cons, plDs, (pl_A c).p, plAs (cs := cs), Bool.and_self]
theorem dpC (c : Cl) : (pd (eC c)).depth ≤ 40 := by
  cases c with
  | ref a => cases a <;> simp [eC, eA, pd, pds, PyData.depth, PyData.depthAll]
  | _ => simp [eC, eA, pd, pds, PyData.depth, PyData.depthAll]
theorem dpCs : ∀ cs : List Cl, PyData.depthAll (pds (cs.map eC)) ≤ 60
  | [] => by simp [pds, PyData.depthAll]
  | c :: cs => by
    have h1 := dpC c
    have h2 := dpCs cs
    simp only [List.map_cons, pds, PyData.depthAll]
    omega
theorem dpAs : ∀ cs : List Ad, PyData.depthAll (pds (cs.map eA)) ≤ 60
  | [] => by simp [pds, PyData.depthAll]
  | c :: cs => by
    have h1 : (pd (eA c)).depth ≤ 40 := by cases c <;> simp [eA, pd, pds, PyData.depth, PyData.depthAll]
    have h2 := dpAs cs
    simp only [List.map_cons, pds, PyData.depthAll]
    omega
theorem Chain.rel {K o : Sto} {m : Nat} {ks : List (Sto × Nat)} (c : Chain ((K, m) :: ks) o) : ∃ new, Rel K m o new := by
  cases c with
  | one r => exact ⟨_, r⟩
  | cons r _ _ => exact ⟨_, r⟩
structure Bd (o : Sto) : Prop where
  n : o.noted.length ≤ 6000000
  s : o.slots.length ≤ 30
  c : o.cells.length ≤ 2000
theorem KL.last {B : Nat} {h : Hd} {ks : List (Sto × Nat)} {xs : List D} {n : Nat} (k : KL B h ks (xs.take (n + 1))) (hn : n < xs.length) : ∃ K m ks' x, ks = (K, m) :: ks' ∧ xs[n]? = some x ∧ Kept K m B x h ∧ KL B h ks' (xs.take n) := by
  cases ks with
  | nil =>
    have : xs.take (n + 1) = [] := k
    have := congrArg List.length this
    simp at this
    subst this
    simp at hn
  | cons p ks =>
    obtain ⟨K, m⟩ := p
    obtain ⟨ys, x, e, k1, k2⟩ := k
    rw [List.take_succ_eq_append_getElem hn] at e
    obtain ⟨e1, e2⟩ := List.append_inj' e rfl
    refine ⟨K, m, ks, x, rfl, ?_, k1, by rw [e1]; exact k2⟩
    rw [List.getElem?_eq_getElem hn]
    simpa using e2
section
variable {NF RD : Nat} {CA : Str → Addr} {o : Sto} {s c sl nt nm w kp : Nat} {h : Hd}
theorem b_back {j B : Nat} {ks : List (Sto × Nat)} {xs : List D} {p0 p1 p6 p8 p9 p10 : Option D} (hN : 10000000 ≤ NF) (hj : j < 3) (r : SR CA o s c sl nt h) (bd : Bd o) (l : Lay s c sl nt nm w kp B) (hB : B ≤ h.length)
    (hk : h[kp]? = some (.lst xs)) (hxl : xs.length = 3) (kl : KL B h ks (xs.take (3 - j))) (ch : Chain ks o) :
    Ev (B_law_0 NF RD CA [p0, p1, some (.at w), some (.at s), some (.at nm), some (.at kp), p6, some (.int (j : Nat)), p8, p9, p10] h) fun f h' => ∃ o' ks' q8 q9 q10, f = .nx [p0, p1, some (.at w), some (.at s), some (.at nm), some (.at kp), p6, some (.int (j : Nat)), q8, q9, q10] ∧ SR CA o' s c sl nt h' ∧ Bd o' ∧ h'[kp]? = some (.lst xs) ∧ KL B h' ks' (xs.take (3 - (j + 1))) ∧ Chain ks' o' ∧ Fx [s, c, sl, nt] h h' := by
  have hLN := LN_eq
  obtain ⟨l1, l2, l3, l4, l5, l6, l7⟩ := l.d
  rw [show 3 - j = (2 - j) + 1 by omega] at kl
  obtain ⟨K, m, ks', x, rfl, ex, kx, kl'⟩ := kl.last (by omega)
  obtain ⟨a1, a2, a3, L, rfl, ⟨b1, b2, b3⟩, e1, e2, e3, hL, hL2, hL3, hm⟩ := kx
  obtain ⟨new, rl⟩ := ch.rel
  have hb := bd.n
  have hbs := bd.s
  have hbc := bd.c
  have os := r.os
  unfold B_law_0
  walk_at "wq"
  refine lf_ixL hk (d := .tup [.at a1, .at a2, .at a3]) ?_ ?_
  · rw [show (2 : Int) - (j : Int) = ((2 - j : Nat) : Int) by omega]
    exact atI_n ex
  walk_at "wq"
  refine sq_nx ?_
  walk_at "wq"
  rw [List.length_map, List.length_map]
  refine (undone r rl (by omega) (by omega)).mono ?_
  rintro _ h1 ⟨rfl, o1, r1, f1, u1, s1⟩
  have f1s : ∀ i, B ≤ i → i ∉ [c, sl, nt] := fun i hi => by simp; omega
  have e11 := f1.get e1 (f1s _ b1)
  have e21 := f1.get e2 (f1s _ b2)
  have e31 := f1.get e3 (f1s _ b3)
  have hk1 := f1.get hk (by simp; omega)
  have kl1 := kl'.fx f1 (by intro i hi; simp at hi; omega)
  have os1 := r1.os
  have hl1 := f1.1
  refine sq_nx ?_
  walk_at "wq"
  refine ev_eq (r_heap r1) ?_
  have pa := Pre.app h1 [O.lst (o1.cells.map eC)]
  have ea := get_new h1 (O.lst (o1.cells.map eC))
  have r2 := r1.pre pa
  have e12 := pa.get e11
  have e22 := pa.get e21
  have e32 := pa.get e31
  generalize h1 ++ [O.lst (o1.cells.map eC)] = h2 at pa ea r2 e12 e22 e32
  have os2 := r2.os
  walk_at "wq"
  rw [u1.c] at ea
  refine ne_same ea e12 (plCs (by rw [← u1.c]; exact r1.okc)) (dpCs _) ?_
  walk_at "wq"
  rw [List.length_map, hL]
  refine (r_slots r2 (m := m) hm hN fun i hi => by rw [u1.s i hi]; exact hL3 i hi).mono ?_
  rintro _ h3 ⟨a4, L', rfl, ha4, e4, hL', hL2', p3⟩
  obtain rfl : L' = L := by
    apply List.ext_getElem?
    intro i
    by_cases q : i < m
    · rw [hL2' i q, hL2 i q, u1.s i q]
    · rw [List.getElem?_eq_none (by omega), List.getElem?_eq_none (by omega)]
  have r3 := r2.pre p3
  have e13 := p3.get e12
  have e23 := p3.get e22
  have e33 := p3.get e32
  have os3 := r3.os
  have hokL : ∀ x ∈ L', okC x = true := by
    intro x hx
    obtain ⟨i, ei⟩ := List.mem_iff_getElem?.mp hx
    have hi := (List.getElem?_eq_some_iff.mp ei).1
    have := hL2' i (by omega)
    rw [ei] at this
    exact r2.ok this.symm
  walk_at "wq"
  refine ne_same e4 e23 (plCs hokL) (dpCs _) ?_
  walk_at "wq"
  refine ev_eq (r_trail r3) ?_
  have p4 := Pre.app h3 [O.lst (o1.noted.map eA)]
  have e5 := get_new h3 (O.lst (o1.noted.map eA))
  have r4 := r3.pre p4
  have e14 := p4.get e13
  have e34 := p4.get e33
  have pall := (pa.trans p3).trans p4
  have hk4 := pall.get hk1
  generalize h3 ++ [O.lst (o1.noted.map eA)] = h4 at p4 e5 r4 e14 e34 pall hk4
  have os4 := r4.os
  walk_at "wq"
  rw [u1.n] at e5
  refine ne_same e5 e34 plAs (dpAs _) ?_
  walk_at "wq"
  refine sq_nx ?_
  walk_at "wq"
  refine ev_eq (r_size (o := o1) (cs := o1.cells) r4) ?_
  walk_at "wq"
  rw [List.length_map, u1.c]
  refine br_f (by simp) ?_
  walk_at "wq"
  have hKc := rl.c
  refine (r_new r4 (by rw [u1.c]; omega)).mono ?_
  rintro _ h5 ⟨rfl, r5, f5⟩
  have f5s : ∀ i, B ≤ i → i ∉ [c] := fun i hi => by simp; omega
  have e15 := f5.get e14 (f5s _ b1)
  have e35 := f5.get e34 (f5s _ b3)
  have hk5 := f5.get hk4 (by simp; omega)
  have os5 := r5.os
  walk_at "wq"
  rw [List.length_map, u1.c]
  have hsm : (neD (eA (.h K.cells.length)) (D.tup [.str "h", .int (K.cells.length : Nat)]) h5) = some (.bl false, h5) := by
    have := @ne_pl (eA (.h K.cells.length)) (eA (.h K.cells.length)) h5 (pl_A _) (pl_A _) (isTrue rfl)
    exact this
  refine ev_eq hsm ?_
  walk_at "wq"
  walk_at "wq"
  refine sq_nx ?_
  walk_at "wq"
  rw [List.length_map, List.length_map]
  refine (r_undo (N := K.noted) (new := []) r5 (by show o1.noted = _; rw [u1.n]; simp) (by simp) (by show _ ≤ (o1.cells ++ [_]).length; rw [u1.c]; simp) (by simp; omega) (by show o1.slots.length < _; omega)).mono ?_
  rintro _ h6 ⟨rfl, o3, r6, f6, n6, c6, s6, k6, k6'⟩
  have hu : UD K m o3 := by
    refine ⟨?_, n6, fun i hi => ?_⟩
    · apply List.ext_getElem?
      intro i
      by_cases q : i < K.cells.length
      · rw [k6 i q, if_neg (by simp)]
        show (o1.cells ++ [_])[i]? = _
        rw [u1.c, List.getElem?_append_left q]
      · rw [List.getElem?_eq_none (by omega), List.getElem?_eq_none (by omega)]
    · rw [k6' i, if_neg (by simp)]
      exact u1.s i hi
  have hKn : K.noted.length ≤ o.noted.length := by rw [rl.n]; simp
  have bd3 : Bd o3 := ⟨by rw [n6]; omega, by rw [s6]; show o1.slots.length ≤ _; omega, by rw [c6]; omega⟩
  have fall : Fx [s, c, sl, nt] h h6 := (f1.mono (by simp)).trans ((Fx.pre pall).trans ((f5.mono (by simp)).trans (f6.mono (by simp))))
  have kl6 := kl'.fx fall (by intro i hi; simp at hi; omega)
  have hk6 := fall.get hk (by simp; omega)
  have os6 := r6.os
  refine sq_nx ?_
  walk_at "wq"
  by_cases hj2 : j < 2
  · refine br_t (decide_eq_true (by omega)) ?_
    rw [show 2 - j = (1 - j) + 1 by omega] at kl6
    obtain ⟨K', m', ks'', x', rfl, ex', kx', kl''⟩ := kl6.last (by omega)
    obtain ⟨a1', a2', a3', L2, rfl, ⟨b1', b2', b3'⟩, e1', e2', e3', hLL, _⟩ := kx'
    walk_at "wq"
    refine lf_ixL hk6 (d := .tup [.at a1', .at a2', .at a3']) ?_ ?_
    · rw [show (1 : Int) - (j : Int) = ((1 - j : Nat) : Int) by omega]
      exact atI_n ex'
    walk_at "wq"
    refine lf_ixL hk6 (d := .tup [.at a1', .at a2', .at a3']) ?_ ?_
    · rw [show (1 : Int) - (j : Int) = ((1 - j : Nat) : Int) by omega]
      exact atI_n ex'
    walk_at "wq"
    rw [List.length_map, List.length_map, hLL]
    refine (r_marks r6 K'.cells.length m').mono ?_
    rintro _ h7 ⟨rfl, r7, f7⟩
    walk_at "wq"
    exact ⟨_, _, _, _, _, rfl, r7, ⟨bd3.n, bd3.s, bd3.c⟩, f7.get hk6 (by simp; omega), by rw [show 3 - (j + 1) = (1 - j) + 1 by omega]; exact KL.fx f7 (by intro i hi; simp at hi; omega) (by rw [show 2 - j = (1 - j) + 1 by omega] at kl'; exact kl'.fx fall (by intro i hi; simp at hi; omega)), ch.back hu, fall.trans (f7.mono (by simp))⟩
  · refine br_f (decide_eq_false (by omega)) ?_
    walk_at "wq"
    have hj3 : j = 2 := by omega
    subst hj3
    have : ks' = [] := by
      cases ks' with
      | nil => rfl
      | cons p ks =>
        obtain ⟨K', m'⟩ := p
        obtain ⟨ys, x, e, _⟩ := kl6
        simp at e
    subst this
    exact ⟨_, [], _, _, _, rfl, r6, bd3, hk6, kl6, .nil, fall⟩
end


section
variable {NF RD : Nat} {CA : Str → Addr} {o : Sto} {s c sl nt : Nat} {h : Hd}
theorem r_bindS (r : SR CA o s c sl nt h) {a : Ad} {x : Cl} (hN : 50 ≤ NF) (e : lk o a = some (.ref a)) (gx : gdC x = true) (hl : o.slots.length < LN) (hl2 : o.noted.length < LN) :
    Ev (m_Store_bind NF RD CA [.at s, eA a, eC x] h) fun d h' => d = .non ∧ SR CA (asg o a x) s c sl nt h' ∧ Fx [c, sl, nt] h h' := by
  have os := r.os
  have ht := thr_of (o := o) (a := a) (by rw [e]; rfl)
  unfold m_Store_bind
  walk_at "wq"
  refine ev_eq (r_check_there r ht) ?_
  walk_at "wq"
  refine sq_nx ?_
  walk_at "wq"
  refine ev_eq (r_look r e) ?_
  walk_at "wq"
  have hsm : (neD (eC (.ref a)) (D.tup [.str "ref", eA a]) h) = some (.bl false, h) := by
    have := @ne_pl (eC (.ref a)) (eC (.ref a)) h (pl_C rfl) (pl_C rfl) (isTrue rfl)
    exact this
  refine ev_eq hsm ?_
  walk_at "wq"
  refine sq_nx ?_
  walk_at "wq"
  refine ev_of (r_check hN gx) fun h1 p1 => ?_
  have r1 := r.pre p1
  have os1 := r1.os
  walk_at "wq"
  refine sq_nx ?_
  walk_at "wq"
  refine (r_assign r1 ht (gd_ok gx) hl hl2).mono ?_
  rintro _ h2 ⟨rfl, r2, f2⟩
  walk_at "wq"
  exact ⟨rfl, r2, (Fx.pre p1).trans f2⟩
theorem r_fill (r : SR CA o s c sl nt h) (k : Nat) {x : Cl} (hN : 50 ≤ NF) (gx : gdC x = true) (hl : o.slots.length < LN) : Ev (m_Store_fill NF RD CA [.at s, .int k, eC x] h) fun d h' => d = .non ∧ SR CA { o with slots := putS o.slots k x } s c sl nt h' ∧ Fx [sl] h h' := by
  unfold m_Store_fill
  walk_at "wq"
  refine ev_eq (r_is_place k h) ?_
  walk_at "wq"
  refine sq_nx ?_
  walk_at "wq"
  refine ev_of (r_check hN gx) fun h1 p1 => ?_
  have r1 := r.pre p1
  have os := r1.os
  obtain ⟨n1, n2, n3, n4, n5⟩ := r1.nes
  walk_at "wq"
  refine sq_nx ?_
  refine ev_setK ?_
  walk_at "wq"
  refine ⟨sl, _, .inl (k : Int), rfl, r1.ol, rfl, by simpa using hl, ?_⟩
  walk_at "wq"
  refine ⟨rfl, ⟨?_, ?_, ?_, ?_, r1.dn, r1.okc, ?_⟩, (Fx.pre p1).trans (Fx.set (by simp) _)⟩
  · rw [get_ne (by omega)]; exact os
  · rw [get_ne (by omega)]; exact r1.oc
  · rw [get_set r1.ol, put_sl]
  · rw [get_ne (by omega)]; exact r1.on
  · intro p hp
    unfold putS at hp
    simp only at hp
    split at hp
    · obtain ⟨p', hp', rfl⟩ := List.mem_map.mp hp
      split
      · exact gd_ok gx
      · exact r1.oks p' hp'
    · rcases List.mem_append.mp hp with q | q
      · exact r1.oks p q
      · rw [List.mem_singleton.mp q]; exact gd_ok gx
theorem heap_ne {Q : D → Hd → Prop} (r : SR CA o s c sl nt h) {m : Nat} {cs : List Cl} (e : h[m]? = some (.lst (cs.map eC))) (hc : o.cells = cs) {n : Nat} (en : h[n]? = some (.lst (o.cells.map eC))) {h0 : Hd} (p : Pre h0 h) (q : ∀ h', Pre h0 h' → Q (.bl false) h') : Ev (neD (.at n) (.at m) h) Q := by
  subst hc
  exact ne_same en e (plCs r.okc) (dpCs _) (q h p)
theorem trail_ne {Q : D → Hd → Prop} {m : Nat} {cs : List Ad} (e : h[m]? = some (.lst (cs.map eA))) {n : Nat} (en : h[n]? = some (.lst (cs.map eA))) {h0 : Hd} (p : Pre h0 h) (q : ∀ h', Pre h0 h' → Q (.bl false) h') : Ev (neD (.at n) (.at m) h) Q := ne_same en e plAs (dpAs _) (q h p)
theorem eq_same {h : Hd} {n m : Nat} {ws : List D} {Q : D → Hd → Prop} (e1 : h[n]? = some (.lst ws)) (e2 : h[m]? = some (.lst ws)) (p : plDs ws = true) (dd : PyData.depthAll (pds ws) ≤ 60) (q : Q (.bl true) h) : Ev (eqD (.at n) (.at m) h) Q := by
  refine ⟨_, _, ?_, q⟩
  unfold eqD
  rw [dat_LP e1 p, dat_LP e2 p]
  simp only
  rw [if_pos ⟨by rw [PyData.canLay0]; exact (dats_pl (r := fun _ => none) _ p).2, by rw [PyData.canLay0]; exact (dats_pl (r := fun _ => none) _ p).2, by
    simp only [PyData.depth]
    omega⟩]
  have : (PyData.list (pds ws)).eqv (.list (pds ws)) = true := by
    rw [PyData.eqv]
    exact (eqv_pls ws ws p p).mpr rfl
  rw [this]
theorem eq_sameP {h : Hd} {n m : Nat} {ws : List D} {Q : D → Hd → Prop} (e1 : h[n]? = some (.lst ws)) (e2 : h[m]? = some (.lst ws)) (p : plDs ws = true) (dd : PyData.depthAll (pds ws) ≤ 60) {h0 : Hd} (pp : Pre h0 h) (q : ∀ h', Pre h0 h' → Q (.bl true) h') : Ev (eqD (.at n) (.at m) h) Q := eq_same e1 e2 p dd (q h pp)
theorem lf_appendP {h h0 : Hd} {n : Nat} {xs : List D} {x : D} {Q : D → Hd → Prop} (e : h[n]? = some (.lst xs)) (l : xs.length < LN) (p : Pre h0 h) (hn : h0.length ≤ n) (q : ∀ h', Pre h0 h' → Q .non h') : Ev (appendD (.at n) [x] h) Q := lf_append e l (q _ (p.set hn _))
theorem one_of {α : Type} {xs : List α} {x : α} (h : xs.length = 1) (e : xs[0]? = some x) : xs = [x] := by
  match xs, h with
  | [y], _ => simp at e; rw [e]
theorem r_init' {Q : Hd → Prop} (q : ∀ h', Pre h h' → SR CA emp h.length (h.length + 1) (h.length + 2) (h.length + 3) h' → Q h') : Ev (m_Store___init__ NF RD CA (.at h.length :: ([] ++ [])) (h ++ [O.ins (CA "Store") []])) fun r h2 => NonK r (Q h2) := by
  unfold m_Store___init__
  walk_at "wp"
  refine sfld_k (hp1 (by simp)) List.mem_cons_self (Nat.le_of_ble_eq_true rfl) ?_
  walk_at "wp"
  refine sfld_k (hp1 (by simp)) List.mem_cons_self (Nat.le_of_ble_eq_true rfl) ?_
  walk_at "wp"
  refine sfld_k (hp2 (by simp)) List.mem_cons_self (Nat.le_of_ble_eq_true rfl) ?_
  walk_at "wp"
  refine q _ ?_ ?_
  · simp [List.set_append, Pre]
  · have : ∀ (a b c d : O), Pre h (h ++ [a, b, c, d]) := fun a b c d => Pre.app _ _
    simp [List.set_append, putFD, n_cells, n_slots, n_noted, n_low]
    refine ⟨?_, ?_, ?_, ?_, by omega, by simp [emp], by simp [emp]⟩
    · simp [emp, n_cells, n_slots, n_noted, n_low]
    · simp [emp, List.getElem?_append]
    · simp [emp, List.getElem?_append]
    · simp [emp, List.getElem?_append]
theorem r_unnoted (hN : 10000000 ≤ NF) : Ev (m__law_unnoted_right NF RD CA [] h) fun d h' => d = .bl true := by
  have hLN := LN_eq
  unfold m__law_unnoted_right
  walk_at "wq"
  refine r_init' fun h1 pr1 r1 => ?_
  have os1 := r1.os
  walk_at "wq"
  refine sq_nx ?_
  walk_at "wq"
  refine (r_new r1 (by decide)).mono ?_
  rintro _ h2 ⟨rfl, r2, f2⟩
  replace r2 : SR CA ⟨[.ref (.h 0)], [], [], 0, 0⟩ _ _ _ _ h2 := r2
  have os2 := r2.os
  walk_at "wq"
  refine (r_new r2 (by decide)).mono ?_
  rintro _ h3 ⟨rfl, r3, f3⟩
  replace r3 : SR CA ⟨[.ref (.h 0), .ref (.h 1)], [], [], 0, 0⟩ _ _ _ _ h3 := r3
  have os3 := r3.os
  walk_at "wq"
  refine sq_nx ?_
  walk_at "wq"
  refine (r_marks r3 9 9).mono ?_
  rintro _ h4 ⟨rfl, r4, f4⟩
  have os4 := r4.os
  refine sq_nx ?_
  walk_at "wq"
  refine (r_free r4 3 (by decide)).mono ?_
  rintro _ h5 ⟨rfl, r5, f5⟩
  replace r5 : SR CA ⟨[.ref (.h 0), .ref (.h 1)], [(3, .ref (.s 3))], [], 9, 9⟩ _ _ _ _ h5 := r5
  have os5 := r5.os
  refine sq_nx ?_
  walk_at "wq"
  refine (r_fill r5 3 (x := .con "a") (by omega) (by decide +kernel) (by decide)).mono ?_
  rintro _ h6 ⟨rfl, r6, f6⟩
  replace r6 : SR CA ⟨[.ref (.h 0), .ref (.h 1)], [(3, .con "a")], [], 9, 9⟩ _ _ _ _ h6 := r6
  have os6 := r6.os
  refine sq_nx ?_
  walk_at "wq"
  refine (r_free r6 3 (by decide)).mono ?_
  rintro _ h7 ⟨rfl, r7, f7⟩
  replace r7 : SR CA ⟨[.ref (.h 0), .ref (.h 1)], [(3, .ref (.s 3))], [], 9, 9⟩ _ _ _ _ h7 := r7
  have os7 := r7.os
  refine sq_nx ?_
  walk_at "wq"
  refine ev_eq (r_trail r7) ?_
  walk_at "wq"
  refine trail_ne (cs := []) (get_new _ _) ((Pre.app _ _).get (get_new _ _)) ((Pre.app _ _).trans (Pre.app _ _)) fun h8 p8 => ?_
  have r8 := r7.pre p8
  have os8 := r8.os
  walk_at "wq"
  refine sq_nx ?_
  walk_at "wq"
  refine (r_bindS r8 (a := .s 3) (x := .ref (.h 0)) (show 50 ≤ NF by omega) rfl rfl (by decide) (by decide)).mono ?_
  rintro _ h9 ⟨rfl, r9, f9⟩
  replace r9 : SR CA ⟨[.ref (.h 0), .ref (.h 1)], [(3, .ref (.h 0))], [.s 3], 9, 9⟩ _ _ _ _ h9 := r9
  have os9 := r9.os
  refine sq_nx ?_
  walk_at "wq"
  refine (r_bindS r9 (a := .h 0) (x := .con "b") (show 50 ≤ NF by omega) rfl (by decide +kernel) (by decide) (by decide)).mono ?_
  rintro _ h10 ⟨rfl, r10, f10⟩
  replace r10 : SR CA ⟨[.con "b", .ref (.h 1)], [(3, .ref (.h 0))], [.s 3, .h 0], 9, 9⟩ _ _ _ _ h10 := r10
  have os10 := r10.os
  refine sq_nx ?_
  walk_at "wq"
  refine ev_eq (r_trail r10) ?_
  walk_at "wq"
  refine trail_ne (cs := [.s 3, .h 0]) (get_new _ _) ((Pre.app _ _).get (get_new _ _)) ((Pre.app _ _).trans (Pre.app _ _)) fun h11 p11 => ?_
  have r11 := r10.pre p11
  have os11 := r11.os
  walk_at "wq"
  refine sq_nx ?_
  walk_at "wq"
  refine (r_undo (N := [.s 3, .h 0]) (new := []) (sz := 1) r11 rfl (by simp) (by decide) (show _ < NF by simp; omega) (by decide)).mono ?_
  rintro _ h12 ⟨rfl, oA, r12, f12, n12, c12, s12, k12, k12'⟩
  have cA : oA.cells = [.con "b"] := one_of c12 (by rw [k12 0 (by decide)]; rfl)
  have lA : lk oA (.s 3) = some (.ref (.h 0)) := by rw [k12' 3]; rfl
  have os12 := r12.os
  refine sq_nx ?_
  walk_at "wq"
  refine ev_eq (r_heap r12) ?_
  walk_at "wq"
  refine heap_ne (cs := [.con "b"]) ((r12.pre (Pre.app _ _)).pre (Pre.app _ _)) (get_new _ _) cA ((Pre.app _ _).get (get_new _ _)) ((Pre.app _ _).trans (Pre.app _ _)) fun h13 p13 => ?_
  have r13 := r12.pre p13
  have os13 := r13.os
  walk_at "wq"
  refine ev_eq (r_trail r13) ?_
  walk_at "wq"
  rw [n12]
  refine trail_ne (cs := [.s 3, .h 0]) (get_new _ _) ((Pre.app _ _).get (get_new _ _)) ((Pre.app _ _).trans (Pre.app _ _)) fun h14 p14 => ?_
  have r14 := r13.pre p14
  have os14 := r14.os
  walk_at "wq"
  refine sq_nx ?_
  walk_at "wq"
  refine (r_undo (N := [.s 3]) (new := [.h 0]) (sz := 1) r14 n12 (by intro a ha; rw [List.mem_singleton.mp ha]; show (oA.cells[0]?).isSome = true; rw [cA]; rfl) (by rw [cA]; decide) (show _ < NF by simp; omega) (by rw [s12]; decide)).mono ?_
  rintro _ h15 ⟨rfl, oB, r15, f15, n15, c15, s15, k15, k15'⟩
  have cB : oB.cells = [.ref (.h 0)] := one_of c15 (by rw [k15 0 (by decide)]; rfl)
  have lB : lk oB (.s 3) = some (.ref (.h 0)) := by rw [k15' 3, if_neg (by simp)]; exact lA
  have sB : oB.slots.length = 1 := by rw [s15, s12]; rfl
  have os15 := r15.os
  refine sq_nx ?_
  walk_at "wq"
  refine ev_eq (r_heap r15) ?_
  walk_at "wq"
  refine heap_ne (cs := [.ref (.h 0)]) ((r15.pre (Pre.app _ _)).pre (Pre.app _ _)) (get_new _ _) cB ((Pre.app _ _).get (get_new _ _)) ((Pre.app _ _).trans (Pre.app _ _)) fun h16 p16 => ?_
  have r16 := r15.pre p16
  have os16 := r16.os
  walk_at "wq"
  refine ev_eq (r_trail r16) ?_
  walk_at "wq"
  rw [n15]
  refine trail_ne (cs := [.s 3]) (get_new _ _) ((Pre.app _ _).get (get_new _ _)) ((Pre.app _ _).trans (Pre.app _ _)) fun h17 p17 => ?_
  have r17 := r16.pre p17
  have os17 := r17.os
  walk_at "wq"
  refine ev_eq (r_at (a := .s 3) r17 lB) ?_
  walk_at "wq"
  have hsm : (neD (eC (.ref (.h 0))) (D.tup [.str "ref", eA (.h 0)]) h17) = some (.bl false, h17) := by
    have := @ne_pl (eC (.ref (.h 0))) (eC (.ref (.h 0))) h17 (pl_C rfl) (pl_C rfl) (isTrue rfl)
    exact this
  refine ev_eq hsm ?_
  walk_at "wq"
  refine sq_nx ?_
  walk_at "wq"
  refine ev_eq (r_heap r17) ?_
  walk_at "wq"
  refine lf_appendP (get_new _ _) (by rw [cB]; decide) (Pre.app _ _) (Nat.le_refl _) fun h18 p18 => ?_
  have r18 := r17.pre p18
  walk_at "wq"
  refine sq_nx ?_
  have os18 := r18.os
  walk_at "wq"
  refine ev_eq (r_trail r18) ?_
  walk_at "wq"
  refine lf_appendP (get_new _ _) (by rw [n15]; decide) (Pre.app _ _) (Nat.le_refl _) fun h19 p19 => ?_
  have r19 := r18.pre p19
  walk_at "wq"
  refine sq_nx ?_
  have os19 := r19.os
  walk_at "wq"
  refine ev_eq (r_heap r19) ?_
  walk_at "wq"
  refine heap_ne (cs := [.ref (.h 0)]) ((r19.pre (Pre.app _ _)).pre (Pre.app _ _)) (get_new _ _) cB ((Pre.app _ _).get (get_new _ _)) ((Pre.app _ _).trans (Pre.app _ _)) fun h20 p20 => ?_
  have r20 := r19.pre p20
  have os20 := r20.os
  walk_at "wq"
  refine ev_eq (r_trail r20) ?_
  walk_at "wq"
  rw [n15]
  refine trail_ne (cs := [.s 3]) (get_new _ _) ((Pre.app _ _).get (get_new _ _)) ((Pre.app _ _).trans (Pre.app _ _)) fun h21 p21 => ?_
  have r21 := r20.pre p21
  have os21 := r21.os
  walk_at "wq"
  refine sq_nx ?_
  walk_at "wq"
  have l0 : lk oB (.h 0) = some (.ref (.h 0)) := by show oB.cells[0]? = _; rw [cB]; rfl
  refine (r_bindS r21 (a := .h 0) (x := .int 5) (show 50 ≤ NF by omega) l0 (by decide +kernel) (by rw [sB]; decide) (by rw [n15]; decide)).mono ?_
  rintro _ h22 ⟨rfl, r22, f22⟩
  have os22 := r22.os
  have ha := asg_len (o := oB) (a := .h 0) (v := .int 5) (by rw [l0]; rfl)
  have hno : (asg oB (.h 0) (.int 5)).noted = [.s 3] ∨ (asg oB (.h 0) (.int 5)).noted = [.s 3, .h 0] := by
    unfold asg
    split
    · right
      show oB.noted ++ [.h 0] = _
      rw [n15]; rfl
    · left
      exact n15
  have hmem : Ad.s 3 ∈ (asg oB (.h 0) (.int 5)).noted := by rcases hno with q | q <;> rw [q] <;> simp
  have lC : ∀ a, lk (asg oB (.h 0) (.int 5)) a = if a = .h 0 then some (.int 5) else lk oB a := fun a => lk_asg (by rw [l0]; rfl)
  refine sq_nx ?_
  walk_at "wq"
  refine (r_undo (N := []) (new := (asg oB (.h 0) (.int 5)).noted) (sz := 0) r22 rfl (fun a h => ?_) (Nat.zero_le _) (show _ < NF by rcases hno with q | q <;> rw [q] <;> simp <;> omega) (by rw [ha.2.1, sB]; decide)).mono ?_
  · have : a = .s 3 ∨ a = .h 0 := by rcases hno with q | q <;> rw [q] at h <;> simp at h <;> first | exact .inl h | exact h
    rcases this with rfl | rfl
    · rw [lC, if_neg (by simp), lB]; rfl
    · rw [lC, if_pos rfl]; rfl
  rintro _ h23 ⟨rfl, oD, r23, f23, n23, c23, s23, k23, k23'⟩
  have cD : oD.cells = [] := List.eq_nil_of_length_eq_zero c23
  have lD : lk oD (.s 3) = some (.ref (.s 3)) := by rw [k23' 3, if_pos hmem]
  have os23 := r23.os
  refine sq_nx ?_
  walk_at "wq"
  refine ev_eq (r_heap r23) ?_
  walk_at "wq"
  rw [cD]
  refine eq_sameP (ws := []) ((Pre.app _ _).get (get_new _ _)) (get_new _ _) rfl (by decide) ((Pre.app _ _).trans (Pre.app _ _)) fun h24 p24 => ?_
  have r24 := r23.pre p24
  have os24 := r24.os
  walk_at "wq"
  refine ev_eq (r_trail r24) ?_
  walk_at "wq"
  rw [n23]
  refine eq_sameP (ws := []) ((Pre.app _ _).get (get_new _ _)) (get_new _ _) rfl (by decide) ((Pre.app _ _).trans (Pre.app _ _)) fun h25 p25 => ?_
  have r25 := r24.pre p25
  have os25 := r25.os
  walk_at "wq"
  refine ev_eq (r_at (a := .s 3) r25 lD) ?_
  walk_at "wq"
  have hs2 : (eqD (eC (.ref (.s 3))) (D.tup [.str "ref", .tup [.str "s", .int 3]]) h25) = some (.bl true, h25) := by
    have := @eq_pl (eC (.ref (.s 3))) (eC (.ref (.s 3))) h25 (pl_C rfl) (pl_C rfl) (isTrue rfl)
    exact this
  refine ev_eq hs2 ?_
  walk_at "wq"
  rfl
end


theorem lf_addR {xs ys : List D} {m : Nat} {h : Hd} {Q : D → Hd → Prop} (e2 : h[m]? = some (.lst ys)) (l : xs.length + ys.length ≤ LN) (q : Q (.at h.length) (h ++ [.lst (xs ++ ys)])) : Ev (addD (.rol xs) (.at m) h) Q := ⟨_, _, by simp only [addD, e2, if_pos l], q⟩
theorem lf_slR {xs : List D} {lo hi : Option Int} {h : Hd} {Q : D → Hd → Prop} (q : Q (.at h.length) (h ++ [.lst (cutD xs lo hi)])) : Ev (sliceD (.rol xs) lo hi h) Q := ⟨_, _, rfl, q⟩
theorem cut3 (xs : List D) : (cutD xs (some 1) (some 4)).length ≤ 3 ∧ ∀ x ∈ cutD xs (some 1) (some 4), x ∈ xs := by
  unfold cutD
  have h1 : HT.sIx xs.length xs.length (some 4) ≤ 4 := by
    unfold HT.sIx
    simp
    omega
  have h2 : HT.sIx xs.length 0 (some 1) = min 1 xs.length := by
    unfold HT.sIx
    simp
  refine ⟨?_, fun x h => ?_⟩
  · simp only [List.length_drop, List.length_take, h2]
    omega
  · exact List.mem_of_mem_drop (List.mem_of_mem_take h)
section
variable {NF RD : Nat} {CA : Str → Addr} {h : Hd}
theorem r_cell (ns : List Int) (h : Hd) : ∃ c, m__law_cell_at NF RD CA [.rol (ns.map D.int), .int 0] h = some (.int c, h) := by
  have : Ev (m__law_cell_at NF RD CA [.rol (ns.map D.int), .int 0] h) fun r h' => (∃ c, r = .int c) ∧ h' = h := by
    unfold m__law_cell_at
    walk_at "wq"
    refine br (fun c => ?_) fun c => ?_
    · walk_at "wq"
      cases ns with
      | nil => simp at c
      | cons n ns =>
        refine lf_ixR (at0 _ _) ?_
        walk_at "wq"
        exact ⟨⟨_, rfl⟩, rfl⟩
    · walk_at "wq"
      refine sq_nx ?_
      walk_at "wq"
      exact ⟨⟨_, rfl⟩, rfl⟩
  obtain ⟨r, h', e, ⟨c, rfl⟩, rfl⟩ := this
  exact ⟨c, e⟩
theorem r_well (c : Int) (h : Hd) : Ev (m__law_well NF RD CA [.int c] h) fun r h' => ∃ w, r = .at w ∧ h.length ≤ w ∧ Pre h h' ∧ Wl 900000 w h' := by
  unfold m__law_well
  walk_at "wq"
  by_cases q : (10 : Int) ^ Int.toNat 18 ≤ c
  · rw [decide_eq_true q]
    walk_at "wq"
    refine lf_ixL (get_new _ _) (at1 _ _ _) ?_
    walk_at "wq"
    refine ⟨_, rfl, by simp, ?_, c, c, 0, get_new _ _, by decide, by decide⟩
    exact (Pre.app _ _).app' _
  · rw [decide_eq_false q]
    walk_at "wq"
    refine lf_ixL (get_new _ _) (at0 _ _) ?_
    walk_at "wq"
    refine ⟨_, rfl, by simp, ?_, 0, c, 0, get_new _ _, by decide, by decide⟩
    exact (Pre.app _ _).app' _
theorem b_cell {c0 : Int} {x0 : D} {p2 p3 p4 p5 p6 p7 p8 p9 p10 : Option D} {h : Hd} (hN : 10000000 ≤ NF) (hR : 3 ≤ RD) :
    Ev (B_law_2 NF RD CA [some x0, some (.int c0), p2, p3, p4, p5, p6, p7, p8, p9, p10] h) fun f h' => ∃ q2 q3 q4 q5 q6 q7 q8 q9 q10, f = .nx [some x0, some (.int c0), q2, q3, q4, q5, q6, q7, q8, q9, q10] ∧ Fx [] h h' := by
  have hLN := LN_eq
  unfold B_law_2
  walk_at "wq"
  refine (r_well c0 h).mono ?_
  rintro _ h1 ⟨w, rfl, hw0, hp1, hw1⟩
  have hwlt := hw1.lt
  walk_at "wq"
  refine sq_nx ?_
  walk_at "wq"
  refine r_init' fun h2 pr2 r2 => ?_
  have w2 := hw1.pre pr2
  have hn2 := lt_of r2.on
  walk_at "wq"
  refine sq_nx ?_
  walk_at "wq"
  have el : (h2 ++ [O.dct []]).length = h2.length + 1 := by simp
  rw [el]
  have g0 : (h2 ++ [O.dct []] ++ [O.lst []])[h2.length]? = some (.dct []) := by simp [List.getElem?_append]
  have g1 : (h2 ++ [O.dct []] ++ [O.lst []])[h2.length + 1]? = some (.lst []) := by simp [List.getElem?_append]
  have pg : Pre h2 (h2 ++ [O.dct []] ++ [O.lst []]) := (Pre.app _ _).trans (Pre.app _ _)
  generalize h2 ++ [O.dct []] ++ [O.lst []] = g at g0 g1 pg
  have wg := w2.pre pg
  have hlen1 := hp1.len
  have hlg := lt_of g1
  have fr : Fx [] h g := Fx.pre ((hp1.trans pr2).trans pg)
  have rg := r2.pre pg
  have lay : Lay h1.length (h1.length + 1) (h1.length + 2) (h1.length + 3) h2.length w (h2.length + 1) (h2.length + 2) := ⟨by omega⟩
  have ge : Gd emp := by
    refine ⟨fun a x e => ?_, fun a b e => ?_, fun x v => ?_, fun n hn => ?_, by decide, by decide, by decide, fun a b e => ?_, fun p f k e => ?_, fun p f k e => ?_, fun a e => ?_, fun n => rfl⟩
    · cases a <;> cases e
    · cases a <;> cases e
    · cases x with
      | ref a => cases a <;> cases v
      | str n => obtain ⟨f, k, e, _⟩ := v; cases e
      | _ => exact ⟨0, .leaf (.stop fun a z => by cases z) fun p z => by cases z⟩
    · cases hn
    · cases a <;> cases e
    · cases e
    · cases e
    · cases a <;> cases e
  have ws0 : WS CA emp h1.length (h1.length + 1) (h1.length + 2) (h1.length + 3) h2.length w [] 0 0 g 900000 := ⟨rg, ge, g0, (fun p hp => by cases hp), by simp, by decide, by decide, by decide, by decide, by decide, (fun i => ⟨(fun z => by cases z), fun z => by omega⟩), wg⟩
  clear r2 pr2 g0
  walk_at "wq"
  refine ⟨3, rfl, by decide, ?_⟩
  rw [show (3 : Int).toNat = 3 from rfl]
  unfold rngD
  refine ev_for (xs := (List.range 3).map fun (i : Nat) => D.int (0 + (i : Nat))) (fun as sg h3 => ∃ o nms many ks xs p7, sg = [some x0, some (.int c0), some (.at w), some (.at h1.length), some (.at h2.length), some (.at (h2.length + 1)), some (.int (many : Nat)), p7, p8, p9, p10] ∧ WS CA o h1.length (h1.length + 1) (h1.length + 2) (h1.length + 3) h2.length w nms many (5 * as.length) h3 (900000 - 6000 * as.length) ∧ h3[h2.length + 1]? = some (.lst xs) ∧ xs.length = as.length ∧ KL (h2.length + 2) h3 ks xs ∧ Chain ks o ∧ (∀ p ∈ ks.head?, p.2 ≤ many) ∧ Fx [h1.length, h1.length + 1, h1.length + 2, h1.length + 3, h2.length, w, h2.length + 1] g h3) ⟨emp, [], 0, [], [], _, rfl, ws0, g1, rfl, rfl, .nil, by simp, Fx.refl _ _⟩ (by simp; omega) (fun _ _ _ _ => yl_fix) ?_ ?_
  · rintro as z bs sg h3 ez ⟨o, nms, many, ks, xs, p7, rfl, ws, hk, hxl, kl, ch, hm, fx⟩
    have hlz : as.length < 3 := by
      have := congrArg List.length ez
      simp at this
      omega
    have hg3 := fx.1
    walk_at "wq"
    refine (b_keep (N := 900000 - 6000 * (as.length + 1)) hN hR (ws.le (Nat.le_refl _) (by omega)) (by omega) lay (by omega) hk (by omega) kl ch hm).mono ?_
    rintro _ h4 ⟨o', nms', many', K, x', rfl, ws', hk', kl', ch', fx'⟩
    refine lp_nx ⟨o', nms', many', _, _, _, rfl, ?_, hk', by simp [hxl], kl', ch', (fun p hp => by cases hp; exact Nat.le_refl _), fx.trans fx'⟩
    rw [List.length_append, List.length_singleton]
    exact ws'.le (by omega) (by omega)
  · rintro sg h3 ⟨o, nms, many, ks, xs, p7, rfl, ws, hk, hxl, kl, ch, hm, fx⟩
    simp only [List.length_map, List.length_range] at ws hxl
    have hg3 := fx.1
    refine sq_nx ?_
    walk_at "wq"
    refine (r_work (N := 800000) hN hR (ws.le (Nat.le_refl _) (by omega)) (by omega) lay.dis).mono ?_
    rintro _ h4 ⟨o4, nms', many', rfl, ws4, fx4, hmm, ev⟩
    have ch4 := ch.evo ev hm
    have hk4 := fx4.get hk (by simp; omega)
    have kl4 := kl.fx fx4 (by intro i hi; simp at hi; omega)
    have bd4 : Bd o4 := ⟨by have := ws4.nb; omega, by have := ws4.ss; omega, by have := ws4.cl; omega⟩
    have r4 := ws4.r
    have fall : Fx [h1.length, h1.length + 1, h1.length + 2, h1.length + 3, h2.length, w, h2.length + 1] g h4 := fx.trans (fx4.mono (by simp))
    have hg4 := fall.1
    walk_at "wq"
    refine sq_nx ?_
    walk_at "wq"
    refine ⟨3, rfl, by decide, ?_⟩
    rw [show (3 : Int).toNat = 3 from rfl]
    unfold rngD
    refine ev_for (xs := (List.range 3).map fun (i : Nat) => D.int (0 + (i : Nat))) (fun as sg h5 => ∃ o ks q7 q8 q9 q10, sg = [some x0, some (.int c0), some (.at w), some (.at h1.length), some (.at h2.length), some (.at (h2.length + 1)), some (.int (many' : Nat)), q7, q8, q9, q10] ∧ SR CA o h1.length (h1.length + 1) (h1.length + 2) (h1.length + 3) h5 ∧ Bd o ∧ h5[h2.length + 1]? = some (.lst xs) ∧ KL (h2.length + 2) h5 ks (xs.take (3 - as.length)) ∧ Chain ks o ∧ Fx [h1.length, h1.length + 1, h1.length + 2, h1.length + 3, h2.length, w, h2.length + 1] g h5) ⟨o4, ks, _, _, _, _, rfl, r4, bd4, hk4, by rw [List.take_of_length_le (by simp; omega)]; exact kl4, ch4, fall⟩ (by simp; omega) (fun _ _ _ _ => yl_fix) ?_ ?_
    · rintro as z bs sg h5 ez ⟨o5, ks5, q7, q8, q9, q10, rfl, r5, bd5, hk5, kl5, ch5, fx5⟩
      have hlz : as.length < 3 := by
        have := congrArg List.length ez
        simp at this
        omega
      have hz : z = .int (as.length : Nat) := by
        have := congrArg (fun l => l[as.length]?) ez
        simp [hlz] at this
        exact this.symm
      subst hz
      have hg5 := fx5.1
      walk_at "wq"
      refine (b_back hN hlz r5 bd5 lay (by omega) hk5 hxl kl5 ch5).mono ?_
      rintro _ h6 ⟨o6, ks6, q8', q9', q10', rfl, r6, bd6, hk6, kl6, ch6, fx6⟩
      refine lp_nx ⟨o6, ks6, _, _, _, _, rfl, r6, bd6, hk6, ?_, ch6, fx5.trans (fx6.mono (by simp))⟩
      rw [List.length_append, List.length_singleton]
      exact kl6
    · rintro sg h5 ⟨o5, ks5, q7, q8, q9, q10, rfl, r5, bd5, hk5, kl5, ch5, fx5⟩
      exact ⟨_, _, _, _, _, _, _, _, _, rfl, fr.base fx5 (by intro i hi; simp at hi; omega)⟩
theorem law_true_n (ns : List Int) (hl : ns.length ≤ 63) (hN : 10000000 ≤ NF) (hR : 3 ≤ RD) : ∃ h', m_law NF RD CA [.rol (ns.map D.int)] [] = some (.bl true, h') := by
  have main : Ev (m_law NF RD CA [.rol (ns.map D.int)] []) fun r h' => r = .bl true := by
    have hLN := LN_eq
    unfold m_law
    walk_at "wq"
    refine (r_unnoted hN).mono ?_
    rintro _ hh rfl
    walk_at "wq"
    refine sq_nx ?_
    walk_at "wq"
    obtain ⟨c0, e0⟩ := r_cell (NF := NF) (RD := RD) (CA := CA) ns hh
    refine ev_eq e0 ?_
    walk_at "wq"
    refine lf_slR ?_
    walk_at "wq"
    obtain ⟨hc3, hcm⟩ := cut3 (List.map D.int ns)
    refine lf_addL ((Pre.app _ _).get (get_new _ _)) (get_new _ _) (by simp at hc3 ⊢; omega) ?_
    walk_at "wq"
    generalize hcs : cutD (List.map D.int ns) (some 1) (some 4) = cs at *
    have el := get_new (hh ++ [O.lst [D.int c0]] ++ [O.lst cs]) (O.lst ([D.int c0] ++ cs))
    generalize (hh ++ [O.lst [D.int c0]] ++ [O.lst cs]).length = l at el
    generalize (hh ++ [O.lst [D.int c0]] ++ [O.lst cs] ++ [O.lst ([D.int c0] ++ cs)]) = h0 at el
    refine ev_for (xs := [D.int c0] ++ cs) (fun as sg h1 => h1[l]? = some (.lst ([D.int c0] ++ cs)) ∧ ∃ p1 p2 p3 p4 p5 p6 p7 p8 p9 p10, sg = [some (.rol (ns.map D.int)), p1, p2, p3, p4, p5, p6, p7, p8, p9, p10]) ⟨el, _, _, _, _, _, _, _, _, _, _, rfl⟩ (by simp; omega) (fun _ _ _ i => yl_obj i.1) ?_ ?_
    · rintro as x bs sg h1 ex ⟨e1, p1, p2, p3, p4, p5, p6, p7, p8, p9, p10, rfl⟩
      obtain ⟨c, rfl⟩ : ∃ c, x = D.int c := by
        have : x ∈ [D.int c0] ++ cs := by rw [ex]; simp
        simp only [List.cons_append, List.nil_append, List.mem_cons] at this
        rcases this with rfl | hx
        · exact ⟨c0, rfl⟩
        · obtain ⟨c, _, rfl⟩ := List.mem_map.mp (hcm x hx)
          exact ⟨c, rfl⟩
      walk_at "wq"
      refine (b_cell (NF := NF) hN hR).mono ?_
      rintro _ h2 ⟨q2, q3, q4, q5, q6, q7, q8, q9, q10, rfl, hf⟩
      exact ⟨hf.get e1 (by simp), _, _, _, _, _, _, _, _, _, _, rfl⟩
    · rintro sg h1 ⟨_, p1, p2, p3, p4, p5, p6, p7, p8, p9, p10, rfl⟩
      refine sq_nx ?_
      walk_at "wq"
      rfl
  obtain ⟨r, h', e, rfl⟩ := main
  exact ⟨h', e⟩
end
theorem law_true (CA : Str → Addr) (ns : List Int) (hl : ns.length ≤ 63) : ∃ h', m_law 10000000 10 CA [.rol (ns.map D.int)] [] = some (.bl true, h') := law_true_n ns hl (Nat.le_refl _) (by decide)

end K50
namespace K50
open PySem L2 DL
section
theorem all_mk {l : PySem.W.OpenLaw} {w : World} {K : PySem.W.Frag} {h : Heap} {mg : Str → Option Value} {fa : Addr} (X : K.In h) (G : h.Ns mainGlobals mg) (hfa : mg "law" = some (.ref fa))
    {f0 f1 f2 f3 f4 f5 f6 f7 f8 f9 f10 f11 f12 f13 f14 f15 f16 f17 f18 f19 f20 f21 f22 f23 f24 f25 f26 f27 f28 f29 f30 f31 f32 f33 f34 f35 f36 f37 f38 f39 f40 f41 f42 f43 f44 f45 : Addr}
    {od0 an0 od1 an1 od2 an2 od3 an3 od4 an4 od5 an5 od6 an6 od7 an7 od8 an8 od9 an9 od10 an10 od11 an11 od12 an12 od13 an13 od14 an14 od15 an15 od16 an16 od17 an17 od18 an18 od19 an19 od20 an20 od21 an21 od22 an22 od23 an23 od24 an24 od25 an25 od26 an26 od27 an27 od28 an28 od29 an29 od30 an30 od31 an31 od32 an32 od33 an33 od34 an34 od35 an35 od36 an36 od37 an37 od38 an38 od39 an39 od40 an40 od41 an41 od42 an42 od43 an43 od44 an44 od45 an45 : Option Addr} {sl0 sl1 sl2 sl3 sl4 sl5 sl6 sl7 sl8 sl9 sl10 sl11 sl12 sl13 sl14 sl15 sl16 sl17 sl18 sl19 sl20 sl21 sl22 sl23 sl24 sl25 sl26 sl27 sl28 sl29 sl30 sl31 sl32 sl33 sl34 sl35 sl36 sl37 sl38 sl39 sl40 sl41 sl42 sl43 sl44 sl45 : Array (Option Value)} {oc0 kV0 dc0 pm0 cd0 ct0 oc1 kV1 dc1 pm1 cd1 ct1 oc2 kV2 dc2 pm2 cd2 ct2 oc3 kV3 dc3 pm3 cd3 ct3 oc4 kV4 dc4 pm4 cd4 ct4 oc5 kV5 dc5 pm5 cd5 ct5 oc6 kV6 dc6 pm6 cd6 ct6 oc7 kV7 dc7 pm7 cd7 ct7 oc8 kV8 dc8 pm8 cd8 ct8 oc9 kV9 dc9 pm9 cd9 ct9 oc10 kV10 dc10 pm10 cd10 ct10 oc11 kV11 dc11 pm11 cd11 ct11 oc12 kV12 dc12 pm12 cd12 ct12 oc13 kV13 dc13 pm13 cd13 ct13 oc14 kV14 dc14 pm14 cd14 ct14 oc15 kV15 dc15 pm15 cd15 ct15 oc16 kV16 dc16 pm16 cd16 ct16 oc17 kV17 dc17 pm17 cd17 ct17 oc18 kV18 dc18 pm18 cd18 ct18 oc19 kV19 dc19 pm19 cd19 ct19 oc20 kV20 dc20 pm20 cd20 ct20 oc21 kV21 dc21 pm21 cd21 ct21 oc22 kV22 dc22 pm22 cd22 ct22 oc23 kV23 dc23 pm23 cd23 ct23 oc24 kV24 dc24 pm24 cd24 ct24 oc25 kV25 dc25 pm25 cd25 ct25 oc26 kV26 dc26 pm26 cd26 ct26 oc27 kV27 dc27 pm27 cd27 ct27 oc28 kV28 dc28 pm28 cd28 ct28 oc29 kV29 dc29 pm29 cd29 ct29 oc30 kV30 dc30 pm30 cd30 ct30 oc31 kV31 dc31 pm31 cd31 ct31 oc32 kV32 dc32 pm32 cd32 ct32 oc33 kV33 dc33 pm33 cd33 ct33 oc34 kV34 dc34 pm34 cd34 ct34 oc35 kV35 dc35 pm35 cd35 ct35 oc36 kV36 dc36 pm36 cd36 ct36 oc37 kV37 dc37 pm37 cd37 ct37 oc38 kV38 dc38 pm38 cd38 ct38 oc39 kV39 dc39 pm39 cd39 ct39 oc40 kV40 dc40 pm40 cd40 ct40 oc41 kV41 dc41 pm41 cd41 ct41 oc42 kV42 dc42 pm42 cd42 ct42 oc43 kV43 dc43 pm43 cd43 ct43 oc44 kV44 dc44 pm44 cd44 ct44 oc45 kV45 dc45 pm45 cd45 ct45 : Value}
    {kc0 : Addr}
    (kg0 : PySem.W.nsIn K mainGlobals "Store" = some (some (.ref kc0))) (kp0 : PySem.W.plainGet K kc0 Str.empty = true) (kh0 : PySem.W.hasDictIn K kc0 = true) (ko0 : PySem.W.plainOver K kc0 = true) (ks0 : PySem.W.findIn K (.ref kc0) "__setattr__" = some (some (.builtin "object.__setattr__")))
    (kf0_0 : PySem.W.findIn K (.ref kc0) "cells" = some none)
    (kf0_1 : PySem.W.findIn K (.ref kc0) "low" = some none)
    (kf0_2 : PySem.W.findIn K (.ref kc0) "noted" = some none)
    (kf0_3 : PySem.W.findIn K (.ref kc0) "slots" = some none)
    (km0 : PySem.W.makesIn K kc0 = true) (kk0 : PySem.W.keepIn K (.ref kc0) = true)
    (a0 : PySem.W.nsIn K mainGlobals "is_int" = some (some (.ref f0))) (l0 : K.lookup f0 = some ⟨oc0, od0, .func (PySem.W.fnOf "is_int" "is_int" (defArgs s_is_int) (defBody s_is_int) (defScope s_is_int) .none kV0 dc0 pm0 an0 cd0 ct0), sl0⟩) (c0 : PySem.W.codeIn K cd0 "is_int" = true) (k0 : PySem.W.keepIn K (.ref f0) = true)
    (a1 : PySem.W.nsIn K mainGlobals "is_variable" = some (some (.ref f1))) (l1 : K.lookup f1 = some ⟨oc1, od1, .func (PySem.W.fnOf "is_variable" "is_variable" (defArgs s_is_variable) (defBody s_is_variable) (defScope s_is_variable) .none kV1 dc1 pm1 an1 cd1 ct1), sl1⟩) (c1 : PySem.W.codeIn K cd1 "is_variable" = true) (k1 : PySem.W.keepIn K (.ref f1) = true)
    (a2 : PySem.W.nsIn K mainGlobals "is_any_number" = some (some (.ref f2))) (l2 : K.lookup f2 = some ⟨oc2, od2, .func (PySem.W.fnOf "is_any_number" "is_any_number" (defArgs s_is_any_number) (defBody s_is_any_number) (defScope s_is_any_number) .none kV2 dc2 pm2 an2 cd2 ct2), sl2⟩) (c2 : PySem.W.codeIn K cd2 "is_any_number" = true) (k2 : PySem.W.keepIn K (.ref f2) = true)
    (a3 : PySem.W.nsIn K mainGlobals "is_any_atom" = some (some (.ref f3))) (l3 : K.lookup f3 = some ⟨oc3, od3, .func (PySem.W.fnOf "is_any_atom" "is_any_atom" (defArgs s_is_any_atom) (defBody s_is_any_atom) (defScope s_is_any_atom) .none kV3 dc3 pm3 an3 cd3 ct3), sl3⟩) (c3 : PySem.W.codeIn K cd3 "is_any_atom" = true) (k3 : PySem.W.keepIn K (.ref f3) = true)
    (a4 : PySem.W.nsIn K mainGlobals "is_compound" = some (some (.ref f4))) (l4 : K.lookup f4 = some ⟨oc4, od4, .func (PySem.W.fnOf "is_compound" "is_compound" (defArgs s_is_compound) (defBody s_is_compound) (defScope s_is_compound) .none kV4 dc4 pm4 an4 cd4 ct4), sl4⟩) (c4 : PySem.W.codeIn K cd4 "is_compound" = true) (k4 : PySem.W.keepIn K (.ref f4) = true)
    (a5 : PySem.W.nsIn K mainGlobals "is_term" = some (some (.ref f5))) (l5 : K.lookup f5 = some ⟨oc5, od5, .func (PySem.W.fnOf "is_term" "is_term" (defArgs s_is_term) (defBody s_is_term) (defScope s_is_term) .none kV5 dc5 pm5 an5 cd5 ct5), sl5⟩) (c5 : PySem.W.codeIn K cd5 "is_term" = true) (k5 : PySem.W.keepIn K (.ref f5) = true)
    (a6 : PySem.W.nsIn K mainGlobals "is_place" = some (some (.ref f6))) (l6 : K.lookup f6 = some ⟨oc6, od6, .func (PySem.W.fnOf "is_place" "is_place" (defArgs s_is_place) (defBody s_is_place) (defScope s_is_place) .none kV6 dc6 pm6 an6 cd6 ct6), sl6⟩) (c6 : PySem.W.codeIn K cd6 "is_place" = true) (k6 : PySem.W.keepIn K (.ref f6) = true)
    (a7 : PySem.W.nsIn K mainGlobals "is_address" = some (some (.ref f7))) (l7 : K.lookup f7 = some ⟨oc7, od7, .func (PySem.W.fnOf "is_address" "is_address" (defArgs s_is_address) (defBody s_is_address) (defScope s_is_address) .none kV7 dc7 pm7 an7 cd7 ct7), sl7⟩) (c7 : PySem.W.codeIn K cd7 "is_address" = true) (k7 : PySem.W.keepIn K (.ref f7) = true)
    (a8 : PySem.W.nsIn K mainGlobals "is_functor" = some (some (.ref f8))) (l8 : K.lookup f8 = some ⟨oc8, od8, .func (PySem.W.fnOf "is_functor" "is_functor" (defArgs s_is_functor) (defBody s_is_functor) (defScope s_is_functor) .none kV8 dc8 pm8 an8 cd8 ct8), sl8⟩) (c8 : PySem.W.codeIn K cd8 "is_functor" = true) (k8 : PySem.W.keepIn K (.ref f8) = true)
    (a9 : PySem.W.nsIn K mainGlobals "is_cell" = some (some (.ref f9))) (l9 : K.lookup f9 = some ⟨oc9, od9, .func (PySem.W.fnOf "is_cell" "is_cell" (defArgs s_is_cell) (defBody s_is_cell) (defScope s_is_cell) .none kV9 dc9 pm9 an9 cd9 ct9), sl9⟩) (c9 : PySem.W.codeIn K cd9 "is_cell" = true) (k9 : PySem.W.keepIn K (.ref f9) = true)
    (a10 : PySem.W.nsIn K mainGlobals "constant" = some (some (.ref f10))) (l10 : K.lookup f10 = some ⟨oc10, od10, .func (PySem.W.fnOf "constant" "constant" (defArgs s_constant) (defBody s_constant) (defScope s_constant) .none kV10 dc10 pm10 an10 cd10 ct10), sl10⟩) (c10 : PySem.W.codeIn K cd10 "constant" = true) (k10 : PySem.W.keepIn K (.ref f10) = true)
    (a11 : PySem.W.nsIn K mainGlobals "check_cell" = some (some (.ref f11))) (l11 : K.lookup f11 = some ⟨oc11, od11, .func (PySem.W.fnOf "check_cell" "check_cell" (defArgs s_check_cell) (defBody s_check_cell) (defScope s_check_cell) .none kV11 dc11 pm11 an11 cd11 ct11), sl11⟩) (c11 : PySem.W.codeIn K cd11 "check_cell" = true) (k11 : PySem.W.keepIn K (.ref f11) = true)
    (a12 : PySem.W.findIn K (.ref kc0) "look" = some (some (.ref f12))) (b12 : PySem.W.isFn K (.ref f12) = true) (l12 : K.lookup f12 = some ⟨oc12, od12, .func (PySem.W.fnOf "look" "Store.look" (defArgs s_Store_look) (defBody s_Store_look) (defScope s_Store_look) .none kV12 dc12 pm12 an12 cd12 ct12), sl12⟩) (c12 : PySem.W.codeIn K cd12 "Store.look" = true) (k12 : PySem.W.keepIn K (.ref f12) = true)
    {T13 : Addr} {ocT13 : Value} {odT13 : Option Addr} {nT13 : Nat} {slT13 : Array (Option Value)}
    (a13 : PySem.W.nsIn K mainGlobals "reaches" = some (some (.ref f13))) (l13 : K.lookup f13 = some ⟨oc13, od13, .func (PySem.W.fnOf "reaches" "reaches" (defArgs s_reaches) (defBody s_reaches) (defScope s_reaches) (.ref T13) kV13 dc13 pm13 an13 cd13 ct13), sl13⟩) (c13 : PySem.W.codeIn K cd13 "reaches" = true) (k13 : PySem.W.keepIn K (.ref f13) = true)
    (t13 : K.lookup T13 = some ⟨ocT13, odT13, .seq #[.none] nT13, slT13⟩)
    (a14 : PySem.W.findIn K (.ref kc0) "write_at" = some (some (.ref f14))) (b14 : PySem.W.isFn K (.ref f14) = true) (l14 : K.lookup f14 = some ⟨oc14, od14, .func (PySem.W.fnOf "write_at" "Store.write_at" (defArgs s_Store_write_at) (defBody s_Store_write_at) (defScope s_Store_write_at) .none kV14 dc14 pm14 an14 cd14 ct14), sl14⟩) (c14 : PySem.W.codeIn K cd14 "Store.write_at" = true) (k14 : PySem.W.keepIn K (.ref f14) = true)
    (a15 : PySem.W.findIn K (.ref kc0) "assign" = some (some (.ref f15))) (b15 : PySem.W.isFn K (.ref f15) = true) (l15 : K.lookup f15 = some ⟨oc15, od15, .func (PySem.W.fnOf "assign" "Store.assign" (defArgs s_Store_assign) (defBody s_Store_assign) (defScope s_Store_assign) .none kV15 dc15 pm15 an15 cd15 ct15), sl15⟩) (c15 : PySem.W.codeIn K cd15 "Store.assign" = true) (k15 : PySem.W.keepIn K (.ref f15) = true)
    (a16 : PySem.W.nsIn K mainGlobals "bind_or_not" = some (some (.ref f16))) (l16 : K.lookup f16 = some ⟨oc16, od16, .func (PySem.W.fnOf "bind_or_not" "bind_or_not" (defArgs s_bind_or_not) (defBody s_bind_or_not) (defScope s_bind_or_not) .none kV16 dc16 pm16 an16 cd16 ct16), sl16⟩) (c16 : PySem.W.codeIn K cd16 "bind_or_not" = true) (k16 : PySem.W.keepIn K (.ref f16) = true)
    (a17 : PySem.W.findIn K (.ref kc0) "follow" = some (some (.ref f17))) (b17 : PySem.W.isFn K (.ref f17) = true) (l17 : K.lookup f17 = some ⟨oc17, od17, .func (PySem.W.fnOf "follow" "Store.follow" (defArgs s_Store_follow) (defBody s_Store_follow) (defScope s_Store_follow) .none kV17 dc17 pm17 an17 cd17 ct17), sl17⟩) (c17 : PySem.W.codeIn K cd17 "Store.follow" = true) (k17 : PySem.W.keepIn K (.ref f17) = true)
    (a18 : PySem.W.nsIn K mainGlobals "joined" = some (some (.ref f18))) (l18 : K.lookup f18 = some ⟨oc18, od18, .func (PySem.W.fnOf "joined" "joined" (defArgs s_joined) (defBody s_joined) (defScope s_joined) .none kV18 dc18 pm18 an18 cd18 ct18), sl18⟩) (c18 : PySem.W.codeIn K cd18 "joined" = true) (k18 : PySem.W.keepIn K (.ref f18) = true)
    (a19 : PySem.W.nsIn K mainGlobals "simple" = some (some (.ref f19))) (l19 : K.lookup f19 = some ⟨oc19, od19, .func (PySem.W.fnOf "simple" "simple" (defArgs s_simple) (defBody s_simple) (defScope s_simple) .none kV19 dc19 pm19 an19 cd19 ct19), sl19⟩) (c19 : PySem.W.codeIn K cd19 "simple" = true) (k19 : PySem.W.keepIn K (.ref f19) = true)
    (a20 : PySem.W.findIn K (.ref kc0) "new" = some (some (.ref f20))) (b20 : PySem.W.isFn K (.ref f20) = true) (l20 : K.lookup f20 = some ⟨oc20, od20, .func (PySem.W.fnOf "new" "Store.new" (defArgs s_Store_new) (defBody s_Store_new) (defScope s_Store_new) .none kV20 dc20 pm20 an20 cd20 ct20), sl20⟩) (c20 : PySem.W.codeIn K cd20 "Store.new" = true) (k20 : PySem.W.keepIn K (.ref f20) = true)
    (a21 : PySem.W.findIn K (.ref kc0) "size" = some (some (.ref f21))) (b21 : PySem.W.isFn K (.ref f21) = true) (l21 : K.lookup f21 = some ⟨oc21, od21, .func (PySem.W.fnOf "size" "Store.size" (defArgs s_Store_size) (defBody s_Store_size) (defScope s_Store_size) .none kV21 dc21 pm21 an21 cd21 ct21), sl21⟩) (c21 : PySem.W.codeIn K cd21 "Store.size" = true) (k21 : PySem.W.keepIn K (.ref f21) = true)
    (a22 : PySem.W.nsIn K mainGlobals "built" = some (some (.ref f22))) (l22 : K.lookup f22 = some ⟨oc22, od22, .func (PySem.W.fnOf "built" "built" (defArgs s_built) (defBody s_built) (defScope s_built) .none kV22 dc22 pm22 an22 cd22 ct22), sl22⟩) (c22 : PySem.W.codeIn K cd22 "built" = true) (k22 : PySem.W.keepIn K (.ref f22) = true)
    (a23 : PySem.W.findIn K (.ref kc0) "__init__" = some (some (.ref f23))) (b23 : PySem.W.isFn K (.ref f23) = true) (l23 : K.lookup f23 = some ⟨oc23, od23, .func (PySem.W.fnOf "__init__" "Store.__init__" (defArgs s_Store___init__) (defBody s_Store___init__) (defScope s_Store___init__) .none kV23 dc23 pm23 an23 cd23 ct23), sl23⟩) (c23 : PySem.W.codeIn K cd23 "Store.__init__" = true) (k23 : PySem.W.keepIn K (.ref f23) = true)
    (a24 : PySem.W.findIn K (.ref kc0) "is_there" = some (some (.ref f24))) (b24 : PySem.W.isFn K (.ref f24) = true) (l24 : K.lookup f24 = some ⟨oc24, od24, .func (PySem.W.fnOf "is_there" "Store.is_there" (defArgs s_Store_is_there) (defBody s_Store_is_there) (defScope s_Store_is_there) .none kV24 dc24 pm24 an24 cd24 ct24), sl24⟩) (c24 : PySem.W.codeIn K cd24 "Store.is_there" = true) (k24 : PySem.W.keepIn K (.ref f24) = true)
    (a25 : PySem.W.findIn K (.ref kc0) "check_there" = some (some (.ref f25))) (b25 : PySem.W.isFn K (.ref f25) = true) (l25 : K.lookup f25 = some ⟨oc25, od25, .func (PySem.W.fnOf "check_there" "Store.check_there" (defArgs s_Store_check_there) (defBody s_Store_check_there) (defScope s_Store_check_there) .none kV25 dc25 pm25 an25 cd25 ct25), sl25⟩) (c25 : PySem.W.codeIn K cd25 "Store.check_there" = true) (k25 : PySem.W.keepIn K (.ref f25) = true)
    (a26 : PySem.W.findIn K (.ref kc0) "heap" = some (some (.ref f26))) (b26 : PySem.W.isFn K (.ref f26) = true) (l26 : K.lookup f26 = some ⟨oc26, od26, .func (PySem.W.fnOf "heap" "Store.heap" (defArgs s_Store_heap) (defBody s_Store_heap) (defScope s_Store_heap) .none kV26 dc26 pm26 an26 cd26 ct26), sl26⟩) (c26 : PySem.W.codeIn K cd26 "Store.heap" = true) (k26 : PySem.W.keepIn K (.ref f26) = true)
    (a27 : PySem.W.findIn K (.ref kc0) "at" = some (some (.ref f27))) (b27 : PySem.W.isFn K (.ref f27) = true) (l27 : K.lookup f27 = some ⟨oc27, od27, .func (PySem.W.fnOf "at" "Store.at" (defArgs s_Store_at) (defBody s_Store_at) (defScope s_Store_at) .none kV27 dc27 pm27 an27 cd27 ct27), sl27⟩) (c27 : PySem.W.codeIn K cd27 "Store.at" = true) (k27 : PySem.W.keepIn K (.ref f27) = true)
    (a28 : PySem.W.findIn K (.ref kc0) "end" = some (some (.ref f28))) (b28 : PySem.W.isFn K (.ref f28) = true) (l28 : K.lookup f28 = some ⟨oc28, od28, .func (PySem.W.fnOf "end" "Store.end" (defArgs s_Store_end) (defBody s_Store_end) (defScope s_Store_end) .none kV28 dc28 pm28 an28 cd28 ct28), sl28⟩) (c28 : PySem.W.codeIn K cd28 "Store.end" = true) (k28 : PySem.W.keepIn K (.ref f28) = true)
    (a29 : PySem.W.findIn K (.ref kc0) "fill" = some (some (.ref f29))) (b29 : PySem.W.isFn K (.ref f29) = true) (l29 : K.lookup f29 = some ⟨oc29, od29, .func (PySem.W.fnOf "fill" "Store.fill" (defArgs s_Store_fill) (defBody s_Store_fill) (defScope s_Store_fill) .none kV29 dc29 pm29 an29 cd29 ct29), sl29⟩) (c29 : PySem.W.codeIn K cd29 "Store.fill" = true) (k29 : PySem.W.keepIn K (.ref f29) = true)
    (a30 : PySem.W.findIn K (.ref kc0) "free" = some (some (.ref f30))) (b30 : PySem.W.isFn K (.ref f30) = true) (l30 : K.lookup f30 = some ⟨oc30, od30, .func (PySem.W.fnOf "free" "Store.free" (defArgs s_Store_free) (defBody s_Store_free) (defScope s_Store_free) .none kV30 dc30 pm30 an30 cd30 ct30), sl30⟩) (c30 : PySem.W.codeIn K cd30 "Store.free" = true) (k30 : PySem.W.keepIn K (.ref f30) = true)
    (a31 : PySem.W.findIn K (.ref kc0) "marks" = some (some (.ref f31))) (b31 : PySem.W.isFn K (.ref f31) = true) (l31 : K.lookup f31 = some ⟨oc31, od31, .func (PySem.W.fnOf "marks" "Store.marks" (defArgs s_Store_marks) (defBody s_Store_marks) (defScope s_Store_marks) .none kV31 dc31 pm31 an31 cd31 ct31), sl31⟩) (c31 : PySem.W.codeIn K cd31 "Store.marks" = true) (k31 : PySem.W.keepIn K (.ref f31) = true)
    (a32 : PySem.W.findIn K (.ref kc0) "trail" = some (some (.ref f32))) (b32 : PySem.W.isFn K (.ref f32) = true) (l32 : K.lookup f32 = some ⟨oc32, od32, .func (PySem.W.fnOf "trail" "Store.trail" (defArgs s_Store_trail) (defBody s_Store_trail) (defScope s_Store_trail) .none kV32 dc32 pm32 an32 cd32 ct32), sl32⟩) (c32 : PySem.W.codeIn K cd32 "Store.trail" = true) (k32 : PySem.W.keepIn K (.ref f32) = true)
    (a33 : PySem.W.findIn K (.ref kc0) "bind" = some (some (.ref f33))) (b33 : PySem.W.isFn K (.ref f33) = true) (l33 : K.lookup f33 = some ⟨oc33, od33, .func (PySem.W.fnOf "bind" "Store.bind" (defArgs s_Store_bind) (defBody s_Store_bind) (defScope s_Store_bind) .none kV33 dc33 pm33 an33 cd33 ct33), sl33⟩) (c33 : PySem.W.codeIn K cd33 "Store.bind" = true) (k33 : PySem.W.keepIn K (.ref f33) = true)
    (a34 : PySem.W.findIn K (.ref kc0) "undo" = some (some (.ref f34))) (b34 : PySem.W.isFn K (.ref f34) = true) (l34 : K.lookup f34 = some ⟨oc34, od34, .func (PySem.W.fnOf "undo" "Store.undo" (defArgs s_Store_undo) (defBody s_Store_undo) (defScope s_Store_undo) .none kV34 dc34 pm34 an34 cd34 ct34), sl34⟩) (c34 : PySem.W.codeIn K cd34 "Store.undo" = true) (k34 : PySem.W.keepIn K (.ref f34) = true)
    (a35 : PySem.W.findIn K (.ref kc0) "build" = some (some (.ref f35))) (b35 : PySem.W.isFn K (.ref f35) = true) (l35 : K.lookup f35 = some ⟨oc35, od35, .func (PySem.W.fnOf "build" "Store.build" (defArgs s_Store_build) (defBody s_Store_build) (defScope s_Store_build) .none kV35 dc35 pm35 an35 cd35 ct35), sl35⟩) (c35 : PySem.W.codeIn K cd35 "Store.build" = true) (k35 : PySem.W.keepIn K (.ref f35) = true)
    (a36 : PySem.W.findIn K (.ref kc0) "join" = some (some (.ref f36))) (b36 : PySem.W.isFn K (.ref f36) = true) (l36 : K.lookup f36 = some ⟨oc36, od36, .func (PySem.W.fnOf "join" "Store.join" (defArgs s_Store_join) (defBody s_Store_join) (defScope s_Store_join) .none kV36 dc36 pm36 an36 cd36 ct36), sl36⟩) (c36 : PySem.W.codeIn K cd36 "Store.join" = true) (k36 : PySem.W.keepIn K (.ref f36) = true)
    (a37 : PySem.W.nsIn K mainGlobals "_law_cell_at" = some (some (.ref f37))) (l37 : K.lookup f37 = some ⟨oc37, od37, .func (PySem.W.fnOf "_law_cell_at" "_law_cell_at" (defArgs s__law_cell_at) (defBody s__law_cell_at) (defScope s__law_cell_at) .none kV37 dc37 pm37 an37 cd37 ct37), sl37⟩) (c37 : PySem.W.codeIn K cd37 "_law_cell_at" = true) (k37 : PySem.W.keepIn K (.ref f37) = true)
    (a38 : PySem.W.nsIn K mainGlobals "_law_well" = some (some (.ref f38))) (l38 : K.lookup f38 = some ⟨oc38, od38, .func (PySem.W.fnOf "_law_well" "_law_well" (defArgs s__law_well) (defBody s__law_well) (defScope s__law_well) .none kV38 dc38 pm38 an38 cd38 ct38), sl38⟩) (c38 : PySem.W.codeIn K cd38 "_law_well" = true) (k38 : PySem.W.keepIn K (.ref f38) = true)
    (a39 : PySem.W.nsIn K mainGlobals "_law_draw" = some (some (.ref f39))) (l39 : K.lookup f39 = some ⟨oc39, od39, .func (PySem.W.fnOf "_law_draw" "_law_draw" (defArgs s__law_draw) (defBody s__law_draw) (defScope s__law_draw) .none kV39 dc39 pm39 an39 cd39 ct39), sl39⟩) (c39 : PySem.W.codeIn K cd39 "_law_draw" = true) (k39 : PySem.W.keepIn K (.ref f39) = true)
    (a40 : PySem.W.nsIn K mainGlobals "_law_one" = some (some (.ref f40))) (l40 : K.lookup f40 = some ⟨oc40, od40, .func (PySem.W.fnOf "_law_one" "_law_one" (defArgs s__law_one) (defBody s__law_one) (defScope s__law_one) .none kV40 dc40 pm40 an40 cd40 ct40), sl40⟩) (c40 : PySem.W.codeIn K cd40 "_law_one" = true) (k40 : PySem.W.keepIn K (.ref f40) = true)
    (a41 : PySem.W.nsIn K mainGlobals "_law_term" = some (some (.ref f41))) (l41 : K.lookup f41 = some ⟨oc41, od41, .func (PySem.W.fnOf "_law_term" "_law_term" (defArgs s__law_term) (defBody s__law_term) (defScope s__law_term) .none kV41 dc41 pm41 an41 cd41 ct41), sl41⟩) (c41 : PySem.W.codeIn K cd41 "_law_term" = true) (k41 : PySem.W.keepIn K (.ref f41) = true)
    (a42 : PySem.W.nsIn K mainGlobals "_law_slots" = some (some (.ref f42))) (l42 : K.lookup f42 = some ⟨oc42, od42, .func (PySem.W.fnOf "_law_slots" "_law_slots" (defArgs s__law_slots) (defBody s__law_slots) (defScope s__law_slots) .none kV42 dc42 pm42 an42 cd42 ct42), sl42⟩) (c42 : PySem.W.codeIn K cd42 "_law_slots" = true) (k42 : PySem.W.keepIn K (.ref f42) = true)
    (a43 : PySem.W.nsIn K mainGlobals "_law_work" = some (some (.ref f43))) (l43 : K.lookup f43 = some ⟨oc43, od43, .func (PySem.W.fnOf "_law_work" "_law_work" (defArgs s__law_work) (defBody s__law_work) (defScope s__law_work) .none kV43 dc43 pm43 an43 cd43 ct43), sl43⟩) (c43 : PySem.W.codeIn K cd43 "_law_work" = true) (k43 : PySem.W.keepIn K (.ref f43) = true)
    (a44 : PySem.W.nsIn K mainGlobals "_law_unnoted_right" = some (some (.ref f44))) (l44 : K.lookup f44 = some ⟨oc44, od44, .func (PySem.W.fnOf "_law_unnoted_right" "_law_unnoted_right" (defArgs s__law_unnoted_right) (defBody s__law_unnoted_right) (defScope s__law_unnoted_right) .none kV44 dc44 pm44 an44 cd44 ct44), sl44⟩) (c44 : PySem.W.codeIn K cd44 "_law_unnoted_right" = true) (k44 : PySem.W.keepIn K (.ref f44) = true)
    (a45 : PySem.W.nsIn K mainGlobals "law" = some (some (.ref f45))) (l45 : K.lookup f45 = some ⟨oc45, od45, .func (PySem.W.fnOf "law" "law" (defArgs s_law) (defBody s_law) (defScope s_law) .none kV45 dc45 pm45 an45 cd45 ct45), sl45⟩) (c45 : PySem.W.codeIn K cd45 "law" = true) (k45 : PySem.W.keepIn K (.ref f45) = true)
    (z0 : PySem.W.nsIn K mainGlobals "abs" = some none)
    (z1 : PySem.W.nsIn K mainGlobals "all" = some none)
    (z2 : PySem.W.nsIn K mainGlobals "bool" = some none)
    (z3 : PySem.W.nsIn K mainGlobals "dict" = some none)
    (z4 : PySem.W.nsIn K mainGlobals "int" = some none)
    (z5 : PySem.W.nsIn K mainGlobals "isinstance" = some none)
    (z6 : PySem.W.nsIn K mainGlobals "len" = some none)
    (z7 : PySem.W.nsIn K mainGlobals "list" = some none)
    (z8 : PySem.W.nsIn K mainGlobals "max" = some none)
    (z9 : PySem.W.nsIn K mainGlobals "min" = some none)
    (z10 : PySem.W.nsIn K mainGlobals "ord" = some none)
    (z11 : PySem.W.nsIn K mainGlobals "range" = some none)
    (z12 : PySem.W.nsIn K mainGlobals "str" = some none)
    (z13 : PySem.W.nsIn K mainGlobals "tuple" = some none)
    {u0 : Tok} (y0 : PySem.W.nsIn K mainGlobals "MOST_ARGUMENTS" = some (some (.int 8 u0)))
    {u1 : Tok} (y1 : PySem.W.nsIn K mainGlobals "MOST_SIGNS" = some (some (.int 40 u1)))
    {u2 : Tok} (y2 : PySem.W.nsIn K mainGlobals "TOO_GREAT" = some (some (.int 1000000000000000000000000000000000000000000000000000000000000000000000000000000000000000000000000000000000000000000000000000000000000000000000000000000000000000000000000000000000000000000000000000000000000000000000000000000000000000000000000000000000000000000000000000000000000000000000000000000000000 u2)))
    {x0 x1 x2 x3 x4 : Addr}
    (gx0 : PySem.W.nsIn K mainGlobals "BadAddress" = some (some (.ref x0)))
    (gx1 : PySem.W.nsIn K mainGlobals "BadCell" = some (some (.ref x1)))
    (gx2 : PySem.W.nsIn K mainGlobals "BadTerm" = some (some (.ref x2)))
    (gx3 : PySem.W.nsIn K mainGlobals "BadValue" = some (some (.ref x3)))
    (gx4 : PySem.W.nsIn K mainGlobals "HornError" = some (some (.ref x4)))
    {nmx0 qx0 : Str} {Nx0 : Addr} {bsx0 : List Value} {snx0 : List Str} {subx0 : List Value} {abx0 : Bool} {colx0 : Option Bool} {ddx0 : Option Addr} {m0x0 m1x0 m2x0 m3x0 m5x0 : Option Value} {fx0 : Addr} {ocx0 kVx0 dcx0 pmx0 cdx0 ctx0 : Value} {odx0 anx0 : Option Addr} {slx0 : Array (Option Value)}
    (xl0 : K.lookup x0 = some (excClassObj nmx0 qx0 x0 Nx0 bsx0 [.ref x4, .type "ValueError", .type "Exception", .type "BaseException", .type "object"] true snx0 subx0 abx0 colx0 ddx0 m0x0 m1x0 m2x0 m3x0 m5x0 "ValueError.__new__"))
    (xs0 : PySem.W.findIn K (.ref x0) "__setattr__" = some (some (.builtin "object.__setattr__"))) (xg0 : PySem.W.findIn K (.ref x0) "__getattribute__" = some (some (.builtin "BaseException.__getattribute__"))) (xh0 : PySem.W.findIn K (.ref x0) "__getattr__" = some none)
    (xi0 : PySem.W.findIn K (.ref x0) "__init__" = some (some (.ref fx0))) (xt0 : PySem.W.typeIn K (.ref fx0) = some (.type "function"))
    (xf0 : K.lookup fx0 = some ⟨ocx0, odx0, .func (PySem.W.fnOf "__init__" "BadAddress.__init__" (defArgs si_BadAddress) (defBody si_BadAddress) (defScope si_BadAddress) .none kVx0 dcx0 pmx0 anx0 cdx0 ctx0), slx0⟩) (xc0 : PySem.W.codeIn K cdx0 "BadAddress.__init__" = true) (xk0 : PySem.W.keepIn K (.ref fx0) = true)
    (yk0 : PySem.W.keepIn K (.ref x0) = true) (ye0 : PySem.W.subIn K (.ref x0) (.type "BaseException") = some true) (yt0 : PySem.W.typeIn K (.ref x0) = some (.type "type")) (yh0 : PySem.W.hasDictIn K x0 = true)
    (yn0_0 : PySem.W.findIn K (.ref x0) "address" = some none)
    {nmx1 qx1 : Str} {Nx1 : Addr} {bsx1 : List Value} {snx1 : List Str} {subx1 : List Value} {abx1 : Bool} {colx1 : Option Bool} {ddx1 : Option Addr} {m0x1 m1x1 m2x1 m3x1 m5x1 : Option Value} {fx1 : Addr} {ocx1 kVx1 dcx1 pmx1 cdx1 ctx1 : Value} {odx1 anx1 : Option Addr} {slx1 : Array (Option Value)}
    (xl1 : K.lookup x1 = some (excClassObj nmx1 qx1 x1 Nx1 bsx1 [.ref x4, .type "ValueError", .type "Exception", .type "BaseException", .type "object"] true snx1 subx1 abx1 colx1 ddx1 m0x1 m1x1 m2x1 m3x1 m5x1 "ValueError.__new__"))
    (xs1 : PySem.W.findIn K (.ref x1) "__setattr__" = some (some (.builtin "object.__setattr__"))) (xg1 : PySem.W.findIn K (.ref x1) "__getattribute__" = some (some (.builtin "BaseException.__getattribute__"))) (xh1 : PySem.W.findIn K (.ref x1) "__getattr__" = some none)
    (xi1 : PySem.W.findIn K (.ref x1) "__init__" = some (some (.ref fx1))) (xt1 : PySem.W.typeIn K (.ref fx1) = some (.type "function"))
    (xf1 : K.lookup fx1 = some ⟨ocx1, odx1, .func (PySem.W.fnOf "__init__" "BadCell.__init__" (defArgs si_BadCell) (defBody si_BadCell) (defScope si_BadCell) .none kVx1 dcx1 pmx1 anx1 cdx1 ctx1), slx1⟩) (xc1 : PySem.W.codeIn K cdx1 "BadCell.__init__" = true) (xk1 : PySem.W.keepIn K (.ref fx1) = true)
    (yk1 : PySem.W.keepIn K (.ref x1) = true) (ye1 : PySem.W.subIn K (.ref x1) (.type "BaseException") = some true) (yt1 : PySem.W.typeIn K (.ref x1) = some (.type "type")) (yh1 : PySem.W.hasDictIn K x1 = true)
    (yn1_0 : PySem.W.findIn K (.ref x1) "cell" = some none)
    {nmx2 qx2 : Str} {Nx2 : Addr} {bsx2 : List Value} {snx2 : List Str} {subx2 : List Value} {abx2 : Bool} {colx2 : Option Bool} {ddx2 : Option Addr} {m0x2 m1x2 m2x2 m3x2 m5x2 : Option Value} {fx2 : Addr} {ocx2 kVx2 dcx2 pmx2 cdx2 ctx2 : Value} {odx2 anx2 : Option Addr} {slx2 : Array (Option Value)}
    (xl2 : K.lookup x2 = some (excClassObj nmx2 qx2 x2 Nx2 bsx2 [.ref x4, .type "ValueError", .type "Exception", .type "BaseException", .type "object"] true snx2 subx2 abx2 colx2 ddx2 m0x2 m1x2 m2x2 m3x2 m5x2 "ValueError.__new__"))
    (xs2 : PySem.W.findIn K (.ref x2) "__setattr__" = some (some (.builtin "object.__setattr__"))) (xg2 : PySem.W.findIn K (.ref x2) "__getattribute__" = some (some (.builtin "BaseException.__getattribute__"))) (xh2 : PySem.W.findIn K (.ref x2) "__getattr__" = some none)
    (xi2 : PySem.W.findIn K (.ref x2) "__init__" = some (some (.ref fx2))) (xt2 : PySem.W.typeIn K (.ref fx2) = some (.type "function"))
    (xf2 : K.lookup fx2 = some ⟨ocx2, odx2, .func (PySem.W.fnOf "__init__" "BadTerm.__init__" (defArgs si_BadTerm) (defBody si_BadTerm) (defScope si_BadTerm) .none kVx2 dcx2 pmx2 anx2 cdx2 ctx2), slx2⟩) (xc2 : PySem.W.codeIn K cdx2 "BadTerm.__init__" = true) (xk2 : PySem.W.keepIn K (.ref fx2) = true)
    (yk2 : PySem.W.keepIn K (.ref x2) = true) (ye2 : PySem.W.subIn K (.ref x2) (.type "BaseException") = some true) (yt2 : PySem.W.typeIn K (.ref x2) = some (.type "type")) (yh2 : PySem.W.hasDictIn K x2 = true)
    (yn2_0 : PySem.W.findIn K (.ref x2) "term" = some none)
    {nmx3 qx3 : Str} {Nx3 : Addr} {bsx3 : List Value} {snx3 : List Str} {subx3 : List Value} {abx3 : Bool} {colx3 : Option Bool} {ddx3 : Option Addr} {m0x3 m1x3 m2x3 m3x3 m5x3 : Option Value} {fx3 : Addr} {ocx3 kVx3 dcx3 pmx3 cdx3 ctx3 : Value} {odx3 anx3 : Option Addr} {slx3 : Array (Option Value)}
    (xl3 : K.lookup x3 = some (excClassObj nmx3 qx3 x3 Nx3 bsx3 [.ref x4, .type "ValueError", .type "Exception", .type "BaseException", .type "object"] true snx3 subx3 abx3 colx3 ddx3 m0x3 m1x3 m2x3 m3x3 m5x3 "ValueError.__new__"))
    (xs3 : PySem.W.findIn K (.ref x3) "__setattr__" = some (some (.builtin "object.__setattr__"))) (xg3 : PySem.W.findIn K (.ref x3) "__getattribute__" = some (some (.builtin "BaseException.__getattribute__"))) (xh3 : PySem.W.findIn K (.ref x3) "__getattr__" = some none)
    (xi3 : PySem.W.findIn K (.ref x3) "__init__" = some (some (.ref fx3))) (xt3 : PySem.W.typeIn K (.ref fx3) = some (.type "function"))
    (xf3 : K.lookup fx3 = some ⟨ocx3, odx3, .func (PySem.W.fnOf "__init__" "BadValue.__init__" (defArgs si_BadValue) (defBody si_BadValue) (defScope si_BadValue) .none kVx3 dcx3 pmx3 anx3 cdx3 ctx3), slx3⟩) (xc3 : PySem.W.codeIn K cdx3 "BadValue.__init__" = true) (xk3 : PySem.W.keepIn K (.ref fx3) = true)
    (yk3 : PySem.W.keepIn K (.ref x3) = true) (ye3 : PySem.W.subIn K (.ref x3) (.type "BaseException") = some true) (yt3 : PySem.W.typeIn K (.ref x3) = some (.type "type")) (yh3 : PySem.W.hasDictIn K x3 = true)
    (yn3_0 : PySem.W.findIn K (.ref x3) "why" = some none)
    (br0 : PySem.W.readsIn K x4 (.type "type") = true) (bf0 : PySem.W.findCls K (.ref x4) (.type "type") "__init__" = some (.val (.builtin "ValueError.__init__")))
    : ∃ fd : FuncData, (∀ (s : Shared) (v : Value), BindsTo s fd ⟨[v], []⟩ [("script", v)]) ∧ ∀ base : Heap, K.In base → base.Ns mainGlobals mg → FnG l.prog w K mg base (L2.CX l.prog w) 14 fa fd ["script"] (spA ⟨K, w⟩ 1 (m_law 10000000 10)) := by
  have e := hfa.symm.trans (PySem.W.mg_of X G a45)
  cases e
  have z : Zs mg := ⟨PySem.W.mg_none_of X G z0, PySem.W.mg_none_of X G z1, PySem.W.mg_none_of X G z2, PySem.W.mg_none_of X G z3, PySem.W.mg_none_of X G z4, PySem.W.mg_none_of X G z5, PySem.W.mg_none_of X G z6, PySem.W.mg_none_of X G z7, PySem.W.mg_none_of X G z8, PySem.W.mg_none_of X G z9, PySem.W.mg_none_of X G z10, PySem.W.mg_none_of X G z11, PySem.W.mg_none_of X G z12, PySem.W.mg_none_of X G z13⟩
  have y : Ys ⟨K, w⟩ mg := ⟨Kst.int ⟨_, PySem.W.mg_of X G y0⟩, Kst.int ⟨_, PySem.W.mg_of X G y1⟩, Kst.int ⟨_, PySem.W.mg_of X G y2⟩⟩
  have bas0 : BasC K mg "HornError" := ⟨_, PySem.W.mg_of X G gx4, br0, bf0⟩
  have ox0 : OexC K x0 := ⟨⟨_, _, _, _, _, _, _, _, _, _, _, _, _, _, _, xl0, by rfl⟩, xs0, ye0, yt0, yk0⟩
  have fi0 := fun_mk (st := si_BadAddress) xf0 xc0 xk0
  have tBadAddress : ExT K mg "BadAddress" ["address"] := ⟨x0, fx0, _, PySem.W.mg_of X G gx0, ox0, xi0, xt0, fun P w base => i_BadAddress bas0 ox0 yn0_0 fi0, fi0.binds (ps := ["self", "address"]) fun _ _ _ _ _ _ us hl => match us, hl with | [_, _], _ => rfl, ⟨xg0, xh0, ye0, yh0⟩, by
    intro f hf
    simp only [List.mem_cons, List.not_mem_nil, or_false] at hf
    subst hf; exact yn0_0⟩
  have ox1 : OexC K x1 := ⟨⟨_, _, _, _, _, _, _, _, _, _, _, _, _, _, _, xl1, by rfl⟩, xs1, ye1, yt1, yk1⟩
  have fi1 := fun_mk (st := si_BadCell) xf1 xc1 xk1
  have tBadCell : ExT K mg "BadCell" ["cell"] := ⟨x1, fx1, _, PySem.W.mg_of X G gx1, ox1, xi1, xt1, fun P w base => i_BadCell bas0 ox1 yn1_0 fi1, fi1.binds (ps := ["self", "cell"]) fun _ _ _ _ _ _ us hl => match us, hl with | [_, _], _ => rfl, ⟨xg1, xh1, ye1, yh1⟩, by
    intro f hf
    simp only [List.mem_cons, List.not_mem_nil, or_false] at hf
    subst hf; exact yn1_0⟩
  have ox2 : OexC K x2 := ⟨⟨_, _, _, _, _, _, _, _, _, _, _, _, _, _, _, xl2, by rfl⟩, xs2, ye2, yt2, yk2⟩
  have fi2 := fun_mk (st := si_BadTerm) xf2 xc2 xk2
  have tBadTerm : ExT K mg "BadTerm" ["term"] := ⟨x2, fx2, _, PySem.W.mg_of X G gx2, ox2, xi2, xt2, fun P w base => i_BadTerm bas0 ox2 yn2_0 fi2, fi2.binds (ps := ["self", "term"]) fun _ _ _ _ _ _ us hl => match us, hl with | [_, _], _ => rfl, ⟨xg2, xh2, ye2, yh2⟩, by
    intro f hf
    simp only [List.mem_cons, List.not_mem_nil, or_false] at hf
    subst hf; exact yn2_0⟩
  have ox3 : OexC K x3 := ⟨⟨_, _, _, _, _, _, _, _, _, _, _, _, _, _, _, xl3, by rfl⟩, xs3, ye3, yt3, yk3⟩
  have fi3 := fun_mk (st := si_BadValue) xf3 xc3 xk3
  have tBadValue : ExT K mg "BadValue" ["why"] := ⟨x3, fx3, _, PySem.W.mg_of X G gx3, ox3, xi3, xt3, fun P w base => i_BadValue bas0 ox3 yn3_0 fi3, fi3.binds (ps := ["self", "why"]) fun _ _ _ _ _ _ us hl => match us, hl with | [_, _], _ => rfl, ⟨xg3, xh3, ye3, yh3⟩, by
    intro f hf
    simp only [List.mem_cons, List.not_mem_nil, or_false] at hf
    subst hf; exact yn3_0⟩
  have tab : ExTab K mg TX := by
    intro p hp
    simp only [List.mem_cons, List.not_mem_nil, or_false] at hp
    rcases hp with rfl | rfl | rfl | rfl
    · exact tBadAddress
    · exact tBadCell
    · exact tBadTerm
    · exact tBadValue
  have q : Qs K mg := ⟨tBadAddress, tBadCell, tBadTerm, tBadValue, tab⟩
  have hc0 : caOf mg "Store" = kc0 := caOf_eq (PySem.W.mg_of X G kg0)
  have cl0 : Cls K kc0 := ⟨kp0, kh0, ko0, ks0⟩
  have kk : Ks K (caOf mg) := ⟨by rw [hc0]; exact clf_one ⟨cl0, kf0_0⟩, by rw [hc0]; exact clf_one ⟨cl0, kf0_1⟩, by rw [hc0]; exact clf_one ⟨cl0, kf0_2⟩, by rw [hc0]; exact clf_one ⟨cl0, kf0_3⟩⟩
  have F0 := fun_mk (st := s_is_int) l0 c0 k0
  have g0 : Got K mg "is_int" s_is_int P_is_int := ⟨f0, _, F0, PySem.W.mg_of X G a0, F0.binds (ps := P_is_int) fun _ _ _ _ _ _ us hl => match us, hl with | [_], _ => rfl⟩
  have F1 := fun_mk (st := s_is_variable) l1 c1 k1
  have g1 : Got K mg "is_variable" s_is_variable P_is_variable := ⟨f1, _, F1, PySem.W.mg_of X G a1, F1.binds (ps := P_is_variable) fun _ _ _ _ _ _ us hl => match us, hl with | [_], _ => rfl⟩
  have F2 := fun_mk (st := s_is_any_number) l2 c2 k2
  have g2 : Got K mg "is_any_number" s_is_any_number P_is_any_number := ⟨f2, _, F2, PySem.W.mg_of X G a2, F2.binds (ps := P_is_any_number) fun _ _ _ _ _ _ us hl => match us, hl with | [_], _ => rfl⟩
  have F3 := fun_mk (st := s_is_any_atom) l3 c3 k3
  have g3 : Got K mg "is_any_atom" s_is_any_atom P_is_any_atom := ⟨f3, _, F3, PySem.W.mg_of X G a3, F3.binds (ps := P_is_any_atom) fun _ _ _ _ _ _ us hl => match us, hl with | [_], _ => rfl⟩
  have F4 := fun_mk (st := s_is_compound) l4 c4 k4
  have g4 : Got K mg "is_compound" s_is_compound P_is_compound := ⟨f4, _, F4, PySem.W.mg_of X G a4, F4.binds (ps := P_is_compound) fun _ _ _ _ _ _ us hl => match us, hl with | [_], _ => rfl⟩
  have F5 := fun_mk (st := s_is_term) l5 c5 k5
  have g5 : Got K mg "is_term" s_is_term P_is_term := ⟨f5, _, F5, PySem.W.mg_of X G a5, F5.binds (ps := P_is_term) fun _ _ _ _ _ _ us hl => match us, hl with | [_], _ => rfl⟩
  have F6 := fun_mk (st := s_is_place) l6 c6 k6
  have g6 : Got K mg "is_place" s_is_place P_is_place := ⟨f6, _, F6, PySem.W.mg_of X G a6, F6.binds (ps := P_is_place) fun _ _ _ _ _ _ us hl => match us, hl with | [_], _ => rfl⟩
  have F7 := fun_mk (st := s_is_address) l7 c7 k7
  have g7 : Got K mg "is_address" s_is_address P_is_address := ⟨f7, _, F7, PySem.W.mg_of X G a7, F7.binds (ps := P_is_address) fun _ _ _ _ _ _ us hl => match us, hl with | [_], _ => rfl⟩
  have F8 := fun_mk (st := s_is_functor) l8 c8 k8
  have g8 : Got K mg "is_functor" s_is_functor P_is_functor := ⟨f8, _, F8, PySem.W.mg_of X G a8, F8.binds (ps := P_is_functor) fun _ _ _ _ _ _ us hl => match us, hl with | [_], _ => rfl⟩
  have F9 := fun_mk (st := s_is_cell) l9 c9 k9
  have g9 : Got K mg "is_cell" s_is_cell P_is_cell := ⟨f9, _, F9, PySem.W.mg_of X G a9, F9.binds (ps := P_is_cell) fun _ _ _ _ _ _ us hl => match us, hl with | [_], _ => rfl⟩
  have F10 := fun_mk (st := s_constant) l10 c10 k10
  have g10 : Got K mg "constant" s_constant P_constant := ⟨f10, _, F10, PySem.W.mg_of X G a10, F10.binds (ps := P_constant) fun _ _ _ _ _ _ us hl => match us, hl with | [_], _ => rfl⟩
  have F11 := fun_mk (st := s_check_cell) l11 c11 k11
  have g11 : Got K mg "check_cell" s_check_cell P_check_cell := ⟨f11, _, F11, PySem.W.mg_of X G a11, F11.binds (ps := P_check_cell) fun _ _ _ _ _ _ us hl => match us, hl with | [_], _ => rfl⟩
  have F12 := fun_mk (st := s_Store_look) l12 c12 k12
  have g12 : GotM K (caOf mg "Store") "look" "Store.look" s_Store_look P_Store_look := by rw [hc0]; exact ⟨f12, _, F12, ⟨a12, b12, k12⟩, cl0, F12.binds (ps := P_Store_look) fun _ _ _ _ _ _ us hl => match us, hl with | [_, _], _ => rfl⟩
  have F13 : FunD K "reaches" "reaches" (defArgs s_reaches) (defBody s_reaches) (defScope s_reaches) [.non] [] f13 _ := ⟨⟨oc13, od13, .ref T13, kV13, dc13, pm13, an13, cd13, ct13, sl13, rfl, l13, c13, .inr ⟨by simp, T13, _, _, nT13, rfl, t13, rfl, .cons rfl (.nil)⟩, .inl rfl⟩, k13⟩
  obtain ⟨ds13, hv13, hb13⟩ := F13.binds1 (ps := P_reaches) 4 1 (by simp) (by decide) (fun _ _ _ _ _ _ _ us its h1 h2 => match us, its, h1, h2 with | [_, _, _, _], [_], _, _ => ⟨_, rfl, rfl⟩)
  obtain ⟨dt13, hw13, hc13⟩ := F13.binds1 (ps := P_reaches) 3 0 (by simp) (by decide) (fun _ _ _ _ _ _ _ us its h1 h2 => match us, its, h1, h2 with | [_, _, _], [_], _, _ => ⟨_, rfl, rfl⟩)
  have e13 : ds13 = [] := by cases hv13; rfl
  subst e13
  have g13 : GotD K mg "reaches" s_reaches P_reaches [.non] := ⟨f13, _, F13, PySem.W.mg_of X G a13, hb13, dt13, hw13, hc13⟩
  have F14 := fun_mk (st := s_Store_write_at) l14 c14 k14
  have g14 : GotM K (caOf mg "Store") "write_at" "Store.write_at" s_Store_write_at P_Store_write_at := by rw [hc0]; exact ⟨f14, _, F14, ⟨a14, b14, k14⟩, cl0, F14.binds (ps := P_Store_write_at) fun _ _ _ _ _ _ us hl => match us, hl with | [_, _, _], _ => rfl⟩
  have F15 := fun_mk (st := s_Store_assign) l15 c15 k15
  have g15 : GotM K (caOf mg "Store") "assign" "Store.assign" s_Store_assign P_Store_assign := by rw [hc0]; exact ⟨f15, _, F15, ⟨a15, b15, k15⟩, cl0, F15.binds (ps := P_Store_assign) fun _ _ _ _ _ _ us hl => match us, hl with | [_, _, _], _ => rfl⟩
  have F16 := fun_mk (st := s_bind_or_not) l16 c16 k16
  have g16 : Got K mg "bind_or_not" s_bind_or_not P_bind_or_not := ⟨f16, _, F16, PySem.W.mg_of X G a16, F16.binds (ps := P_bind_or_not) fun _ _ _ _ _ _ us hl => match us, hl with | [_, _, _], _ => rfl⟩
  have F17 := fun_mk (st := s_Store_follow) l17 c17 k17
  have g17 : GotM K (caOf mg "Store") "follow" "Store.follow" s_Store_follow P_Store_follow := by rw [hc0]; exact ⟨f17, _, F17, ⟨a17, b17, k17⟩, cl0, F17.binds (ps := P_Store_follow) fun _ _ _ _ _ _ us hl => match us, hl with | [_, _], _ => rfl⟩
  have F18 := fun_mk (st := s_joined) l18 c18 k18
  have g18 : Got K mg "joined" s_joined P_joined := ⟨f18, _, F18, PySem.W.mg_of X G a18, F18.binds (ps := P_joined) fun _ _ _ _ _ _ us hl => match us, hl with | [_, _, _], _ => rfl⟩
  have F19 := fun_mk (st := s_simple) l19 c19 k19
  have g19 : Got K mg "simple" s_simple P_simple := ⟨f19, _, F19, PySem.W.mg_of X G a19, F19.binds (ps := P_simple) fun _ _ _ _ _ _ us hl => match us, hl with | [_, _, _], _ => rfl⟩
  have F20 := fun_mk (st := s_Store_new) l20 c20 k20
  have g20 : GotM K (caOf mg "Store") "new" "Store.new" s_Store_new P_Store_new := by rw [hc0]; exact ⟨f20, _, F20, ⟨a20, b20, k20⟩, cl0, F20.binds (ps := P_Store_new) fun _ _ _ _ _ _ us hl => match us, hl with | [_], _ => rfl⟩
  have F21 := fun_mk (st := s_Store_size) l21 c21 k21
  have g21 : GotM K (caOf mg "Store") "size" "Store.size" s_Store_size P_Store_size := by rw [hc0]; exact ⟨f21, _, F21, ⟨a21, b21, k21⟩, cl0, F21.binds (ps := P_Store_size) fun _ _ _ _ _ _ us hl => match us, hl with | [_], _ => rfl⟩
  have F22 := fun_mk (st := s_built) l22 c22 k22
  have g22 : Got K mg "built" s_built P_built := ⟨f22, _, F22, PySem.W.mg_of X G a22, F22.binds (ps := P_built) fun _ _ _ _ _ _ us hl => match us, hl with | [_, _, _], _ => rfl⟩
  have F23 := fun_mk (st := s_Store___init__) l23 c23 k23
  have g23 : GotI K mg "Store" (caOf mg "Store") "Store.__init__" s_Store___init__ P_Store___init__ := by rw [hc0]; exact ⟨f23, _, F23, ⟨km0, a23, b23, kk0⟩, PySem.W.mg_of X G kg0, F23.binds (ps := P_Store___init__) fun _ _ _ _ _ _ us hl => match us, hl with | [_], _ => rfl⟩
  have F24 := fun_mk (st := s_Store_is_there) l24 c24 k24
  have g24 : GotM K (caOf mg "Store") "is_there" "Store.is_there" s_Store_is_there P_Store_is_there := by rw [hc0]; exact ⟨f24, _, F24, ⟨a24, b24, k24⟩, cl0, F24.binds (ps := P_Store_is_there) fun _ _ _ _ _ _ us hl => match us, hl with | [_, _], _ => rfl⟩
  have F25 := fun_mk (st := s_Store_check_there) l25 c25 k25
  have g25 : GotM K (caOf mg "Store") "check_there" "Store.check_there" s_Store_check_there P_Store_check_there := by rw [hc0]; exact ⟨f25, _, F25, ⟨a25, b25, k25⟩, cl0, F25.binds (ps := P_Store_check_there) fun _ _ _ _ _ _ us hl => match us, hl with | [_, _], _ => rfl⟩
  have F26 := fun_mk (st := s_Store_heap) l26 c26 k26
  have g26 : GotM K (caOf mg "Store") "heap" "Store.heap" s_Store_heap P_Store_heap := by rw [hc0]; exact ⟨f26, _, F26, ⟨a26, b26, k26⟩, cl0, F26.binds (ps := P_Store_heap) fun _ _ _ _ _ _ us hl => match us, hl with | [_], _ => rfl⟩
  have F27 := fun_mk (st := s_Store_at) l27 c27 k27
  have g27 : GotM K (caOf mg "Store") "at" "Store.at" s_Store_at P_Store_at := by rw [hc0]; exact ⟨f27, _, F27, ⟨a27, b27, k27⟩, cl0, F27.binds (ps := P_Store_at) fun _ _ _ _ _ _ us hl => match us, hl with | [_, _], _ => rfl⟩
  have F28 := fun_mk (st := s_Store_end) l28 c28 k28
  have g28 : GotM K (caOf mg "Store") "end" "Store.end" s_Store_end P_Store_end := by rw [hc0]; exact ⟨f28, _, F28, ⟨a28, b28, k28⟩, cl0, F28.binds (ps := P_Store_end) fun _ _ _ _ _ _ us hl => match us, hl with | [_, _], _ => rfl⟩
  have F29 := fun_mk (st := s_Store_fill) l29 c29 k29
  have g29 : GotM K (caOf mg "Store") "fill" "Store.fill" s_Store_fill P_Store_fill := by rw [hc0]; exact ⟨f29, _, F29, ⟨a29, b29, k29⟩, cl0, F29.binds (ps := P_Store_fill) fun _ _ _ _ _ _ us hl => match us, hl with | [_, _, _], _ => rfl⟩
  have F30 := fun_mk (st := s_Store_free) l30 c30 k30
  have g30 : GotM K (caOf mg "Store") "free" "Store.free" s_Store_free P_Store_free := by rw [hc0]; exact ⟨f30, _, F30, ⟨a30, b30, k30⟩, cl0, F30.binds (ps := P_Store_free) fun _ _ _ _ _ _ us hl => match us, hl with | [_, _], _ => rfl⟩
  have F31 := fun_mk (st := s_Store_marks) l31 c31 k31
  have g31 : GotM K (caOf mg "Store") "marks" "Store.marks" s_Store_marks P_Store_marks := by rw [hc0]; exact ⟨f31, _, F31, ⟨a31, b31, k31⟩, cl0, F31.binds (ps := P_Store_marks) fun _ _ _ _ _ _ us hl => match us, hl with | [_, _, _], _ => rfl⟩
  have F32 := fun_mk (st := s_Store_trail) l32 c32 k32
  have g32 : GotM K (caOf mg "Store") "trail" "Store.trail" s_Store_trail P_Store_trail := by rw [hc0]; exact ⟨f32, _, F32, ⟨a32, b32, k32⟩, cl0, F32.binds (ps := P_Store_trail) fun _ _ _ _ _ _ us hl => match us, hl with | [_], _ => rfl⟩
  have F33 := fun_mk (st := s_Store_bind) l33 c33 k33
  have g33 : GotM K (caOf mg "Store") "bind" "Store.bind" s_Store_bind P_Store_bind := by rw [hc0]; exact ⟨f33, _, F33, ⟨a33, b33, k33⟩, cl0, F33.binds (ps := P_Store_bind) fun _ _ _ _ _ _ us hl => match us, hl with | [_, _, _], _ => rfl⟩
  have F34 := fun_mk (st := s_Store_undo) l34 c34 k34
  have g34 : GotM K (caOf mg "Store") "undo" "Store.undo" s_Store_undo P_Store_undo := by rw [hc0]; exact ⟨f34, _, F34, ⟨a34, b34, k34⟩, cl0, F34.binds (ps := P_Store_undo) fun _ _ _ _ _ _ us hl => match us, hl with | [_, _, _], _ => rfl⟩
  have F35 := fun_mk (st := s_Store_build) l35 c35 k35
  have g35 : GotM K (caOf mg "Store") "build" "Store.build" s_Store_build P_Store_build := by rw [hc0]; exact ⟨f35, _, F35, ⟨a35, b35, k35⟩, cl0, F35.binds (ps := P_Store_build) fun _ _ _ _ _ _ us hl => match us, hl with | [_, _, _], _ => rfl⟩
  have F36 := fun_mk (st := s_Store_join) l36 c36 k36
  have g36 : GotM K (caOf mg "Store") "join" "Store.join" s_Store_join P_Store_join := by rw [hc0]; exact ⟨f36, _, F36, ⟨a36, b36, k36⟩, cl0, F36.binds (ps := P_Store_join) fun _ _ _ _ _ _ us hl => match us, hl with | [_, _, _], _ => rfl⟩
  have F37 := fun_mk (st := s__law_cell_at) l37 c37 k37
  have g37 : Got K mg "_law_cell_at" s__law_cell_at P__law_cell_at := ⟨f37, _, F37, PySem.W.mg_of X G a37, F37.binds (ps := P__law_cell_at) fun _ _ _ _ _ _ us hl => match us, hl with | [_, _], _ => rfl⟩
  have F38 := fun_mk (st := s__law_well) l38 c38 k38
  have g38 : Got K mg "_law_well" s__law_well P__law_well := ⟨f38, _, F38, PySem.W.mg_of X G a38, F38.binds (ps := P__law_well) fun _ _ _ _ _ _ us hl => match us, hl with | [_], _ => rfl⟩
  have F39 := fun_mk (st := s__law_draw) l39 c39 k39
  have g39 : Got K mg "_law_draw" s__law_draw P__law_draw := ⟨f39, _, F39, PySem.W.mg_of X G a39, F39.binds (ps := P__law_draw) fun _ _ _ _ _ _ us hl => match us, hl with | [_, _], _ => rfl⟩
  have F40 := fun_mk (st := s__law_one) l40 c40 k40
  have g40 : Got K mg "_law_one" s__law_one P__law_one := ⟨f40, _, F40, PySem.W.mg_of X G a40, F40.binds (ps := P__law_one) fun _ _ _ _ _ _ us hl => match us, hl with | [_, _], _ => rfl⟩
  have F41 := fun_mk (st := s__law_term) l41 c41 k41
  have g41 : Got K mg "_law_term" s__law_term P__law_term := ⟨f41, _, F41, PySem.W.mg_of X G a41, F41.binds (ps := P__law_term) fun _ _ _ _ _ _ us hl => match us, hl with | [_, _, _], _ => rfl⟩
  have F42 := fun_mk (st := s__law_slots) l42 c42 k42
  have g42 : Got K mg "_law_slots" s__law_slots P__law_slots := ⟨f42, _, F42, PySem.W.mg_of X G a42, F42.binds (ps := P__law_slots) fun _ _ _ _ _ _ us hl => match us, hl with | [_, _], _ => rfl⟩
  have F43 := fun_mk (st := s__law_work) l43 c43 k43
  have g43 : Got K mg "_law_work" s__law_work P__law_work := ⟨f43, _, F43, PySem.W.mg_of X G a43, F43.binds (ps := P__law_work) fun _ _ _ _ _ _ us hl => match us, hl with | [_, _, _, _], _ => rfl⟩
  have F44 := fun_mk (st := s__law_unnoted_right) l44 c44 k44
  have g44 : Got K mg "_law_unnoted_right" s__law_unnoted_right P__law_unnoted_right := ⟨f44, _, F44, PySem.W.mg_of X G a44, F44.binds (ps := P__law_unnoted_right) fun _ _ _ _ _ _ us hl => match us, hl with | [], _ => rfl⟩
  have F45 := fun_mk (st := s_law) l45 c45 k45
  refine ⟨PySem.W.fnOf "law" "law" (defArgs s_law) (defBody s_law) (defScope s_law) .none kV45 dc45 pm45 an45 cd45 ct45, fun s v => .of_eq rfl, fun base _ _ => ?_⟩
  have C_is_int := c_is_int (P := l.prog) (w := w) (base := base) (NF := 10000000) (RD := 10) (CA := caOf mg) (L := 0) g0 z y q kk
  have C_is_variable := c_is_variable (P := l.prog) (w := w) (base := base) (NF := 10000000) (RD := 10) (CA := caOf mg) (L := 1) g1 z y q kk (C_is_int.mono (by decide))
  have C_is_any_number := c_is_any_number (P := l.prog) (w := w) (base := base) (NF := 10000000) (RD := 10) (CA := caOf mg) (L := 1) g2 z y q kk (C_is_int.mono (by decide))
  have C_is_any_atom := c_is_any_atom (P := l.prog) (w := w) (base := base) (NF := 10000000) (RD := 10) (CA := caOf mg) (L := 0) g3 z y q kk
  have C_is_compound := c_is_compound (P := l.prog) (w := w) (base := base) (NF := 10000000) (RD := 10) (CA := caOf mg) (L := 0) g4 z y q kk
  have C_is_term := c_is_term (P := l.prog) (w := w) (base := base) (NF := 10000000) (RD := 10) (CA := caOf mg) (L := 2) g5 z y q kk (C_is_compound.mono (by decide)) (C_is_any_atom.mono (by decide)) (C_is_variable.mono (by decide)) (C_is_any_number.mono (by decide))
  have C_is_place := c_is_place (P := l.prog) (w := w) (base := base) (NF := 10000000) (RD := 10) (CA := caOf mg) (L := 0) g6 z y q kk
  have C_is_address := c_is_address (P := l.prog) (w := w) (base := base) (NF := 10000000) (RD := 10) (CA := caOf mg) (L := 1) g7 z y q kk (C_is_place.mono (by decide))
  have C_is_functor := c_is_functor (P := l.prog) (w := w) (base := base) (NF := 10000000) (RD := 10) (CA := caOf mg) (L := 1) g8 z y q kk (C_is_any_atom.mono (by decide)) (C_is_place.mono (by decide))
  have C_is_cell := c_is_cell (P := l.prog) (w := w) (base := base) (NF := 10000000) (RD := 10) (CA := caOf mg) (L := 2) g9 z y q kk (C_is_functor.mono (by decide)) (C_is_any_atom.mono (by decide)) (C_is_any_number.mono (by decide)) (C_is_place.mono (by decide)) (C_is_address.mono (by decide))
  have C_constant := c_constant (P := l.prog) (w := w) (base := base) (NF := 10000000) (RD := 10) (CA := caOf mg) (L := 0) g10 z y q kk
  have C_check_cell := c_check_cell (P := l.prog) (w := w) (base := base) (NF := 10000000) (RD := 10) (CA := caOf mg) (L := 1) g11 z y q kk (C_is_cell.mono (by decide))
  have K_Store_look := k_Store_look (P := l.prog) (w := w) (base := base) (NF := 10000000) (RD := 10) (CA := caOf mg) (L := 0) g12 z y q kk
  have C_reaches := c_reaches (P := l.prog) (w := w) (base := base) (NF := 10000000) (RD := 10) (CA := caOf mg) (L := 1) g13 z y q kk (K_Store_look.mono (by decide))
  have Cd_reaches := cd_reaches (P := l.prog) (w := w) (base := base) (NF := 10000000) (RD := 10) (CA := caOf mg) (L := 1) (fun _ _ => Rps.cons rp_non (Rps.nil)) g13 z y q kk (K_Store_look.mono (by decide))
  have K_Store_write_at := k_Store_write_at (P := l.prog) (w := w) (base := base) (NF := 10000000) (RD := 10) (CA := caOf mg) (L := 0) g14 z y q kk
  have K_Store_assign := k_Store_assign (P := l.prog) (w := w) (base := base) (NF := 10000000) (RD := 10) (CA := caOf mg) (L := 1) g15 z y q kk (K_Store_write_at.mono (by decide))
  have C_bind_or_not := c_bind_or_not (P := l.prog) (w := w) (base := base) (NF := 10000000) (RD := 10) (CA := caOf mg) (L := 2) g16 z y q kk (K_Store_assign.mono (by decide)) (Cd_reaches.mono (by decide))
  have K_Store_follow := k_Store_follow (P := l.prog) (w := w) (base := base) (NF := 10000000) (RD := 10) (CA := caOf mg) (L := 1) g17 z y q kk (K_Store_look.mono (by decide))
  have C_joined := c_joined (P := l.prog) (w := w) (base := base) (NF := 10000000) (RD := 10) (CA := caOf mg) (L := 3) g18 z y q kk (K_Store_follow.mono (by decide)) (C_bind_or_not.mono (by decide)) (K_Store_look.mono (by decide))
  have C_simple := c_simple (P := l.prog) (w := w) (base := base) (NF := 10000000) (RD := 10) (CA := caOf mg) (L := 1) g19 z y q kk (C_constant.mono (by decide))
  have K_Store_new := k_Store_new (P := l.prog) (w := w) (base := base) (NF := 10000000) (RD := 10) (CA := caOf mg) (L := 0) g20 z y q kk
  have K_Store_size := k_Store_size (P := l.prog) (w := w) (base := base) (NF := 10000000) (RD := 10) (CA := caOf mg) (L := 0) g21 z y q kk
  have C_built := c_built (P := l.prog) (w := w) (base := base) (NF := 10000000) (RD := 10) (CA := caOf mg) (L := 2) g22 z y q kk (C_simple.mono (by decide)) (K_Store_new.mono (by decide)) (K_Store_size.mono (by decide))
  have I_Store := i_Store (P := l.prog) (w := w) (base := base) (NF := 10000000) (RD := 10) (CA := caOf mg) (L := 0) g23 z y q kk
  have K_Store_is_there := k_Store_is_there (P := l.prog) (w := w) (base := base) (NF := 10000000) (RD := 10) (CA := caOf mg) (L := 2) g24 z y q kk (C_is_address.mono (by decide))
  have K_Store_check_there := k_Store_check_there (P := l.prog) (w := w) (base := base) (NF := 10000000) (RD := 10) (CA := caOf mg) (L := 1) g25 z y q kk (K_Store_is_there.mono (by decide))
  have K_Store_heap := k_Store_heap (P := l.prog) (w := w) (base := base) (NF := 10000000) (RD := 10) (CA := caOf mg) (L := 0) g26 z y q kk
  have K_Store_at := k_Store_at (P := l.prog) (w := w) (base := base) (NF := 10000000) (RD := 10) (CA := caOf mg) (L := 4) g27 z y q kk (K_Store_check_there.mono (by decide)) (K_Store_look.mono (by decide))
  have K_Store_end := k_Store_end (P := l.prog) (w := w) (base := base) (NF := 10000000) (RD := 10) (CA := caOf mg) (L := 4) g28 z y q kk (C_check_cell.mono (by decide)) (K_Store_follow.mono (by decide))
  have K_Store_fill := k_Store_fill (P := l.prog) (w := w) (base := base) (NF := 10000000) (RD := 10) (CA := caOf mg) (L := 2) g29 z y q kk (C_check_cell.mono (by decide)) (C_is_place.mono (by decide))
  have K_Store_free := k_Store_free (P := l.prog) (w := w) (base := base) (NF := 10000000) (RD := 10) (CA := caOf mg) (L := 0) g30 z y q kk (C_is_place.mono (by decide))
  have K_Store_marks := k_Store_marks (P := l.prog) (w := w) (base := base) (NF := 10000000) (RD := 10) (CA := caOf mg) (L := 0) g31 z y q kk (C_is_place.mono (by decide))
  have K_Store_trail := k_Store_trail (P := l.prog) (w := w) (base := base) (NF := 10000000) (RD := 10) (CA := caOf mg) (L := 0) g32 z y q kk
  have K_Store_bind := k_Store_bind (P := l.prog) (w := w) (base := base) (NF := 10000000) (RD := 10) (CA := caOf mg) (L := 2) g33 z y q kk (K_Store_check_there.mono (by decide)) (C_check_cell.mono (by decide)) (K_Store_assign.mono (by decide)) (K_Store_look.mono (by decide))
  have K_Store_undo := k_Store_undo (P := l.prog) (w := w) (base := base) (NF := 10000000) (RD := 10) (CA := caOf mg) (L := 0) g34 z y q kk (K_Store_write_at.mono (by decide)) (C_is_place.mono (by decide))
  have K_Store_build := k_Store_build (P := l.prog) (w := w) (base := base) (NF := 10000000) (RD := 10) (CA := caOf mg) (L := 1) g35 z y q kk (C_built.mono (by decide)) (C_is_term.mono (by decide))
  have K_Store_join := k_Store_join (P := l.prog) (w := w) (base := base) (NF := 10000000) (RD := 10) (CA := caOf mg) (L := 4) g36 z y q kk (C_check_cell.mono (by decide)) (C_joined.mono (by decide))
  have C__law_cell_at := c__law_cell_at (P := l.prog) (w := w) (base := base) (NF := 10000000) (RD := 10) (CA := caOf mg) (L := 0) g37 z y q kk
  have C__law_well := c__law_well (P := l.prog) (w := w) (base := base) (NF := 10000000) (RD := 10) (CA := caOf mg) (L := 0) g38 z y q kk
  have C__law_draw := c__law_draw (P := l.prog) (w := w) (base := base) (NF := 10000000) (RD := 10) (CA := caOf mg) (L := 0) g39 z y q kk
  have C__law_one := c__law_one (P := l.prog) (w := w) (base := base) (NF := 10000000) (RD := 10) (CA := caOf mg) (L := 1) g40 z y q kk (C__law_draw.mono (by decide))
  have C__law_term := c__law_term (P := l.prog) (w := w) (base := base) (NF := 10000000) (RD := 10) (CA := caOf mg) (L := 2) g41 z y q kk (C__law_draw.mono (by decide)) (C__law_one.mono (by decide)) 10
  have C__law_slots := c__law_slots (P := l.prog) (w := w) (base := base) (NF := 10000000) (RD := 10) (CA := caOf mg) (L := 5) g42 z y q kk (K_Store_at.mono (by decide))
  have C__law_work := c__law_work (P := l.prog) (w := w) (base := base) (NF := 10000000) (RD := 10) (CA := caOf mg) (L := 12) g43 z y q kk (C__law_draw.mono (by decide)) (K_Store_free.mono (by decide)) (K_Store_join.mono (by decide)) (K_Store_new.mono (by decide)) (K_Store_build.mono (by decide)) (C__law_term.mono (by decide))
  have C__law_unnoted_right := c__law_unnoted_right (P := l.prog) (w := w) (base := base) (NF := 10000000) (RD := 10) (CA := caOf mg) (L := 4) g44 z y q kk (I_Store.mono (by decide)) (K_Store_marks.mono (by decide)) (K_Store_free.mono (by decide)) (K_Store_fill.mono (by decide)) (K_Store_bind.mono (by decide)) (K_Store_undo.mono (by decide)) (K_Store_new.mono (by decide)) (K_Store_trail.mono (by decide)) (K_Store_heap.mono (by decide)) (K_Store_at.mono (by decide))
  exact (ok_law (L := 12) (NF := 10000000) (RD := 10) (CA := caOf mg) F45 z y q kk (C__law_unnoted_right.mono (by decide)) (C__law_well.mono (by decide)) (C__law_work.mono (by decide)) (C__law_cell_at.mono (by decide)) (I_Store.mono (by decide)) (K_Store_marks.mono (by decide)) (K_Store_undo.mono (by decide)) (K_Store_size.mono (by decide)) (K_Store_heap.mono (by decide)) (C__law_slots.mono (by decide)) (K_Store_trail.mono (by decide)) (K_Store_new.mono (by decide))).toA (CA := caOf mg) (m := m_law 10000000 10)
theorem walk {l : PySem.W.OpenLaw} {q : Program} {loose : List Str} {XP : (Str → Option Value) → Heap → Prop} {YP : World → Heap → Prop} {d : DefRec} {K : Params → PySem.W.Frag} (hn : l.most = some 63) (hdf : d.params.defaults = [])
    (hY : ∀ (w : World) (h : Heap), YP w h → (K w.params).In h)
    (F : ∀ (w : World) (mg : Str → Option Value) (fa : Addr) (h : Heap), (K w.params).In h → h.Ns mainGlobals mg → mg d.name = some (.ref fa) →
      ∃ fd : FuncData, (∀ (s : Shared) (u : Value), BindsTo s fd ⟨[u], []⟩ [("script", u)]) ∧ ∀ base : Heap, (K w.params).In base → base.Ns mainGlobals mg → FnG l.prog w (K w.params) mg base (L2.CX l.prog w) 14 fa fd ["script"] (spA ⟨K w.params, w⟩ 1 (m_law 10000000 10))) :
    PySem.W.WalkO q loose XP YP l.row.toRowW d [] (fun f vs => PySem.call f vs) :=
  DL.walk_G (n := 63) (k := 14) (x := "script") (CX := fun w => L2.CX l.prog w) (sp := fun w => spA ⟨K w.params, w⟩ 1 (m_law 10000000 10)) hn (by decide) hdf ⟨rfl, by decide, by decide⟩ hY F (fun _ _ a ns hl hO hS => law_endA (fun CA => law_true CA ns hl) hO hS) fun _ _ _ _ _ ⟨_, _, _, _, _, _, _, _, _, _, _, _, z⟩ => z
end
end K50
open PySem PySem.W PyProof.Rows
theorem PySem.Challenge.cw_hornhall_k50_whole_bindings_taken_back_holds : PySem.Challenge.rw_hornhall_k50_whole_bindings_taken_back.Holds := by
  w_on; o_law; k_head; (case hw => w_witness2)
  k_fill
  refine K50.walk (l := PySem.Challenge.rw_hornhall_k50_whole_bindings_taken_back) rfl rfl (fun w h Y => PySem.W.kIn_of Y) ?F
  case F =>
    intro w mg fa h KX G hmg
    refine' K50.all_mk KX G hmg ?kg0 ?kp0 ?kh0 ?ko0 ?ks0 ?kf0_0 ?kf0_1 ?kf0_2 ?kf0_3 ?km0 ?kk0 ?a0 ?l0 ?c0 ?k0 ?a1 ?l1 ?c1 ?k1 ?a2 ?l2 ?c2 ?k2 ?a3 ?l3 ?c3 ?k3 ?a4 ?l4 ?c4 ?k4 ?a5 ?l5 ?c5 ?k5 ?a6 ?l6 ?c6 ?k6 ?a7 ?l7 ?c7 ?k7 ?a8 ?l8 ?c8 ?k8 ?a9 ?l9 ?c9 ?k9 ?a10 ?l10 ?c10 ?k10 ?a11 ?l11 ?c11 ?k11 ?a12 ?b12 ?l12 ?c12 ?k12 ?a13 ?l13 ?c13 ?k13 ?t13 ?a14 ?b14 ?l14 ?c14 ?k14 ?a15 ?b15 ?l15 ?c15 ?k15 ?a16 ?l16 ?c16 ?k16 ?a17 ?b17 ?l17 ?c17 ?k17 ?a18 ?l18 ?c18 ?k18 ?a19 ?l19 ?c19 ?k19 ?a20 ?b20 ?l20 ?c20 ?k20 ?a21 ?b21 ?l21 ?c21 ?k21 ?a22 ?l22 ?c22 ?k22 ?a23 ?b23 ?l23 ?c23 ?k23 ?a24 ?b24 ?l24 ?c24 ?k24 ?a25 ?b25 ?l25 ?c25 ?k25 ?a26 ?b26 ?l26 ?c26 ?k26 ?a27 ?b27 ?l27 ?c27 ?k27 ?a28 ?b28 ?l28 ?c28 ?k28 ?a29 ?b29 ?l29 ?c29 ?k29 ?a30 ?b30 ?l30 ?c30 ?k30 ?a31 ?b31 ?l31 ?c31 ?k31 ?a32 ?b32 ?l32 ?c32 ?k32 ?a33 ?b33 ?l33 ?c33 ?k33 ?a34 ?b34 ?l34 ?c34 ?k34 ?a35 ?b35 ?l35 ?c35 ?k35 ?a36 ?b36 ?l36 ?c36 ?k36 ?a37 ?l37 ?c37 ?k37 ?a38 ?l38 ?c38 ?k38 ?a39 ?l39 ?c39 ?k39 ?a40 ?l40 ?c40 ?k40 ?a41 ?l41 ?c41 ?k41 ?a42 ?l42 ?c42 ?k42 ?a43 ?l43 ?c43 ?k43 ?a44 ?l44 ?c44 ?k44 ?a45 ?l45 ?c45 ?k45 ?z0 ?z1 ?z2 ?z3 ?z4 ?z5 ?z6 ?z7 ?z8 ?z9 ?z10 ?z11 ?z12 ?z13 ?y0 ?y1 ?y2 ?gx0 ?gx1 ?gx2 ?gx3 ?gx4 ?xl0 ?xs0 ?xg0 ?xh0 ?xi0 ?xt0 ?xf0 ?xc0 ?xk0 ?yk0 ?ye0 ?yt0 ?yh0 ?yn0_0 ?xl1 ?xs1 ?xg1 ?xh1 ?xi1 ?xt1 ?xf1 ?xc1 ?xk1 ?yk1 ?ye1 ?yt1 ?yh1 ?yn1_0 ?xl2 ?xs2 ?xg2 ?xh2 ?xi2 ?xt2 ?xf2 ?xc2 ?xk2 ?yk2 ?ye2 ?yt2 ?yh2 ?yn2_0 ?xl3 ?xs3 ?xg3 ?xh3 ?xi3 ?xt3 ?xf3 ?xc3 ?xk3 ?yk3 ?ye3 ?yt3 ?yh3 ?yn3_0 ?br0 ?bf0
    (case kg0 => k_is)
    (case kp0 => k_is)
    (case kh0 => k_is)
    (case ko0 => k_is)
    (case ks0 => k_is)
    (case kf0_0 => k_is)
    (case kf0_1 => k_is)
    (case kf0_2 => k_is)
    (case kf0_3 => k_is)
    (case km0 => k_is)
    (case kk0 => k_is)
    (case a0 => k_is)
    (case l0 => k_is)
    (case c0 => k_is)
    (case k0 => k_is)
    (case a1 => k_is)
    (case l1 => k_is)
    (case c1 => k_is)
    (case k1 => k_is)
    (case a2 => k_is)
    (case l2 => k_is)
    (case c2 => k_is)
    (case k2 => k_is)
    (case a3 => k_is)
    (case l3 => k_is)
    (case c3 => k_is)
    (case k3 => k_is)
    (case a4 => k_is)
    (case l4 => k_is)
    (case c4 => k_is)
    (case k4 => k_is)
    (case a5 => k_is)
    (case l5 => k_is)
    (case c5 => k_is)
    (case k5 => k_is)
    (case a6 => k_is)
    (case l6 => k_is)
    (case c6 => k_is)
    (case k6 => k_is)
    (case a7 => k_is)
    (case l7 => k_is)
    (case c7 => k_is)
    (case k7 => k_is)
    (case a8 => k_is)
    (case l8 => k_is)
    (case c8 => k_is)
    (case k8 => k_is)
    (case a9 => k_is)
    (case l9 => k_is)
    (case c9 => k_is)
    (case k9 => k_is)
    (case a10 => k_is)
    (case l10 => k_is)
    (case c10 => k_is)
    (case k10 => k_is)
    (case a11 => k_is)
    (case l11 => k_is)
    (case c11 => k_is)
    (case k11 => k_is)
    (case a12 => k_is)
    (case b12 => k_is)
    (case l12 => k_is)
    (case c12 => k_is)
    (case k12 => k_is)
    (case a13 => k_is)
    (case l13 => k_is)
    (case c13 => k_is)
    (case k13 => k_is)
    (case t13 => k_is)
    (case a14 => k_is)
    (case b14 => k_is)
    (case l14 => k_is)
    (case c14 => k_is)
    (case k14 => k_is)
    (case a15 => k_is)
    (case b15 => k_is)
    (case l15 => k_is)
    (case c15 => k_is)
    (case k15 => k_is)
    (case a16 => k_is)
    (case l16 => k_is)
    (case c16 => k_is)
    (case k16 => k_is)
    (case a17 => k_is)
    (case b17 => k_is)
    (case l17 => k_is)
    (case c17 => k_is)
    (case k17 => k_is)
    (case a18 => k_is)
    (case l18 => k_is)
    (case c18 => k_is)
    (case k18 => k_is)
    (case a19 => k_is)
    (case l19 => k_is)
    (case c19 => k_is)
    (case k19 => k_is)
    (case a20 => k_is)
    (case b20 => k_is)
    (case l20 => k_is)
    (case c20 => k_is)
    (case k20 => k_is)
    (case a21 => k_is)
    (case b21 => k_is)
    (case l21 => k_is)
    (case c21 => k_is)
    (case k21 => k_is)
    (case a22 => k_is)
    (case l22 => k_is)
    (case c22 => k_is)
    (case k22 => k_is)
    (case a23 => k_is)
    (case b23 => k_is)
    (case l23 => k_is)
    (case c23 => k_is)
    (case k23 => k_is)
    (case a24 => k_is)
    (case b24 => k_is)
    (case l24 => k_is)
    (case c24 => k_is)
    (case k24 => k_is)
    (case a25 => k_is)
    (case b25 => k_is)
    (case l25 => k_is)
    (case c25 => k_is)
    (case k25 => k_is)
    (case a26 => k_is)
    (case b26 => k_is)
    (case l26 => k_is)
    (case c26 => k_is)
    (case k26 => k_is)
    (case a27 => k_is)
    (case b27 => k_is)
    (case l27 => k_is)
    (case c27 => k_is)
    (case k27 => k_is)
    (case a28 => k_is)
    (case b28 => k_is)
    (case l28 => k_is)
    (case c28 => k_is)
    (case k28 => k_is)
    (case a29 => k_is)
    (case b29 => k_is)
    (case l29 => k_is)
    (case c29 => k_is)
    (case k29 => k_is)
    (case a30 => k_is)
    (case b30 => k_is)
    (case l30 => k_is)
    (case c30 => k_is)
    (case k30 => k_is)
    (case a31 => k_is)
    (case b31 => k_is)
    (case l31 => k_is)
    (case c31 => k_is)
    (case k31 => k_is)
    (case a32 => k_is)
    (case b32 => k_is)
    (case l32 => k_is)
    (case c32 => k_is)
    (case k32 => k_is)
    (case a33 => k_is)
    (case b33 => k_is)
    (case l33 => k_is)
    (case c33 => k_is)
    (case k33 => k_is)
    (case a34 => k_is)
    (case b34 => k_is)
    (case l34 => k_is)
    (case c34 => k_is)
    (case k34 => k_is)
    (case a35 => k_is)
    (case b35 => k_is)
    (case l35 => k_is)
    (case c35 => k_is)
    (case k35 => k_is)
    (case a36 => k_is)
    (case b36 => k_is)
    (case l36 => k_is)
    (case c36 => k_is)
    (case k36 => k_is)
    (case a37 => k_is)
    (case l37 => k_is)
    (case c37 => k_is)
    (case k37 => k_is)
    (case a38 => k_is)
    (case l38 => k_is)
    (case c38 => k_is)
    (case k38 => k_is)
    (case a39 => k_is)
    (case l39 => k_is)
    (case c39 => k_is)
    (case k39 => k_is)
    (case a40 => k_is)
    (case l40 => k_is)
    (case c40 => k_is)
    (case k40 => k_is)
    (case a41 => k_is)
    (case l41 => k_is)
    (case c41 => k_is)
    (case k41 => k_is)
    (case a42 => k_is)
    (case l42 => k_is)
    (case c42 => k_is)
    (case k42 => k_is)
    (case a43 => k_is)
    (case l43 => k_is)
    (case c43 => k_is)
    (case k43 => k_is)
    (case a44 => k_is)
    (case l44 => k_is)
    (case c44 => k_is)
    (case k44 => k_is)
    (case a45 => k_is)
    (case l45 => k_is)
    (case c45 => k_is)
    (case k45 => k_is)
    (case z0 => k_is)
    (case z1 => k_is)
    (case z2 => k_is)
    (case z3 => k_is)
    (case z4 => k_is)
    (case z5 => k_is)
    (case z6 => k_is)
    (case z7 => k_is)
    (case z8 => k_is)
    (case z9 => k_is)
    (case z10 => k_is)
    (case z11 => k_is)
    (case z12 => k_is)
    (case z13 => k_is)
    (case y0 => k_is)
    (case y1 => k_is)
    (case y2 => k_is)
    (case gx0 => k_is)
    (case gx1 => k_is)
    (case gx2 => k_is)
    (case gx3 => k_is)
    (case gx4 => k_is)
    (case xl0 => k_is)
    (case xs0 => k_is)
    (case xg0 => k_is)
    (case xh0 => k_is)
    (case xi0 => k_is)
    (case xt0 => k_is)
    (case xf0 => k_is)
    (case xc0 => k_is)
    (case xk0 => k_is)
    (case yk0 => k_is)
    (case ye0 => k_is)
    (case yt0 => k_is)
    (case yh0 => k_is)
    (case yn0_0 => k_is)
    (case xl1 => k_is)
    (case xs1 => k_is)
    (case xg1 => k_is)
    (case xh1 => k_is)
    (case xi1 => k_is)
    (case xt1 => k_is)
    (case xf1 => k_is)
    (case xc1 => k_is)
    (case xk1 => k_is)
    (case yk1 => k_is)
    (case ye1 => k_is)
    (case yt1 => k_is)
    (case yh1 => k_is)
    (case yn1_0 => k_is)
    (case xl2 => k_is)
    (case xs2 => k_is)
    (case xg2 => k_is)
    (case xh2 => k_is)
    (case xi2 => k_is)
    (case xt2 => k_is)
    (case xf2 => k_is)
    (case xc2 => k_is)
    (case xk2 => k_is)
    (case yk2 => k_is)
    (case ye2 => k_is)
    (case yt2 => k_is)
    (case yh2 => k_is)
    (case yn2_0 => k_is)
    (case xl3 => k_is)
    (case xs3 => k_is)
    (case xg3 => k_is)
    (case xh3 => k_is)
    (case xi3 => k_is)
    (case xt3 => k_is)
    (case xf3 => k_is)
    (case xc3 => k_is)
    (case xk3 => k_is)
    (case yk3 => k_is)
    (case ye3 => k_is)
    (case yt3 => k_is)
    (case yh3 => k_is)
    (case yn3_0 => k_is)
    (case br0 => k_is)
    (case bf0 => k_is)

