import PyProof.Rows.All
import HandS.ForMost
import HandS.IsInst
import HandS.TupAny
import HandS.Wide
import HandS.Defaults
import KE.KeyNested
import KE.KDictKeyed
import HandS.Flow
import HandS.TupMul
import HandS.WordsDict
import HandS.Conv
import HandS.Zip
import HandS.ForExc
import HandS.ExcField
import HandS.CallSlots
import HandS.Style
import HandS.WideBits
import HandS.Rev
import HandS.TryOnly
import HandS.ExcInit
import HandS.ExcIs
import HandS.TryMany
import KE.DataMinMax
import KE.DatumOrd
import HandS.Deep
import KE.KDictLaws
import PyProof.SliceList
import HandS.TupLen
import HandS.More
import HandS.DictEq
import KE.SortKeyHeap
import HandS.ExcValue
import KE.DataCmp
import PySem.Challenge.RW_hornhall_k03_whole_order_of_terms
import Wide.All
import OpenK.AllK
import Wide.FinOn
set_option Elab.async false
set_option linter.all false
set_option maxRecDepth 100000
set_option maxHeartbeats 8000000
/-! DL1: values as trees, objects by number; what stands for what. -/
namespace DL
open PySem L2
/-- the written part, and the world (texts' hashes) -/
structure Kw where
  f : PySem.W.Frag
  w : World
instance : Coe Kw PySem.W.Frag := ⟨Kw.f⟩
abbrev Kw.lookup (K : Kw) (a : Addr) : Option Obj := List.lookup a K.f
abbrev KOf (X : Cx) : Kw := ⟨X.K, X.w⟩

inductive D where
  | non | bl (b : Bool) | int (i : Int) | str (s : Str) | ty (s : String)
  | tup (xs : List D) | rol (xs : List D) | at (n : Nat)
  | ad (a : Addr)
/-! names of fields by number: the signs are the digits to the base 256 -/
def bys : Nat → Nat → List Nat
  | 0, _ => []
  | k + 1, n => if n = 0 then [] else (n % 256) :: bys k (n / 256)
def valB : List Nat → Nat
  | [] => 0
  | b :: bs => b + 256 * valB bs
theorem val_bys : ∀ (k n : Nat), n ≤ k → valB (bys k n) = n
  | 0, n, h => by
    have : n = 0 := by omega
    subst this
    rfl
  | k + 1, n, h => by
    unfold bys
    split
    · rename_i e
      rw [e]
      rfl
    · rw [valB, val_bys k (n / 256) (by omega)]
      omega
def nmN (n : Nat) : Str := ⟨(bys n n).toArray⟩
theorem nmN_inj {m n : Nat} (h : nmN m = nmN n) : m = n := by
  have e : bys m m = bys n n := by
    have := congrArg (fun s : Str => s.cps.toList) h
    simpa [nmN] using this
  rw [← val_bys m m (Nat.le_refl _), ← val_bys n n (Nat.le_refl _), e]
inductive O where
  | lst (xs : List D) | dct (kvs : List (Key × D))
  /-- an instance of the class at C; a dict whose keys are data without lists -/
  | ins (C : Addr) (fs : List (Nat × D)) | dcn (kvs : List (D × D))
abbrev Hd := List O
abbrev Sg := List (Option D)

/-- a list that nobody writes at -/
def SqF (K : Kw) (H : Hp) (a : Addr) (xs : List V) : Prop :=
  (∃ ob, H a = some (.frz ob (.lst xs))) ∨
    ∃ (o : Obj) (its : Array Value) (n : Nat), K.lookup a = some o ∧ o.cls = .type "list" ∧ o.dict = none ∧ o.data = .seq its n ∧ its.size ≤ sizeLine ∧ Vals xs its.toList
theorem SqF.l {K : Kw} {H : Hp} {a : Addr} {xs : List V} (h : SqF K H a xs) : SqL K H a xs := by
  rcases h with ⟨o, h⟩ | h
  · exact .inl (.inr ⟨o, h⟩)
  · exact .inr h

mutual
def Rp (K : Kw) (H : Hp) (μ : List Addr) : D → V → Prop
  | .non, v => v = .non
  | .bl b, v => v = .bl b
  | .int i, v => v = .int i
  | .str s, v => v = .str s
  | .ty s, v => v = .ty s
  | .tup xs, v => ∃ p vs, v = .ref p ∧ SqT K H p vs ∧ Rps K H μ xs vs
  | .rol xs, v => ∃ p vs, v = .ref p ∧ SqF K H p vs ∧ Rps K H μ xs vs
  | .at n, v => ∃ a, μ[n]? = some a ∧ v = .ref a
  | .ad a, v => v = .ref a
def Rps (K : Kw) (H : Hp) (μ : List Addr) : List D → List V → Prop
  | [], vs => vs = []
  | d :: ds, vs => ∃ v vs', vs = v :: vs' ∧ Rp K H μ d v ∧ Rps K H μ ds vs'
end

/-- what goes on: objects keep their numbers, what cannot change stays -/
structure Le (K : Kw) (H : Hp) (μ : List Addr) (H' : Hp) (μ' : List Addr) : Prop where
  pre : ∃ r, μ' = μ ++ r
  tup : ∀ p vs, SqT K H p vs → SqT K H' p vs
  frz : ∀ p vs, SqF K H p vs → SqF K H' p vs
  xdt : ∀ p fs, H p = some (.xd fs) → H' p = some (.xd fs)
theorem Le.refl {K : Kw} {H : Hp} {μ : List Addr} : Le K H μ H μ := ⟨⟨[], by simp⟩, fun _ _ h => h, fun _ _ h => h, fun _ _ h => h⟩
theorem Le.trans {K : Kw} {H H1 H2 : Hp} {μ μ1 μ2 : List Addr} (a : Le K H μ H1 μ1) (b : Le K H1 μ1 H2 μ2) : Le K H μ H2 μ2 := by
  obtain ⟨r, hr⟩ := a.pre
  obtain ⟨q, hq⟩ := b.pre
  exact ⟨⟨r ++ q, by rw [hq, hr, List.append_assoc]⟩, fun p vs h => b.tup p vs (a.tup p vs h), fun p vs h => b.frz p vs (a.frz p vs h), fun p fs h => b.xdt p fs (a.xdt p fs h)⟩
theorem Le.get {K : Kw} {H H' : Hp} {μ μ' : List Addr} (a : Le K H μ H' μ') {n : Nat} {x : Addr} (h : μ[n]? = some x) : μ'[n]? = some x := by
  obtain ⟨r, hr⟩ := a.pre
  rw [hr, List.getElem?_append_left (by exact (List.getElem?_eq_some_iff.mp h).1)]
  exact h

section
variable {K : Kw} {H H' : Hp} {μ μ' : List Addr}
mutual
theorem Rp.mono (e : Le K H μ H' μ') : ∀ (d : D) (v : V), Rp K H μ d v → Rp K H' μ' d v
  | .non, _, h => by unfold Rp at *; exact h
  | .bl _, _, h => by unfold Rp at *; exact h
  | .int _, _, h => by unfold Rp at *; exact h
  | .str _, _, h => by unfold Rp at *; exact h
  | .ty _, _, h => by unfold Rp at *; exact h
  | .tup xs, v, h => by
    unfold Rp at *
    obtain ⟨p, vs, a, b, c⟩ := h
    exact ⟨p, vs, a, e.tup _ _ b, Rps.mono e xs vs c⟩
  | .rol xs, v, h => by
    unfold Rp at *
    obtain ⟨p, vs, a, b, c⟩ := h
    exact ⟨p, vs, a, e.frz _ _ b, Rps.mono e xs vs c⟩
  | .at n, v, h => by
    unfold Rp at *
    obtain ⟨a, b, c⟩ := h
    exact ⟨a, e.get b, c⟩
  | .ad _, _, h => by unfold Rp at *; exact h
theorem Rps.mono (e : Le K H μ H' μ') : ∀ (ds : List D) (vs : List V), Rps K H μ ds vs → Rps K H' μ' ds vs
  | [], _, h => by unfold Rps at *; exact h
  | d :: ds, vs, h => by
    unfold Rps at *
    obtain ⟨v, vs', a, b, c⟩ := h
    exact ⟨v, vs', a, Rp.mono e d v b, Rps.mono e ds vs' c⟩
end
theorem Rps.nil : Rps K H μ [] [] := by unfold Rps; rfl
theorem Rps.cons {d : D} {ds : List D} {v : V} {vs : List V} (a : Rp K H μ d v) (b : Rps K H μ ds vs) : Rps K H μ (d :: ds) (v :: vs) := by
  unfold Rps; exact ⟨v, vs, rfl, a, b⟩
theorem Rps.nil' {vs : List V} (h : Rps K H μ [] vs) : vs = [] := by unfold Rps at h; exact h
theorem Rps.cons' {d : D} {ds : List D} {vs : List V} (h : Rps K H μ (d :: ds) vs) : ∃ v vs', vs = v :: vs' ∧ Rp K H μ d v ∧ Rps K H μ ds vs' := by unfold Rps at h; exact h
theorem Rps.len : ∀ {ds : List D} {vs : List V}, Rps K H μ ds vs → vs.length = ds.length
  | [], vs, h => by rw [h.nil']; rfl
  | d :: ds, vs, h => by
    obtain ⟨v, vs', rfl, _, b⟩ := h.cons'
    rw [List.length_cons, List.length_cons, Rps.len b]
theorem Rps.app : ∀ {ds es : List D} {vs ws : List V}, Rps K H μ ds vs → Rps K H μ es ws → Rps K H μ (ds ++ es) (vs ++ ws)
  | [], es, vs, ws, h, g => by rw [h.nil']; exact g
  | d :: ds, es, vs, ws, h, g => by
    obtain ⟨v, vs', rfl, a, b⟩ := h.cons'
    exact Rps.cons a (Rps.app b g)
theorem Rps.get : ∀ {ds : List D} {vs : List V} {i : Nat} {d : D}, Rps K H μ ds vs → ds[i]? = some d → ∃ v, vs[i]? = some v ∧ Rp K H μ d v
  | [], vs, i, d, h, g => by simp at g
  | e :: ds, vs, 0, d, h, g => by
    obtain ⟨v, vs', rfl, a, b⟩ := h.cons'
    simp at g
    subst g
    exact ⟨v, rfl, a⟩
  | e :: ds, vs, i + 1, d, h, g => by
    obtain ⟨v, vs', rfl, a, b⟩ := h.cons'
    simpa using Rps.get b (by simpa using g)
theorem Rps.take : ∀ {ds : List D} {vs : List V} (n : Nat), Rps K H μ ds vs → Rps K H μ (ds.take n) (vs.take n)
  | ds, vs, 0, h => by simp [Rps.nil]
  | [], vs, n + 1, h => by rw [h.nil']; exact Rps.nil
  | d :: ds, vs, n + 1, h => by
    obtain ⟨v, vs', rfl, a, b⟩ := h.cons'
    exact Rps.cons a (Rps.take n b)
theorem Rps.drop : ∀ {ds : List D} {vs : List V} (n : Nat), Rps K H μ ds vs → Rps K H μ (ds.drop n) (vs.drop n)
  | ds, vs, 0, h => h
  | [], vs, n + 1, h => by rw [h.nil']; exact Rps.nil
  | d :: ds, vs, n + 1, h => by
    obtain ⟨v, vs', rfl, a, b⟩ := h.cons'
    exact Rps.drop n b
theorem Rps.rev : ∀ {ds : List D} {vs : List V}, Rps K H μ ds vs → Rps K H μ ds.reverse vs.reverse
  | [], vs, h => by rw [h.nil']; exact Rps.nil
  | d :: ds, vs, h => by
    obtain ⟨v, vs', rfl, a, b⟩ := h.cons'
    rw [List.reverse_cons, List.reverse_cons]
    exact Rps.app (Rps.rev b) (Rps.cons a Rps.nil)
theorem Rps.set : ∀ {ds : List D} {vs : List V} (i : Nat) {d : D} {v : V}, Rps K H μ ds vs → Rp K H μ d v → Rps K H μ (ds.set i d) (vs.set i v)
  | [], vs, i, d, v, h, g => by rw [h.nil']; simp [Rps.nil]
  | e :: ds, vs, 0, d, v, h, g => by
    obtain ⟨w, vs', rfl, a, b⟩ := h.cons'
    exact Rps.cons g b
  | e :: ds, vs, i + 1, d, v, h, g => by
    obtain ⟨w, vs', rfl, a, b⟩ := h.cons'
    exact Rps.cons a (Rps.set i b g)

mutual
/-- the key of a tree -/
def nkD : D → Option NestedKey
  | .non => some .none
  | .int i => some (.num i)
  | .str s => some (.text s)
  | .tup xs => match nkDs xs with
    | some ks => some (.tup ks)
    | none => none
  | .bl _ => none
  | .ty _ => none
  | .rol _ => none
  | .at _ => none
  | .ad _ => none
def nkDs : List D → Option (List NestedKey)
  | [] => some []
  | d :: ds => match nkD d, nkDs ds with
    | some k, some ks => some (k :: ks)
    | _, _ => none
end
/-- the entries of a dict with keys of trees -/
def DKs (K : Kw) (H : Hp) (μ : List Addr) : List (D × D) → List (NestedKey × Addr × Value) → Prop
  | [], xs => xs = []
  | (k, d) :: r, xs => ∃ nk b u v ys, xs = (nk, b, u) :: ys ∧ nkD k = some nk ∧ nk.depth ≤ 8 ∧ Rp K H μ k (.ref b) ∧ RelV v u ∧ Rp K H μ d v ∧ DKs K H μ r ys
theorem DKs.mono (e : Le K H μ H' μ') : ∀ {kvs : List (D × D)} {xs : List (NestedKey × Addr × Value)}, DKs K H μ kvs xs → DKs K H' μ' kvs xs
  | [], _, h => h
  | (k, d) :: r, _, ⟨nk, b, u, v, ys, h1, h2, h2', h3, h4, h5, h6⟩ => ⟨nk, b, u, v, ys, h1, h2, h2', Rp.mono e _ _ h3, h4, Rp.mono e _ _ h5, DKs.mono e h6⟩
def enN (w : World) (x : NestedKey × Addr × Value) : DictEntry := ⟨x.1.hash w, .ref x.2.1, x.2.2⟩
def NPhi (w : World) (a : Addr) (xs : List (NestedKey × Addr × Value)) : Heap → Prop := fun h => ∃ o es ep, h.get? a = some o ∧ o.ExactDict ∧ o.data = .dict es ep ∧ es.toList = xs.map (enN w)
/-- the object at a is what the number says -/
def Ok (K : Kw) (H : Hp) (μ : List Addr) (a : Addr) : O → Prop
  | .lst xs => ∃ vs, H a = some (.lst vs) ∧ Rps K H μ xs vs
  | .dct kvs => ∃ kw : List (Key × V), H a = some (.dK kw) ∧ kw.map (·.1) = kvs.map (·.1) ∧ Rps K H μ (kvs.map (·.2)) (kw.map (·.2))
  | .ins C fs => ∃ (dx : Addr) (fw : List (Str × V)), H a = some (.ins C dx fw) ∧ fw.map (·.1) = fs.map (fun p => nmN p.1) ∧ Rps K H μ (fs.map (·.2)) (fw.map (·.2))
  | .dcn kvs => ∃ xs : List (NestedKey × Addr × Value), H a = some (.ext (NPhi K.w a xs)) ∧ xs.length ≤ sizeLine ∧ (a == sysModules) = false ∧ (xs.map (·.1)).Nodup ∧ DKs K H μ kvs xs
theorem Ok.some {a : Addr} : ∀ {o : O}, Ok K H μ a o → ∃ u, H a = some u ∧ L2.Mut (Option.some u)
  | .lst _, ⟨vs, h, _⟩ => ⟨_, h, trivial⟩
  | .dct _, ⟨vs, h, _⟩ => ⟨_, h, trivial⟩
  | .ins _ _, ⟨_, _, h, _⟩ => ⟨_, h, trivial⟩
  | .dcn _, ⟨_, h, _⟩ => ⟨_, h, trivial⟩
theorem Ok.mono {a : Addr} (e : Le K H μ H' μ') (ha : H' a = H a) : ∀ {o : O}, Ok K H μ a o → Ok K H' μ' a o
  | .lst _, ⟨vs, h, r⟩ => ⟨vs, ha.trans h, Rps.mono e _ _ r⟩
  | .dct _, ⟨vs, h, k, r⟩ => ⟨vs, ha.trans h, k, Rps.mono e _ _ r⟩
  | .ins _ _, ⟨_, vs, h, k, r⟩ => ⟨_, vs, ha.trans h, k, Rps.mono e _ _ r⟩
  | .dcn _, ⟨xs, h, l, n, d, r⟩ => ⟨xs, ha.trans h, l, n, d, r.mono e⟩

structure Sm (Φ : Hp) (K : Kw) (H : Hp) (μ : List Addr) (h : Hd) : Prop where
  len : μ.length = h.length
  nd : ∀ (n m : Nat) (a : Addr), μ[n]? = some a → μ[m]? = some a → n = m
  ob : ∀ (n : Nat) (o : O), h[n]? = some o → ∃ a, μ[n]? = some a ∧ Ok K H μ a o
  fr : ∀ (a : Addr) (o : HO), Φ a = some o → H a = some o ∧ a ∉ μ
variable {h : Hd} {Φ : Hp}
theorem Sm.at (S : Sm Φ K H μ h) {n : Nat} {a : Addr} {o : O} (e : μ[n]? = some a) (g : h[n]? = some o) : Ok K H μ a o := by
  obtain ⟨b, e', k⟩ := S.ob n o g
  rw [e] at e'
  cases e'
  exact k
theorem Sm.has (S : Sm Φ K H μ h) {n : Nat} {a : Addr} (e : μ[n]? = some a) : ∃ u, H a = some u ∧ L2.Mut (Option.some u) := by
  have hn : n < h.length := by rw [← S.len]; exact (List.getElem?_eq_some_iff.mp e).1
  exact (S.at e (List.getElem?_eq_getElem hn)).some

/-- a thing laid anew that stands for itself (a tuple): all stays -/
theorem le_new {p : Addr} {o : HO} (hp : H p = none) : Le K H μ (upd H p o) μ := by
  refine ⟨⟨[], by simp⟩, fun q vs g => ?_, fun q vs g => ?_, fun q fs g => by rw [upd_ne (ne_of_none g hp)]; exact g⟩
  · rcases g with (g | ⟨ob, g⟩) | g
    · exact .inl (.inl (by rw [upd_ne (ne_of_none g hp)]; exact g))
    · exact .inl (.inr ⟨ob, by rw [upd_ne (ne_of_none g hp)]; exact g⟩)
    · exact .inr g
  · rcases g with ⟨ob, g⟩ | g
    · exact .inl ⟨ob, by rw [upd_ne (ne_of_none g hp)]; exact g⟩
    · exact .inr g
theorem Sm.new {p : Addr} {o : HO} (S : Sm Φ K H μ h) (hp : H p = none) : Sm Φ K (upd H p o) μ h := by
  refine ⟨S.len, S.nd, fun n u g => ?_, fun a o q => ?_⟩
  rotate_left
  · obtain ⟨q1, q2⟩ := S.fr a o q
    exact ⟨by rw [upd_ne (ne_of_none q1 hp)]; exact q1, q2⟩
  obtain ⟨a, e, k⟩ := S.ob n u g
  obtain ⟨x, hx, _⟩ := k.some
  exact ⟨a, e, k.mono (le_new hp) (upd_ne (ne_of_none hx hp))⟩
/-- a new object with a number of its own -/
theorem le_obj {p : Addr} {o : HO} (hp : H p = none) : Le K H μ (upd H p o) (μ ++ [p]) := by
  have e : Le K H μ (upd H p o) μ := le_new hp
  exact ⟨⟨[p], rfl⟩, e.tup, e.frz, e.xdt⟩
theorem Sm.obj {p : Addr} {o : HO} {u : O} (S : Sm Φ K H μ h) (hp : H p = none) (k : Ok K (upd H p o) (μ ++ [p]) p u) : Sm Φ K (upd H p o) (μ ++ [p]) (h ++ [u]) := by
  have np : ∀ n : Nat, μ[n]? ≠ some p := fun n e => by
    obtain ⟨x, hx, _⟩ := S.has e
    rw [hp] at hx
    cases hx
  refine ⟨by simp [S.len], fun n m a e1 e2 => ?_, fun n w g => ?_, fun a o q => ?_⟩
  rotate_left 2
  · obtain ⟨q1, q2⟩ := S.fr a o q
    refine ⟨by rw [upd_ne (ne_of_none q1 hp)]; exact q1, fun z => ?_⟩
    rcases List.mem_append.mp z with z | z
    · exact q2 z
    · rw [List.mem_singleton.mp z, hp] at q1
      cases q1
  · rw [List.getElem?_append] at e1 e2
    split at e1 <;> split at e2
    · exact S.nd n m a e1 e2
    · rename_i h1 h2
      have : a = p := by
        rw [List.getElem?_singleton] at e2
        split at e2 <;> simp_all
      subst this
      exact absurd e1 (np n)
    · rename_i h1 h2
      have : a = p := by
        rw [List.getElem?_singleton] at e1
        split at e1 <;> simp_all
      subst this
      exact absurd e2 (np m)
    · rename_i h1 h2
      rw [List.getElem?_singleton] at e1 e2
      split at e1 <;> split at e2 <;> simp_all
      omega
  · rw [List.getElem?_append] at g
    split at g
    · obtain ⟨a, e, kk⟩ := S.ob n w g
      obtain ⟨x, hx, _⟩ := kk.some
      refine ⟨a, ?_, kk.mono (le_obj hp) (upd_ne (ne_of_none hx hp))⟩
      exact (le_obj (K := K) (H := H) (o := o) hp).get e
    · rename_i hn
      rw [List.getElem?_singleton] at g
      split at g
      · rename_i h0
        cases g
        refine ⟨p, ?_, k⟩
        have : n = μ.length := by rw [S.len]; omega
        rw [this]
        simp
      · cases g
theorem obj_at {p : Addr} {n : Nat} (S : Sm Φ K H μ h) (hn : n = h.length) : (μ ++ [p])[n]? = some p := by
  rw [hn, ← S.len]; simp
/-- an object is changed -/
theorem le_set {a : Addr} {o : HO} (S : Sm Φ K H μ h) {n : Nat} (e : μ[n]? = some a) : Le K H μ (upd H a o) μ := by
  obtain ⟨x, hx, mu⟩ := S.has e
  refine ⟨⟨[], by simp⟩, fun q vs g => ?_, fun q vs g => ?_, fun q fs g => by rw [upd_ne (fun z => by subst z; rw [hx] at g; cases g; exact mu)]; exact g⟩
  · rcases g with (g | ⟨ob, g⟩) | g
    · exact .inl (.inl (by rw [upd_ne (fun z => by subst z; rw [hx] at g; cases g; exact mu)]; exact g))
    · exact .inl (.inr ⟨ob, by rw [upd_ne (fun z => by subst z; rw [hx] at g; cases g; exact mu)]; exact g⟩)
    · exact .inr g
  · rcases g with ⟨ob, g⟩ | g
    · exact .inl ⟨ob, by rw [upd_ne (fun z => by subst z; rw [hx] at g; cases g; exact mu)]; exact g⟩
    · exact .inr g
theorem Sm.set {a : Addr} {o : HO} {u : O} (S : Sm Φ K H μ h) {n : Nat} (e : μ[n]? = some a) (k : Ok K (upd H a o) μ a u) : Sm Φ K (upd H a o) μ (h.set n u) := by
  refine ⟨by rw [List.length_set, S.len], S.nd, fun m w g => ?_, fun b o q => ?_⟩
  rotate_left
  · obtain ⟨q1, q2⟩ := S.fr b o q
    exact ⟨by rw [upd_ne fun z => by subst z; exact q2 (List.mem_of_getElem? e)]; exact q1, q2⟩
  by_cases hm : m = n
  · subst hm
    have : w = u := by
      rw [List.getElem?_set] at g
      simp at g
      exact g.2.symm
    subst this
    exact ⟨a, e, k⟩
  · rw [List.getElem?_set_ne (fun z => hm z.symm)] at g
    obtain ⟨b, e', kk⟩ := S.ob m w g
    exact ⟨b, e', kk.mono (le_set S e) (upd_ne fun z => by subst z; exact hm (S.nd m n b e' e))⟩
end

/-! ### slots -/
def Rs (K : Kw) (H : Hp) (μ : List Addr) (sg : Sg) (σ : L2.St) : Prop :=
  sg.length = σ.length ∧ ∀ (i : Nat) (d : D), sg[i]? = some (some d) → ∃ v, σ[i]? = some (some v) ∧ Rp K H μ d v
section
variable {K : Kw} {H H' : Hp} {μ μ' : List Addr} {sg : Sg} {σ : L2.St}
theorem Rs.mono (e : Le K H μ H' μ') (r : Rs K H μ sg σ) : Rs K H' μ' sg σ := ⟨r.1, fun i d g => by
  obtain ⟨v, a, b⟩ := r.2 i d g
  exact ⟨v, a, Rp.mono e d v b⟩⟩
theorem Rs.put (r : Rs K H μ sg σ) (i : Nat) {d : D} {v : V} (g : Rp K H μ d v) : Rs K H μ (sg.set i (some d)) (σ.set i (some v)) := by
  refine ⟨by rw [List.length_set, List.length_set, r.1], fun j e q => ?_⟩
  by_cases hj : j = i
  · subst hj
    rw [List.getElem?_set] at q ⊢
    simp at q
    obtain ⟨q1, q2⟩ := q
    subst q2
    rw [if_pos rfl, if_pos (by rw [← r.1]; exact q1)]
    exact ⟨v, rfl, g⟩
  · rw [List.getElem?_set_ne (fun z => hj z.symm)] at q ⊢
    exact r.2 j e q
theorem Rs.del (r : Rs K H μ sg σ) (i : Nat) : Rs K H μ (sg.set i none) (σ.set i none) := by
  refine ⟨by rw [List.length_set, List.length_set, r.1], fun j e q => ?_⟩
  by_cases hj : j = i
  · subst hj
    rw [List.getElem?_set] at q
    simp at q
  · rw [List.getElem?_set_ne (fun z => hj z.symm)] at q ⊢
    exact r.2 j e q
end
def wipeD (sg : Sg) : List Nat → Sg
  | [] => sg
  | v :: vs => (wipeD sg vs).set v none
theorem Rs.wipe {K : Kw} {H : Hp} {μ : List Addr} {sg : Sg} {σ : L2.St} (r : Rs K H μ sg σ) : ∀ vs : List Nat, Rs K H μ (wipeD sg vs) (L2.wipe σ vs)
  | [] => r
  | v :: vs => (Rs.wipe r vs).del v
end DL

/-! DL2: the judgements over trees; names, constants, operators, displays, tests. -/
namespace DL
open PySem L2

abbrev ME := Sg → Hd → Option (D × Hd)
abbrev MT := Sg → Hd → Option (Bool × Hd)
abbrev MA := Sg → Hd → Option (List D × Hd)

/-- what follows holds wherever the value d and the objects h' are borne -/
abbrev Kn (Φ : Hp) (K : Kw) (H : Hp) (μ : List Addr) (h' : Hd) (d : D) (Q : VK) : Prop :=
  ∀ (v : V) (H' : Hp) (μ' : List Addr), Sm Φ K H' μ' h' → Le K H μ H' μ' → Rp K H' μ' d v → Q v H'
def SE (K : Kw) (t : TE) (m : ME) : Prop := ∀ {Φ : Hp} (σ : L2.St) (H : Hp) (μ : List Addr) (sg : Sg) (h : Hd) (d : D) (h' : Hd), Sm Φ K H μ h → Rs K H μ sg σ → m sg h = some (d, h') → ∀ Q : VK, Kn Φ K H μ h' d Q → t σ H Q
def ST (K : Kw) (t : TT) (m : MT) : Prop := ∀ {Φ : Hp} (σ : L2.St) (H : Hp) (μ : List Addr) (sg : Sg) (h : Hd) (b : Bool) (h' : Hd), Sm Φ K H μ h → Rs K H μ sg σ → m sg h = some (b, h') → ∀ Q : Bool → Hp → Prop,
  (∀ (H' : Hp) (μ' : List Addr), Sm Φ K H' μ' h' → Le K H μ H' μ' → Q b H') → t σ H Q
def SA (K : Kw) (t : TA) (m : MA) : Prop := ∀ {Φ : Hp} (σ : L2.St) (H : Hp) (μ : List Addr) (sg : Sg) (h : Hd) (ds : List D) (h' : Hd), Sm Φ K H μ h → Rs K H μ sg σ → m sg h = some (ds, h') → ∀ Q : List V → Hp → Prop,
  (∀ (vs : List V) (H' : Hp) (μ' : List Addr), Sm Φ K H' μ' h' → Le K H μ H' μ' → Rps K H' μ' ds vs → Q vs H') → t σ H Q

structure DE (K : Kw) (X : Cx) (e : Expr) (t : TE) (m : ME) : Prop where
  k : KOf X = K
  p : PE X e t
  s : SE K t m
structure DT (K : Kw) (X : Cx) (e : Expr) (t : TT) (m : MT) : Prop where
  k : KOf X = K
  p : PT X e t
  s : ST K t m
structure DW (K : Kw) (X : Cx) (e : Expr) (t : TT) (m : MT) : Prop where
  k : KOf X = K
  p : PW X e t
  s : ST K t m
structure DA (K : Kw) (X : Cx) (es : List Expr) (t : TA) (m : MA) : Prop where
  k : KOf X = K
  p : PA X es t
  s : SA K t m

/-! ### names, constants -/
def varM (i : Nat) : ME := fun sg h => match sg[i]? with
  | some (some d) => some (d, h)
  | _ => none
def cM (d : D) : ME := fun _ h => some (d, h)
section
variable {K : Kw} {X : Cx} {pos : Pos}
theorem se_var (i : Nat) : SE K (tVar i) (varM i) := by
  intro Φ σ H μ sg h d h' S r e Q k
  unfold varM at e
  split at e
  · rename_i d' q
    cases e
    obtain ⟨v, a, b⟩ := r.2 i d q
    exact ⟨v, a, k v H μ S Le.refl b⟩
  · cases e
theorem de_var (i : Nat) {x : Str} (hN : X.N[i]? = some x := by rfl) (hv : Vis X.env.scope x := by first | exact Or.inl rfl | exact Or.inr (Or.inl rfl) | exact Or.inr (Or.inr rfl))
    (hd : (x == ("__debug__" : Str)) = false := by decide) (hcd : (x == ("__classdict__" : Str)) = false := by decide) (hK : KOf X = K := by rfl) : DE K X (.Name x pos) (tVar i) (varM i) := ⟨hK, pe_var hN hv hd hcd, se_var i⟩
theorem se_c {d : D} {v : V} (hr : ∀ H μ, Rp K H μ d v) : SE K (tC v) (cM d) := by
  intro Φ σ H μ sg h d' h' S r e Q k
  cases e
  exact k v H μ S Le.refl (hr H μ)
theorem rp_int {H : Hp} {μ : List Addr} {i : Int} : Rp K H μ (.int i) (.int i) := by unfold Rp; rfl
theorem rp_bl {H : Hp} {μ : List Addr} {i : Bool} : Rp K H μ (.bl i) (.bl i) := by unfold Rp; rfl
theorem rp_str {H : Hp} {μ : List Addr} {i : Str} : Rp K H μ (.str i) (.str i) := by unfold Rp; rfl
theorem rp_non {H : Hp} {μ : List Addr} : Rp K H μ .non .non := by unfold Rp; rfl
theorem rp_ty {H : Hp} {μ : List Addr} {i : String} : Rp K H μ (.ty i) (.ty i) := by unfold Rp; rfl
theorem rp_tup {H : Hp} {μ : List Addr} {ds : List D} {p : Addr} {vs : List V} (h : SqT K H p vs) (r : Rps K H μ ds vs) : Rp K H μ (.tup ds) (.ref p) := by unfold Rp; exact ⟨p, vs, rfl, h, r⟩
theorem rp_at {H : Hp} {μ : List Addr} {n : Nat} {p : Addr} (h : μ[n]? = some p) : Rp K H μ (.at n) (.ref p) := by unfold Rp; exact ⟨p, h, rfl⟩
theorem rp_int' {H : Hp} {μ : List Addr} {i : Int} {v : V} (h : Rp K H μ (.int i) v) : v = .int i := by unfold Rp at h; exact h
theorem rp_bl' {H : Hp} {μ : List Addr} {i : Bool} {v : V} (h : Rp K H μ (.bl i) v) : v = .bl i := by unfold Rp at h; exact h
theorem rp_str' {H : Hp} {μ : List Addr} {i : Str} {v : V} (h : Rp K H μ (.str i) v) : v = .str i := by unfold Rp at h; exact h
theorem rp_non' {H : Hp} {μ : List Addr} {v : V} (h : Rp K H μ .non v) : v = .non := by unfold Rp at h; exact h
theorem rp_ty' {H : Hp} {μ : List Addr} {i : String} {v : V} (h : Rp K H μ (.ty i) v) : v = .ty i := by unfold Rp at h; exact h
theorem rp_tup' {H : Hp} {μ : List Addr} {ds : List D} {v : V} (h : Rp K H μ (.tup ds) v) : ∃ p vs, v = .ref p ∧ SqT K H p vs ∧ Rps K H μ ds vs := by unfold Rp at h; exact h
theorem rp_rol' {H : Hp} {μ : List Addr} {ds : List D} {v : V} (h : Rp K H μ (.rol ds) v) : ∃ p vs, v = .ref p ∧ SqF K H p vs ∧ Rps K H μ ds vs := by unfold Rp at h; exact h
theorem rp_ad' {a : Addr} {v : V} (r : Rp K H μ (.ad a) v) : v = .ref a := by unfold Rp at r; exact r
theorem rp_ad {a : Addr} : Rp K H μ (.ad a) (.ref a) := by unfold Rp; rfl
theorem rp_at' {H : Hp} {μ : List Addr} {n : Nat} {v : V} (h : Rp K H μ (.at n) v) : ∃ a, μ[n]? = some a ∧ v = .ref a := by unfold Rp at h; exact h
theorem de_int (hK : KOf X = K := by rfl) {i : Int} {j pos} : DE K X (.Constant (.int i) j pos) (tC (.int i)) (cM (.int i)) := ⟨hK, pe_int, se_c fun _ _ => rp_int⟩
theorem de_bl (hK : KOf X = K := by rfl) {i : Bool} {j pos} : DE K X (.Constant (.bool i) j pos) (tC (.bl i)) (cM (.bl i)) := ⟨hK, pe_bl, se_c fun _ _ => rp_bl⟩
theorem de_non (hK : KOf X = K := by rfl) {j pos} : DE K X (.Constant .none j pos) (tC .non) (cM .non) := ⟨hK, pe_non, se_c fun _ _ => rp_non⟩
theorem de_str (hK : KOf X = K := by rfl) {i : Str} {j pos} : DE K X (.Constant (.str i) j pos) (tC (.str i)) (cM (.str i)) := ⟨hK, pe_str, se_c fun _ _ => rp_str⟩
/-- a constant of the module -/
theorem de_glob {x : Str} {d : D} {v : V} {u : Value} (hm : X.mg x = some u) (rv : RelV v u) (hr : ∀ H μ, Rp K H μ d v) (hg : Gl X x := by rfl) (hd : (x == ("__debug__" : Str)) = false := by decide) (hK : KOf X = K := by rfl) :
    DE K X (.Name x pos) (tC v) (cM d) := ⟨hK, pe_glob hg hm rv hd, se_c hr⟩
/-- a built-in type -/
theorem de_ty {x : Str} {n : String} (hm : X.mg x = none) (hv : bootBuiltins x = some (.type n) := by decide +kernel) (hg : Gl X x := by rfl) (hn : x ≠ "__name__" := by decide) (hd : (x == ("__debug__" : Str)) = false := by decide) (hK : KOf X = K := by rfl) :
    DE K X (.Name x pos) (tC (.ty n)) (cM (.ty n)) := ⟨hK, pe_bltn hg hm hv rfl hn hd, se_c fun _ _ => rp_ty⟩
end

/-! ### operators by trees -/
abbrev G2 := D → D → Hd → Option (D × Hd)
def SO (K : Kw) (r : R2) (g : G2) : Prop := ∀ {Φ : Hp} (H : Hp) (μ : List Addr) (h : Hd) (x y : D) (v w : V) (d : D) (h' : Hd), Sm Φ K H μ h → Rp K H μ x v → Rp K H μ y w → g x y h = some (d, h') → ∀ Q : VK, Kn Φ K H μ h' d Q → r v w H Q
def opM (g : G2) (a b : ME) : ME := fun sg h => match a sg h with
  | some (x, h1) => match b sg h1 with
    | some (y, h2) => g x y h2
    | none => none
  | none => none
section
variable {K : Kw} {X : Cx} {pos : Pos} {a b c : Expr} {ta tb tc : TE} {ma mb mc : ME} {r : R2} {g : G2}
theorem se_op (hs : SO K r g) (ha : SE K ta ma) (hb : SE K tb mb) : SE K (tOp r ta tb) (opM g ma mb) := by
  intro Φ σ H μ sg h d h' S rs e Q k
  unfold opM at e
  split at e
  · rename_i x h1 e1
    split at e
    · rename_i y h2 e2
      refine ha σ H μ sg h x h1 S rs e1 _ fun v H1 μ1 S1 l1 r1 => ?_
      refine hb σ H1 μ1 sg h1 y h2 S1 (rs.mono l1) e2 _ fun w H2 μ2 S2 l2 r2 => ?_
      exact hs H2 μ2 h2 x y v w d h' S2 (Rp.mono l2 _ _ r1) r2 e Q fun z H3 μ3 S3 l3 r3 => k z H3 μ3 S3 ((l1.trans l2).trans l3) r3
    · cases e
  · cases e
theorem de_op {op : Operator} (hs : SO K r g) (ho : OpR X (binaryOp op) r) (ha : DE K X a ta ma) (hb : DE K X b tb mb) : DE K X (.BinOp a op b pos) (tOp r ta tb) (opM g ma mb) := ⟨ha.k, pe_op ho ha.p hb.p, se_op hs ha.s hb.s⟩
theorem de_cmp {op : CmpOp} (hs : SO K r g) (ho : OpR X (compareOp op) r) (ha : DE K X a ta ma) (hb : DE K X b tb mb) (hm : behindInMarks op b = false := by first | exact nobehind _ (by decide) (by decide) | rfl) : DE K X (.Compare a [op] [b] pos) (tOp r ta tb) (opM g ma mb) := ⟨ha.k, pe_cmpR ho ha.p hb.p hm, se_op hs ha.s hb.s⟩

def testM (m : ME) : MT := fun sg h => match m sg h with
  | some (.bl b, h') => some (b, h')
  | _ => none
theorem st_test (ha : SE K ta ma) : ST K (tTest ta) (testM ma) := by
  intro Φ σ H μ sg h b h' S rs e Q k
  unfold testM at e
  split at e
  · rename_i b' h1 e1
    cases e
    refine ha σ H μ sg h _ _ S rs e1 _ fun v H1 μ1 S1 l1 r1 => ⟨b, rp_bl' r1, k H1 μ1 S1 l1⟩
  · cases e
theorem dt_cmp {op : CmpOp} (hs : SO K r g) (ho : OpR X (compareOp op) r) (ha : DE K X a ta ma) (hb : DE K X b tb mb) (hm : behindInMarks op b = false := by first | exact nobehind _ (by decide) (by decide) | rfl) :
    DT K X (.Compare a [op] [b] pos) (tTest (tOp r ta tb)) (testM (opM g ma mb)) := ⟨ha.k, pt_cmpR ho ha.p hb.p hm, st_test (se_op hs ha.s hb.s)⟩
/-- a op b op' c -/
def chainM (g g' : G2) (a b c : ME) : ME := fun sg h => match a sg h with
  | some (x, h1) => match b sg h1 with
    | some (y, h2) => match g x y h2 with
      | some (.bl true, h3) => match c sg h3 with
        | some (z, h4) => g' y z h4
        | none => none
      | some (.bl false, h3) => some (.bl false, h3)
      | _ => none
    | none => none
  | none => none
theorem se_chain {r' : R2} {g' : G2} (hs : SO K r g) (hs' : SO K r' g') (ha : SE K ta ma) (hb : SE K tb mb) (hc : SE K tc mc) : SE K (tChain r r' ta tb tc) (chainM g g' ma mb mc) := by
  intro Φ σ H μ sg h d h' S rs e Q k
  unfold chainM at e
  split at e
  · rename_i x h1 e1
    split at e
    · rename_i y h2 e2
      refine ha σ H μ sg h x h1 S rs e1 _ fun v H1 μ1 S1 l1 r1 => ?_
      refine hb σ H1 μ1 sg h1 y h2 S1 (rs.mono l1) e2 _ fun w H2 μ2 S2 l2 r2 => ?_
      split at e
      · rename_i h3 e3
        refine hs H2 μ2 h2 x y v w _ _ S2 (Rp.mono l2 _ _ r1) r2 e3 _ fun z H3 μ3 S3 l3 r3 => ?_
        refine ⟨true, rp_bl' r3, iteT ?_⟩
        split at e
        · rename_i z' h4 e4
          refine hc σ H3 μ3 sg h3 z' h4 S3 (rs.mono ((l1.trans l2).trans l3)) e4 _ fun w' H4 μ4 S4 l4 r4 => ?_
          exact hs' H4 μ4 h4 y z' w w' d h' S4 (Rp.mono (l3.trans l4) _ _ r2) r4 e Q fun u H5 μ5 S5 l5 r5 => k u H5 μ5 S5 ((((l1.trans l2).trans l3).trans l4).trans l5) r5
        · cases e
      · rename_i h3 e3
        cases e
        refine hs H2 μ2 h2 x y v w _ _ S2 (Rp.mono l2 _ _ r1) r2 e3 _ fun z H3 μ3 S3 l3 r3 => ?_
        exact ⟨false, rp_bl' r3, iteF (k _ H3 μ3 S3 ((l1.trans l2).trans l3) rp_bl)⟩
      · cases e
    · cases e
  · cases e
theorem de_chain {op op' : CmpOp} {r' : R2} {g' : G2} (hs : SO K r g) (ho : OpR X (compareOp op) r) (hs' : SO K r' g') (ho' : OpR X (compareOp op') r') (ha : DE K X a ta ma) (hb : DE K X b tb mb) (hc : DE K X c tc mc)
    (hm : lastMarks [op, op'] [b, c] = false := by with_unfolding_all rfl) : DE K X (.Compare a [op, op'] [b, c] pos) (tChain r r' ta tb tc) (chainM g g' ma mb mc) := ⟨ha.k, pe_chain ho ho' ha.p hb.p hc.p hm, se_chain hs hs' ha.s hb.s hc.s⟩
theorem dt_chain {op op' : CmpOp} {r' : R2} {g' : G2} (hs : SO K r g) (ho : OpR X (compareOp op) r) (hs' : SO K r' g') (ho' : OpR X (compareOp op') r') (ha : DE K X a ta ma) (hb : DE K X b tb mb) (hc : DE K X c tc mc)
    (hm : lastMarks [op, op'] [b, c] = false := by with_unfolding_all rfl) : DT K X (.Compare a [op, op'] [b, c] pos) (tTest (tChain r r' ta tb tc)) (testM (chainM g g' ma mb mc)) := ⟨ha.k, pt_chain ho ho' ha.p hb.p hc.p hm, st_test (se_chain hs hs' ha.s hb.s hc.s)⟩
end

/-! ### laying new things -/
section
variable {K : Kw} {H : Hp} {μ : List Addr} {h : Hd} {Q : VK}
theorem kn_tup {ds : List D} {vs : List V} (S : Sm Φ K H μ h) (r : Rps K H μ ds vs) (k : Kn Φ K H μ h (.tup ds) Q) (p : Addr) (hp : H p = none) : Q (.ref p) (upd H p (.tup vs)) := by
  have l : Le K H μ (upd H p (.tup vs)) μ := le_new hp
  exact k _ _ μ (S.new hp) l (rp_tup (SqT.of upd_same) (Rps.mono l _ _ r))
theorem kn_lst {ds : List D} {vs : List V} (S : Sm Φ K H μ h) (r : Rps K H μ ds vs) (k : Kn Φ K H μ (h ++ [.lst ds]) (.at h.length) Q) (p : Addr) (hp : H p = none) : Q (.ref p) (upd H p (.lst vs)) := by
  have l : Le K H μ (upd H p (.lst vs)) (μ ++ [p]) := le_obj hp
  exact k (.ref p) (upd H p (.lst vs)) (μ ++ [p]) (S.obj hp ⟨vs, upd_same, Rps.mono l _ _ r⟩) l (rp_at (obj_at S rfl))
theorem kn_set {ds : List D} {vs : List V} {n : Nat} {a : Addr} {d : D} {v : V} (S : Sm Φ K H μ h) (e : μ[n]? = some a) (r : Rps K H μ ds vs) (rd : Rp K H μ d v) (k : Kn Φ K H μ (h.set n (.lst ds)) d Q) : Q v (upd H a (.lst vs)) := by
  have l : Le K H μ (upd H a (.lst vs)) μ := le_set S e
  exact k _ _ μ (S.set e ⟨vs, upd_same, Rps.mono l _ _ r⟩) l (Rp.mono l _ _ rd)
/-- a list's, a tuple's items -/
theorem Sm.lst {n : Nat} {xs : List D} {a : Addr} (S : Sm Φ K H μ h) (e : h[n]? = some (.lst xs)) (ea : μ[n]? = some a) : ∃ vs, H a = some (.lst vs) ∧ Rps K H μ xs vs := S.at ea e
end

/-- the items of a sequence -/
def seqD (h : Hd) : D → Option (List D)
  | .tup xs => some xs
  | .rol xs => some xs
  | .at n => match h[n]? with
    | some (.lst xs) => some xs
    | _ => none
  | _ => none
theorem seq_of {K : Kw} {H : Hp} {μ : List Addr} {h : Hd} {d : D} {v : V} {xs : List D} (S : Sm Φ K H μ h) (r : Rp K H μ d v) (e : seqD h d = some xs) :
    ∃ p vs, v = .ref p ∧ (SqL K H p vs ∨ SqT K H p vs) ∧ Rps K H μ xs vs := by
  unfold seqD at e
  split at e
  · cases e
    obtain ⟨p, vs, a, b, c⟩ := rp_tup' r
    exact ⟨p, vs, a, .inr b, c⟩
  · cases e
    obtain ⟨p, vs, a, b, c⟩ := rp_rol' r
    exact ⟨p, vs, a, .inl b.l, c⟩
  · rename_i n
    split at e
    · rename_i ys q
      cases e
      obtain ⟨a, ea, rfl⟩ := rp_at' r
      obtain ⟨vs, b, c⟩ := S.lst q ea
      exact ⟨a, vs, rfl, .inl (.of b), c⟩
    · cases e
  · cases e
abbrev LN : Nat := 16777216
theorem ln_of {n : Nat} (h : n ≤ LN) : n ≤ sizeLine := by rw [sizeLine_eq]; exact h

/-! ### displays -/
section
variable {K : Kw} {X : Cx} {pos : Pos} {e : Expr} {es : List Expr} {te : TE} {ta : TA} {me : ME} {ma : MA}
def nilM : MA := fun _ h => some ([], h)
def consM (a : ME) (b : MA) : MA := fun sg h => match a sg h with
  | some (x, h1) => match b sg h1 with
    | some (xs, h2) => some (x :: xs, h2)
    | none => none
  | none => none
theorem da_nil (hK : KOf X = K := by rfl) : DA K X [] tNil nilM := ⟨hK, pa_nil, fun {Φ} σ H μ sg h ds h' S r e Q k => by cases e; exact k [] H μ S Le.refl Rps.nil⟩
theorem sa_cons (ha : SE K te me) (hb : SA K ta ma) : SA K (tCons te ta) (consM me ma) := by
  intro Φ σ H μ sg h ds h' S rs e Q k
  unfold consM at e
  split at e
  · rename_i x h1 e1
    split at e
    · rename_i xs h2 e2
      cases e
      refine ha σ H μ sg h x h1 S rs e1 _ fun v H1 μ1 S1 l1 r1 => ?_
      refine hb σ H1 μ1 sg h1 xs _ S1 (rs.mono l1) e2 _ fun vs H2 μ2 S2 l2 r2 => ?_
      exact k _ H2 μ2 S2 (l1.trans l2) (Rps.cons (Rp.mono l2 _ _ r1) r2)
    · cases e
  · cases e
theorem da_cons (ha : DE K X e te me) (hb : DA K X es ta ma) (hs : starEach (e :: es) X.env = (false, eval e X.env) :: starEach es X.env := by rfl) : DA K X (e :: es) (tCons te ta) (consM me ma) := ⟨ha.k, pa_cons ha.p hb.p hs, sa_cons ha.s hb.s⟩
def tupM (a : MA) : ME := fun sg h => match a sg h with
  | some (xs, h1) => if xs.length ≤ LN then some (.tup xs, h1) else none
  | none => none
def lstM (a : MA) : ME := fun sg h => match a sg h with
  | some (xs, h1) => if xs.length ≤ LN then some (.at h1.length, h1 ++ [.lst xs]) else none
  | none => none
theorem de_tup {x1} (ha : DA K X es ta ma) : DE K X (.Tuple es x1 pos) (tTup ta) (tupM ma) := ⟨ha.k, pe_tup ha.p, by
  intro Φ σ H μ sg h d h' S rs e Q k
  unfold tupM at e
  split at e
  · rename_i xs h1 e1
    split at e
    · rename_i hz
      cases e
      refine ha.s σ H μ sg h xs _ S rs e1 _ fun vs H1 μ1 S1 l1 r1 => ⟨by rw [r1.len]; exact ln_of hz, fun p hp => kn_tup S1 r1 (fun v H2 μ2 S2 l2 r2 => k v H2 μ2 S2 (l1.trans l2) r2) p hp⟩
    · cases e
  · cases e⟩
theorem de_lst (ha : DA K X es ta ma) : DE K X (.List es pos) (tLst ta) (lstM ma) := ⟨ha.k, pe_lst ha.p, by
  intro Φ σ H μ sg h d h' S rs e Q k
  unfold lstM at e
  split at e
  · rename_i xs h1 e1
    split at e
    · rename_i hz
      cases e
      refine ha.s σ H μ sg h xs _ S rs e1 _ fun vs H1 μ1 S1 l1 r1 => ⟨by rw [r1.len]; exact ln_of hz, fun p hp => kn_lst S1 r1 (fun v H2 μ2 S2 l2 r2 => k v H2 μ2 S2 (l1.trans l2) r2) p hp⟩
    · cases e
  · cases e⟩
end

/-! ### truth, and, or, not, if -/
def truD (h : Hd) : D → Option Bool
  | .non => some false
  | .bl b => some b
  | .int i => some (i != 0)
  | .str s => if s.length ≤ LN then some ((s.length : Int) != 0) else none
  | .tup xs => some (!xs.isEmpty)
  | .rol xs => some (!xs.isEmpty)
  | .at n => match h[n]? with
    | some (.lst xs) => some (!xs.isEmpty)
    | some (.dct kvs) => some (!kvs.isEmpty)
    | _ => none
  | .ty _ => none
  | .ad _ => none
theorem emp_of {K : Kw} {H : Hp} {μ : List Addr} {ds : List D} {vs : List V} (r : Rps K H μ ds vs) : (!ds.isEmpty) = !vs.isEmpty := by
  cases ds with
  | nil => rw [r.nil']; rfl
  | cons d ds =>
    obtain ⟨v, vs', rfl, _, _⟩ := r.cons'
    rfl
theorem tru_of {K : Kw} {H : Hp} {μ : List Addr} {h : Hd} {d : D} {v : V} {b : Bool} (S : Sm Φ K H μ h) (r : Rp K H μ d v) (e : truD h d = some b) : TruV K v H b := by
  unfold truD at e
  split at e
  · cases e; rw [rp_non' r]; rfl
  · cases e; rw [rp_bl' r]; rfl
  · cases e; rw [rp_int' r]; rfl
  · split at e
    · rename_i hz
      cases e; rw [rp_str' r]; exact ⟨ln_of hz, rfl⟩
    · cases e
  · cases e
    obtain ⟨p, vs, rfl, b, c⟩ := rp_tup' r
    exact .inr (.inl ⟨vs, b, emp_of c⟩)
  · cases e
    obtain ⟨p, vs, rfl, b, c⟩ := rp_rol' r
    exact .inl ⟨vs, b.l, emp_of c⟩
  · rename_i n
    obtain ⟨a, ea, rfl⟩ := rp_at' r
    split at e
    · rename_i xs q
      cases e
      obtain ⟨vs, b, c⟩ := S.lst q ea
      exact .inl ⟨vs, .of b, emp_of c⟩
    · rename_i kvs q
      cases e
      obtain ⟨kw, b, c1, c2⟩ : Ok K H μ a (.dct kvs) := S.at ea q
      refine .inr (.inr ⟨kw, b, ?_⟩)
      cases kw <;> cases kvs <;> simp_all
    · cases e
  · cases e
  · cases e
section
variable {K : Kw} {X : Cx} {pos : Pos} {a b c : Expr} {rest : List Expr} {ta tb : TE} {ma mb : ME} {tA tB' : TT} {mA mB : MT}
def andM (a b : ME) : ME := fun sg h => match a sg h with
  | some (x, h1) => match truD h1 x with
    | some true => b sg h1
    | some false => some (x, h1)
    | none => none
  | none => none
def orM (a b : ME) : ME := fun sg h => match a sg h with
  | some (x, h1) => match truD h1 x with
    | some true => some (x, h1)
    | some false => b sg h1
    | none => none
  | none => none
def notM (a : ME) : ME := fun sg h => match a sg h with
  | some (x, h1) => match truD h1 x with
    | some b => some (.bl (!b), h1)
    | none => none
  | none => none
theorem de_one {op : BoolOp} (ha : DE K X a ta ma) : DE K X (.BoolOp op [a] pos) ta ma := ⟨ha.k, pe_one ha.p, ha.s⟩
theorem de_and (ha : DE K X a ta ma) (hb : DE K X (.BoolOp .And (b :: rest) pos) tb mb) : DE K X (.BoolOp .And (a :: b :: rest) pos) (tAndT K ta tb) (andM ma mb) := ⟨ha.k, by
  have hk := ha.k
  subst hk
  exact pe_andT ha.p hb.p, by
  intro Φ σ H μ sg h d h' S rs e Q k
  unfold andM at e
  split at e
  · rename_i x h1 e1
    refine ha.s σ H μ sg h x h1 S rs e1 _ fun v H1 μ1 S1 l1 r1 => ?_
    split at e
    · rename_i et
      exact ⟨true, tru_of S1 r1 et, iteT (hb.s σ H1 μ1 sg h1 d h' S1 (rs.mono l1) e Q fun u H2 μ2 S2 l2 r2 => k u H2 μ2 S2 (l1.trans l2) r2)⟩
    · rename_i et
      cases e
      exact ⟨false, tru_of S1 r1 et, iteF (k v H1 μ1 S1 l1 r1)⟩
    · cases e
  · cases e⟩
theorem de_or (ha : DE K X a ta ma) (hb : DE K X (.BoolOp .Or (b :: rest) pos) tb mb) : DE K X (.BoolOp .Or (a :: b :: rest) pos) (tOrT K ta tb) (orM ma mb) := ⟨ha.k, by
  have hk := ha.k
  subst hk
  exact pe_orT ha.p hb.p, by
  intro Φ σ H μ sg h d h' S rs e Q k
  unfold orM at e
  split at e
  · rename_i x h1 e1
    refine ha.s σ H μ sg h x h1 S rs e1 _ fun v H1 μ1 S1 l1 r1 => ?_
    split at e
    · rename_i et
      cases e
      exact ⟨true, tru_of S1 r1 et, iteT (k v H1 μ1 S1 l1 r1)⟩
    · rename_i et
      exact ⟨false, tru_of S1 r1 et, iteF (hb.s σ H1 μ1 sg h1 d h' S1 (rs.mono l1) e Q fun u H2 μ2 S2 l2 r2 => k u H2 μ2 S2 (l1.trans l2) r2)⟩
    · cases e
  · cases e⟩
theorem de_not (ha : DE K X a ta ma) : DE K X (.UnaryOp .Not a pos) (tNotT K ta) (notM ma) := ⟨ha.k, by
  have hk := ha.k
  subst hk
  exact pe_notT ha.p, by
  intro Φ σ H μ sg h d h' S rs e Q k
  unfold notM at e
  split at e
  · rename_i x h1 e1
    refine ha.s σ H μ sg h x h1 S rs e1 _ fun v H1 μ1 S1 l1 r1 => ?_
    split at e
    · rename_i b et
      cases e
      exact ⟨b, tru_of S1 r1 et, k _ H1 μ1 S1 l1 rp_bl⟩
    · cases e
  · cases e⟩
/-- tests -/
def truM (a : ME) : MT := fun sg h => match a sg h with
  | some (x, h1) => match truD h1 x with
    | some b => some (b, h1)
    | none => none
  | none => none
def tTru (K : Kw) (ta : TE) : TT := fun σ H Q => ta σ H fun x H' => ∃ k, TruV K x H' k ∧ Q k H'
theorem dt_tru (ha : DE K X a ta ma) (he : ∀ whole, isTrue a X.env whole = (do let v ← whole; standAt a.pos; holding [v] (truthy v)) := by intro _; rfl) : DT K X a (tTru K ta) (truM ma) := ⟨ha.k, by
  have hk := ha.k
  subst hk
  exact pt_truth ha.p he, by
  intro Φ σ H μ sg h d h' S rs e Q k
  unfold truM at e
  split at e
  · rename_i x h1 e1
    refine ha.s σ H μ sg h x h1 S rs e1 _ fun v H1 μ1 S1 l1 r1 => ?_
    split at e
    · rename_i b et
      cases e
      exact ⟨d, tru_of S1 r1 et, k H1 μ1 S1 l1⟩
    · cases e
  · cases e⟩
def tandM (a b : MT) : MT := fun sg h => match a sg h with
  | some (true, h1) => b sg h1
  | some (false, h1) => some (false, h1)
  | none => none
def torM (a b : MT) : MT := fun sg h => match a sg h with
  | some (true, h1) => some (true, h1)
  | some (false, h1) => b sg h1
  | none => none
def tnotM (a : MT) : MT := fun sg h => match a sg h with
  | some (b, h1) => some (!b, h1)
  | none => none
theorem dw_and1 (ha : DT K X a tA mA) : DW K X (.BoolOp .And [a] pos) tA mA := ⟨ha.k, pw_and1 ha.p, ha.s⟩
theorem dw_or1 (ha : DT K X a tA mA) : DW K X (.BoolOp .Or [a] pos) tA mA := ⟨ha.k, pw_or1 ha.p, ha.s⟩
theorem dw_and (ha : DT K X a tA mA) (hb : DW K X (.BoolOp .And (b :: rest) pos) tB' mB) : DW K X (.BoolOp .And (a :: b :: rest) pos) (tAnd tA tB') (tandM mA mB) := ⟨ha.k, pw_and ha.p hb.p, by
  intro Φ σ H μ sg h d h' S rs e Q k
  unfold tandM at e
  split at e
  · rename_i h1 e1
    exact ha.s σ H μ sg h _ h1 S rs e1 _ fun H1 μ1 S1 l1 => iteT (hb.s σ H1 μ1 sg h1 d h' S1 (rs.mono l1) e Q fun H2 μ2 S2 l2 => k H2 μ2 S2 (l1.trans l2))
  · rename_i h1 e1
    cases e
    exact ha.s σ H μ sg h _ _ S rs e1 _ fun H1 μ1 S1 l1 => iteF (k H1 μ1 S1 l1)
  · cases e⟩
theorem dw_or (ha : DT K X a tA mA) (hb : DW K X (.BoolOp .Or (b :: rest) pos) tB' mB) : DW K X (.BoolOp .Or (a :: b :: rest) pos) (tOr tA tB') (torM mA mB) := ⟨ha.k, pw_or ha.p hb.p, by
  intro Φ σ H μ sg h d h' S rs e Q k
  unfold torM at e
  split at e
  · rename_i h1 e1
    cases e
    exact ha.s σ H μ sg h _ _ S rs e1 _ fun H1 μ1 S1 l1 => iteT (k H1 μ1 S1 l1)
  · rename_i h1 e1
    exact ha.s σ H μ sg h _ h1 S rs e1 _ fun H1 μ1 S1 l1 => iteF (hb.s σ H1 μ1 sg h1 d h' S1 (rs.mono l1) e Q fun H2 μ2 S2 l2 => k H2 μ2 S2 (l1.trans l2))
  · cases e⟩
theorem dt_w (h : DW K X a tA mA) : DT K X a tA mA := ⟨h.k, h.p.pt, h.s⟩
theorem dt_not (ha : DT K X a tA mA) : DT K X (.UnaryOp .Not a pos) (tNot tA) (tnotM mA) := ⟨ha.k, pt_not ha.p, by
  intro Φ σ H μ sg h d h' S rs e Q k
  unfold tnotM at e
  split at e
  · rename_i b h1 e1
    cases e
    exact ha.s σ H μ sg h _ _ S rs e1 _ fun H1 μ1 S1 l1 => k H1 μ1 S1 l1
  · cases e⟩
def ifM (c : MT) (a b : ME) : ME := fun sg h => match c sg h with
  | some (true, h1) => a sg h1
  | some (false, h1) => b sg h1
  | none => none
theorem de_if (hc : DT K X c tA mA) (ha : DE K X a ta ma) (hb : DE K X b tb mb) : DE K X (.IfExp c a b pos) (tIf tA ta tb) (ifM mA ma mb) := ⟨ha.k, pe_ifExp hc.p ha.p hb.p, by
  intro Φ σ H μ sg h d h' S rs e Q k
  unfold ifM at e
  split at e
  · rename_i h1 e1
    exact hc.s σ H μ sg h _ h1 S rs e1 _ fun H1 μ1 S1 l1 => iteT (ha.s σ H1 μ1 sg h1 d h' S1 (rs.mono l1) e Q fun v H2 μ2 S2 l2 r2 => k v H2 μ2 S2 (l1.trans l2) r2)
  · rename_i h1 e1
    exact hc.s σ H μ sg h _ h1 S rs e1 _ fun H1 μ1 S1 l1 => iteF (hb.s σ H1 μ1 sg h1 d h' S1 (rs.mono l1) e Q fun v H2 μ2 S2 l2 r2 => k v H2 μ2 S2 (l1.trans l2) r2)
  · cases e⟩
end
end DL

/-! DL3: + - * // % ** -x, comparisons, ==, in. -/
namespace DL
open PySem L2 PySem.Spec PyProof.Rows

section
variable {K : Kw} {X : Cx}
/-! ### + -/
def addD : G2 := fun x y h => match x, y with
  | .int i, .int j => some (.int (i + j), h)
  | .str a, .str b => if a.length + b.length ≤ LN then some (.str (a ++ b), h) else none
  | .tup a, .tup b => if a.length + b.length ≤ LN then some (.tup (a ++ b), h) else none
  | .at a, .at b => match h[a]?, h[b]? with
    | some (.lst xs), some (.lst ys) => if xs.length + ys.length ≤ LN then some (.at h.length, h ++ [.lst (xs ++ ys)]) else none
    | _, _ => none
  | .rol xs, .at b => match h[b]? with
    | some (.lst ys) => if xs.length + ys.length ≤ LN then some (.at h.length, h ++ [.lst (xs ++ ys)]) else none
    | _ => none
  | _, _ => none
def rAddS : R2 := fun x y H Q => ∃ i j, x = .str i ∧ y = .str j ∧ i.length + j.length ≤ sizeLine ∧ Q (.str (i ++ j)) H
/-- list + list, also of one that nobody writes at -/
def rCatL (K : Kw) : R2 := fun x y H Q => ∃ l b xs zs, x = .ref l ∧ y = .ref b ∧ SqL K H l xs ∧ SqL K H b zs ∧ xs.length + zs.length ≤ sizeLine ∧ ∀ p, H p = none → Q (.ref p) (upd H p (.lst (xs ++ zs)))
theorem op_catL : OpR X (binaryOp .Add) (rCatL (KOf X)) := by
  intro pins s σ H x y v u Q I rx ry h
  obtain ⟨l, b, xs, zs, rfl, rfl, hH, hB, hz, q⟩ := h
  cases rx
  cases ry
  obtain ⟨its, r, pl, h1⟩ := I.list hH
  obtain ⟨its2, r2, pl2, h2⟩ := I.list hB
  have hl := r.length
  have hl2 := r2.length
  obtain ⟨⟨cls, dd, data, sl⟩, ho, hc, n, hd⟩ := pl.isList
  obtain ⟨⟨cls2, dd2, data2, sl2⟩, ho2, hc2, n2, hd2⟩ := pl2.isList
  simp only at hc hd hc2 hd2
  subst hc hd hc2 hd2
  have e : its.toArray ++ its2.toArray = (its ++ its2).toArray := by simp
  refine concat_meets ⟨_, ho, rfl⟩ ⟨_, ho2, rfl⟩ noFill_list_add seq_list_add PySem.F.slot_list_add PySem.F.entry_list_add (PySem.F.args_list_add_2 _ _) (list_addW l b its.toArray its2.toArray n n2 dd dd2 sl sl2 (by simp only [List.size_toArray]; omega)) ⟨ho, ho2, ?_⟩
  rw [e]
  exact ⟨.ref _, _, I.lnew (t' := s.toks) (r.append r2) (by rw [List.length_append]; omega), rfl, q _ I.fresh⟩
def rAddU (K : Kw) : R2 := fun x y H Q => rI0 (fun i j => .int (i + j)) x y H Q ∨ rAddS x y H Q ∨ rCatA K x y H Q ∨ rCatL K x y H Q
theorem op_addU (hK : KOf X = K := by rfl) : OpR X (binaryOp .Add) (rAddU K) := by
  subst hK
  exact op_add.or (OpR.or (r := rAddS) op_add_str (op_catA.or op_catL))
theorem so_add : SO K (rAddU K) addD := by
  intro Φ H μ h x y v w d h' S r1 r2 e Q k
  unfold addD at e
  split at e
  · cases e
    exact .inl ⟨_, _, rp_int' r1, rp_int' r2, k _ H μ S Le.refl rp_int⟩
  · split at e
    · rename_i hz
      cases e
      exact .inr (.inl ⟨_, _, rp_str' r1, rp_str' r2, ln_of hz, k _ H μ S Le.refl rp_str⟩)
    · cases e
  · split at e
    · rename_i a b hz
      cases e
      obtain ⟨p, vs, rfl, q1, q2⟩ := rp_tup' r1
      obtain ⟨p2, vs2, rfl, q3, q4⟩ := rp_tup' r2
      refine .inr (.inr (.inl ⟨p, p2, vs, vs2, rfl, rfl, q1, q3, by rw [q2.len, q4.len]; exact ln_of hz, fun z => ?_, fun z z2 => ?_, fun z z2 p3 hp => ?_⟩))
      · subst z
        have ha : a = [] := by
          cases a with
          | nil => rfl
          | cons a1 a2 => obtain ⟨_, _, z, _⟩ := q2.cons'; cases z
        subst ha
        exact k _ H μ S Le.refl r2
      · subst z2
        have hb : b = [] := by
          cases b with
          | nil => rfl
          | cons a1 a2 => obtain ⟨_, _, z, _⟩ := q4.cons'; cases z
        subst hb
        exact k _ H μ S Le.refl (by rw [List.append_nil]; exact r1)
      · exact kn_tup S (q2.app q4) k p3 hp
    · cases e
  · split at e
    · rename_i a b xs ys e1 e2
      split at e
      · rename_i hz
        cases e
        obtain ⟨p, ea, rfl⟩ := rp_at' r1
        obtain ⟨p2, eb, rfl⟩ := rp_at' r2
        obtain ⟨vs, q1, q2⟩ := S.lst e1 ea
        obtain ⟨vs2, q3, q4⟩ := S.lst e2 eb
        exact .inr (.inr (.inr ⟨p, p2, vs, vs2, rfl, rfl, .of q1, .of q3, by rw [q2.len, q4.len]; exact ln_of hz, fun p3 hp => kn_lst S (q2.app q4) k p3 hp⟩))
      · cases e
    · cases e
  · split at e
    · rename_i xs b ys e2
      split at e
      · rename_i hz
        cases e
        obtain ⟨p, vs, rfl, q1, q2⟩ := rp_rol' r1
        obtain ⟨p2, eb, rfl⟩ := rp_at' r2
        obtain ⟨vs2, q3, q4⟩ := S.lst e2 eb
        exact .inr (.inr (.inr ⟨p, p2, vs, vs2, rfl, rfl, q1.l, .of q3, by rw [q2.len, q4.len]; exact ln_of hz, fun p3 hp => kn_lst S (q2.app q4) k p3 hp⟩))
      · cases e
    · cases e
  · cases e
/-! ### ints: - * // % ** -/
def subD : G2 := fun x y h => match x, y with
  | .int i, .int j => some (.int (i - j), h)
  | _, _ => none
theorem so_sub : SO K (rI0 fun i j => .int (i - j)) subD := by
  intro Φ H μ h x y v w d h' S r1 r2 e Q k
  unfold subD at e
  split at e
  · cases e
    exact ⟨_, _, rp_int' r1, rp_int' r2, k _ H μ S Le.refl rp_int⟩
  · cases e
/-- the text x, n times -/
def repS (x : Str) (n : Nat) : Str := ⟨(List.replicate n x.cps.toList).flatten.toArray⟩
def rMulS : R2 := fun x y H Q => ∃ (z : Str) (n : Int), x = .str z ∧ y = .int n ∧ 0 ≤ n ∧ n ≤ 1000000 ∧ z.length * n.toNat ≤ LN ∧ Q (.str (repS z n.toNat)) H
theorem foldl_repN (l : List Nat) : ∀ (k : Nat) (acc : List Nat), List.foldl (fun x1 x2 => x1 ++ x2) acc.toArray (List.replicate k l.toArray) = (acc ++ (List.replicate k l).flatten).toArray
  | 0, acc => by simp
  | k + 1, acc => by
    have e : acc.toArray ++ l.toArray = (acc ++ l).toArray := by simp
    have e2 : (acc ++ l) ++ (List.replicate k l).flatten = acc ++ (List.replicate (k + 1) l).flatten := by
      rw [List.replicate_succ, List.flatten_cons, List.append_assoc]
    rw [← e2, ← foldl_repN l k (acc ++ l), ← e, List.replicate_succ, List.foldl_cons]
theorem op_mulS : OpR X (binaryOp .Mult) rMulS := by
  intro pins s σ H x y v u Q I rx ry h
  obtain ⟨z, n, rfl, rfl, h0, h1, hz, q⟩ := h
  obtain ⟨t, rfl⟩ := rx
  obtain ⟨t', rfl⟩ := ry
  refine P.mul_str (by
      have h2 : ¬ n ≥ 2 ^ 63 := by omega
      have h3 : ¬ n < -(2 ^ 63 : Int) := by omega
      rw [decide_eq_false h2, decide_eq_false h3]; rfl) (fun c1 _ => ?_) (fun _ _ => ?_) ?_
  · have hp : 0 < n := by omega
    have : (z.length : Int) * n ≤ 2 ^ 63 - 1 := by
      have e : (z.length : Int) * n = ((z.length * n.toNat : Nat) : Int) := by
        rw [Int.natCast_mul]
        congr 1
        omega
      rw [e]
      have : (z.length * n.toNat : Nat) ≤ 16777216 := hz
      omega
    have := (Int.le_ediv_iff_mul_le hp).mpr this
    omega
  · unfold Builtin.Str.tooLong
    have : (z.length * n.toNat : Nat) ≤ sizeLine := ln_of hz
    exact decide_eq_false (by omega)
  · obtain ⟨⟨l⟩⟩ := z
    by_cases c1 : n < 1
    · rw [if_pos c1]
      have hn : n.toNat = 0 := by omega
      refine ⟨by decide, .str (repS ⟨⟨l⟩⟩ n.toNat), H, I.tok _, ⟨s.toks, ?_⟩, q⟩
      rw [hn]
      rfl
    · rw [if_neg c1]
      by_cases c2 : (n == 1 || (⟨⟨l⟩⟩ : Str).length == 0) = true
      · rw [if_pos c2]
        refine ⟨.str (repS ⟨⟨l⟩⟩ n.toNat), H, I, ⟨t, ?_⟩, q⟩
        have e : repS ⟨⟨l⟩⟩ n.toNat = ⟨⟨l⟩⟩ := by
          unfold repS
          rcases Bool.or_eq_true _ _ ▸ c2 with c | c
          · have : n.toNat = 1 := by
              have := eq_of_beq c
              omega
            rw [this]
            simp
          · have hl : l = [] := by
              have := eq_of_beq c
              simpa [Str.length] using this
            subst hl
            simp
        rw [e]
      · rw [if_neg c2]
        refine ⟨?_, .str (repS ⟨⟨l⟩⟩ n.toNat), H, I.tok _, ⟨s.toks, ?_⟩, q⟩
        · refine PySem.fits_reps ?_
          unfold Builtin.Str.tooLong
          have := ln_of hz
          exact decide_eq_false (by omega)
        · have := foldl_repN l n.toNat []
          rw [List.nil_append] at this
          unfold repS
          rw [← this]
def mulD : G2 := fun x y h => match x, y with
  | .int i, .int j => if (-(2 ^ 64) < i ∧ i < 2 ^ 64) ∨ (-(2 ^ 64) < j ∧ j < 2 ^ 64) ∨ i.natAbs.log2 + j.natAbs.log2 < 1000000 then some (.int (i * j), h) else none
  | .str z, .int n => if 0 ≤ n ∧ n ≤ 1000000 ∧ z.length * n.toNat ≤ LN then some (.str (repS z n.toNat), h) else none
  | .at a, .int n => match h[a]? with
    | some (.lst xs) => if 0 ≤ n ∧ n ≤ 1000000 ∧ xs.length * n.toNat ≤ LN then some (.at h.length, h ++ [.lst (List.replicate n.toNat xs).flatten]) else none
    | _ => none
  | .tup xs, .int n => if xs ≠ [] ∧ 2 ≤ n ∧ n ≤ 1000 ∧ xs.length ≤ 1000 then some (.tup (List.replicate n.toNat xs).flatten, h) else none
  | _, _ => none
def rMulU (K : Kw) : R2 := fun x y H Q => rI CMul (fun i j => .int (i * j)) x y H Q ∨ rI CMulW (fun i j => .int (i * j)) x y H Q ∨ rMulS x y H Q ∨ rRep x y H Q ∨ rRepT K x y H Q
theorem op_mulU (hK : KOf X = K := by rfl) : OpR X (binaryOp .Mult) (rMulU K) := by
  subst hK
  exact op_mul.or (op_mulW.or (op_mulS.or (op_rep.or op_repT)))
theorem Rps.rep {H : Hp} {μ : List Addr} {ds : List D} {vs : List V} (r : Rps K H μ ds vs) : ∀ n : Nat, Rps K H μ (List.replicate n ds).flatten (List.replicate n vs).flatten
  | 0 => Rps.nil
  | n + 1 => by
    rw [List.replicate_succ, List.replicate_succ, List.flatten_cons, List.flatten_cons]
    exact r.app (Rps.rep r n)
theorem so_mul : SO K (rMulU K) mulD := by
  intro Φ H μ h x y v w d h' S r1 r2 e Q k
  unfold mulD at e
  split at e
  · split at e
    · rename_i c
      cases e
      rcases c with c | c | c
      · exact .inl ⟨_, _, rp_int' r1, rp_int' r2, .inl c, k _ H μ S Le.refl rp_int⟩
      · exact .inl ⟨_, _, rp_int' r1, rp_int' r2, .inr c, k _ H μ S Le.refl rp_int⟩
      · exact .inr (.inl ⟨_, _, rp_int' r1, rp_int' r2, c, k _ H μ S Le.refl rp_int⟩)
    · cases e
  · split at e
    · rename_i c
      cases e
      exact .inr (.inr (.inl ⟨_, _, rp_str' r1, rp_int' r2, c.1, c.2.1, c.2.2, k _ H μ S Le.refl rp_str⟩))
    · cases e
  · split at e
    · rename_i e1
      split at e
      · rename_i c
        cases e
        obtain ⟨p, ea, rfl⟩ := rp_at' r1
        obtain ⟨vs, q1, q2⟩ := S.lst e1 ea
        exact .inr (.inr (.inr (.inl ⟨p, _, vs, rfl, rp_int' r2, q1, by omega, by omega, by rw [q2.len]; exact ln_of c.2.2, fun p3 hp => kn_lst S (q2.rep _) k p3 hp⟩)))
      · cases e
    · cases e
  · split at e
    · rename_i xs n c
      cases e
      obtain ⟨p, vs, rfl, q1, q2⟩ := rp_tup' r1
      refine .inr (.inr (.inr (.inr ⟨p, _, vs, rfl, rp_int' r2, q1, fun z => ?_, c.2.1, c.2.2.1, by rw [q2.len]; exact c.2.2.2, fun p3 hp => kn_tup S (q2.rep _) k p3 hp⟩)))
      subst z
      exact c.1 (by
        cases xs with
        | nil => rfl
        | cons a1 a2 => obtain ⟨_, _, z, _⟩ := q2.cons'; cases z)
    · cases e
  · cases e
def fdivD : G2 := fun x y h => match x, y with
  | .int i, .int j => if 0 < j ∧ j.natAbs.log2 < 9000 then some (.int (i / j), h) else none
  | _, _ => none
theorem so_fdiv : SO K (rI CDivW fun i j => .int (i / j)) fdivD := by
  intro Φ H μ h x y v w d h' S r1 r2 e Q k
  unfold fdivD at e
  split at e
  · split at e
    · rename_i c
      cases e
      exact ⟨_, _, rp_int' r1, rp_int' r2, c, k _ H μ S Le.refl rp_int⟩
    · cases e
  · cases e
def modD : G2 := fun x y h => match x, y with
  | .int i, .int j => if 0 < j then some (.int (i % j), h) else none
  | _, _ => none
theorem so_mod : SO K (rI (fun _ j => 0 < j) fun i j => .int (i % j)) modD := by
  intro Φ H μ h x y v w d h' S r1 r2 e Q k
  unfold modD at e
  split at e
  · split at e
    · rename_i c
      cases e
      exact ⟨_, _, rp_int' r1, rp_int' r2, c, k _ H μ S Le.refl rp_int⟩
    · cases e
  · cases e
def CPowW (i j : Int) : Prop := 0 ≤ j ∧ (Builtin.Int.intBits i : Int) * j ≤ 2 ^ 27
theorem op_powW : OpR X (binaryOp .Pow) (rI CPowW fun i j => .int (i ^ j.toNat)) := opI fun _ _ _ _ _ _ _ hc q => pow_int hc.1 hc.2 q
def powD : G2 := fun x y h => match x, y with
  | .int i, .int j => if 0 ≤ j ∧ (Builtin.Int.intBits i : Int) * j ≤ 2 ^ 27 then some (.int (i ^ j.toNat), h) else none
  | _, _ => none
theorem so_pow : SO K (rI CPowW fun i j => .int (i ^ j.toNat)) powD := by
  intro Φ H μ h x y v w d h' S r1 r2 e Q k
  unfold powD at e
  split at e
  · split at e
    · rename_i c
      cases e
      exact ⟨_, _, rp_int' r1, rp_int' r2, c, k _ H μ S Le.refl rp_int⟩
    · cases e
  · cases e
def negM (a : ME) : ME := fun sg h => match a sg h with
  | some (.int i, h1) => some (.int (-i), h1)
  | _ => none
theorem de_neg {pos : Pos} {a : Expr} {ta : TE} {ma : ME} (ha : DE K X a ta ma) : DE K X (.UnaryOp .USub a pos) (tUn (rU fun i => .int (-i)) ta) (negM ma) := ⟨ha.k, pe_un un_neg ha.p, by
  intro Φ σ H μ sg h d h' S rs e Q k
  unfold negM at e
  split at e
  · rename_i i h1 e1
    cases e
    exact ha.s σ H μ sg h _ _ S rs e1 _ fun v H1 μ1 S1 l1 r1 => ⟨_, rp_int' r1, k _ H1 μ1 S1 l1 rp_int⟩
  · cases e⟩
/-! ### < <= > >= -/
def ltS (a b : Str) : Bool := decide (a.cps.toList < b.cps.toList)
def ltD : G2 := fun x y h => match x, y with
  | .int i, .int j => some (.bl (decide (i < j)), h)
  | .str a, .str b => some (.bl (ltS a b), h)
  | _, _ => none
def leD : G2 := fun x y h => match x, y with
  | .int i, .int j => some (.bl (decide (i ≤ j)), h)
  | .str a, .str b => some (.bl (!ltS b a), h)
  | _, _ => none
def gtD : G2 := fun x y h => match x, y with
  | .int i, .int j => some (.bl (decide (j < i)), h)
  | .str a, .str b => some (.bl (ltS b a), h)
  | _, _ => none
def geD : G2 := fun x y h => match x, y with
  | .int i, .int j => some (.bl (decide (j ≤ i)), h)
  | .str a, .str b => some (.bl (!ltS a b), h)
  | _, _ => none
def rCmpS (g : Str → Str → Bool) : R2 := fun x y H Q => ∃ i j, x = .str i ∧ y = .str j ∧ Q (.bl (g i j)) H
def rCmpU (p : Int → Int → Bool) (g : Str → Str → Bool) : R2 := fun x y H Q => rI0 (fun i j => .bl (p i j)) x y H Q ∨ rCmpS g x y H Q
abbrev rLtU := rCmpU (fun i j => decide (i < j)) ltS
abbrev rLeU := rCmpU (fun i j => decide (i ≤ j)) fun a b => !ltS b a
abbrev rGtU := rCmpU (fun i j => decide (j < i)) fun a b => ltS b a
abbrev rGeU := rCmpU (fun i j => decide (j ≤ i)) fun a b => !ltS a b
theorem op_ltU : OpR X (compareOp .Lt) rLtU := op_lt.or (fun pins s σ H x y v u Q I a b c => op_lt_str pins s σ H x y v u Q I a b c)
theorem op_leU : OpR X (compareOp .LtE) rLeU := op_le.or (fun pins s σ H x y v u Q I a b c => op_le_str pins s σ H x y v u Q I a b c)
theorem op_gtU : OpR X (compareOp .Gt) rGtU := op_gt.or (fun pins s σ H x y v u Q I a b c => op_gt_str pins s σ H x y v u Q I a b c)
theorem op_geU : OpR X (compareOp .GtE) rGeU := op_ge.or (fun pins s σ H x y v u Q I a b c => op_ge_str pins s σ H x y v u Q I a b c)
theorem so_lt : SO K rLtU ltD := by
  intro Φ H μ h x y v w d h' S r1 r2 e Q k
  unfold ltD at e
  split at e
  · cases e; exact .inl ⟨_, _, rp_int' r1, rp_int' r2, k _ H μ S Le.refl rp_bl⟩
  · cases e; exact .inr ⟨_, _, rp_str' r1, rp_str' r2, k _ H μ S Le.refl rp_bl⟩
  · cases e
theorem so_le : SO K rLeU leD := by
  intro Φ H μ h x y v w d h' S r1 r2 e Q k
  unfold leD at e
  split at e
  · cases e; exact .inl ⟨_, _, rp_int' r1, rp_int' r2, k _ H μ S Le.refl rp_bl⟩
  · cases e; exact .inr ⟨_, _, rp_str' r1, rp_str' r2, k _ H μ S Le.refl rp_bl⟩
  · cases e
theorem so_gt : SO K rGtU gtD := by
  intro Φ H μ h x y v w d h' S r1 r2 e Q k
  unfold gtD at e
  split at e
  · cases e; exact .inl ⟨_, _, rp_int' r1, rp_int' r2, k _ H μ S Le.refl rp_bl⟩
  · cases e; exact .inr ⟨_, _, rp_str' r1, rp_str' r2, k _ H μ S Le.refl rp_bl⟩
  · cases e
theorem so_ge : SO K rGeU geD := by
  intro Φ H μ h x y v w d h' S r1 r2 e Q k
  unfold geD at e
  split at e
  · cases e; exact .inl ⟨_, _, rp_int' r1, rp_int' r2, k _ H μ S Le.refl rp_bl⟩
  · cases e; exact .inr ⟨_, _, rp_str' r1, rp_str' r2, k _ H μ S Le.refl rp_bl⟩
  · cases e
/-! ### == != -/
mutual
def toP (r : Nat → Option PyData) : D → Option PyData
  | .non => some .none
  | .bl b => some (.bool b)
  | .int i => some (.int i)
  | .str s => some (.str s)
  | .ty _ => none
  | .ad _ => none
  | .tup xs => match toPs r xs with
    | some ps => some (.tuple ps)
    | none => none
  | .rol xs => match toPs r xs with
    | some ps => some (.list ps)
    | none => none
  | .at n => r n
def toPs (r : Nat → Option PyData) : List D → Option (List PyData)
  | [] => some []
  | d :: ds => match toP r d with
    | some p => match toPs r ds with
      | some ps => some (p :: ps)
      | none => none
    | none => none
end
def rP : Nat → Hd → Nat → Option PyData
  | 0, _, _ => none
  | k + 1, h, n => match h[n]? with
    | some (.lst xs) => match toPs (rP k h) xs with
      | some ps => some (.list ps)
      | none => none
    | _ => none
mutual
theorem dp_of {H : Hp} {μ : List Addr} {r : Nat → Option PyData} (hr : ∀ n a p, μ[n]? = some a → r n = some p → Dp K H (.ref a) p) : ∀ (d : D) (v : V) (p : PyData), Rp K H μ d v → toP r d = some p → Dp K H v p
  | .non, v, p, h, e => by
    unfold toP at e
    cases e; rw [rp_non' h]; exact .non
  | .bl b, v, p, h, e => by
    unfold toP at e
    cases e; rw [rp_bl' h]; exact .bl b
  | .int b, v, p, h, e => by
    unfold toP at e
    cases e; rw [rp_int' h]; exact .int b
  | .str b, v, p, h, e => by
    unfold toP at e
    cases e; rw [rp_str' h]; exact .str b
  | .ty b, v, p, h, e => by
    unfold toP at e
    cases e
  | .ad b, v, p, h, e => by
    unfold toP at e
    cases e
  | .tup xs, v, p, h, e => by
    unfold toP at e
    split at e
    · rename_i ps q
      cases e
      obtain ⟨a, vs, rfl, b, c⟩ := rp_tup' h
      exact .tup b (dps_of hr xs vs ps c q)
    · cases e
  | .rol xs, v, p, h, e => by
    unfold toP at e
    split at e
    · rename_i ps q
      cases e
      obtain ⟨a, vs, rfl, b, c⟩ := rp_rol' h
      exact .lst b.l (dps_of hr xs vs ps c q)
    · cases e
  | .at n, v, p, h, e => by
    unfold toP at e
    obtain ⟨a, ea, rfl⟩ := rp_at' h
    exact hr n a p ea e
theorem dps_of {H : Hp} {μ : List Addr} {r : Nat → Option PyData} (hr : ∀ n a p, μ[n]? = some a → r n = some p → Dp K H (.ref a) p) : ∀ (ds : List D) (vs : List V) (ps : List PyData), Rps K H μ ds vs → toPs r ds = some ps → DpAll K H vs ps
  | [], vs, ps, h, e => by
    unfold toPs at e
    cases e; rw [h.nil']; exact .nil
  | d :: ds, vs, ps, h, e => by
    unfold toPs at e
    obtain ⟨v, vs', rfl, a, b⟩ := h.cons'
    split at e
    · rename_i p q
      split at e
      · rename_i ps' q'
        cases e
        exact .cons (dp_of hr d v p a q) (dps_of hr ds vs' ps' b q')
      · cases e
    · cases e
end
theorem rp_dp {H : Hp} {μ : List Addr} {h : Hd} (S : Sm Φ K H μ h) : ∀ (k n : Nat) (a : Addr) (p : PyData), μ[n]? = some a → rP k h n = some p → Dp K H (.ref a) p
  | 0, n, a, p, e, q => by
    unfold rP at q
    cases q
  | k + 1, n, a, p, e, q => by
    unfold rP at q
    split at q
    · rename_i xs e1
      split at q
      · rename_i ps e2
        cases q
        obtain ⟨vs, b, c⟩ := S.lst e1 e
        exact .lst (.of b) (dps_of (rp_dp S k) xs vs ps c e2)
      · cases q
    · cases q
def datD (h : Hd) (d : D) : Option PyData := toP (rP 3 h) d
theorem dat_of {H : Hp} {μ : List Addr} {h : Hd} {d : D} {v : V} {p : PyData} (S : Sm Φ K H μ h) (r : Rp K H μ d v) (e : datD h d = some p) : Dp K H v p := dp_of (rp_dp S 3) d v p r e
def rEqM (K : Kw) : R2 := fun x y H Q => (∃ d e, Dp K H x d ∧ Dp K H y e ∧ d.canLay0 = true ∧ e.canLay0 = true ∧ min d.depth e.depth ≤ 64 ∧ Q (.bl (PyData.eqv d e)) H) ∨ ∃ (a b : Addr) (xs ys : List V), x = .ref a ∧ y = .ref b ∧ SqL K H a xs ∧ SqL K H b ys ∧ xs.length ≠ ys.length ∧ Q (.bl false) H
def rNeM (K : Kw) : R2 := fun x y H Q => (∃ d e, Dp K H x d ∧ Dp K H y e ∧ d.canLay0 = true ∧ e.canLay0 = true ∧ min d.depth e.depth ≤ 64 ∧ Q (.bl (!PyData.eqv d e)) H) ∨ ∃ (a b : Addr) (xs ys : List V), x = .ref a ∧ y = .ref b ∧ SqL K H a xs ∧ SqL K H b ys ∧ xs.length ≠ ys.length ∧ Q (.bl true) H
theorem op_eqU (hu : X.A.units + 64 < cLine) (hK : KOf X = K := by rfl) : OpR X (compareOp .Eq) (rEqM K) := by
  subst hK
  intro pins s σ H x y v u Q I rx ry h
  obtain ⟨d, e, hd, he, sd, se, hm, q⟩ | ⟨a, b, xs, ys, rfl, rfl, ha, hb, hl, q⟩ := h
  · obtain ⟨as, r1⟩ := Dp.reads I d x v hd rx
    obtain ⟨bs, r2⟩ := Dp.reads I e y u he ry
    exact SeqAt.compareEq_reads r1 r2 sd se (by omega) ⟨.bl _, H, I, rfl, q⟩
  · cases rx
    cases ry
    obtain ⟨is, rv, ⟨o, n, ho, hc, _, hd⟩, _⟩ := I.list ha
    obtain ⟨js, rw', ⟨o', n', ho', hc', _, hd'⟩, _⟩ := I.list hb
    have l1 := rv.length
    have l2 := rw'.length
    exact SeqAt.RcAt.lists_lengths ⟨_, ho, hc, _, hd⟩ ⟨_, ho', hc', _, hd'⟩ (by simp; omega) (by omega) _ _ _ _ ⟨.bl _, H, I, rfl, q⟩
theorem op_neU (hu : X.A.units + 64 < cLine) (hK : KOf X = K := by rfl) : OpR X (compareOp .NotEq) (rNeM K) := by
  subst hK
  intro pins s σ H x y v u Q I rx ry h
  obtain ⟨d, e, hd, he, sd, se, hm, q⟩ | ⟨a, b, xs, ys, rfl, rfl, ha, hb, hl, q⟩ := h
  · obtain ⟨as, r1⟩ := Dp.reads I d x v hd rx
    obtain ⟨bs, r2⟩ := Dp.reads I e y u he ry
    exact SeqAt.compareNe_reads r1 r2 sd se (by omega) ⟨.bl _, H, I, rfl, q⟩
  · cases rx
    cases ry
    obtain ⟨is, rv, ⟨o, n, ho, hc, _, hd⟩, _⟩ := I.list ha
    obtain ⟨js, rw', ⟨o', n', ho', hc', _, hd'⟩, _⟩ := I.list hb
    have l1 := rv.length
    have l2 := rw'.length
    exact SeqAt.RcNeAt.lists_lengths ⟨_, ho, hc, _, hd⟩ ⟨_, ho', hc', _, hd'⟩ (by simp; omega) (by omega) _ _ _ _ ⟨.bl _, H, I, rfl, q⟩
/-- two lists of unlike lengths -/
def offD (h : Hd) : D → D → Bool
  | .at n, .at m => match h[n]?, h[m]? with
    | some (.lst xs), some (.lst ys) => decide (xs.length ≠ ys.length)
    | _, _ => false
  | _, _ => false
theorem off_of {Φ : Hp} {K : Kw} {H : Hp} {μ : List Addr} {h : Hd} {x y : D} {v w : V} (S : Sm Φ K H μ h) (r1 : Rp K H μ x v) (r2 : Rp K H μ y w) (e : offD h x y = true) : ∃ (a b : Addr) (xs ys : List V), v = .ref a ∧ w = .ref b ∧ SqL K H a xs ∧ SqL K H b ys ∧ xs.length ≠ ys.length := by
  unfold offD at e
  split at e
  · split at e
    · rename_i xs ys e1 e2
      obtain ⟨a, ea, rfl⟩ := rp_at' r1
      obtain ⟨b, eb, rfl⟩ := rp_at' r2
      obtain ⟨us, hu, ru⟩ := S.lst e1 ea
      obtain ⟨ws, hw, rw'⟩ := S.lst e2 eb
      have l1 := ru.len
      have l2 := rw'.len
      have := of_decide_eq_true e
      exact ⟨a, b, us, ws, rfl, rfl, SqL.of hu, SqL.of hw, by omega⟩
    · cases e
  · cases e
def eqD : G2 := fun x y h => match datD h x, datD h y with
  | some p, some q => if p.canLay0 = true ∧ q.canLay0 = true ∧ min p.depth q.depth ≤ 64 then some (.bl (PyData.eqv p q), h) else none
  | _, _ => if offD h x y = true then some (.bl false, h) else none
def neD : G2 := fun x y h => match datD h x, datD h y with
  | some p, some q => if p.canLay0 = true ∧ q.canLay0 = true ∧ min p.depth q.depth ≤ 64 then some (.bl (!PyData.eqv p q), h) else none
  | _, _ => if offD h x y = true then some (.bl true, h) else none
theorem so_eq : SO K (rEqM K) eqD := by
  intro Φ H μ h x y v w d h' S r1 r2 e Q k
  unfold eqD at e
  split at e
  · rename_i p q e1 e2
    split at e
    · rename_i c
      cases e
      exact .inl ⟨p, q, dat_of S r1 e1, dat_of S r2 e2, c.1, c.2.1, c.2.2, k _ H μ S Le.refl rp_bl⟩
    · cases e
  · split at e
    · rename_i c
      cases e
      obtain ⟨a, b, xs, ys, rfl, rfl, h1, h2, h3⟩ := off_of S r1 r2 c
      exact .inr ⟨a, b, xs, ys, rfl, rfl, h1, h2, h3, k _ H μ S Le.refl rp_bl⟩
    · cases e
theorem so_ne : SO K (rNeM K) neD := by
  intro Φ H μ h x y v w d h' S r1 r2 e Q k
  unfold neD at e
  split at e
  · rename_i p q e1 e2
    split at e
    · rename_i c
      cases e
      exact .inl ⟨p, q, dat_of S r1 e1, dat_of S r2 e2, c.1, c.2.1, c.2.2, k _ H μ S Le.refl rp_bl⟩
    · cases e
  · split at e
    · rename_i c
      cases e
      obtain ⟨a, b, xs, ys, rfl, rfl, h1, h2, h3⟩ := off_of S r1 r2 c
      exact .inr ⟨a, b, xs, ys, rfl, rfl, h1, h2, h3, k _ H μ S Le.refl rp_bl⟩
    · cases e
end
/-! ### in, not in: a sign in a text, a flat thing in a sequence -/
def flD : D → Option V
  | .non => some .non
  | .bl b => some (.bl b)
  | .int i => some (.int i)
  | .str s => some (.str s)
  | _ => none
def flDs : List D → Option (List V)
  | [] => some []
  | d :: ds => match flD d, flDs ds with
    | some v, some vs => some (v :: vs)
    | _, _ => none
theorem fl_of {K : Kw} {H : Hp} {μ : List Addr} {d : D} {v u : V} (r : Rp K H μ d v) (e : flD d = some u) : v = u ∧ flatV u = true := by
  unfold flD at e
  split at e <;> cases e
  · exact ⟨rp_non' r, rfl⟩
  · exact ⟨rp_bl' r, rfl⟩
  · exact ⟨rp_int' r, rfl⟩
  · exact ⟨rp_str' r, rfl⟩
theorem fls_of {K : Kw} {H : Hp} {μ : List Addr} : ∀ {ds : List D} {vs us : List V}, Rps K H μ ds vs → flDs ds = some us → vs = us ∧ us.all flatV = true
  | [], vs, us, r, e => by
    unfold flDs at e
    cases e
    exact ⟨r.nil', rfl⟩
  | d :: ds, vs, us, r, e => by
    unfold flDs at e
    obtain ⟨v, vs', rfl, a, b⟩ := r.cons'
    split at e
    · rename_i u us' e1 e2
      cases e
      obtain ⟨rfl, q1⟩ := fl_of a e1
      obtain ⟨rfl, q2⟩ := fls_of b e2
      exact ⟨rfl, by rw [List.all_cons, q1, q2]; rfl⟩
    · cases e
def inD (neg : Bool) : G2 := fun x y h => match y with
  | .str z => match x with
    | .str ⟨⟨[c]⟩⟩ => some (.bl (neg ^^ decide (c ∈ z.cps.toList)), h)
    | _ => none
  | y => match seqD h y with
    | some ys => match flD x, flDs ys with
      | some v, some vs => some (.bl (neg ^^ inV v vs), h)
      | _, _ => none
    | none => none
def rInSg (neg : Bool) : R2 := fun x y H Q => ∃ (c : Nat) (z : Str), x = .str ⟨#[c]⟩ ∧ y = .str z ∧ Q (.bl (neg ^^ decide (c ∈ z.cps.toList))) H
def rInU (K : Kw) (neg : Bool) : R2 := fun x y H Q => rInSg neg x y H Q ∨ rIn K neg x y H Q
section
variable {K : Kw} {X : Cx}
theorem op_inU (hK : KOf X = K := by rfl) : OpR X (compareOp .In) (rInU K false) := by
  subst hK
  refine OpR.or (r := rInSg false) (fun pins s σ H x y v u Q I a b c => ?_) op_in_seq
  obtain ⟨c, z, h1, h2, q⟩ := c
  exact op_in_sign pins s σ H x y v u Q I a b ⟨c, z, h1, h2, by simpa using q⟩
theorem op_niU (hK : KOf X = K := by rfl) : OpR X (compareOp .NotIn) (rInU K true) := by
  subst hK
  refine OpR.or (r := rInSg true) (fun pins s σ H x y v u Q I a b c => ?_) op_notIn_seq
  obtain ⟨c, z, h1, h2, q⟩ := c
  exact op_notIn_sign pins s σ H x y v u Q I a b ⟨c, z, h1, h2, by simpa using q⟩
theorem so_in (neg : Bool) : SO K (rInU K neg) (inD neg) := by
  intro Φ H μ h x y v w d h' S r1 r2 e Q k
  unfold inD at e
  split at e
  · split at e
    · cases e
      exact .inl ⟨_, _, rp_str' r1, rp_str' r2, k _ H μ S Le.refl rp_bl⟩
    · cases e
  · split at e
    · rename_i ys e1
      split at e
      · rename_i a vs e2 e3
        cases e
        obtain ⟨p, ws, rfl, q1, q2⟩ := seq_of S r2 e1
        obtain ⟨rfl, f1⟩ := fl_of r1 e2
        obtain ⟨rfl, f2⟩ := fls_of q2 e3
        refine .inr ⟨p, _, rfl, q1, f1, f2, ?_⟩
        have : (if neg = true then !inV v ws else inV v ws) = (neg ^^ inV v ws) := by cases neg <;> simp
        rw [this]
        exact k _ H μ S Le.refl rp_bl
      · cases e
    · cases e
end
end DL

/-! DMA: dicts whose keys are tuples of data, at any depth. -/
namespace DL
open PySem L2 PySem.Spec PyProof.Rows
mutual
def KeyV (K : PySem.W.Frag) (H : Hp) : NestedKey → V → Prop
  | .none, v => v = .non
  | .num i, v => v = .int i
  | .text s, v => v = .str s
  | .tup ks, v => ∃ p vs, v = .ref p ∧ SqT K H p vs ∧ KeyVs K H ks vs
def KeyVs (K : PySem.W.Frag) (H : Hp) : List NestedKey → List V → Prop
  | [], vs => vs = []
  | k :: ks, vs => ∃ v vs', vs = v :: vs' ∧ KeyV K H k v ∧ KeyVs K H ks vs'
end
section
variable {X : Cx} {pins : List (Addr × Obj)} {σ : L2.St} {H : Hp} {s : Shared}
mutual
theorem key_is (I : L2.Inv X pins σ H s) : ∀ (k : NestedKey) (v : V) (u : Value), KeyV X.K H k v → RelV v u → NestedIs s.heap k u
  | .none, v, u, h, r => by
    unfold KeyV at h
    subst h
    cases (show u = Value.none from r)
    exact .none
  | .num i, v, u, h, r => by
    unfold KeyV at h
    subst h
    obtain ⟨t, rfl⟩ := (show ∃ t, u = Value.int i t from r)
    exact .int i t
  | .text z, v, u, h, r => by
    unfold KeyV at h
    subst h
    obtain ⟨t, rfl⟩ := (show ∃ t, u = Value.str z t from r)
    exact .text z t
  | .tup ks, v, u, h, r => by
    unfold KeyV at h
    obtain ⟨p, vs, rfl, hs, hk⟩ := h
    cases (show u = Value.ref p from r)
    obtain ⟨its, rv, ⟨o, h1, h2, n, h3⟩, _⟩ := I.tuple hs
    exact .tup h1 h2 h3 (by simpa using keys_are I ks vs its hk rv)
theorem keys_are (I : L2.Inv X pins σ H s) : ∀ (ks : List NestedKey) (vs : List V) (us : List Value), KeyVs X.K H ks vs → Vals vs us → NestedAll s.heap ks us
  | [], vs, us, h, r => by
    unfold KeyVs at h
    subst h
    cases r
    exact .nil
  | k :: ks, vs, us, h, r => by
    unfold KeyVs at h
    obtain ⟨v, vs', rfl, h1, h2⟩ := h
    cases r with
    | cons a b => exact .cons (key_is I k v _ h1 a) (keys_are I ks vs' _ h2 b)
end
/-- at a stands a dict with the entries xs -/
structure NAt (K : Kw) (H : Hp) (a : Addr) (xs : List (NestedKey × Addr × Value)) : Prop where
  at_ : H a = some (.ext (NPhi K.w a xs))
  sy : (a == sysModules) = false
  nd : (xs.map (·.1)).Nodup
  ks : ∀ x ∈ xs, KeyV K.f H x.1 (.ref x.2.1) ∧ x.1.depth ≤ 8
  ln : xs.length ≤ sizeLine
theorem NAt.dict (I : L2.Inv X pins σ H s) {a : Addr} {xs : List (NestedKey × Addr × Value)} (n : NAt (KOf X) H a xs) : s.heap.DictOfH (nestedKind X.prog X.w) a xs := by
  obtain ⟨⟨o, es, ep, h1, h2, h3, h4⟩, _⟩ := (show ObjOk X.prog X.w H s.heap a (.ext (NPhi X.w a xs)) from I.hok a _ n.at_)
  exact ⟨o, es, ep, h1, h2, h3, h4, fun x hx => ⟨key_is I _ _ _ (n.ks x hx).1 rfl, (n.ks x hx).2⟩, n.nd⟩
theorem NAt.noDict (I : L2.Inv X pins σ H s) {a : Addr} {xs : List (NestedKey × Addr × Value)} (n : NAt (KOf X) H a xs) : ∀ b, Value.ref a = .ref b → ∃ ob, s.heap.get? b = some ob ∧ ob.dict = none := fun b q => by
  cases q
  obtain ⟨ob, _, _, h1, h2, _⟩ := n.dict I
  exact ⟨ob, h1, h2.2.1⟩
theorem nroom {A : Around} (hu : A.units + 64 < cLine) : (nestedKind X.prog X.w).room A.in1 := by
  have h1 : A.in1.units + 8 < cLine := by
    have h2 : A.in1.units ≤ A.units + 2 := by
      unfold Around.in1
      first | (simp [Around.units]; done) | (simp [Around.units]; omega)
    omega
  exact h1
end
end DL

/-! DL4: subscripts, slices, built-ins, methods. -/
namespace DL
open PySem L2 PySem.Spec PyProof.Rows

theorem PE.or {X : Cx} {e : Expr} {t u : TE} (h : PE X e t) (h' : PE X e u) : PE X e (fun σ H Q => t σ H Q ∨ u σ H Q) :=
  ⟨fun pins s σ H Q I q => q.elim (h.run pins s σ H Q I) (h'.run pins s σ H Q I)⟩

/-! ### dicts -/
def valD (kvs : List (Key × D)) (k : Key) : Option D := (kvs.find? fun kv => decide (kv.1 = k)).map (·.2)
def putD (kvs : List (Key × D)) (k : Key) (d : D) : List (Key × D) :=
  if (kvs.any fun kv => decide (kv.1 = k)) = true then kvs.map (fun kv => if kv.1 = k then (kv.1, d) else kv) else kvs ++ [(k, d)]
def keyD : D → Option Key
  | .int i => some (.inl i)
  | .str s => some (.inr s)
  | _ => none
section
variable {K : Kw} {H : Hp} {μ : List Addr}
theorem key_of {d : D} {v : V} {k : Key} (r : Rp K H μ d v) (e : keyD d = some k) : v = kV k := by
  unfold keyD at e
  split at e <;> cases e
  · exact rp_int' r
  · exact rp_str' r
/-- the pairs of a dict stand for those of another -/
def Rkv (K : Kw) (H : Hp) (μ : List Addr) (kvs : List (Key × D)) (kw : List (Key × V)) : Prop := kw.map (·.1) = kvs.map (·.1) ∧ Rps K H μ (kvs.map (·.2)) (kw.map (·.2))
theorem Rkv.nil : Rkv K H μ [] [] := ⟨rfl, Rps.nil⟩
theorem Rkv.nil' {kw : List (Key × V)} (r : Rkv K H μ [] kw) : kw = [] := by
  have := r.1
  simpa using this
theorem Rkv.cons' {k : Key} {d : D} {kvs : List (Key × D)} {kw : List (Key × V)} (r : Rkv K H μ ((k, d) :: kvs) kw) : ∃ v kw', kw = (k, v) :: kw' ∧ Rp K H μ d v ∧ Rkv K H μ kvs kw' := by
  obtain ⟨a, b⟩ := r
  cases kw with
  | nil => simp at a
  | cons p kw' =>
    obtain ⟨k', v⟩ := p
    simp only [List.map_cons, List.cons.injEq] at a b
    obtain ⟨w, ws, e, c1, c2⟩ := b.cons'
    cases e
    obtain ⟨rfl, a2⟩ := a
    exact ⟨v, kw', rfl, c1, a2, c2⟩
theorem Rkv.cons {k : Key} {d : D} {v : V} {kvs : List (Key × D)} {kw : List (Key × V)} (a : Rp K H μ d v) (r : Rkv K H μ kvs kw) : Rkv K H μ ((k, d) :: kvs) ((k, v) :: kw) :=
  ⟨by simp [r.1], Rps.cons a r.2⟩
theorem Rkv.val {k : Key} : ∀ {kvs : List (Key × D)} {kw : List (Key × V)}, Rkv K H μ kvs kw → (valD kvs k = none ∧ valV kw k = none) ∨ ∃ d v, valD kvs k = some d ∧ valV kw k = some v ∧ Rp K H μ d v
  | [], kw, r => by rw [r.nil']; exact .inl ⟨rfl, rfl⟩
  | (k', d) :: kvs, kw, r => by
    obtain ⟨v, kw', rfl, a, b⟩ := r.cons'
    by_cases e : k' = k
    · refine .inr ⟨d, v, ?_, valV_pos e, a⟩
      simp [valD, List.find?_cons, e]
    · rw [valV_neg (by exact e)]
      have : valD ((k', d) :: kvs) k = valD kvs k := by simp [valD, List.find?_cons, e]
      rw [this]
      exact Rkv.val b
theorem Rkv.any {k : Key} : ∀ {kvs : List (Key × D)} {kw : List (Key × V)}, Rkv K H μ kvs kw → (kvs.any fun kv => decide (kv.1 = k)) = (kw.any fun kv => decide (kv.1 = k))
  | [], kw, r => by rw [r.nil']; rfl
  | (k', d) :: kvs, kw, r => by
    obtain ⟨v, kw', rfl, a, b⟩ := r.cons'
    rw [List.any_cons, List.any_cons, Rkv.any b]
theorem Rkv.mapPut {k : Key} {d : D} {v : V} (a : Rp K H μ d v) : ∀ {kvs : List (Key × D)} {kw : List (Key × V)}, Rkv K H μ kvs kw → Rkv K H μ (kvs.map fun kv => if kv.1 = k then (kv.1, d) else kv) (kw.map fun kv => if kv.1 = k then (kv.1, v) else kv)
  | [], kw, r => by rw [r.nil']; exact Rkv.nil
  | (k', d') :: kvs, kw, r => by
    obtain ⟨v', kw', rfl, b, c⟩ := r.cons'
    rw [List.map_cons, List.map_cons]
    by_cases e : k' = k
    · rw [if_pos (show (k', d').1 = k from e), if_pos (show (k', v').1 = k from e)]
      exact Rkv.cons a (Rkv.mapPut a c)
    · rw [if_neg (show ¬ (k', d').1 = k from e), if_neg (show ¬ (k', v').1 = k from e)]
      exact Rkv.cons b (Rkv.mapPut a c)
theorem Rkv.app : ∀ {kvs kvs2 : List (Key × D)} {kw kw2 : List (Key × V)}, Rkv K H μ kvs kw → Rkv K H μ kvs2 kw2 → Rkv K H μ (kvs ++ kvs2) (kw ++ kw2)
  | [], kvs2, kw, kw2, r, q => by rw [r.nil']; exact q
  | (k', d') :: kvs, kvs2, kw, kw2, r, q => by
    obtain ⟨v', kw', rfl, b, c⟩ := r.cons'
    exact Rkv.cons b (Rkv.app c q)
theorem Rkv.put {k : Key} {d : D} {v : V} {kvs : List (Key × D)} {kw : List (Key × V)} (r : Rkv K H μ kvs kw) (a : Rp K H μ d v) : Rkv K H μ (putD kvs k d) (putK kw k v) := by
  unfold putD putK
  rw [Rkv.any r]
  split
  · exact Rkv.mapPut a r
  · exact Rkv.app r (Rkv.cons a Rkv.nil)
theorem Rkv.len {kvs : List (Key × D)} {kw : List (Key × V)} (r : Rkv K H μ kvs kw) : kw.length = kvs.length := by
  have := congrArg List.length r.1
  simpa using this
theorem Sm.dct {h : Hd} {n : Nat} {kvs : List (Key × D)} {a : Addr} (S : Sm Φ K H μ h) (e : h[n]? = some (.dct kvs)) (ea : μ[n]? = some a) : ∃ kw, H a = some (.dK kw) ∧ Rkv K H μ kvs kw := S.at ea e
end

/-! ### subscripts -/
def isDct (h : Hd) : D → Bool
  | .at n => match h[n]? with
    | some (.dct _) => true
    | _ => false
  | _ => false
def subsD : G2 := fun x y h => match x, y with
  | .str z, .int i => if z.length ≤ LN then match atI z.cps.toList i with
    | some c => some (.str ⟨#[c]⟩, h)
    | none => none else none
  | x, y => match seqD h x with
    | some xs => match y with
      | .int i => match atI xs i with
        | some d => some (d, h)
        | none => none
      | _ => none
    | none => match x with
      | .at n => match h[n]? with
        | some (.dct kvs) => match keyD y with
          | some k => match valD kvs k with
            | some d => some (d, h)
            | none => none
          | none => none
        | _ => none
      | _ => none
section
variable {K : Kw} {X : Cx} {pos : Pos} {a b : Expr} {ta tb : TE} {ma mb : ME}
theorem ix_U (hK : KOf X = K := by rfl) : IxR X (rIx K) := by subst hK; exact ix_seq
def tSub (K : Kw) (ta tb : TE) : TE := fun σ H Q => tOp (rIx K) ta tb σ H Q ∨ tDGet ta tb σ H Q
theorem atI_get {H : Hp} {μ : List Addr} {xs : List D} {vs : List V} {i : Int} {d : D} (r : Rps K H μ xs vs) (e : atI xs i = some d) : ∃ v, atI vs i = some v ∧ Rp K H μ d v := by
  unfold atI at e ⊢
  rw [r.len]
  cases q : ixN xs.length i with
  | none => rw [q] at e; cases e
  | some j =>
    rw [q] at e
    exact r.get e
theorem de_sub (ha : DE K X a ta ma) (hb : DE K X b tb mb) (hu : X.A.units + 1 < cLine) (hs : PlainIx b := by exact fun _ _ => rfl) (hs2 : NoSl b := by exact fun _ _ => rfl) : DE K X (.Subscript a b pos) (tSub K ta tb) (opM subsD ma mb) := ⟨ha.k, PE.or (pe_ix (ix_U ha.k) ha.p hb.p hs) (pe_dget hu ha.p hb.p hs2), by
  intro Φ σ H μ sg h d h' S rs e Q k
  unfold opM at e
  split at e
  · rename_i x h1 e1
    split at e
    · rename_i y h2 e2
      unfold subsD at e
      split at e
      · rename_i z i
        split at e
        · rename_i hz
          split at e
          · rename_i c q
            cases e
            refine .inl (ha.s σ H μ sg h _ h1 S rs e1 _ fun v H1 μ1 S1 l1 r1 => ?_)
            refine hb.s σ H1 μ1 sg h1 _ _ S1 (rs.mono l1) e2 _ fun w H2 μ2 S2 l2 r2 => ?_
            exact .inr (.inr ⟨z, i, c, rp_str' r1, rp_int' r2, ln_of hz, q, k _ H2 μ2 S2 (l1.trans l2) rp_str⟩)
          · cases e
        · cases e
      · split at e
        · rename_i xs q1
          split at e
          · rename_i i _
            split at e
            · rename_i d1 q2
              cases e
              refine .inl (ha.s σ H μ sg h _ h1 S rs e1 _ fun v H1 μ1 S1 l1 r1 => ?_)
              refine hb.s σ H1 μ1 sg h1 _ _ S1 (rs.mono l1) e2 _ fun w H2 μ2 S2 l2 r2 => ?_
              obtain ⟨p, vs, rfl, c1, c2⟩ := seq_of S2 (Rp.mono l2 _ _ r1) q1
              obtain ⟨u, c3, c4⟩ := atI_get c2 q2
              rcases c1 with c1 | c1
              · exact .inl ⟨p, vs, i, u, rfl, rp_int' r2, c1, c3, k _ H2 μ2 S2 (l1.trans l2) c4⟩
              · exact .inr (.inl ⟨p, vs, i, u, rfl, rp_int' r2, c1, c3, k _ H2 μ2 S2 (l1.trans l2) c4⟩)
            · cases e
          · cases e
        · split at e
          · rename_i n
            split at e
            · rename_i kvs q2
              split at e
              · rename_i kk q3
                split at e
                · rename_i d1 q4
                  cases e
                  refine .inr (ha.s σ H μ sg h _ h1 S rs e1 _ fun v H1 μ1 S1 l1 r1 => ?_)
                  refine hb.s σ H1 μ1 sg h1 _ _ S1 (rs.mono l1) e2 _ fun w H2 μ2 S2 l2 r2 => ?_
                  obtain ⟨p, ep, rfl⟩ := rp_at' (Rp.mono l2 _ _ r1)
                  obtain ⟨kw, c1, c2⟩ := S2.dct q2 ep
                  rcases c2.val (k := kk) with ⟨z, _⟩ | ⟨d2, u, z1, z2, z3⟩
                  · rw [q4] at z; cases z
                  · rw [q4] at z1
                    cases z1
                    refine ⟨p, u, rfl, ?_, k _ H2 μ2 S2 (l1.trans l2) z3⟩
                    rw [key_of r2 q3, ← z2]
                    exact DGet.k c1
                · cases e
              · cases e
            · cases e
          · cases e
    · cases e
  · cases e⟩
end

/-! ### slices -/
abbrev MO := Sg → Hd → Option (Option Int × Hd)
def SOp (K : Kw) (t : TO) (m : MO) : Prop := ∀ {Φ : Hp} (σ : L2.St) (H : Hp) (μ : List Addr) (sg : Sg) (h : Hd) (o : Option Int) (h' : Hd), Sm Φ K H μ h → Rs K H μ sg σ → m sg h = some (o, h') → ∀ Q : Option Int → Hp → Prop,
  (∀ (H' : Hp) (μ' : List Addr), Sm Φ K H' μ' h' → Le K H μ H' μ' → Q o H') → t σ H Q
structure DO (K : Kw) (X : Cx) (e : Option Expr) (t : TO) (m : MO) : Prop where
  k : KOf X = K
  p : PO X e t
  s : SOp K t m
def noM : MO := fun _ h => some (none, h)
def partM (a : ME) : MO := fun sg h => match a sg h with
  | some (.int i, h1) => some (some i, h1)
  | _ => none
def cutD (xs : List D) (lo hi : Option Int) : List D := (xs.drop (HT.sIx xs.length 0 lo)).take (HT.sIx xs.length xs.length hi - HT.sIx xs.length 0 lo)
def sliceD (x : D) (lo hi : Option Int) (h : Hd) : Option (D × Hd) := match x with
  | .str z => if z.length ≤ LN then some (.str (cutS z lo hi), h) else none
  | .tup xs => some (.tup (cutD xs lo hi), h)
  | .rol xs => some (.at h.length, h ++ [.lst (cutD xs lo hi)])
  | .at n => match h[n]? with
    | some (.lst xs) => some (.at h.length, h ++ [.lst (cutD xs lo hi)])
    | _ => none
  | _ => none
def slM (a : ME) (lo hi : MO) : ME := fun sg h => match a sg h with
  | some (x, h1) => match lo sg h1 with
    | some (l, h2) => match hi sg h2 with
      | some (u, h3) => sliceD x l u h3
      | none => none
    | none => none
  | none => none
def rSlU (K : Kw) : V → Option Int → Option Int → Hp → VK → Prop := fun x lo hi H Q => rSlA K x lo hi H Q ∨ rSlL K x lo hi H Q ∨ rSlS x lo hi H Q
section
variable {K : Kw} {X : Cx} {pos : Pos} {a : Expr} {ta : TE} {ma : ME} {lo hi : Option Expr} {tl th : TO} {ml mh : MO}
theorem do_none (hK : KOf X = K := by rfl) : DO K X none tNoPart noM := ⟨hK, po_none, fun {Φ} σ H μ sg h o h' S rs e Q k => by cases e; exact k H μ S Le.refl⟩
theorem do_some (ha : DE K X a ta ma) : DO K X (some a) (tPart ta) (partM ma) := ⟨ha.k, po_some ha.p, by
  intro Φ σ H μ sg h o h' S rs e Q k
  unfold partM at e
  split at e
  · rename_i i h1 e1
    cases e
    exact ha.s σ H μ sg h _ _ S rs e1 _ fun v H1 μ1 S1 l1 r1 => ⟨i, rp_int' r1, k H1 μ1 S1 l1⟩
  · cases e⟩
theorem sl_U (hK : KOf X = K := by rfl) : SlR X (rSlU K) := by subst hK; exact sl_tupA.or (sl_list.or sl_str)
theorem cut_of {H : Hp} {μ : List Addr} {xs : List D} {vs : List V} (r : Rps K H μ xs vs) (lo hi : Option Int) : Rps K H μ (cutD xs lo hi) (cutV vs lo hi) := by
  unfold cutD cutV
  rw [r.len]
  exact (r.drop _).take _
theorem de_slice {p2 : Pos} (ha : DE K X a ta ma) (hl : DO K X lo tl ml) (hh : DO K X hi th mh) : DE K X (.Subscript a (.Slice lo hi none p2) pos) (tSl (rSlU K) ta tl th) (slM ma ml mh) := ⟨ha.k, pe_slice (sl_U ha.k) ha.p hl.p hh.p, by
  intro Φ σ H μ sg h d h' S rs e Q k
  unfold slM at e
  split at e
  · rename_i x h1 e1
    split at e
    · rename_i l h2 e2
      split at e
      · rename_i u h3 e3
        refine ha.s σ H μ sg h x h1 S rs e1 _ fun v H1 μ1 S1 l1 r1 => ?_
        refine hl.s σ H1 μ1 sg h1 l h2 S1 (rs.mono l1) e2 _ fun H2 μ2 S2 l2 => ?_
        refine hh.s σ H2 μ2 sg h2 u h3 S2 (rs.mono (l1.trans l2)) e3 _ fun H3 μ3 S3 l3 => ?_
        have r3 := Rp.mono (l2.trans l3) _ _ r1
        have k3 : Kn Φ K H3 μ3 h' d Q := fun v H' μ' S' l' r' => k v H' μ' S' (((l1.trans l2).trans l3).trans l') r'
        unfold sliceD at e
        split at e
        · split at e
          · rename_i hz
            cases e
            exact .inr (.inr ⟨_, rp_str' r3, ln_of hz, k3 _ H3 μ3 S3 Le.refl rp_str⟩)
          · cases e
        · rename_i xs
          cases e
          obtain ⟨p, vs, rfl, c1, c2⟩ := rp_tup' r3
          refine .inl ⟨p, vs, rfl, c1, fun z => ?_, fun _ q hq => kn_tup S3 (cut_of c2 l u) k3 q hq⟩
          have : cutD xs l u = xs := by
            unfold cutD
            rw [c2.len] at z
            rw [z.1, z.2]
            simp
          rw [this] at k3
          exact k3 _ H3 μ3 S3 Le.refl r3
        · rename_i xs
          cases e
          obtain ⟨p, vs, rfl, c1, c2⟩ := rp_rol' r3
          exact .inr (.inl ⟨p, vs, rfl, c1.l, fun q hq => kn_lst S3 (cut_of c2 l u) k3 q hq⟩)
        · split at e
          · rename_i n _ xs q
            cases e
            obtain ⟨p, ep, rfl⟩ := rp_at' r3
            obtain ⟨vs, c1, c2⟩ := S3.lst q ep
            exact .inr (.inl ⟨p, vs, rfl, .of c1, fun q hq => kn_lst S3 (cut_of c2 l u) k3 q hq⟩)
          · cases e
        · cases e
      · cases e
    · cases e
  · cases e⟩
end
end DL

/-! DL5: calls of built-ins, methods of lists and dicts. -/
namespace DL
open PySem L2 PySem.Spec PyProof.Rows

/-! ### calls of built-ins by trees -/
abbrev GC := List D → Hd → Option (D × Hd)
def SC (K : Kw) (r : List V → Hp → VK → Prop) (g : GC) : Prop := ∀ {Φ : Hp} (H : Hp) (μ : List Addr) (h : Hd) (xs : List D) (vs : List V) (d : D) (h' : Hd), Sm Φ K H μ h → Rps K H μ xs vs → g xs h = some (d, h') → ∀ Q : VK, Kn Φ K H μ h' d Q → r vs H Q
def cbM (g : GC) (a : MA) : ME := fun sg h => match a sg h with
  | some (xs, h1) => g xs h1
  | none => none
section
variable {K : Kw} {X : Cx} {pos p : Pos} {e : Expr} {es : List Expr} {ta : TA} {ma : MA} {r : List V → Hp → VK → Prop} {g : GC}
theorem se_cb (hs : SC K r g) (ha : SA K ta ma) : SE K (tCB r ta) (cbM g ma) := by
  intro Φ σ H μ sg h d h' S rs e Q k
  unfold cbM at e
  split at e
  · rename_i xs h1 e1
    exact ha σ H μ sg h xs h1 S rs e1 _ fun vs H1 μ1 S1 l1 r1 => hs H1 μ1 h1 xs vs d h' S1 r1 e Q fun v H2 μ2 S2 l2 r2 => k v H2 μ2 S2 (l1.trans l2) r2
  · cases e
theorem de_callB {x : Str} {id : String} (hs : SC K r g) (hc : CallR X (.builtin id) r) (hm : X.mg x = none) (ha : DA K X (e :: es) ta ma) (hv : bootBuiltins x = some (.builtin id) := by decide +kernel) (hg : Gl X x := by rfl) (hn : x ≠ "__name__" := by decide) (hdb : (x == ("__debug__" : Str)) = false := by decide)
    (he : starEach (e :: es) X.env = (false, eval e X.env) :: starEach es X.env := by rfl) (hpl : (backTo pos (starEach es X.env)).any (·.1) = false := by rfl) : DE K X (.Call (.Name x p) (e :: es) [] pos) (tCB r ta) (cbM g ma) := ⟨ha.k, pe_callB hc hg hm hv ha.p hn hdb he hpl, se_cb hs ha.s⟩
theorem de_callTy {x : Str} {T : String} (hs : SC K r g) (hc : CallR X (.type T) r) (hm : X.mg x = none) (ha : DA K X (e :: es) ta ma) (hv : bootBuiltins x = some (.type T) := by decide +kernel) (hg : Gl X x := by rfl) (hn : x ≠ "__name__" := by decide) (hdb : (x == ("__debug__" : Str)) = false := by decide)
    (he : starEach (e :: es) X.env = (false, eval e X.env) :: starEach es X.env := by rfl) (hpl : (backTo pos (starEach es X.env)).any (·.1) = false := by rfl) : DE K X (.Call (.Name x p) (e :: es) [] pos) (tCB r ta) (cbM g ma) := ⟨ha.k, pe_callTy hc hg hm hv ha.p hn hdb he hpl, se_cb hs ha.s⟩
end
theorem rps1 {K : Kw} {H : Hp} {μ : List Addr} {d : D} {vs : List V} (r : Rps K H μ [d] vs) : ∃ v, vs = [v] ∧ Rp K H μ d v := by
  obtain ⟨v, vs', rfl, a, b⟩ := r.cons'
  rw [b.nil']
  exact ⟨v, rfl, a⟩
theorem rps2 {K : Kw} {H : Hp} {μ : List Addr} {d e : D} {vs : List V} (r : Rps K H μ [d, e] vs) : ∃ v w, vs = [v, w] ∧ Rp K H μ d v ∧ Rp K H μ e w := by
  obtain ⟨v, vs', rfl, a, b⟩ := r.cons'
  obtain ⟨w, rfl, c⟩ := rps1 b
  exact ⟨v, w, rfl, a, c⟩

section
variable {K : Kw} {X : Cx}
/-- len -/
def lenD : GC := fun xs h => match xs with
  | [.str s] => if s.length ≤ LN then some (.int s.length, h) else none
  | [.at n] => match h[n]? with
    | some (.lst ys) => some (.int ys.length, h)
    | some (.dct kvs) => some (.int kvs.length, h)
    | _ => none
  | [.tup ys] => some (.int ys.length, h)
  | [.rol ys] => some (.int ys.length, h)
  | _ => none
def rLenA (K : Kw) : List V → Hp → VK → Prop := fun xs H Q => ∃ x n, xs = [x] ∧ LenV K x H n ∧ Q (.int n) H
def rLenDd : List V → Hp → VK → Prop := fun xs H Q => ∃ a kvs, xs = [V.ref a] ∧ H a = some (.dK kvs) ∧ Q (.int kvs.length) H
def rLenU (K : Kw) : List V → Hp → VK → Prop := fun xs H Q => rLenA K xs H Q ∨ rLenDd xs H Q
theorem call_lenU (hK : KOf X = K := by rfl) : CallR X (.builtin "len") (rLenU K) := by
  subst hK
  exact CallR.or (r := rLenA (KOf X)) (r' := rLenDd) call_len call_lenD
theorem sc_len : SC K (rLenU K) lenD := by
  intro Φ H μ h xs vs d h' S r e Q k
  unfold lenD at e
  split at e
  · split at e
    · rename_i hz
      cases e
      obtain ⟨v, rfl, a⟩ := rps1 r
      rw [rp_str' a]
      exact .inl ⟨_, _, rfl, ⟨ln_of hz, rfl⟩, k _ H μ S Le.refl rp_int⟩
    · cases e
  · obtain ⟨v, rfl, a⟩ := rps1 r
    obtain ⟨p, ep, rfl⟩ := rp_at' a
    split at e
    · rename_i ys q
      cases e
      obtain ⟨ws, b, c⟩ := S.lst q ep
      refine .inl ⟨_, _, rfl, .inl ⟨ws, .of b, rfl⟩, ?_⟩
      rw [c.len]
      exact k _ H μ S Le.refl rp_int
    · rename_i kvs q
      cases e
      obtain ⟨kw, b, c⟩ := S.dct q ep
      refine .inr ⟨p, kw, rfl, b, ?_⟩
      rw [c.len]
      exact k _ H μ S Le.refl rp_int
    · cases e
  · cases e
    obtain ⟨v, rfl, a⟩ := rps1 r
    obtain ⟨p, ws, rfl, b, c⟩ := rp_tup' a
    refine .inl ⟨_, _, rfl, .inr ⟨ws, b, rfl⟩, ?_⟩
    rw [c.len]
    exact k _ H μ S Le.refl rp_int
  · cases e
    obtain ⟨v, rfl, a⟩ := rps1 r
    obtain ⟨p, ws, rfl, b, c⟩ := rp_rol' a
    refine .inl ⟨_, _, rfl, .inl ⟨ws, b.l, rfl⟩, ?_⟩
    rw [c.len]
    exact k _ H μ S Le.refl rp_int
  · cases e
/-- abs, int, ord, min and max of two -/
def absD : GC := fun xs h => match xs with
  | [.int i] => some (.int (if i < 0 then -i else i), h)
  | _ => none
theorem sc_abs : SC K (fun xs H Q => ∃ i, xs = [.int i] ∧ Q (.int (if i < 0 then -i else i)) H) absD := by
  intro Φ H μ h xs vs d h' S r e Q k
  unfold absD at e
  split at e
  · cases e
    obtain ⟨v, rfl, a⟩ := rps1 r
    rw [rp_int' a]
    exact ⟨_, rfl, k _ H μ S Le.refl rp_int⟩
  · cases e
def intD : GC := fun xs h => match xs with
  | [.int i] => some (.int i, h)
  | [.bl b] => some (.int (if b then 1 else 0), h)
  | _ => none
theorem sc_int : SC K (fun xs H Q => (∃ i, xs = [.int i] ∧ Q (.int i) H) ∨ ∃ k, xs = [.bl k] ∧ Q (.int (if k then 1 else 0)) H) intD := by
  intro Φ H μ h xs vs d h' S r e Q k
  unfold intD at e
  split at e
  · cases e
    obtain ⟨v, rfl, a⟩ := rps1 r
    rw [rp_int' a]
    exact .inl ⟨_, rfl, k _ H μ S Le.refl rp_int⟩
  · cases e
    obtain ⟨v, rfl, a⟩ := rps1 r
    rw [rp_bl' a]
    exact .inr ⟨_, rfl, k _ H μ S Le.refl rp_int⟩
  · cases e
def ordD : GC := fun xs h => match xs with
  | [.str ⟨⟨[c]⟩⟩] => some (.int c, h)
  | _ => none
theorem sc_ord : SC K (fun xs H Q => ∃ x, xs = [.str x] ∧ x.length = 1 ∧ Q (.int (x.cps.getD 0 0 : Nat)) H) ordD := by
  intro Φ H μ h xs vs d h' S r e Q k
  unfold ordD at e
  split at e
  · cases e
    obtain ⟨v, rfl, a⟩ := rps1 r
    rw [rp_str' a]
    exact ⟨_, rfl, rfl, k _ H μ S Le.refl rp_int⟩
  · cases e
/-- all, any of a list of bools -/
def blsD : List D → Option (List Bool)
  | [] => some []
  | .bl b :: ds => match blsD ds with
    | some bs => some (b :: bs)
    | none => none
  | _ => none
theorem bls_of {H : Hp} {μ : List Addr} : ∀ {ds : List D} {vs : List V} {bs : List Bool}, Rps K H μ ds vs → blsD ds = some bs → vs = bs.map V.bl
  | [], vs, bs, r, e => by
    unfold blsD at e
    cases e
    exact r.nil'
  | .bl b :: ds, vs, bs, r, e => by
    unfold blsD at e
    obtain ⟨v, vs', rfl, a, c⟩ := r.cons'
    split at e
    · rename_i bs' q
      cases e
      rw [rp_bl' a, bls_of c q]
      rfl
    · cases e
  | .non :: ds, vs, bs, r, e => by unfold blsD at e; cases e
  | .int _ :: ds, vs, bs, r, e => by unfold blsD at e; cases e
  | .str _ :: ds, vs, bs, r, e => by unfold blsD at e; cases e
  | .ty _ :: ds, vs, bs, r, e => by unfold blsD at e; cases e
  | .ad _ :: ds, vs, bs, r, e => by unfold blsD at e; cases e
  | .tup _ :: ds, vs, bs, r, e => by unfold blsD at e; cases e
  | .rol _ :: ds, vs, bs, r, e => by unfold blsD at e; cases e
  | .at _ :: ds, vs, bs, r, e => by unfold blsD at e; cases e
def allD : GC := fun xs h => match xs with
  | [.at n] => match h[n]? with
    | some (.lst ys) => match blsD ys with
      | some bs => some (.bl (bs.all id), h)
      | none => none
    | _ => none
  | _ => none
theorem sc_all : SC K (rAll K) allD := by
  intro Φ H μ h xs vs d h' S r e Q k
  unfold allD at e
  split at e
  · split at e
    · rename_i ys q
      split at e
      · rename_i bs q2
        cases e
        obtain ⟨v, rfl, a⟩ := rps1 r
        obtain ⟨p, ep, rfl⟩ := rp_at' a
        obtain ⟨ws, b, c⟩ := S.lst q ep
        exact ⟨p, bs, rfl, by rw [← bls_of c q2]; exact .of b, k _ H μ S Le.refl rp_bl⟩
      · cases e
    · cases e
  · cases e
theorem call_allU (hK : KOf X = K := by rfl) (hc : X.calm = true := by rfl) : CallR X (.builtin "all") (rAll K) := by subst hK; exact cr_all hc
/-- max, min: of two ints, of a list of ints -/
def intsD : List D → Option (List Int)
  | [] => some []
  | .int b :: ds => match intsD ds with
    | some bs => some (b :: bs)
    | none => none
  | _ => none
theorem ints_of {H : Hp} {μ : List Addr} : ∀ {ds : List D} {vs : List V} {bs : List Int}, Rps K H μ ds vs → intsD ds = some bs → vs = bs.map V.int
  | [], vs, bs, r, e => by
    unfold intsD at e
    cases e
    exact r.nil'
  | .int b :: ds, vs, bs, r, e => by
    unfold intsD at e
    obtain ⟨v, vs', rfl, a, c⟩ := r.cons'
    split at e
    · rename_i bs' q
      cases e
      rw [rp_int' a, ints_of c q]
      rfl
    · cases e
  | .non :: ds, vs, bs, r, e => by unfold intsD at e; cases e
  | .bl _ :: ds, vs, bs, r, e => by unfold intsD at e; cases e
  | .str _ :: ds, vs, bs, r, e => by unfold intsD at e; cases e
  | .ty _ :: ds, vs, bs, r, e => by unfold intsD at e; cases e
  | .ad _ :: ds, vs, bs, r, e => by unfold intsD at e; cases e
  | .tup _ :: ds, vs, bs, r, e => by unfold intsD at e; cases e
  | .rol _ :: ds, vs, bs, r, e => by unfold intsD at e; cases e
  | .at _ :: ds, vs, bs, r, e => by unfold intsD at e; cases e
def maxI : Int → List Int → Int
  | m, [] => m
  | m, x :: xs => maxI (if x > m then x else m) xs
theorem maxI_mem : ∀ (xs : List Int) (m : Int), maxI m xs ∈ m :: xs
  | [], m => by simp [maxI]
  | x :: xs, m => by
    unfold maxI
    have := maxI_mem xs (if x > m then x else m)
    by_cases c : x > m
    · rw [if_pos c] at this ⊢
      rcases List.mem_cons.mp this with q | q
      · rw [q]; simp
      · exact List.mem_cons_of_mem _ (List.mem_cons_of_mem _ q)
    · rw [if_neg c] at this ⊢
      rcases List.mem_cons.mp this with q | q
      · rw [q]; simp
      · exact List.mem_cons_of_mem _ (List.mem_cons_of_mem _ q)
theorem maxI_le : ∀ (xs : List Int) (m : Int), ∀ y ∈ m :: xs, y ≤ maxI m xs
  | [], m, y, h => by
    simp at h
    unfold maxI
    omega
  | x :: xs, m, y, h => by
    unfold maxI
    have q := maxI_le xs (if x > m then x else m)
    have q0 := q _ List.mem_cons_self
    rcases List.mem_cons.mp h with rfl | h
    · split at q0 <;> rename_i c
      · rw [if_pos c]; omega
      · rw [if_neg c]; omega
    · rcases List.mem_cons.mp h with rfl | h
      · split at q0 <;> rename_i c
        · rw [if_pos c]; omega
        · rw [if_neg c]; omega
      · exact q y (List.mem_cons_of_mem _ h)
def maxD : GC := fun xs h => match xs with
  | [.int i, .int j] => some (.int (if j > i then j else i), h)
  | [.at n] => match h[n]? with
    | some (.lst ys) => match intsD ys with
      | some (m :: ms) => some (.int (maxI m ms), h)
      | _ => none
    | _ => none
  | _ => none
def rMax2A : List V → Hp → VK → Prop := fun xs H Q => ∃ i j, xs = [.int i, .int j] ∧ Q (.int (if j > i then j else i)) H
def rMaxU (K : Kw) : List V → Hp → VK → Prop := fun xs H Q => rMax2A xs H Q ∨ rMax K xs H Q
theorem call_maxU (hK : KOf X = K := by rfl) (hc : X.calm = true := by rfl) : CallR X (.builtin "max") (rMaxU K) := by
  subst hK
  exact CallR.or (r := rMax2A) (call_max2 hc) (cr_max hc)
theorem sc_max : SC K (rMaxU K) maxD := by
  intro Φ H μ h xs vs d h' S r e Q k
  unfold maxD at e
  split at e
  · cases e
    obtain ⟨v, w, rfl, a, b⟩ := rps2 r
    rw [rp_int' a, rp_int' b]
    exact .inl ⟨_, _, rfl, k _ H μ S Le.refl rp_int⟩
  · split at e
    · rename_i ys q
      split at e
      · rename_i m ms q2
        cases e
        obtain ⟨v, rfl, a⟩ := rps1 r
        obtain ⟨p, ep, rfl⟩ := rp_at' a
        obtain ⟨ws, b, c⟩ := S.lst q ep
        refine .inr ⟨p, m :: ms, rfl, by rw [← ints_of c q2]; exact .of b, by simp, fun z hz hm => ?_⟩
        have h1 := hm _ (maxI_mem ms m)
        have h2 := maxI_le ms m z hz
        have : z = maxI m ms := by omega
        rw [this]
        exact k _ H μ S Le.refl rp_int
      · cases e
    · cases e
  · cases e
def minD : GC := fun xs h => match xs with
  | [.int i, .int j] => some (.int (if j < i then j else i), h)
  | _ => none
theorem sc_min : SC K (fun xs H Q => ∃ i j, xs = [.int i, .int j] ∧ Q (.int (if j < i then j else i)) H) minD := by
  intro Φ H μ h xs vs d h' S r e Q k
  unfold minD at e
  split at e
  · cases e
    obtain ⟨v, w, rfl, a, b⟩ := rps2 r
    rw [rp_int' a, rp_int' b]
    exact ⟨_, _, rfl, k _ H μ S Le.refl rp_int⟩
  · cases e
/-- isinstance(x, T), T a built-in type -/
def kdD (h : Hd) : D → Option String
  | .non => some "NoneType"
  | .bl _ => some "bool"
  | .int _ => some "int"
  | .str _ => some "str"
  | .tup _ => some "tuple"
  | .rol _ => some "list"
  | .at n => match h[n]? with
    | some (.lst _) => some "list"
    | some (.dct _) => some "dict"
    | _ => none
  | .ty _ => none
  | .ad _ => none
def isiD : GC := fun xs h => match xs with
  | [x, .ty T] => match kdD h x with
    | some k => match kitB k T with
      | some b => some (.bl b, h)
      | none => none
    | none => none
  | _ => none
theorem kd_of {H : Hp} {μ : List Addr} {h : Hd} {d : D} {v : V} {s : String} (S : Sm Φ K H μ h) (r : Rp K H μ d v) (e : kdD h d = some s) : TyX K H v (.type s) := by
  unfold kdD at e
  split at e
  · cases e; rw [rp_non' r]; exact .base .non
  · cases e; rw [rp_bl' r]; exact .base (.bl _)
  · cases e; rw [rp_int' r]; exact .base (.int _)
  · cases e; rw [rp_str' r]; exact .base (.str _)
  · cases e
    obtain ⟨p, ws, rfl, b, c⟩ := rp_tup' r
    rcases b with (b | ⟨ob, b⟩) | ⟨o, its, n, b, b2, _⟩
    · exact .base (.tup b)
    · exact .fTuple b
    · exact .kTuple b b2
  · cases e
    obtain ⟨p, ws, rfl, b, c⟩ := rp_rol' r
    rcases b with ⟨ob, b⟩ | ⟨o, its, n, b, b2, _⟩
    · exact .base (.frz b)
    · exact .kList b b2
  · obtain ⟨p, ep, rfl⟩ := rp_at' r
    split at e
    · rename_i ys q
      cases e
      obtain ⟨ws, b, c⟩ := S.lst q ep
      exact .base (.lst b)
    · rename_i ys q
      cases e
      obtain ⟨ws, b, c⟩ := S.dct q ep
      exact .base (.dK b)
    · cases e
  · cases e
  · cases e
theorem sc_isi : SC K (rIsi K) isiD := by
  intro Φ H μ h xs vs d h' S r e Q k
  unfold isiD at e
  split at e
  · split at e
    · rename_i kk q
      split at e
      · rename_i b q2
        cases e
        obtain ⟨v, w, rfl, a, c⟩ := rps2 r
        rw [rp_ty' c]
        exact ⟨v, _, _, _, b, rfl, .ty _, kd_of S a q, kit_ty q2, k _ H μ S Le.refl rp_bl⟩
      · cases e
    · cases e
  · cases e
theorem call_isiU (hK : KOf X = K := by rfl) : CallR X (.builtin "isinstance") (rIsi K) := by subst hK; exact call_isi
/-- tuple(x), list(x) -/
def tuplD : GC := fun xs h => match xs with
  | [.tup ys] => some (.tup ys, h)
  | [.rol ys] => some (.tup ys, h)
  | [.at n] => match h[n]? with
    | some (.lst ys) => some (.tup ys, h)
    | _ => none
  | _ => none
def rTupl (K : Kw) : List V → Hp → VK → Prop := fun xs H Q => ∃ p ys, xs = [.ref p] ∧ ((SqL K H p ys ∧ ∀ l, H l = none → Q (.ref l) (upd H l (.tup ys))) ∨ (SqT K H p ys ∧ Q (.ref p) H))
theorem call_tuplU (hK : KOf X = K := by rfl) : CallR X (.type "tuple") (rTupl K) := by subst hK; exact call_tuple_of
theorem sc_tupl : SC K (rTupl K) tuplD := by
  intro Φ H μ h xs vs d h' S r e Q k
  unfold tuplD at e
  split at e
  · cases e
    obtain ⟨v, rfl, a⟩ := rps1 r
    obtain ⟨p, ws, rfl, b, c⟩ := rp_tup' a
    exact ⟨p, ws, rfl, .inr ⟨b, k _ H μ S Le.refl a⟩⟩
  · cases e
    obtain ⟨v, rfl, a⟩ := rps1 r
    obtain ⟨p, ws, rfl, b, c⟩ := rp_rol' a
    exact ⟨p, ws, rfl, .inl ⟨b.l, fun l hl => kn_tup S c k l hl⟩⟩
  · split at e
    · rename_i ys q
      cases e
      obtain ⟨v, rfl, a⟩ := rps1 r
      obtain ⟨p, ep, rfl⟩ := rp_at' a
      obtain ⟨ws, b, c⟩ := S.lst q ep
      exact ⟨p, ws, rfl, .inl ⟨.of b, fun l hl => kn_tup S c k l hl⟩⟩
    · cases e
  · cases e
def kD : Key → D
  | .inl i => .int i
  | .inr s => .str s
theorem rps_keys {H : Hp} {μ : List Addr} : ∀ {kvs : List (Key × D)} {kw : List (Key × V)}, kw.map (·.1) = kvs.map (·.1) → Rps K H μ (kvs.map fun kv => kD kv.1) (kw.map fun kv => kV kv.1)
  | [], kw, e => by
    have : kw = [] := by simpa using e
    subst this
    exact Rps.nil
  | (k, d) :: kvs, [], e => by simp at e
  | (k, d) :: kvs, (k', v) :: kw, e => by
    simp only [List.map_cons, List.cons.injEq] at e
    obtain ⟨rfl, e⟩ := e
    refine Rps.cons ?_ (rps_keys e)
    cases k' with
    | inl i => exact rp_int
    | inr s => exact rp_str
def listD : GC := fun xs h => match xs with
  | [.tup ys] => some (.at h.length, h ++ [.lst ys])
  | [.rol ys] => some (.at h.length, h ++ [.lst ys])
  | [.at n] => match h[n]? with
    | some (.lst ys) => some (.at h.length, h ++ [.lst ys])
    | some (.dct kvs) => some (.at h.length, h ++ [.lst (kvs.map fun kv => kD kv.1)])
    | _ => none
  | _ => none
def rListA (K : Kw) : List V → Hp → VK → Prop := fun xs H Q => ∃ p ys, xs = [.ref p] ∧ (SqL K H p ys ∨ SqT K H p ys) ∧ ∀ l, H l = none → Q (.ref l) (upd H l (.lst ys))
def rListU (K : Kw) : List V → Hp → VK → Prop := fun xs H Q => rListA K xs H Q ∨ rListD xs H Q
theorem call_listU (hK : KOf X = K := by rfl) (hc : X.calm = true := by rfl) : CallR X (.type "list") (rListU K) := by
  subst hK
  exact CallR.or (r := rListA (KOf X)) call_list_of (call_list_dK hc)
theorem sc_list : SC K (rListU K) listD := by
  intro Φ H μ h xs vs d h' S r e Q k
  unfold listD at e
  split at e
  · cases e
    obtain ⟨v, rfl, a⟩ := rps1 r
    obtain ⟨p, ws, rfl, b, c⟩ := rp_tup' a
    exact .inl ⟨p, ws, rfl, .inr b, fun l hl => kn_lst S c k l hl⟩
  · cases e
    obtain ⟨v, rfl, a⟩ := rps1 r
    obtain ⟨p, ws, rfl, b, c⟩ := rp_rol' a
    exact .inl ⟨p, ws, rfl, .inl b.l, fun l hl => kn_lst S c k l hl⟩
  · obtain ⟨v, rfl, a⟩ := rps1 r
    obtain ⟨p, ep, rfl⟩ := rp_at' a
    split at e
    · rename_i ys q
      cases e
      obtain ⟨ws, b, c⟩ := S.lst q ep
      exact .inl ⟨p, ws, rfl, .inl (.of b), fun l hl => kn_lst S c k l hl⟩
    · rename_i kvs q
      cases e
      obtain ⟨kw, b, c⟩ := S.dct q ep
      exact .inr ⟨p, kw, rfl, b, fun l hl => kn_lst S (rps_keys c.1) k l hl⟩
    · cases e
  · cases e
/-- dict(list of pairs) -/
def pairsD : List D → Option (List (Key × D))
  | [] => some []
  | .tup [a, b] :: ds => match keyD a, pairsD ds with
    | some k, some ps => some ((k, b) :: ps)
    | _, _ => none
  | _ => none
def mergeD (kvs more : List (Key × D)) : List (Key × D) := more.foldl (fun acc kv => putD acc kv.1 kv.2) kvs
theorem pairs_of {H : Hp} {μ : List Addr} : ∀ {ds : List D} {vs : List V} {ps : List (Key × D)}, Rps K H μ ds vs → pairsD ds = some ps →
    ∃ (as : List Addr) (kw : List (Key × V)), vs = as.map V.ref ∧ Paired (fun p kv => SqT K H p [kV kv.1, kv.2]) as kw ∧ Rkv K H μ ps kw := by
  intro ds
  induction ds with
  | nil =>
    intro vs ps r e
    unfold pairsD at e
    cases e
    exact ⟨[], [], r.nil', .nil, Rkv.nil⟩
  | cons d ds ih =>
    intro vs ps r e
    unfold pairsD at e
    split at e
    · rename_i heq; cases heq
    · rename_i a b ds' heq
      cases heq
      split at e
      · rename_i k ps' q1 q2
        cases e
        obtain ⟨v, vs', rfl, c1, c2⟩ := r.cons'
        obtain ⟨as, kw, rfl, c3, c4⟩ := ih c2 q2
        obtain ⟨p, ws, rfl, c5, c6⟩ := rp_tup' c1
        obtain ⟨u, w, rfl, c7, c8⟩ := rps2 c6
        rw [key_of c7 q1] at c5
        exact ⟨p :: as, (k, w) :: kw, rfl, .cons c5 c3, Rkv.cons c8 c4⟩
      · cases e
    · cases e
theorem Rkv.merge {H : Hp} {μ : List Addr} : ∀ {ps kvs : List (Key × D)} {kw kz : List (Key × V)}, Rkv K H μ ps kw → Rkv K H μ kvs kz → Rkv K H μ (mergeD kvs ps) (mergeK kz kw)
  | [], kvs, kw, kz, r, q => by rw [r.nil']; exact q
  | (k, d) :: ps, kvs, kw, kz, r, q => by
    obtain ⟨v, kw', rfl, a, b⟩ := r.cons'
    show Rkv K H μ (mergeD (putD kvs k d) ps) (mergeK (putK kz k v) kw')
    exact Rkv.merge b (q.put a)
def dictD : GC := fun xs h => match xs with
  | [.at n] => match h[n]? with
    | some (.lst ys) => match pairsD ys with
      | some ps => some (.at h.length, h ++ [.dct (mergeD [] ps)])
      | none => none
    | _ => none
  | _ => none
theorem kn_dct {H : Hp} {μ : List Addr} {h : Hd} {Q : VK} {kvs : List (Key × D)} {kw : List (Key × V)} (S : Sm Φ K H μ h) (r : Rkv K H μ kvs kw) (k : Kn Φ K H μ (h ++ [.dct kvs]) (.at h.length) Q) (p : Addr) (hp : H p = none) : Q (.ref p) (upd H p (.dK kw)) := by
  have l : Le K H μ (upd H p (.dK kw)) (μ ++ [p]) := le_obj hp
  exact k (.ref p) (upd H p (.dK kw)) (μ ++ [p]) (S.obj hp ⟨kw, upd_same, r.1, Rps.mono l _ _ r.2⟩) l (rp_at (obj_at S rfl))
def rDictP (K : Kw) : List V → Hp → VK → Prop := fun xs H Q => ∃ (a : Addr) (ps : List Addr) (kvs : List (Key × V)), xs = [.ref a] ∧ SqL K H a (ps.map V.ref) ∧ Paired (fun p kv => SqT K H p [kV kv.1, kv.2]) ps kvs ∧ ∀ p, H p = none → Q (.ref p) (upd H p (.dK (mergeK [] kvs)))
theorem call_dictU (hK : KOf X = K := by rfl) (hc : X.calm = true := by rfl) : CallR X (.type "dict") (rDictP K) := by subst hK; exact call_dictP hc
theorem sc_dict : SC K (rDictP K) dictD := by
  intro Φ H μ h xs vs d h' S r e Q k
  unfold dictD at e
  split at e
  · split at e
    · rename_i ys q
      split at e
      · rename_i ps q2
        cases e
        obtain ⟨v, rfl, a⟩ := rps1 r
        obtain ⟨p, ep, rfl⟩ := rp_at' a
        obtain ⟨ws, b, c⟩ := S.lst q ep
        obtain ⟨as, kw, rfl, c3, c4⟩ := pairs_of c q2
        exact ⟨p, as, kw, rfl, .of b, c3, fun l hl => kn_dct S (Rkv.merge c4 Rkv.nil) k l hl⟩
      · cases e
    · cases e
  · cases e
end

/-! ### methods of lists -/
abbrev GM := D → List D → Hd → Option (D × Hd)
def SM (K : Kw) (r : V → List V → Hp → VK → Prop) (g : GM) : Prop := ∀ {Φ : Hp} (H : Hp) (μ : List Addr) (h : Hd) (x : D) (v : V) (xs : List D) (vs : List V) (d : D) (h' : Hd), Sm Φ K H μ h → Rp K H μ x v → Rps K H μ xs vs → g x xs h = some (d, h') → ∀ Q : VK, Kn Φ K H μ h' d Q → r v vs H Q
/-- the receiver's kind, seen ahead of the arguments -/
def kindD (T : String) (h : Hd) (x : D) : Bool := match x with
  | .str _ => T == "str"
  | .at n => match h[n]? with
    | some (.lst _) => T == "list"
    | some (.dct _) => T == "dict"
    | _ => false
  | .rol _ => T == "list"
  | _ => false
theorem kind_of {K : Kw} {H : Hp} {μ : List Addr} {h : Hd} {T : String} {x : D} {v : V} (S : Sm Φ K H μ h) (r : Rp K H μ x v) (e : kindD T h x = true) : tyV K T v H := by
  unfold kindD at e
  split at e
  · rw [rp_str' r]
    exact eq_of_beq e
  · obtain ⟨p, ep, rfl⟩ := rp_at' r
    split at e
    · rename_i ys q
      obtain ⟨ws, b, c⟩ := S.lst q ep
      exact .inl ⟨eq_of_beq e, ws, .of b⟩
    · rename_i ys q
      obtain ⟨ws, b, c⟩ := S.dct q ep
      exact .inr (.inr (.inl ⟨eq_of_beq e, .inl ⟨ws, b⟩⟩))
    · cases e
  · obtain ⟨p, ws, rfl, b, c⟩ := rp_rol' r
    exact .inl ⟨eq_of_beq e, ws, b.l⟩
  · cases e
def bmM (T : String) (g : GM) (o : ME) (a : MA) : ME := fun sg h => match o sg h with
  | some (x, h1) => if kindD T h1 x = true then match a sg h1 with
    | some (xs, h2) => g x xs h2
    | none => none else none
  | none => none
section
variable {K : Kw} {X : Cx} {apos cpos : Pos} {o e : Expr} {es : List Expr} {to : TE} {mo : ME} {ta : TA} {ma : MA} {r : V → List V → Hp → VK → Prop} {g : GM} {T id : String} {name : Str}
theorem de_bm (hs : SM K r g) (pa : PlainAttrs T) (slot : Slot T name id) (hty : typeOf (.builtin id) = pure (.type "method_descriptor")) (hm : MtR X id r) (ho : DE K X o to mo) (ha : DA K X (e :: es) ta ma)
    (hbase : attributeBase o name X.env (eval o X.env) = eval o X.env := by rfl)
    (hfew : ((backTo cpos (starEach (e :: es) X.env)).all (fun x => !x.1) && (backToKw cpos (keywordEach [] X.env)).all (fun x => x.1.isSome)
      && decide ((e :: es).length + ([] : List Keyword).length + (if ([] : List Keyword).isEmpty then 0 else 1) < 30)) = true := by rfl)
    (hline : (apos.endLine == cpos.line) = true := by rfl) (hs1 : starEach (e :: es) X.env = (false, eval e X.env) :: starEach es X.env := by rfl) (hplain : (backTo cpos (starEach es X.env)).any (·.1) = false := by rfl) :
    DE K X (.Call (.Attribute o name apos) (e :: es) [] cpos) (tBM K T r to ta) (bmM T g mo ma) := ⟨ho.k, by
  have hk := ho.k
  subst hk
  exact pe_bm pa slot hty hm ho.p ha.p hbase hfew hline hs1 hplain, by
  intro Φ σ H μ sg h d h' S rs e Q k
  unfold bmM at e
  split at e
  · rename_i x h1 e1
    split at e
    · rename_i hk
      split at e
      · rename_i xs h2 e2
        refine ho.s σ H μ sg h x h1 S rs e1 _ fun v H1 μ1 S1 l1 r1 => ⟨kind_of S1 r1 hk, ?_⟩
        refine ha.s σ H1 μ1 sg h1 xs h2 S1 (rs.mono l1) e2 _ fun vs H2 μ2 S2 l2 r2 => ?_
        exact hs H2 μ2 h2 x v xs vs d h' S2 (Rp.mono l2 _ _ r1) r2 e Q fun v H3 μ3 S3 l3 r3 => k v H3 μ3 S3 ((l1.trans l2).trans l3) r3
      · cases e
    · cases e
  · cases e⟩
theorem de_bm0 (hs : SM K r g) (pa : PlainAttrs T) (slot : Slot T name id) (hty : typeOf (.builtin id) = pure (.type "method_descriptor")) (hm : MtR X id r) (ho : DE K X o to mo)
    (hbase : attributeBase o name X.env (eval o X.env) = eval o X.env := by rfl) (hline : (apos.endLine == cpos.line) = true := by rfl) :
    DE K X (.Call (.Attribute o name apos) [] [] cpos) (tBM0 K T r to) (bmM T g mo nilM) := ⟨ho.k, by
  have hk := ho.k
  subst hk
  exact pe_bm0 pa slot hty hm ho.p hbase hline, by
  intro Φ σ H μ sg h d h' S rs e Q k
  unfold bmM at e
  split at e
  · rename_i x h1 e1
    split at e
    · rename_i hk
      split at e
      · rename_i xs h2 e2
        cases e2
        refine ho.s σ H μ sg h x h1 S rs e1 _ fun v H1 μ1 S1 l1 r1 => ⟨kind_of S1 r1 hk, ?_⟩
        exact hs H1 μ1 h1 x v [] [] d h' S1 r1 Rps.nil e Q fun v H3 μ3 S3 l3 r3 => k v H3 μ3 S3 (l1.trans l3) r3
      · cases e
    · cases e
  · cases e⟩
def appendD : GM := fun x xs h => match x, xs with
  | .at n, [y] => match h[n]? with
    | some (.lst ys) => if ys.length < LN then some (.non, h.set n (.lst (ys ++ [y]))) else none
    | _ => none
  | _, _ => none
theorem ln_lt {n : Nat} (h : n < LN) : n < sizeLine := by rw [sizeLine_eq]; exact h
theorem sm_append : SM K rAppend appendD := by
  intro Φ H μ h x v xs vs d h' S r1 r2 e Q k
  unfold appendD at e
  split at e
  · split at e
    · rename_i ys q
      split at e
      · rename_i hz
        cases e
        obtain ⟨p, ep, rfl⟩ := rp_at' r1
        obtain ⟨w, rfl, a⟩ := rps1 r2
        obtain ⟨ws, b, c⟩ := S.lst q ep
        exact ⟨p, ws, w, rfl, rfl, b, by rw [c.len]; exact ln_lt hz, kn_set S ep (c.app (Rps.cons a Rps.nil)) rp_non k⟩
      · cases e
    · cases e
  · cases e
def popD : GM := fun x xs h => match x, xs with
  | .at n, [] => match h[n]? with
    | some (.lst ys) => match ys[ys.length - 1]? with
      | some y => some (y, h.set n (.lst ys.dropLast))
      | none => none
    | _ => none
  | _, _ => none
theorem Rps.dropLast {H : Hp} {μ : List Addr} {ds : List D} {vs : List V} (r : Rps K H μ ds vs) : Rps K H μ ds.dropLast vs.dropLast := by
  rw [List.dropLast_eq_take, List.dropLast_eq_take, r.len]
  exact r.take _
theorem sm_pop : SM K rPop popD := by
  intro Φ H μ h x v xs vs d h' S r1 r2 e Q k
  unfold popD at e
  split at e
  · split at e
    · rename_i ys q
      split at e
      · rename_i y q2
        cases e
        obtain ⟨p, ep, rfl⟩ := rp_at' r1
        obtain ⟨ws, b, c⟩ := S.lst q ep
        obtain ⟨w, c1, c2⟩ := c.get q2
        exact ⟨p, ws, w, rfl, r2.nil', b, by rw [c.len]; exact c1, kn_set S ep c.dropLast c2 k⟩
      · cases e
    · cases e
  · cases e
end
end DL

namespace PySem
open Sem Builtin
theorem list_extend_list_tup (l : Addr) (items : Array Value) (n : Nat) (b : Addr) (items2 : Array Value) (n2 : Nat) (dd : Option Addr) (sl : Array (Option Value)) (hs0 : ¬(!items.isEmpty && Builtin.List.listTooLong (items.size + items2.size)) = true) (hs1 : items.size ≤ sizeLine) (hs2 : items.size + items2.size ≤ sizeLine + 1) :
    Meets (Builtin.«list.extend» ⟨[.ref l, .ref b], []⟩) (fun _ R s => s.heap.get? l = some { cls := .type "list", dict := none, data := .seq items n, slots := #[] } ∧ s.heap.get? b = some { cls := .type "tuple", dict := dd, data := .seq items2 n2, slots := sl } ∧ R (.ok (.ret Value.none)) { s with heap := s.heap.update l (Obj.mapSeq fun x => x ++ items2), toks := s.toks }) :=
  .of_wp fun prog w A R s h => by
    obtain ⟨hp, g, d, tk, os⟩ := s; obtain ⟨hl, hb, h⟩ := h; have f1 := AutoSeq1.idx_int; have f2 := AutoSeq1.sub_tuple_tuple; have f3 := AutoSeq1.sub_list_list; have f4 := AutoSeq1.sub_tuple_list; have f5 := AutoSeq1.sub_list_tuple;
    have hz' : (items ++ items2).size ≤ sizeLine + 1 := by rw [Array.size_append]; exact hs2
    wp_walk using (wpAny_updateSeq hl rfl (hz := hs1) (_hz' := hz')), wpAny_loadPart' hl, wpAny_loadPart' hb; exact ⟨_, rfl, h⟩
end PySem
namespace DL
open PySem L2 PySem.Spec PyProof.Rows
section
variable {K : Kw} {X : Cx}
/-- xs.extend(a list, a tuple) -/
def rExtT (K : Kw) : V → List V → Hp → VK → Prop := fun x vs H Q => ∃ l b xs zs, x = .ref l ∧ vs = [.ref b] ∧ H l = some (.lst xs) ∧ SqT K H b zs ∧ xs.length + zs.length ≤ sizeLine ∧ Q .non (upd H l (.lst (xs ++ zs)))
theorem mt_extT : MtR X "list.extend" (rExtT (KOf X)) := by
  intro pins s σ H x vs v us Q I rx rv h
  obtain ⟨l, b, xs, zs, rfl, rfl, hH, hB, hz, q⟩ := h
  cases rx
  obtain ⟨u, rfl, ru⟩ := rv.one
  cases ru
  obtain ⟨z, its, n, r, hl, e⟩ := I.lstM hH
  obtain ⟨its2, r2, ⟨⟨cls2, dd2, data2, sl2⟩, ho2, hc2, n2, hd2⟩, hz2⟩ := I.tuple hB
  simp only at hc2 hd2
  subst hc2 hd2
  have hl2 := r2.length
  have hsz : its.toArray.size + its2.toArray.size ≤ sizeLine := by rw [List.size_toArray, List.size_toArray]; omega
  have hlong : ¬ (!its.toArray.isEmpty && Builtin.List.listTooLong (its.toArray.size + its2.toArray.size)) = true := by
    rw [notLongL hsz, Bool.and_false]
    exact Bool.false_ne_true
  refine call_meets F.slot_list_extend ⟨_, e, rfl⟩ F.entry_list_extend (F.args_list_extend_2 _ _)
    (PySem.list_extend_list_tup l its.toArray n b its2.toArray n2 dd2 sl2 hlong (by rw [List.size_toArray]; omega) (by omega)) ⟨e, ho2, ?_⟩
  refine ⟨.non, _, I.lset (its' := its ++ its2) hH e (by simp) (r.append r2) ?_, rfl, q⟩
  rw [List.length_append]
  omega
def rExtU (K : Kw) : V → List V → Hp → VK → Prop := fun x xs H Q => rExtend x xs H Q ∨ rExtT K x xs H Q
theorem mt_extU (hK : KOf X = K := by rfl) : MtR X "list.extend" (rExtU K) := by
  subst hK
  exact MtR.or (r := rExtend) (r' := rExtT (KOf X)) mt_extend mt_extT
def extendD : GM := fun x xs h => match x, xs with
  | .at n, [.tup zs] => match h[n]? with
    | some (.lst ys) => if ys.length + zs.length ≤ LN then some (.non, h.set n (.lst (ys ++ zs))) else none
    | _ => none
  | .at n, [.at m] => match h[n]?, h[m]? with
    | some (.lst ys), some (.lst zs) => if ys.length + zs.length ≤ LN then some (.non, h.set n (.lst (ys ++ zs))) else none
    | _, _ => none
  | _, _ => none
theorem sm_extend : SM K (rExtU K) extendD := by
  intro Φ H μ h x v xs vs d h' S r1 r2 e Q k
  unfold extendD at e
  split at e
  · split at e
    · rename_i ys q
      split at e
      · rename_i hz
        cases e
        obtain ⟨p, ep, rfl⟩ := rp_at' r1
        obtain ⟨w, rfl, a⟩ := rps1 r2
        obtain ⟨ws, b, c⟩ := S.lst q ep
        obtain ⟨p2, ws2, rfl, b2, c2⟩ := rp_tup' a
        exact .inr ⟨p, p2, ws, ws2, rfl, rfl, b, b2, by rw [c.len, c2.len]; exact ln_of hz, kn_set S ep (c.app c2) rp_non k⟩
      · cases e
    · cases e
  · split at e
    · rename_i ys zs q q2
      split at e
      · rename_i hz
        cases e
        obtain ⟨p, ep, rfl⟩ := rp_at' r1
        obtain ⟨w, rfl, a⟩ := rps1 r2
        obtain ⟨ws, b, c⟩ := S.lst q ep
        obtain ⟨p2, ep2, rfl⟩ := rp_at' a
        obtain ⟨ws2, b2, c2⟩ := S.lst q2 ep2
        exact .inl ⟨p, p2, ws, ws2, rfl, rfl, b, b2, by rw [c.len, c2.len]; exact ln_of hz, kn_set S ep (c.app c2) rp_non k⟩
      · cases e
    · cases e
  · cases e
end
/-! ### d.get(k), d.get(k, x) -/
def getD2 (o a b : ME) : ME := fun sg h => match o sg h with
  | some (.at n, h1) => if isDct h1 (.at n) = true then match a sg h1 with
    | some (y, h2) => match b sg h2 with
      | some (z, h3) => match h3[n]? with
        | some (.dct kvs) => match keyD y with
          | some k => some ((valD kvs k).getD z, h3)
          | none => none
        | _ => none
      | none => none
    | none => none else none
  | _ => none
def getD1 (o a : ME) : ME := getD2 o a (cM .non)
section
variable {K : Kw} {X : Cx} {apos cpos : Pos} {o a b : Expr} {to ta tb : TE} {mo ma mb : ME}
theorem is_dct {H : Hp} {μ : List Addr} {h : Hd} {n : Nat} {p : Addr} (S : Sm Φ K H μ h) (ep : μ[n]? = some p) (e : isDct h (.at n) = true) : IsD H p := by
  unfold isDct at e
  simp only at e
  split at e
  · rename_i kvs q
    obtain ⟨kw, b, c⟩ := S.dct q ep
    exact .inl ⟨kw, .of b⟩
  · cases e
theorem de_get2 (hu : X.A.units + 1 < cLine) (ho : DE K X o to mo) (ha : DE K X a ta ma) (hb : DE K X b tb mb) (m : M2 X o "get" apos a b cpos := by exact ⟨rfl, rfl, rfl, rfl⟩) :
    DE K X (.Call (.Attribute o "get" apos) [a, b] [] cpos) (tDGet2 to ta tb) (getD2 mo ma mb) := ⟨ho.k, pe_dget2 hu ho.p ha.p hb.p m, by
  intro Φ σ H μ sg h d h' S rs e Q k
  unfold getD2 at e
  split at e
  · rename_i n h1 e1
    split at e
    · rename_i hd
      split at e
      · rename_i y h2 e2
        split at e
        · rename_i z h3 e3
          split at e
          · rename_i kvs q
            split at e
            · rename_i kk q2
              cases e
              refine ho.s σ H μ sg h _ h1 S rs e1 _ fun v H1 μ1 S1 l1 r1 => ?_
              obtain ⟨p, ep, rfl⟩ := rp_at' r1
              refine ⟨p, rfl, is_dct S1 ep hd, ?_⟩
              refine ha.s σ H1 μ1 sg h1 y h2 S1 (rs.mono l1) e2 _ fun w H2 μ2 S2 l2 r2 => ?_
              refine hb.s σ H2 μ2 sg h2 z _ S2 (rs.mono (l1.trans l2)) e3 _ fun u H3 μ3 S3 l3 r3 => ?_
              have ep3 := (l2.trans l3).get ep
              obtain ⟨kw, c1, c2⟩ := S3.dct q ep3
              refine ⟨valV kw kk, ?_, ?_⟩
              · rw [key_of (Rp.mono l3 _ _ r2) q2]
                exact DGet.k c1
              · rcases c2.val (k := kk) with ⟨z1, z2⟩ | ⟨d2, u2, z1, z2, z3⟩
                · rw [z2]
                  rw [z1] at k
                  exact k u H3 μ3 S3 ((l1.trans l2).trans l3) r3
                · rw [z2]
                  rw [z1] at k
                  exact k u2 H3 μ3 S3 ((l1.trans l2).trans l3) z3
            · cases e
          · cases e
        · cases e
      · cases e
    · cases e
  · cases e⟩
theorem de_get1 (hu : X.A.units + 1 < cLine) (ho : DE K X o to mo) (ha : DE K X a ta ma) (m : M1 X o "get" apos a cpos := by exact ⟨rfl, rfl, rfl, rfl⟩) :
    DE K X (.Call (.Attribute o "get" apos) [a] [] cpos) (tDGet1 to ta) (getD1 mo ma) := ⟨ho.k, pe_dget1 hu ho.p ha.p m, by
  intro Φ σ H μ sg h d h' S rs e Q k
  unfold getD1 getD2 at e
  split at e
  · rename_i n h1 e1
    split at e
    · rename_i hd
      split at e
      · rename_i y h2 e2
        split at e
        · rename_i z h3 e3
          cases e3
          split at e
          · rename_i kvs q
            split at e
            · rename_i kk q2
              cases e
              refine ho.s σ H μ sg h _ h1 S rs e1 _ fun v H1 μ1 S1 l1 r1 => ?_
              obtain ⟨p, ep, rfl⟩ := rp_at' r1
              refine ⟨p, rfl, is_dct S1 ep hd, ?_⟩
              refine ha.s σ H1 μ1 sg h1 y _ S1 (rs.mono l1) e2 _ fun w H2 μ2 S2 l2 r2 => ?_
              have ep3 := l2.get ep
              obtain ⟨kw, c1, c2⟩ := S2.dct q ep3
              refine ⟨valV kw kk, ?_, ?_⟩
              · rw [key_of r2 q2]
                exact DGet.k c1
              · rcases c2.val (k := kk) with ⟨z1, z2⟩ | ⟨d2, u2, z1, z2, z3⟩
                · rw [z2]
                  rw [z1] at k
                  exact k .non H2 μ2 S2 (l1.trans l2) rp_non
                · rw [z2]
                  rw [z1] at k
                  exact k u2 H2 μ2 S2 (l1.trans l2) z3
            · cases e
          · cases e
        · cases e
      · cases e
    · cases e
  · cases e⟩
/-- {} -/
def dnewM : ME := fun _ h => some (.at h.length, h ++ [.dct []])
theorem de_dnew {pos : Pos} (hK : KOf X = K := by rfl) : DE K X (.Dict [] [] pos) tDNewK dnewM := ⟨hK, pe_dnewK, by
  intro Φ σ H μ sg h d h' S rs e Q k
  cases e
  exact fun p hp => kn_dct S Rkv.nil k p hp⟩
end
end DL

/-! DL6: statements, targets, loops, comprehensions. -/
namespace DL
open PySem L2 PySem.Spec PyProof.Rows

inductive Fl where
  | nx (sg : Sg) | rt (d : D) | bk (sg : Sg) | ct (sg : Sg)
abbrev MS := Sg → Hd → Option (Fl × Hd)
def Ek (Φ : Hp) (K : Kw) (H : Hp) (μ : List Addr) (h' : Hd) (f : Fl) (E : Ends) : Prop := match f with
  | .nx sg' => ∀ (σ' : L2.St) (H' : Hp) (μ' : List Addr), Sm Φ K H' μ' h' → Le K H μ H' μ' → Rs K H' μ' sg' σ' → E.nx σ' H'
  | .rt d => ∀ (v : V) (H' : Hp) (μ' : List Addr), Sm Φ K H' μ' h' → Le K H μ H' μ' → Rp K H' μ' d v → E.rt v H'
  | .bk sg' => ∀ (σ' : L2.St) (H' : Hp) (μ' : List Addr), Sm Φ K H' μ' h' → Le K H μ H' μ' → Rs K H' μ' sg' σ' → E.bk σ' H'
  | .ct sg' => ∀ (σ' : L2.St) (H' : Hp) (μ' : List Addr), Sm Φ K H' μ' h' → Le K H μ H' μ' → Rs K H' μ' sg' σ' → E.ct σ' H'
def SS (K : Kw) (t : TS) (m : MS) : Prop := ∀ {Φ : Hp} (σ : L2.St) (H : Hp) (μ : List Addr) (sg : Sg) (h : Hd) (f : Fl) (h' : Hd), Sm Φ K H μ h → Rs K H μ sg σ → m sg h = some (f, h') → ∀ E : Ends, Ek Φ K H μ h' f E → t E σ H
structure DS (K : Kw) (X : Cx) (st : Stmt) (t : TS) (m : MS) : Prop where
  k : KOf X = K
  p : PS X st t
  s : SS K t m
structure DSs (K : Kw) (X : Cx) (st : List Stmt) (t : TS) (m : MS) : Prop where
  k : KOf X = K
  p : PSs X st t
  s : SS K t m
theorem Ek.le {K : Kw} {H H1 : Hp} {μ μ1 : List Addr} {h' : Hd} {f : Fl} {E : Ends} (l : Le K H μ H1 μ1) (k : Ek Φ K H μ h' f E) : Ek Φ K H1 μ1 h' f E := by
  cases f <;> exact fun a b c d e g => k a b c d (l.trans e) g

/-! ### targets -/
abbrev MG := D → Sg → Hd → Option (Sg × Hd)
abbrev MGs := List D → Sg → Hd → Option (Sg × Hd)
def SG (K : Kw) (t : TG) (m : MG) : Prop := ∀ {Φ : Hp} (σ : L2.St) (H : Hp) (μ : List Addr) (sg : Sg) (h : Hd) (x : D) (v : V) (sg' : Sg) (h' : Hd), Sm Φ K H μ h → Rs K H μ sg σ → Rp K H μ x v → m x sg h = some (sg', h') →
  ∀ Q : L2.St → Hp → Prop, (∀ (σ' : L2.St) (H' : Hp) (μ' : List Addr), Sm Φ K H' μ' h' → Le K H μ H' μ' → Rs K H' μ' sg' σ' → Q σ' H') → t v σ H Q
def SGs (K : Kw) (t : TGs) (m : MGs) : Prop := ∀ {Φ : Hp} (σ : L2.St) (H : Hp) (μ : List Addr) (sg : Sg) (h : Hd) (xs : List D) (vs : List V) (sg' : Sg) (h' : Hd), Sm Φ K H μ h → Rs K H μ sg σ → Rps K H μ xs vs → m xs sg h = some (sg', h') →
  ∀ Q : L2.St → Hp → Prop, (∀ (σ' : L2.St) (H' : Hp) (μ' : List Addr), Sm Φ K H' μ' h' → Le K H μ H' μ' → Rs K H' μ' sg' σ' → Q σ' H') → t vs σ H Q
/-- what a target leaves of the slots vs of a comprehension -/
def Only (vs : List Nat) (t : TG) : Prop := ∀ (v : V) (σ : L2.St) (H : Hp) (Q : L2.St → Hp → Prop), t v σ H Q → t v σ H fun σ2 H2 => wipe σ2 vs = wipe σ vs ∧ Q σ2 H2
def Onlys (vs : List Nat) (t : TGs) : Prop := ∀ (v : List V) (σ : L2.St) (H : Hp) (Q : L2.St → Hp → Prop), t v σ H Q → t v σ H fun σ2 H2 => wipe σ2 vs = wipe σ vs ∧ Q σ2 H2
structure DG (K : Kw) (X : Cx) (e : Expr) (t : TG) (m : MG) : Prop where
  k : KOf X = K
  p : PG X e t
  s : SG K t m
structure DGs (K : Kw) (X : Cx) (e : List Expr) (t : TGs) (m : MGs) : Prop where
  k : KOf X = K
  p : PGs X e t
  s : SGs K t m
def nameG (i : Nat) : MG := fun d sg h => some (sg.set i (some d), h)
def nilG : MGs := fun ds sg h => match ds with
  | [] => some (sg, h)
  | _ => none
def consG (a : MG) (b : MGs) : MGs := fun ds sg h => match ds with
  | d :: ds => match a d sg h with
    | some (sg1, h1) => b ds sg1 h1
    | none => none
  | [] => none
def tupG (n : Nat) (a : MGs) : MG := fun d sg h => match d with
  | .tup xs => if xs.length = n then a xs sg h else none
  | _ => none
section
variable {K : Kw} {X : Cx} {pos : Pos}
theorem sg_name (i : Nat) : SG K (gName i) (nameG i) := by
  intro Φ σ H μ sg h x v sg' h' S rs r e Q k
  cases e
  exact k _ H μ S Le.refl (rs.put i r)
theorem dg_name (i : Nat) {x : Str} (hN : X.N.Nodup) (hi : X.N[i]? = some x := by rfl) (hx : Loc X.env.scope x := by first | exact Or.inl rfl | exact Or.inr rfl) (hf : X.fn x = true ∨ X.env.scope.names.lookup x = some .local := by first | exact .inl rfl | exact .inr rfl) (hK : KOf X = K := by rfl) :
    DG K X (.Name x pos) (gName i) (nameG i) := ⟨hK, pg_name hN hi hx hf, sg_name i⟩
theorem dgs_nil (hK : KOf X = K := by rfl) : DGs K X [] gNil nilG := ⟨hK, pgs_nil, by
  intro Φ σ H μ sg h x v sg' h' S rs r e Q k
  unfold nilG at e
  split at e
  · cases e
    exact ⟨r.nil', k σ H μ S Le.refl rs⟩
  · cases e⟩
theorem dgs_cons {e : Expr} {es : List Expr} {t : TG} {u : TGs} {m : MG} {n : MGs} (a : DG K X e t m) (b : DGs K X es u n) (hs : (assignEach (e :: es) X.env).map (·.2) = assign e X.env :: (assignEach es X.env).map (·.2) := by rfl) : DGs K X (e :: es) (gCons t u) (consG m n) := ⟨a.k, pgs_cons a.p b.p hs, by
  intro Φ σ H μ sg h x v sg' h' S rs r e Q k
  unfold consG at e
  split at e
  · split at e
    · rename_i sg1 h1 e1
      obtain ⟨w, ws, rfl, r1, r2⟩ := r.cons'
      refine ⟨w, ws, rfl, a.s σ H μ sg h _ w sg1 h1 S rs r1 e1 _ fun σ1 H1 μ1 S1 l1 rs1 => ?_⟩
      exact b.s σ1 H1 μ1 sg1 h1 _ ws sg' h' S1 rs1 (Rps.mono l1 _ _ r2) e Q fun σ2 H2 μ2 S2 l2 rs2 => k σ2 H2 μ2 S2 (l1.trans l2) rs2
    · cases e
  · cases e⟩
theorem dg_tup {es : List Expr} {k0 : Nat} {t : TGs} {m : MGs} {n : Nat} (a : DGs K X es t m) (hn : (assignEach es X.env).length = n := by rfl) (hst : (assignEach es X.env).findIdx? (·.1) = none := by rfl) (hc : X.calm = true := by rfl) :
    DG K X (.Tuple es k0 pos) (gTup K n t) (tupG n m) := ⟨a.k, by
  have hk := a.k
  subst hk
  exact pg_tup hc a.p hn hst, by
  intro Φ σ H μ sg h x v sg' h' S rs r e Q k
  unfold tupG at e
  split at e
  · split at e
    · rename_i hl
      obtain ⟨p, vs, rfl, b, c⟩ := rp_tup' r
      exact ⟨p, vs, rfl, b, by rw [c.len]; exact hl, a.s σ H μ sg h _ vs sg' h' S rs c e Q k⟩
    · cases e
  · cases e⟩
theorem wipe_set {σ : L2.St} {i : Nat} {o : Option V} : ∀ {vs : List Nat}, i ∈ vs → wipe (σ.set i o) vs = wipe σ vs
  | v :: vs, h => by
    unfold wipe
    by_cases e : i ∈ vs
    · rw [wipe_set e]
    · have : i = v := by
        rcases List.mem_cons.mp h with q | q
        · exact q
        · exact absurd q e
      subst this
      have : ∀ ws : List Nat, i ∉ ws → wipe (σ.set i o) ws = (wipe σ ws).set i o := by
        intro ws
        induction ws with
        | nil => intro _; rfl
        | cons w ws ih =>
          intro hn
          unfold wipe
          rw [ih (fun q => hn (List.mem_cons_of_mem _ q)), List.set_comm]
          intro z
          exact hn (by rw [z]; exact List.mem_cons_self)
      rw [this vs e, List.set_set]
theorem wipe_idem (σ : L2.St) : ∀ vs : List Nat, wipe (wipe σ vs) vs = wipe σ vs := by
  have key : ∀ (vs us : List Nat), (∀ i ∈ us, i ∈ vs) → wipe (wipe σ us) vs = wipe σ vs := by
    intro vs us
    induction us with
    | nil => intro _; rfl
    | cons u us ih =>
      intro h
      show wipe ((wipe σ us).set u none) vs = wipe σ vs
      rw [wipe_set (h u List.mem_cons_self)]
      exact ih fun i hi => h i (List.mem_cons_of_mem _ hi)
  exact fun vs => key vs vs fun i h => h
theorem only_name {i : Nat} {vs : List Nat} (h : i ∈ vs) : Only vs (gName i) := fun v σ H Q q => ⟨wipe_set h, q⟩
theorem onlys_nil {vs : List Nat} : Onlys vs gNil := fun v σ H Q q => ⟨q.1, rfl, q.2⟩
theorem onlys_cons {vs : List Nat} {t : TG} {u : TGs} (a : Only vs t) (b : Onlys vs u) (mono : ∀ v σ H (Q Q' : L2.St → Hp → Prop), t v σ H Q → (∀ σ' H', Q σ' H' → Q' σ' H') → t v σ H Q') : Onlys vs (gCons t u) := fun v σ H Q q => by
  obtain ⟨w, r, e, q⟩ := q
  refine ⟨w, r, e, mono _ _ _ _ _ (a _ _ _ _ q) fun σ1 H1 ⟨z1, z2⟩ => ?_⟩
  have := b _ _ _ _ z2
  rw [z1] at this
  exact this
theorem only_tup {vs : List Nat} {n : Nat} {t : TGs} (a : Onlys vs t) : Only vs (gTup K n t) := fun v σ H Q q => by
  obtain ⟨p, xs, e, h1, h2, q⟩ := q
  exact ⟨p, xs, e, h1, h2, a _ _ _ _ q⟩
theorem mono_name {i : Nat} : ∀ v σ H (Q Q' : L2.St → Hp → Prop), gName i v σ H Q → (∀ σ' H', Q σ' H' → Q' σ' H') → gName i v σ H Q' := fun v σ H Q Q' q f => f _ _ q
end

/-! ### statements -/
def passM : MS := fun sg h => some (.nx sg, h)
def brkM : MS := fun sg h => some (.bk sg, h)
def cntM : MS := fun sg h => some (.ct sg, h)
def exprM (a : ME) : MS := fun sg h => match a sg h with
  | some (_, h1) => some (.nx sg, h1)
  | none => none
def retM (a : ME) : MS := fun sg h => match a sg h with
  | some (d, h1) => some (.rt d, h1)
  | none => none
def asgM (a : ME) (g : MG) : MS := fun sg h => match a sg h with
  | some (d, h1) => match g d sg h1 with
    | some (sg', h2) => some (.nx sg', h2)
    | none => none
  | none => none
def seqM (a b : MS) : MS := fun sg h => match a sg h with
  | some (.nx sg1, h1) => b sg1 h1
  | r => r
def ifSM (c : MT) (a b : MS) : MS := fun sg h => match c sg h with
  | some (true, h1) => a sg h1
  | some (false, h1) => b sg h1
  | none => none
def neverM : MS := fun _ _ => none
def augM (i : Nat) (g : G2) (a : ME) : MS := fun sg h => match sg[i]? with
  | some (some x) => match a sg h with
    | some (y, h1) => match g x y h1 with
      | some (z, h2) => some (.nx (sg.set i (some z)), h2)
      | none => none
    | none => none
  | _ => none
def parM (i j : Nat) (a : MA) : MS := fun sg h => match a sg h with
  | some ([x, y], h1) => some (.nx ((sg.set i (some x)).set j (some y)), h1)
  | _ => none
section
variable {K : Kw} {X : Cx} {pos pos' : Pos} {e : Expr} {te : TE} {me : ME} {st : Stmt} {rest : List Stmt} {t u : TS} {m n : MS} {c : Expr} {tc : TT} {mc : MT}
theorem dss_nil (hK : KOf X = K := by rfl) : DSs K X [] tNext passM := ⟨hK, pss_nil, fun {Φ} σ H μ sg h f h' S rs e E k => by cases e; exact k σ H μ S Le.refl rs⟩
theorem ss_seq (a : SS K t m) (b : SS K u n) : SS K (tSeq t u) (seqM m n) := by
  intro Φ σ H μ sg h f h' S rs e E k
  unfold seqM at e
  split at e
  · rename_i sg1 h1 e1
    exact a σ H μ sg h _ h1 S rs e1 _ fun σ1 H1 μ1 S1 l1 rs1 => b σ1 H1 μ1 sg1 h1 f h' S1 rs1 e E (k.le l1)
  · rename_i hn
    refine a σ H μ sg h f h' S rs e _ ?_
    cases f with
    | nx sg1 => exact absurd e (hn sg1 h')
    | rt d => exact k
    | bk sg1 => exact k
    | ct sg1 => exact k
theorem dss_cons (a : DS K X st t m) (b : DSs K X rest u n) : DSs K X (st :: rest) (tSeq t u) (seqM m n) := ⟨a.k, pss_cons a.p b.p, ss_seq a.s b.s⟩
theorem dss_one (a : DS K X st t m) : DSs K X [st] t m := ⟨a.k, pss_one a.p, a.s⟩
theorem ds_pass (hK : KOf X = K := by rfl) : DS K X (.Pass pos) tNext passM := ⟨hK, ps_pass, fun {Φ} σ H μ sg h f h' S rs e E k => by cases e; exact k σ H μ S Le.refl rs⟩
theorem ds_break (hK : KOf X = K := by rfl) : DS K X (.Break pos) tBreak brkM := ⟨hK, ps_break, fun {Φ} σ H μ sg h f h' S rs e E k => by cases e; exact k σ H μ S Le.refl rs⟩
theorem ds_cont (hK : KOf X = K := by rfl) : DS K X (.Continue pos) tCont cntM := ⟨hK, ps_continue, fun {Φ} σ H μ sg h f h' S rs e E k => by cases e; exact k σ H μ S Le.refl rs⟩
theorem ss_expr (a : SE K te me) : SS K (tDrop te) (exprM me) := by
  intro Φ σ H μ sg h f h' S rs e E k
  unfold exprM at e
  split at e
  · rename_i d h1 e1
    cases e
    exact a σ H μ sg h d _ S rs e1 _ fun v H1 μ1 S1 l1 r1 => k σ H1 μ1 S1 l1 (rs.mono l1)
  · cases e
theorem ds_expr (a : DE K X e te me) (hs : swapsWith e none pos.line X.env = pure false := by rfl) : DS K X (.Expr e pos) (tDrop te) (exprM me) := ⟨a.k, ps_expr a.p hs, ss_expr a.s⟩
theorem ss_ret (a : SE K te me) : SS K (tRet te) (retM me) := by
  intro Φ σ H μ sg h f h' S rs e E k
  unfold retM at e
  split at e
  · rename_i d h1 e1
    cases e
    exact a σ H μ sg h d _ S rs e1 _ fun v H1 μ1 S1 l1 r1 => k v H1 μ1 S1 l1 r1
  · cases e
theorem ds_ret (a : DE K X e te me) : DS K X (.Return (some e) pos) (tRet te) (retM me) := ⟨a.k, ps_ret a.p, ss_ret a.s⟩
theorem ds_retN (hK : KOf X = K := by rfl) : DS K X (.Return none pos) tRetN (fun sg h => some (.rt .non, h)) := ⟨hK, ps_retN, fun {Φ} σ H μ sg h f h' S rs e E k => by cases e; exact k .non H μ S Le.refl rp_non⟩
theorem ss_asg {tg : TG} {mg : MG} (a : SE K te me) (g : SG K tg mg) : SS K (tAsg te tg) (asgM me mg) := by
  intro Φ σ H μ sg h f h' S rs e E k
  unfold asgM at e
  split at e
  · rename_i d h1 e1
    split at e
    · rename_i sg2 h2 e2
      cases e
      exact a σ H μ sg h d h1 S rs e1 _ fun v H1 μ1 S1 l1 r1 => g σ H1 μ1 sg h1 d v sg2 _ S1 (rs.mono l1) r1 e2 _ fun σ2 H2 μ2 S2 l2 rs2 => k σ2 H2 μ2 S2 (l1.trans l2) rs2
    · cases e
  · cases e
theorem ds_asg {tg : Expr} {gt : TG} {mg : MG} (a : DE K X e te me) (g : DG K X tg gt mg) (hs : swapsWithSole [tg] e pos.line X.env = pure false := by rfl) (hw : swappedStores [tg] e X.env = pure none := by rfl)
    (h1 : (assignEach [tg] X.env).map (·.2) = [assign tg X.env] := by rfl) : DS K X (.Assign [tg] e pos) (tAsg te gt) (asgM me mg) := ⟨a.k, ps_asg a.p g.p hs hw h1, ss_asg a.s g.s⟩
theorem ds_set (i : Nat) {x : Str} (a : DE K X e te me) (hN : X.N.Nodup) (hi : X.N[i]? = some x := by rfl) (hx : Loc X.env.scope x := by first | exact Or.inl rfl | exact Or.inr rfl) (hs : swapsWith e (some (.Name x pos')) pos.line X.env = pure false := by rfl)
    (hf : X.fn x = true ∨ X.env.scope.names.lookup x = some .local := by first | exact .inl rfl | exact .inr rfl) : DS K X (.Assign [.Name x pos'] e pos) (tAsg te (gName i)) (asgM me (nameG i)) := ⟨a.k, ps_set hN hi hx a.p hs hf, ss_asg a.s (sg_name i)⟩
theorem ss_if (hc : ST K tc mc) (a : SS K t m) (b : SS K u n) : SS K (tIfS tc t u) (ifSM mc m n) := by
  intro Φ σ H μ sg h f h' S rs e E k
  unfold ifSM at e
  split at e
  · rename_i h1 e1
    exact hc σ H μ sg h _ h1 S rs e1 _ fun H1 μ1 S1 l1 => iteT (a σ H1 μ1 sg h1 f h' S1 (rs.mono l1) e E (k.le l1))
  · rename_i h1 e1
    exact hc σ H μ sg h _ h1 S rs e1 _ fun H1 μ1 S1 l1 => iteF (b σ H1 μ1 sg h1 f h' S1 (rs.mono l1) e E (k.le l1))
  · cases e
theorem ds_if {p q : List Stmt} (hc : DT K X c tc mc) (a : DSs K X p t m) (b : DSs K X q u n) : DS K X (.If c p q pos) (tIfS tc t u) (ifSM mc m n) := ⟨a.k, ps_if hc.p a.p b.p, ss_if hc.s a.s b.s⟩
theorem ds_never (hK : KOf X = K := by rfl) : DS K X st tNever neverM := ⟨hK, ps_never, fun {Φ} σ H μ sg h f h' S rs e E k => by cases e⟩
theorem ds_aug (i : Nat) {x : Str} {op : Operator} {ti : TIp} {g : G2} (hs : SO K ti g) (ho : PIp X op ti) (a : DE K X e te me) (hN : X.N.Nodup) (hi : X.N[i]? = some x := by rfl) (hx : Loc X.env.scope x := by first | exact Or.inl rfl | exact Or.inr rfl)
    (hf : X.fn x = true ∨ X.env.scope.names.lookup x = some .local := by first | exact .inl rfl | exact .inr rfl) : DS K X (.AugAssign (.Name x pos') op e pos) (tAug i te ti) (augM i g me) := ⟨a.k, ps_aug hN hi hx a.p ho hf, by
  intro Φ σ H μ sg h f h' S rs e E k
  unfold augM at e
  split at e
  · rename_i x q
    split at e
    · rename_i y h1 e1
      split at e
      · rename_i z h2 e2
        cases e
        obtain ⟨v, q1, q2⟩ := rs.2 i x q
        refine ⟨v, q1, a.s σ H μ sg h y h1 S rs e1 _ fun w H1 μ1 S1 l1 r1 => ?_⟩
        exact hs H1 μ1 h1 x y v w z _ S1 (Rp.mono l1 _ _ q2) r1 e2 _ fun u H2 μ2 S2 l2 r2 => k _ H2 μ2 S2 (l1.trans l2) ((rs.mono (l1.trans l2)).put i r2)
      · cases e
    · cases e
  · cases e⟩
theorem ds_par (i j : Nat) {x y : Str} {a b : Expr} {ta : TA} {ma : MA} {px py pt : Pos} {kt k2 pt2} (d : DA K X [a, b] ta ma) (hN : X.N.Nodup) (hi : X.N[i]? = some x := by rfl) (hj : X.N[j]? = some y := by rfl) (hij : i ≠ j := by decide)
    (hx : X.env.scope.names.lookup x = some .local := by rfl) (hy : X.env.scope.names.lookup y = some .local := by rfl)
    (hw : swappedStores [.Tuple [.Name x px, .Name y py] kt pt] (.Tuple [a, b] k2 pt2) X.env = pure (some [x, y]) := by rfl)
    (hs : swapsWithSole [.Tuple [.Name x px, .Name y py] kt pt] (.Tuple [a, b] k2 pt2) pos.line X.env = pure false := by rfl) (hc : X.calm = true := by rfl) :
    DS K X (.Assign [.Tuple [.Name x px, .Name y py] kt pt] (.Tuple [a, b] k2 pt2) pos) (tPar i j ta) (parM i j ma) := ⟨d.k, ps_par hc hN hi hj hij hx hy d.p hw hs, by
  intro Φ σ H μ sg h f h' S rs e E k
  unfold parM at e
  split at e
  · rename_i x y h1 e1
    cases e
    refine d.s σ H μ sg h _ _ S rs e1 _ fun vs H1 μ1 S1 l1 r1 => ?_
    obtain ⟨v, w, rfl, r2, r3⟩ := rps2 r1
    exact ⟨v, w, rfl, k _ H1 μ1 S1 l1 (((rs.mono l1).put i r2).put j r3)⟩
  · cases e⟩
/-- o[i] = v, a list's or a dict's -/
def setD (o i v : ME) : MS := fun sg h => match v sg h with
  | some (z, h1) => match o sg h1 with
    | some (.at n, h2) => match i sg h2 with
      | some (y, h3) => match h3[n]? with
        | some (.lst xs) => match y with
          | .int j => match ixN xs.length j with
            | some q => some (.nx sg, h3.set n (.lst (xs.set q z)))
            | none => none
          | _ => none
        | some (.dct kvs) => match keyD y with
          | some k => if kvs.length < LN then some (.nx sg, h3.set n (.dct (putD kvs k z))) else none
          | none => none
        | _ => none
      | none => none
    | _ => none
  | none => none
def tSetL (to ti tv : TE) : TS := tAsg tv (gSub to ti rSetL)
def tSetU (to ti tv : TE) : TS := fun E σ H => tSetL to ti tv E σ H ∨ sDPut to ti tv E σ H
theorem PS.or {t u : TS} (h : PS X st t) (h' : PS X st u) : PS X st (fun E σ H => t E σ H ∨ u E σ H) := ⟨fun pins s σ H E I q => q.elim (h.run pins s σ H E I) (h'.run pins s σ H E I)⟩
theorem ds_put {o i v : Expr} {to ti tv : TE} {mo mi mv : ME} (ho : DE K X o to mo) (hi : DE K X i ti mi) (hv : DE K X v tv mv) (hu : X.A.units + 1 < cLine) (hs : swapsWith v (some (.Subscript o i pos')) pos.line X.env = pure false := by rfl)
    (hs2 : swapsWithSole [.Subscript o i pos'] v pos.line X.env = pure false := by rfl) (hw : swappedStores [.Subscript o i pos'] v X.env = pure none := by rfl) (h1 : (assignEach [.Subscript o i pos'] X.env).map (·.2) = [assign (.Subscript o i pos') X.env] := by rfl)
    (ha : ∀ v, assign (.Subscript o i pos') X.env v = (do
      let ov ← holding [v] (eval o X.env)
      let iv ← holding [v, ov] (eval i X.env)
      standAt pos'
      holding [v, ov, iv] (setItem ov iv v)
      release [v, ov, iv] []) := by intro _; rfl) :
    DS K X (.Assign [.Subscript o i pos'] v pos) (tSetU to ti tv) (setD mo mi mv) := ⟨ho.k, PS.or (ps_asg hv.p (pg_sub ho.p hi.p set_list ha) hs2 hw h1) (ps_dput hu ho.p hi.p hv.p hs), by
  intro Φ σ H μ sg h f h' S rs e E k
  unfold setD at e
  split at e
  · rename_i z h1 e1
    split at e
    · rename_i n h2 e2
      split at e
      · rename_i y h3 e3
        split at e
        · rename_i xs q
          split at e
          · rename_i j
            split at e
            · rename_i qq e4
              cases e
              refine .inl (hv.s σ H μ sg h z h1 S rs e1 _ fun v H1 μ1 S1 l1 r1 => ?_)
              refine ho.s σ H1 μ1 sg h1 _ h2 S1 (rs.mono l1) e2 _ fun w H2 μ2 S2 l2 r2 => ?_
              refine hi.s σ H2 μ2 sg h2 _ _ S2 (rs.mono (l1.trans l2)) e3 _ fun u H3 μ3 S3 l3 r3 => ?_
              obtain ⟨p, ep, rfl⟩ := rp_at' (Rp.mono l3 _ _ r2)
              obtain ⟨ws, b, c⟩ := S3.lst q ep
              have rz := Rp.mono (l2.trans l3) _ _ r1
              refine ⟨p, ws, j, qq, rfl, rp_int' r3, b, by rw [c.len]; exact e4, ?_⟩
              have l4 : Le K H3 μ3 (upd H3 p (.lst (ws.set qq v))) μ3 := le_set S3 ep
              exact k σ _ μ3 (S3.set ep ⟨_, upd_same, Rps.mono l4 _ _ (c.set qq rz)⟩) (((l1.trans l2).trans l3).trans l4) (rs.mono (((l1.trans l2).trans l3).trans l4))
            · cases e
          · cases e
        · rename_i kvs q
          split at e
          · rename_i kk e4
            split at e
            · rename_i hz
              cases e
              refine .inr (hv.s σ H μ sg h z h1 S rs e1 _ fun v H1 μ1 S1 l1 r1 => ?_)
              refine ho.s σ H1 μ1 sg h1 _ h2 S1 (rs.mono l1) e2 _ fun w H2 μ2 S2 l2 r2 => ?_
              refine hi.s σ H2 μ2 sg h2 _ _ S2 (rs.mono (l1.trans l2)) e3 _ fun u H3 μ3 S3 l3 r3 => ?_
              obtain ⟨p, ep, rfl⟩ := rp_at' (Rp.mono l3 _ _ r2)
              obtain ⟨kw, b, c⟩ := S3.dct q ep
              have rz := Rp.mono (l2.trans l3) _ _ r1
              refine ⟨p, _, rfl, by rw [key_of r3 e4]; exact DPut.k b (by rw [c.len]; exact ln_lt hz), ?_⟩
              have l4 : Le K H3 μ3 (upd H3 p (.dK (putK kw kk v))) μ3 := le_set S3 ep
              have c2 := c.put (k := kk) rz
              exact k σ _ μ3 (S3.set ep ⟨_, upd_same, c2.1, Rps.mono l4 _ _ c2.2⟩) (((l1.trans l2).trans l3).trans l4) (rs.mono (((l1.trans l2).trans l3).trans l4))
            · cases e
          · cases e
        · cases e
      · cases e
    · cases e
  · cases e⟩
end

/-! ### while -/
def whileM (c : MT) (b : MS) : Nat → MS
  | 0 => fun _ _ => none
  | k + 1 => fun sg h => match c sg h with
    | some (true, h1) => match b sg h1 with
      | some (.nx sg2, h2) => whileM c b k sg2 h2
      | some (.ct sg2, h2) => whileM c b k sg2 h2
      | some (.bk sg2, h2) => some (.nx sg2, h2)
      | some (.rt d, h2) => some (.rt d, h2)
      | none => none
    | some (false, h1) => some (.nx sg, h1)
    | none => none
section
variable {K : Kw} {X : Cx} {pos : Pos} {c : Expr} {tc : TT} {mc : MT} {body : List Stmt} {tb : TS} {mb : MS}
theorem ss_while (N : Nat) (hc : ST K tc mc) (hb : SS K tb mb) : SS K (tWhile tc tb) (whileM mc mb N) := by
  intro Φ σ H μ sg h f h' S rs e E k
  refine ⟨fun m σ1 H1 => ∃ μ1 sg1 h1, Sm Φ K H1 μ1 h1 ∧ Le K H μ H1 μ1 ∧ Rs K H1 μ1 sg1 σ1 ∧ whileM mc mb m sg1 h1 = some (f, h'), ⟨N, μ, sg, h, S, Le.refl, rs, e⟩, ?_⟩
  rintro m σ1 H1 ⟨μ1, sg1, h1, S1, l1, rs1, e1⟩
  cases m with
  | zero => cases e1
  | succ m =>
    unfold whileM at e1
    split at e1
    · rename_i h2 e2
      refine hc σ1 H1 μ1 sg1 h1 _ h2 S1 rs1 e2 _ fun H2 μ2 S2 l2 => iteT ?_
      refine ⟨fun σ3 H3 => ∃ μ3 sg3 h3, Sm Φ K H3 μ3 h3 ∧ Le K H μ H3 μ3 ∧ Rs K H3 μ3 sg3 σ3 ∧ whileM mc mb m sg3 h3 = some (f, h'), fun σ3 H3 q => ⟨m, Nat.lt_succ_self _, q⟩, ?_⟩
      split at e1
      · rename_i sg3 h3 e3
        exact hb σ1 H2 μ2 sg1 h2 _ h3 S2 (rs1.mono l2) e3 _ fun σ3 H3 μ3 S3 l3 rs3 => ⟨μ3, sg3, h3, S3, (l1.trans l2).trans l3, rs3, e1⟩
      · rename_i sg3 h3 e3
        exact hb σ1 H2 μ2 sg1 h2 _ h3 S2 (rs1.mono l2) e3 _ fun σ3 H3 μ3 S3 l3 rs3 => ⟨μ3, sg3, h3, S3, (l1.trans l2).trans l3, rs3, e1⟩
      · rename_i sg3 h3 e3
        cases e1
        exact hb σ1 H2 μ2 sg1 h2 _ _ S2 (rs1.mono l2) e3 _ fun σ3 H3 μ3 S3 l3 rs3 => k σ3 H3 μ3 S3 ((l1.trans l2).trans l3) rs3
      · rename_i d h3 e3
        cases e1
        exact hb σ1 H2 μ2 sg1 h2 _ _ S2 (rs1.mono l2) e3 _ fun v H3 μ3 S3 l3 r3 => k v H3 μ3 S3 ((l1.trans l2).trans l3) r3
      · cases e1
    · rename_i h2 e2
      cases e1
      exact hc σ1 H1 μ1 sg1 h1 _ _ S1 rs1 e2 _ fun H2 μ2 S2 l2 => iteF (k σ1 H2 μ2 S2 (l1.trans l2) (rs1.mono l2))
    · cases e1
theorem ds_while (N : Nat) (hp : PassesOwn (model X.prog X.w) X.A X.env X.xe) (hc : DT K X c tc mc) (hb : DSs K X body tb mb) : DS K X (.While c body [] pos) (tWhile tc tb) (whileM mc mb N) := ⟨hc.k, ps_while hp hc.p hb.p, ss_while N hc.s hb.s⟩
end

/-! ### what a for walks -/
inductive Src where
  | fix (xs : List D) | obj (n : Nat) | enu (xs : List D) (n : Option Nat) | rev (n m : Nat) | zip (n m : Nat)
def Src.nxt (h : Hd) : Src → Nat → Option (Option D)
  | .fix xs, i => some xs[i]?
  | .obj n, i => match h[n]? with
    | some (.lst xs) => some xs[i]?
    | _ => none
  | .enu xs none, i => some (xs[i]?.map fun d => .tup [.int (i : Nat), d])
  | .enu _ (some n), i => match h[n]? with
    | some (.lst xs) => some (xs[i]?.map fun d => .tup [.int (i : Nat), d])
    | _ => none
  | .rev n m, i => match h[n]? with
    | some (.lst xs) => if xs.length = m then some xs.reverse[i]? else none
    | _ => none
  | .zip n m, i => match h[n]?, h[m]? with
    | some (.lst xs), some (.lst ys) => some ((xs.zip ys)[i]?.map fun p => .tup [p.1, p.2])
    | _, _ => none
abbrev MI := Sg → Hd → Option (Src × Hd)
def JOk (Φ : Hp) (K : Kw) (J : It) (s : Src) (H0 : Hp) (μ0 : List Addr) : Prop := ∀ (i : Nat) (H : Hp) (μ : List Addr) (h : Hd), Sm Φ K H μ h → Le K H0 μ0 H μ →
  (∀ d, s.nxt h i = some (some d) → J.go i H ∧ ∀ x H', J.yld i H x H' → Sm Φ K H' μ h ∧ Le K H μ H' μ ∧ Rp K H' μ d x) ∧ (s.nxt h i = some none → J.stop i H)
def SI (K : Kw) (t : TI) (m : MI) : Prop := ∀ {Φ : Hp} (σ : L2.St) (H : Hp) (μ : List Addr) (sg : Sg) (h : Hd) (s : Src) (h' : Hd), Sm Φ K H μ h → Rs K H μ sg σ → m sg h = some (s, h') → ∀ R : It → Hp → Prop,
  (∀ (J : It) (H' : Hp) (μ' : List Addr), Sm Φ K H' μ' h' → Le K H μ H' μ' → JOk Φ K J s H' μ' → R J H') → t σ H R
structure DI (K : Kw) (X : Cx) (tg e : Expr) (t : TI) (m : MI) : Prop where
  k : KOf X = K
  p : PI X tg e t
  s : SI K t m
def seqI (a : ME) : MI := fun sg h => match a sg h with
  | some (.tup xs, h1) => some (.fix xs, h1)
  | some (.rol xs, h1) => some (.fix xs, h1)
  | some (.at n, h1) => match h1[n]? with
    | some (.lst _) => some (.obj n, h1)
    | _ => none
  | some (.str s, h1) => some (.fix (s.cps.toList.map fun c => .str ⟨⟨[c]⟩⟩), h1)
  | _ => none
def iSeq (K : Kw) (te : TE) : TI := fun σ H R => iList K te σ H R ∨ iTup K te σ H R ∨ iStr te σ H R
theorem PI.or {X : Cx} {tg e : Expr} {t u : TI} (h : PI X tg e t) (h' : PI X tg e u) : PI X tg e (fun σ H R => t σ H R ∨ u σ H R) := ⟨fun pins s σ H R I q => q.elim (h.run pins s σ H R I) (h'.run pins s σ H R I)⟩
section
variable {K : Kw} {X : Cx} {pos p : Pos} {tg e : Expr} {te : TE} {me : ME} {ta : TA} {ma : MA}
theorem j_lst {a : Addr} {n : Nat} {H0 : Hp} {μ0 : List Addr} (ea : μ0[n]? = some a) : JOk Φ K (Itl K a) (.obj n) H0 μ0 := by
  intro i H μ h S l
  have ep := l.get ea
  refine ⟨fun d q => ?_, fun q => ?_⟩
  · unfold Src.nxt at q
    simp only at q
    split at q
    · rename_i xs e1
      obtain ⟨vs, b, c⟩ := S.lst e1 ep
      obtain ⟨v, c1, c2⟩ := c.get (Option.some.inj q)
      refine ⟨⟨vs, v, .of b, c1⟩, fun x H' y => ?_⟩
      obtain ⟨rfl, y⟩ := y
      have := y vs (.of b)
      rw [c1] at this
      cases this
      exact ⟨S, Le.refl, c2⟩
    · cases q
  · unfold Src.nxt at q
    simp only at q
    split at q
    · rename_i xs e1
      obtain ⟨vs, b, c⟩ := S.lst e1 ep
      refine ⟨vs, .of b, ?_⟩
      rw [c.len]
      exact List.getElem?_eq_none_iff.mp (Option.some.inj q)
    · cases q
theorem j_frz {a : Addr} {xs : List D} {vs : List V} {H0 : Hp} {μ0 : List Addr} (b : SqF K H0 a vs) (c : Rps K H0 μ0 xs vs) : JOk Φ K (Itl K a) (.fix xs) H0 μ0 := by
  intro i H μ h S l
  have b' := (l.frz _ _ b).l
  have c' := Rps.mono l _ _ c
  refine ⟨fun d q => ?_, fun q => ?_⟩
  · obtain ⟨v, c1, c2⟩ := c'.get (Option.some.inj q)
    refine ⟨⟨vs, v, b', c1⟩, fun x H' y => ?_⟩
    obtain ⟨rfl, y⟩ := y
    have := y vs b'
    rw [c1] at this
    cases this
    exact ⟨S, Le.refl, c2⟩
  · refine ⟨vs, b', ?_⟩
    rw [c'.len]
    exact List.getElem?_eq_none_iff.mp (Option.some.inj q)
theorem j_tup {a : Addr} {xs : List D} {vs : List V} {H0 : Hp} {μ0 : List Addr} (b : SqT K H0 a vs) (c : Rps K H0 μ0 xs vs) : JOk Φ K (Itt K a) (.fix xs) H0 μ0 := by
  intro i H μ h S l
  have b' := l.tup _ _ b
  have c' := Rps.mono l _ _ c
  refine ⟨fun d q => ?_, fun q => ?_⟩
  · obtain ⟨v, c1, c2⟩ := c'.get (Option.some.inj q)
    refine ⟨⟨vs, v, b', c1⟩, fun x H' y => ?_⟩
    obtain ⟨rfl, y⟩ := y
    have := y vs b'
    rw [c1] at this
    cases this
    exact ⟨S, Le.refl, c2⟩
  · refine ⟨vs, b', ?_⟩
    rw [c'.len]
    exact List.getElem?_eq_none_iff.mp (Option.some.inj q)
theorem j_str {s : Str} {H0 : Hp} {μ0 : List Addr} : JOk Φ K (Its s) (.fix (s.cps.toList.map fun c => .str ⟨⟨[c]⟩⟩)) H0 μ0 := by
  intro i H μ h S l
  refine ⟨fun d q => ?_, fun q => ?_⟩
  · have q := Option.some.inj q
    rw [List.getElem?_map] at q
    cases q2 : s.cps.toList[i]? with
    | none => rw [q2] at q; cases q
    | some c =>
      rw [q2] at q
      cases q
      refine ⟨by
        have := (List.getElem?_eq_some_iff.mp q2).1
        show i < s.cps.size
        simpa using this, fun x H' y => ?_⟩
      obtain ⟨rfl, c', y1, rfl⟩ := y
      have : c' = c := by
        rw [← Array.getElem?_toList, q2] at y1
        exact (Option.some.inj y1).symm
      subst this
      exact ⟨S, Le.refl, rp_str⟩
  · have q := List.getElem?_eq_none_iff.mp (Option.some.inj q)
    show s.cps.size ≤ i
    simpa using q
theorem di_seq (a : DE K X e te me) : DI K X tg e (iSeq K te) (seqI me) := ⟨a.k, by
  have hk := a.k
  subst hk
  exact PI.or (pi_list a.p) (PI.or (pi_tup a.p) (pi_str a.p)), by
  intro Φ σ H μ sg h s h' S rs e R k
  unfold seqI at e
  split at e
  · rename_i xs h1 e1
    cases e
    refine .inr (.inl (a.s σ H μ sg h _ _ S rs e1 _ fun v H1 μ1 S1 l1 r1 => ?_))
    obtain ⟨p, vs, rfl, b, c⟩ := rp_tup' r1
    exact ⟨p, rfl, ⟨vs, b⟩, k _ H1 μ1 S1 l1 (j_tup b c)⟩
  · rename_i xs h1 e1
    cases e
    refine .inl (a.s σ H μ sg h _ _ S rs e1 _ fun v H1 μ1 S1 l1 r1 => ?_)
    obtain ⟨p, vs, rfl, b, c⟩ := rp_rol' r1
    exact ⟨p, rfl, ⟨vs, b.l⟩, k _ H1 μ1 S1 l1 (j_frz b c)⟩
  · rename_i n h1 e1
    split at e
    · rename_i xs q
      cases e
      refine .inl (a.s σ H μ sg h _ _ S rs e1 _ fun v H1 μ1 S1 l1 r1 => ?_)
      obtain ⟨p, ep, rfl⟩ := rp_at' r1
      obtain ⟨vs, b, c⟩ := S1.lst q ep
      exact ⟨p, rfl, ⟨vs, .of b⟩, k _ H1 μ1 S1 l1 (j_lst ep)⟩
    · cases e
  · rename_i s h1 e1
    cases e
    refine .inr (.inr (a.s σ H μ sg h _ _ S rs e1 _ fun v H1 μ1 S1 l1 r1 => ?_))
    exact ⟨s, rp_str' r1, k _ H1 μ1 S1 l1 j_str⟩
  · cases e⟩
/-- range(n), range(a, b) -/
def rngD (lo : Int) (n : Nat) : Src := .fix ((List.range n).map fun i => .int (lo + (i : Nat)))
def rngI (a : MA) : MI := fun sg h => match a sg h with
  | some ([.int j], h1) => if -(2 ^ 62) ≤ j ∧ j < 2 ^ 62 then some (rngD 0 j.toNat, h1) else none
  | _ => none
def rng2I (a : MA) : MI := fun sg h => match a sg h with
  | some ([.int i, .int j], h1) => if -(2 ^ 62) ≤ i ∧ i < 2 ^ 62 ∧ -(2 ^ 62) ≤ j ∧ j < 2 ^ 62 then some (rngD i (j - i).toNat, h1) else none
  | _ => none
theorem j_rng {lo : Int} {n : Nat} {H0 : Hp} {μ0 : List Addr} : JOk Φ K (Itr lo n) (rngD lo n) H0 μ0 := by
  intro i H μ h S l
  refine ⟨fun d q => ?_, fun q => ?_⟩
  · have q := Option.some.inj q
    rw [List.getElem?_map] at q
    by_cases hi : i < n
    · rw [List.getElem?_range hi] at q
      cases q
      refine ⟨hi, fun x H' y => ?_⟩
      obtain ⟨rfl, rfl⟩ := y
      exact ⟨S, Le.refl, rp_int⟩
    · rw [List.getElem?_eq_none (by simp; omega)] at q
      cases q
  · have q := List.getElem?_eq_none_iff.mp (Option.some.inj q)
    show n ≤ i
    simpa using q
theorem di_range1 {a : Expr} (ha : DA K X [a] ta ma) (hm : X.mg "range" = none) (hg : Gl X "range" := by rfl) (hs : starEach [a] X.env = [(false, eval a X.env)] := by rfl) : DI K X tg (.Call (.Name "range" p) [a] [] pos) (iRng1 ta) (rngI ma) := ⟨ha.k, pi_range1 hg hm ha.p hs, by
  intro Φ σ H μ sg h s h' S rs e R k
  unfold rngI at e
  split at e
  · rename_i j h1 e1
    split at e
    · rename_i hj
      cases e
      refine ha.s σ H μ sg h _ _ S rs e1 _ fun vs H1 μ1 S1 l1 r1 => ?_
      obtain ⟨v, rfl, r2⟩ := rps1 r1
      rw [rp_int' r2]
      exact ⟨j, rfl, hj.1, hj.2, k _ H1 μ1 S1 l1 j_rng⟩
    · cases e
  · cases e⟩
theorem di_range2 {a b : Expr} (ha : DA K X [a, b] ta ma) (hm : X.mg "range" = none) (hg : Gl X "range" := by rfl) (hs : starEach [a, b] X.env = [(false, eval a X.env), (false, eval b X.env)] := by rfl) (hs2 : starEach [b] X.env = [(false, eval b X.env)] := by rfl) : DI K X tg (.Call (.Name "range" p) [a, b] [] pos) (iRng2 ta) (rng2I ma) := ⟨ha.k, pi_range2 hg hm ha.p hs hs2, by
  intro Φ σ H μ sg h s h' S rs e R k
  unfold rng2I at e
  split at e
  · rename_i i j h1 e1
    split at e
    · rename_i hj
      cases e
      refine ha.s σ H μ sg h _ _ S rs e1 _ fun vs H1 μ1 S1 l1 r1 => ?_
      obtain ⟨v, w, rfl, r2, r3⟩ := rps2 r1
      rw [rp_int' r2, rp_int' r3]
      exact ⟨i, j, rfl, hj, k _ H1 μ1 S1 l1 j_rng⟩
    · cases e
  · cases e⟩
/-- enumerate(a list) -/
def enuI (a : MA) : MI := fun sg h => match a sg h with
  | some ([.at n], h1) => match h1[n]? with
    | some (.lst _) => some (.enu [] (some n), h1)
    | _ => none
  | some ([.rol xs], h1) => some (.enu xs none, h1)
  | _ => none
theorem j_enuL {a : Addr} {n : Nat} {H0 : Hp} {μ0 : List Addr} (ea : μ0[n]? = some a) : JOk Φ K (Ite K a) (.enu [] (some n)) H0 μ0 := by
  intro i H μ h S l
  have ep := l.get ea
  refine ⟨fun d q => ?_, fun q => ?_⟩
  · unfold Src.nxt at q
    simp only at q
    split at q
    · rename_i xs e1
      obtain ⟨vs, b, c⟩ := S.lst e1 ep
      cases q2 : xs[i]? with
      | none => rw [q2] at q; cases q
      | some d' =>
        rw [q2] at q
        cases q
        obtain ⟨v, c1, c2⟩ := c.get q2
        refine ⟨⟨vs, v, .of b, c1⟩, fun x H' y => ?_⟩
        obtain ⟨T, x', rfl, hT, rfl, y⟩ := y
        have := y vs (.of b)
        rw [c1] at this
        cases this
        have l4 : Le K H μ (upd H T (.tup [.int (i : Nat), v])) μ := le_new hT
        exact ⟨S.new hT, l4, rp_tup (SqT.of upd_same) (Rps.cons rp_int (Rps.cons (Rp.mono l4 _ _ c2) Rps.nil))⟩
    · cases q
  · unfold Src.nxt at q
    simp only at q
    split at q
    · rename_i xs e1
      obtain ⟨vs, b, c⟩ := S.lst e1 ep
      refine ⟨vs, .of b, ?_⟩
      rw [c.len]
      have := Option.some.inj q
      simpa using this
    · cases q
theorem j_enuF {a : Addr} {xs : List D} {vs : List V} {H0 : Hp} {μ0 : List Addr} (b : SqF K H0 a vs) (c : Rps K H0 μ0 xs vs) : JOk Φ K (Ite K a) (.enu xs none) H0 μ0 := by
  intro i H μ h S l
  have b' := (l.frz _ _ b).l
  have c' := Rps.mono l _ _ c
  refine ⟨fun d q => ?_, fun q => ?_⟩
  · have q := Option.some.inj q
    cases q2 : xs[i]? with
    | none => rw [q2] at q; cases q
    | some d' =>
      rw [q2] at q
      cases q
      obtain ⟨v, c1, c2⟩ := c'.get q2
      refine ⟨⟨vs, v, b', c1⟩, fun x H' y => ?_⟩
      obtain ⟨T, x', rfl, hT, rfl, y⟩ := y
      have := y vs b'
      rw [c1] at this
      cases this
      have l4 : Le K H μ (upd H T (.tup [.int (i : Nat), v])) μ := le_new hT
      exact ⟨S.new hT, l4, rp_tup (SqT.of upd_same) (Rps.cons rp_int (Rps.cons (Rp.mono l4 _ _ c2) Rps.nil))⟩
  · refine ⟨vs, b', ?_⟩
    rw [c'.len]
    have := Option.some.inj q
    simpa using this
theorem di_enum {elts : List Expr} {kk : Nat} {tpos : Pos} (ha : DA K X [e] ta ma) (hm : X.mg "enumerate" = none) (hg : Gl X "enumerate" := by rfl) (hs : starEach [e] X.env = [(false, eval e X.env)] := by rfl) :
    DI K X (.Tuple elts kk tpos) (.Call (.Name "enumerate" p) [e] [] pos) (iEnum K ta) (enuI ma) := ⟨ha.k, by
  have hk := ha.k
  subst hk
  exact pi_enum hg hm ha.p hs, by
  intro Φ σ H μ sg h s h' S rs e R k
  unfold enuI at e
  split at e
  · rename_i n h1 e1
    split at e
    · rename_i xs q
      cases e
      refine ha.s σ H μ sg h _ _ S rs e1 _ fun vs H1 μ1 S1 l1 r1 => ?_
      obtain ⟨v, rfl, r2⟩ := rps1 r1
      obtain ⟨p, ep, rfl⟩ := rp_at' r2
      obtain ⟨ws, b, c⟩ := S1.lst q ep
      exact ⟨p, ws, rfl, .of b, k _ H1 μ1 S1 l1 (j_enuL ep)⟩
    · cases e
  · rename_i xs h1 e1
    cases e
    refine ha.s σ H μ sg h _ _ S rs e1 _ fun vs H1 μ1 S1 l1 r1 => ?_
    obtain ⟨v, rfl, r2⟩ := rps1 r1
    obtain ⟨p, ws, rfl, b, c⟩ := rp_rol' r2
    exact ⟨p, ws, rfl, b.l, k _ H1 μ1 S1 l1 (j_enuF b c)⟩
  · cases e⟩
end

/-! ### for -/
def forM (s : Src) (g : MG) (b : MS) : Nat → Nat → MS
  | 0, _ => fun _ _ => none
  | k + 1, i => fun sg h => match s.nxt h i with
    | some (some d) => match g d sg h with
      | some (sg1, h1) => match b sg1 h1 with
        | some (.nx sg2, h2) => forM s g b k (i + 1) sg2 h2
        | some (.ct sg2, h2) => forM s g b k (i + 1) sg2 h2
        | some (.bk sg2, h2) => some (.nx sg2, h2)
        | some (.rt d, h2) => some (.rt d, h2)
        | none => none
      | none => none
    | some none => some (.nx sg, h)
    | none => none
def forSM (it : MI) (g : MG) (b : MS) (N : Nat) : MS := fun sg h => match it sg h with
  | some (s, h1) => forM s g b N 0 sg h1
  | none => none
section
variable {K : Kw} {X : Cx} {pos : Pos} {tg it : Expr} {ti : TI} {mi : MI} {gt : TG} {mg : MG} {body : List Stmt} {tb : TS} {mb : MS}
theorem ss_for (N : Nat) (hi : SI K ti mi) (hg : SG K gt mg) (hb : SS K tb mb) : SS K (tFor ti gt tb) (forSM mi mg mb N) := by
  intro Φ σ H μ sg h f h' S rs e E k
  unfold forSM at e
  split at e
  · rename_i s h0 e0
    refine hi σ H μ sg h s h0 S rs e0 _ fun J H0 μ0 S0 l0 hJ => ?_
    refine ⟨fun i m σ1 H1 => ∃ μ1 sg1 h1, Sm Φ K H1 μ1 h1 ∧ Le K H0 μ0 H1 μ1 ∧ Rs K H1 μ1 sg1 σ1 ∧ forM s mg mb m i sg1 h1 = some (f, h'), ⟨N, μ0, sg, h0, S0, Le.refl, rs.mono l0, e⟩, ?_⟩
    rintro i m σ1 H1 ⟨μ1, sg1, h1, S1, l1, rs1, e1⟩
    cases m with
    | zero => cases e1
    | succ m =>
      unfold forM at e1
      obtain ⟨j1, j2⟩ := hJ i H1 μ1 h1 S1 l1
      split at e1
      · rename_i d q
        obtain ⟨go, yld⟩ := j1 d q
        refine .inr ⟨go, fun σ3 H3 => ∃ μ3 sg3 h3, Sm Φ K H3 μ3 h3 ∧ Le K H0 μ0 H3 μ3 ∧ Rs K H3 μ3 sg3 σ3 ∧ forM s mg mb m (i + 1) sg3 h3 = some (f, h'), fun σ3 H3 q => ⟨m, Nat.lt_succ_self _, q⟩, fun x H2 y => ?_⟩
        obtain ⟨S2, l2, r2⟩ := yld x H2 y
        split at e1
        · rename_i sg3 h3 e3
          refine hg σ1 H2 μ1 sg1 h1 d x sg3 h3 S2 (rs1.mono l2) r2 e3 _ fun σ3 H3 μ3 S3 l3 rs3 => ?_
          split at e1
          · rename_i sg4 h4 e4
            exact hb σ3 H3 μ3 sg3 h3 _ h4 S3 rs3 e4 _ fun σ4 H4 μ4 S4 l4 rs4 => ⟨μ4, sg4, h4, S4, ((l1.trans l2).trans l3).trans l4, rs4, e1⟩
          · rename_i sg4 h4 e4
            exact hb σ3 H3 μ3 sg3 h3 _ h4 S3 rs3 e4 _ fun σ4 H4 μ4 S4 l4 rs4 => ⟨μ4, sg4, h4, S4, ((l1.trans l2).trans l3).trans l4, rs4, e1⟩
          · rename_i sg4 h4 e4
            cases e1
            exact hb σ3 H3 μ3 sg3 h3 _ _ S3 rs3 e4 _ fun σ4 H4 μ4 S4 l4 rs4 => k σ4 H4 μ4 S4 ((((l0.trans l1).trans l2).trans l3).trans l4) rs4
          · rename_i d4 h4 e4
            cases e1
            exact hb σ3 H3 μ3 sg3 h3 _ _ S3 rs3 e4 _ fun v H4 μ4 S4 l4 r4 => k v H4 μ4 S4 ((((l0.trans l1).trans l2).trans l3).trans l4) r4
          · cases e1
        · cases e1
      · rename_i q
        cases e1
        exact .inl ⟨j2 q, k σ1 H1 μ1 S1 (l0.trans l1) rs1⟩
      · cases e1
  · cases e
theorem ds_for (N : Nat) (hp : PassesOwn (model X.prog X.w) X.A X.env X.xe) (hi : DI K X tg it ti mi) (hg : DG K X tg gt mg) (hb : DSs K X body tb mb) (hs : ∀ x, foldedSetIterable it X.env x = pure x := by intro _; rfl) (hc : X.calm = true := by rfl) :
    DS K X (.For tg it body [] pos) (tFor ti gt tb) (forSM mi mg mb N) := ⟨hi.k, ps_for hp hc hi.p hg.p hb.p hs, ss_for N hi.s hg.s hb.s⟩

end

/-! ### [e for x in xs if c] -/
def lcM' (s : Src) (g : MG) (c : MT) (a : ME) (D0 : Nat) (sg0 : Sg) : Nat → Nat → Hd → Option Hd
  | 0, _ => fun _ => none
  | k + 1, i => fun h => match s.nxt h i with
    | some (some d) => match g d sg0 h with
      | some (sg1, h1) => match c sg1 h1 with
        | some (true, h2) => match a sg1 h2 with
          | some (y, h3) => match h3[D0]? with
            | some (.lst acc) => if acc.length < LN then lcM' s g c a D0 sg0 k (i + 1) (h3.set D0 (.lst (acc ++ [y]))) else none
            | _ => none
          | none => none
        | some (false, h2) => lcM' s g c a D0 sg0 k (i + 1) h2
        | none => none
      | none => none
    | some none => some h
    | none => none
def lcM (it : MI) (g : MG) (c : MT) (a : ME) (vs : List Nat) (N : Nat) : ME := fun sg h => match it sg h with
  | some (s, h1) => match lcM' s g c a h1.length (wipeD sg vs) N 0 (h1 ++ [.lst []]) with
    | some h2 => some (.at h1.length, h2)
    | none => none
  | none => none
def yesM : MT := fun _ h => some (true, h)
structure DTs (K : Kw) (X : Cx) (ifs : List Expr) (t : TT) (m : MT) : Prop where
  k : KOf X = K
  p : PTs X ifs t
  s : ST K t m
section
variable {K : Kw} {X : Cx} {pos : Pos} {tg it elt : Expr} {ifs : List Expr} {ti : TI} {mi : MI} {gt : TG} {mg : MG} {tt : TT} {mt : MT} {te : TE} {me : ME} {scope : Scope} {own : List (Str × Nat)}
theorem dts_nil (hK : KOf X = K := by rfl) : DTs K X [] tYes yesM := ⟨hK, pts_nil, fun {Φ} σ H μ sg h b h' S rs e Q k => by cases e; exact k H μ S Le.refl⟩
theorem dts_one {c : Expr} {t : TT} {m : MT} (a : DT K X c t m) : DTs K X [c] t m := ⟨a.k, pts_one a.p, a.s⟩
theorem de_lc (N : Nat) (hN : X.N.Nodup) (hi : DI K X tg it ti mi) (ok : BlkOk X.N X.env.scope scope own) (ho : Only (own.map (·.2)) gt)
    (hg : ∀ (s : Shared) (H : Hp) (C : Addr) (cl : List (Str × Addr)) (fp : List Addr), DG K (X.blk s H scope (compEnvC scope cl C X.env) fp) tg gt mg)
    (ht : ∀ (s : Shared) (H : Hp) (C : Addr) (cl : List (Str × Addr)) (fp : List Addr), DTs K (X.blk s H scope (compEnvC scope cl C X.env) fp) ifs tt mt)
    (he : ∀ (s : Shared) (H : Hp) (C : Addr) (cl : List (Str × Addr)) (fp : List Addr), DE K (X.blk s H scope (compEnvC scope cl C X.env) fp) elt te me) (hs : ∀ x, foldedSetIterable it X.env x = pure x := by intro _; rfl) (hc : X.calm = true := by rfl) :
    DE K X (.ListComp elt [⟨tg, it, ifs, 0⟩] scope pos) (tLc ti gt tt te (own.map (·.2))) (lcM mi mg mt me (own.map (·.2)) N) := ⟨hi.k, pe_lc hc hN hi.p ok (fun s H C cl fp => (hg s H C cl fp).p) (fun s H C cl fp => (ht s H C cl fp).p) (fun s H C cl fp => (he s H C cl fp).p) hs, by
  have sg_ : SG K gt mg := (hg X.s_0 X.H_0 0 [] []).s
  have st_ : ST K tt mt := (ht X.s_0 X.H_0 0 [] []).s
  have se_ : SE K te me := (he X.s_0 X.H_0 0 [] []).s
  intro Φ σ H μ sg h d h' S rs e Q k
  unfold lcM at e
  split at e
  · rename_i s h0 e0
    split at e
    · rename_i h9 e9
      cases e
      refine hi.s σ H μ sg h s h0 S rs e0 _ fun J H0 μ0 S0 l0 hJ => fun D hD => ?_
      have lD : Le K H0 μ0 (upd H0 D (.lst [])) (μ0 ++ [D]) := le_obj hD
      have SD : Sm Φ K (upd H0 D (.lst [])) (μ0 ++ [D]) (h0 ++ [.lst []]) := S0.obj hD ⟨[], upd_same, Rps.nil⟩
      have eD : (μ0 ++ [D])[h0.length]? = some D := obj_at S0 rfl
      refine ⟨fun i m H1 => ∃ μ1 h1, Sm Φ K H1 μ1 h1 ∧ Le K (upd H0 D (.lst [])) (μ0 ++ [D]) H1 μ1 ∧ lcM' s mg mt me h0.length (wipeD sg (own.map (·.2))) m i h1 = some h', ⟨N, μ0 ++ [D], _, SD, Le.refl, e9⟩, ?_⟩
      rintro i m H1 ⟨μ1, h1, S1, l1, e1⟩
      cases m with
      | zero => cases e1
      | succ m =>
        unfold lcM' at e1
        obtain ⟨j1, j2⟩ := hJ i H1 μ1 h1 S1 (lD.trans l1)
        have w0 : Rs K H1 μ1 (wipeD sg (own.map (·.2))) (wipe σ (own.map (·.2))) := (rs.mono ((l0.trans lD).trans l1)).wipe _
        split at e1
        · rename_i d q
          obtain ⟨go, yld⟩ := j1 d q
          refine .inr ⟨go, fun H3 => ∃ μ3 h3, Sm Φ K H3 μ3 h3 ∧ Le K (upd H0 D (.lst [])) (μ0 ++ [D]) H3 μ3 ∧ lcM' s mg mt me h0.length (wipeD sg (own.map (·.2))) m (i + 1) h3 = some h', fun H3 q => ⟨m, Nat.lt_succ_self _, q⟩, fun x H2 y => ?_⟩
          obtain ⟨S2, l2, r2⟩ := yld x H2 y
          split at e1
          · rename_i sg3 h3 e3
            rw [← wipe_idem σ (own.map (·.2))]
            have w1 : Rs K H2 μ1 (wipeD sg (own.map (·.2))) (wipe (wipe σ (own.map (·.2))) (own.map (·.2))) := by rw [wipe_idem]; exact w0.mono l2
            have q3 := ho x (wipe (wipe σ (own.map (·.2))) (own.map (·.2))) H2 (fun σ2 H2 => tt σ2 H2 fun b H3 => if b = true then te σ2 H3 fun y H4 => ∃ acc, H4 D = some (.lst acc) ∧ acc.length < sizeLine ∧ (fun H3 => ∃ μ3 h3, Sm Φ K H3 μ3 h3 ∧ Le K (upd H0 D (.lst [])) (μ0 ++ [D]) H3 μ3 ∧ lcM' s mg mt me h0.length (wipeD sg (own.map (·.2))) m (i + 1) h3 = some h') (upd H4 D (.lst (acc ++ [y]))) else (fun H3 => ∃ μ3 h3, Sm Φ K H3 μ3 h3 ∧ Le K (upd H0 D (.lst [])) (μ0 ++ [D]) H3 μ3 ∧ lcM' s mg mt me h0.length (wipeD sg (own.map (·.2))) m (i + 1) h3 = some h') H3)
              (sg_ _ H2 μ1 _ h1 d x sg3 h3 S2 w1 r2 e3 _ fun σ3 H3 μ3 S3 l3 rs3 => ?_)
            · rw [wipe_idem] at q3 ⊢
              rw [wipe_idem] at q3
              exact q3
            split at e1
            · rename_i h4 e4
              refine st_ σ3 H3 μ3 sg3 h3 _ h4 S3 rs3 e4 _ fun H4 μ4 S4 l4 => iteT ?_
              split at e1
              · rename_i y h5 e5
                refine se_ σ3 H4 μ4 sg3 h4 y h5 S4 (rs3.mono l4) e5 _ fun v H5 μ5 S5 l5 r5 => ?_
                split at e1
                · rename_i acc q5
                  split at e1
                  · rename_i hz
                    have lA := (((l1.trans l2).trans l3).trans l4).trans l5
                    have ep := lA.get eD
                    obtain ⟨ws, b, c⟩ := S5.lst q5 ep
                    have lB : Le K H5 μ5 (upd H5 D (.lst (ws ++ [v]))) μ5 := le_set S5 ep
                    have SB : Sm Φ K (upd H5 D (.lst (ws ++ [v]))) μ5 (h5.set h0.length (.lst (acc ++ [y]))) := S5.set ep ⟨_, upd_same, Rps.mono lB _ _ (c.app (Rps.cons r5 Rps.nil))⟩
                    exact ⟨ws, b, by rw [c.len]; exact ln_lt hz, μ5, _, SB, lA.trans lB, e1⟩
                  · cases e1
                · cases e1
              · cases e1
            · rename_i h4 e4
              refine st_ σ3 H3 μ3 sg3 h3 _ h4 S3 rs3 e4 _ fun H4 μ4 S4 l4 => iteF ?_
              exact ⟨μ4, h4, S4, ((l1.trans l2).trans l3).trans l4, e1⟩
            · cases e1
          · cases e1
        · rename_i q
          cases e1
          refine .inl ⟨j2 q, k _ H1 μ1 S1 ((l0.trans lD).trans l1) (rp_at (l1.get eD))⟩
        · cases e1
    · cases e
  · cases e⟩
end
end DL

/-! DM7: defs and their calls, with what they raise; slices backwards; the end. -/
namespace DL
open PySem L2 PySem.Spec PyProof.Rows

/-! ### room, and no repr that runs -/
structure RoomG (k : Nat) (A : Around) : Prop where
  r : Room k A
  g : A.guards = some []
theorem RoomG.mono {j k : Nat} {A : Around} (r : RoomG k A) (h : j ≤ k) : RoomG j A := ⟨r.r.mono h, r.g⟩
theorem hu1 {A : Around} {k : Nat} (hr : RoomG k A) : A.units + 1 < cLine := hu_of hr.r
theorem hu64 {A : Around} {k : Nat} (hr : RoomG k A) : A.units + 64 < cLine := by have := hr.r.un; omega

/-! ### a def's promise, given no repr that runs -/
structure FnG (P : Program) (w : World) (K : PySem.W.Frag) (mg : Str → Option Value) (base : Heap) (CX : CXT) (k : Nat) (f : Addr) (fd : FuncData) (ps : List Str) (sp : Sp) : Prop where
  len : ∀ vs H Q E, sp vs H Q E → vs.length = ps.length
  run : ∀ (A : Around) (outer : List Env) (s : Shared) (H : Hp) (args : Args) (us : List Value) (vs : List V) (Q : VK) (E : XK), RoomG k A → Env0 P w K mg base A outer s H → BindsTo s fd args (ps.zip us) → Vals vs us → sp vs H Q E →
    codeAny (model P w) A (.call (.ref f) args) (CR CX outer P w H s Q E) s
theorem FnG.mono {P : Program} {w : World} {K : PySem.W.Frag} {mg : Str → Option Value} {base : Heap} {CX : CXT} {j k : Nat} {f : Addr} {fd : FuncData} {ps : List Str} {sp : Sp} (F : FnG P w K mg base CX j f fd ps sp) (h : j ≤ k) :
    FnG P w K mg base CX k f fd ps sp := ⟨F.len, fun A outer s H args us vs Q E hr => F.run A outer s H args us vs Q E (hr.mono h)⟩
theorem fng_of {CX : CXT} {P : Program} {w : World} {K : PySem.W.Frag} {mg : Str → Option Value} {base : Heap} {k : Nat} {f : Addr} {name qual : Str} {params : Arguments} {body : List Stmt} {scope : Scope} {dV kV doc pm cdv ct oc : Value} {an od : Option Addr}
    {osl : Array (Option Value)} {N ps : List Str} {sp : Sp} (lk : K.lookup f = some ⟨oc, od, .func (PySem.W.fnOf name qual params body scope dV kV doc pm an cdv ct), osl⟩) (hcd : PySem.W.codeIn K cdv qual = true) (S : FnScope N ps scope)
    (len : ∀ vs H Q E, sp vs H Q E → vs.length = ps.length)
    (hbody : ∀ (A : Around) (outer : List Env) (s : Shared) (H : Hp) (vs : List V) (Q : VK) (E : XK), RoomG k (A.deeper (envOfC qual scope s.heap.objs.size f cdv)) → sp vs H Q E →
      ∃ t, PSs (cxOf CX P w K mg base N qual scope f cdv A outer s H E) body t ∧ t { nx := fun _ H' => Q .non H', rt := Q } (start N vs) H) :
    FnG P w K mg base CX (k + 1) f (PySem.W.fnOf name qual params body scope dV kV doc pm an cdv ct) ps sp := by
  refine ⟨len, fun A outer s H args us vs Q E hr e0 hb r hsp => ?_⟩
  have hl := len _ _ _ _ hsp
  have KX : K.In s.heap := e0.mod.kin.keeps fun b o e => (e0.bs b o e).1
  have lim : s.heap.NoLimit := e0.mod.nolimit.keeps fun b o e => (e0.bs b o e).1
  have hkind : ∀ y ∈ ps.zip us, scope.names.lookup y.1 = some .local ∨ (scope.names.lookup y.1 = some .cell ∧ ((cellsFrom (s.heap.objs.size + 1) scope.names []).lookup y.1).isSome = true) := fun ⟨n, v⟩ hy => by
    rcases S.par n (List.of_mem_zip hy).1 with q | q
    · exact .inl q
    · exact .inr ⟨q, PySem.W.cellsFrom_some _ _ _ (.inl q)⟩
  refine codeAny_call_function hr.r.depth (KX _ _ lk) rfl S.co S.gen rfl (PySem.W.codeRec_of KX hcd) (hb _ _ _ _ ?_)
  refine wpAny_newFunctionEnv_cells S.kind hkind fun env he s1 x => ?_
  subst he
  refine ⟨lim.keeps x.toInCall.keep, codeAny_func ?_⟩
  obtain ⟨t, ht, hq⟩ := hbody A outer s H vs Q E ⟨hr.r.deeper _, hr.g⟩ hsp
  have I : Inv (cxOf CX P w K mg base N qual scope f cdv A outer s H E) [] (start N vs) H s1 := inv_start S hr.r.hd e0 hl r x
  refine wpAny_mono (ht.run [] s1 (start N vs) H _ I hq) (fun fl s' hs => ?_) fun e s' hs => hs
  have fin : ∀ {σ' : L2.St} {H' : Hp} {v : V} {u : Value}, Inv (cxOf CX P w K mg base N qual scope f cdv A outer s H E) [] σ' H' s' → RelV v u → Q v H' → CE outer P w H s Q u s' :=
    fun {σ' H' v u} J rv q => ⟨v, H', J.os, J.bare, J.base, J.hok, rv, q⟩
  cases fl with
  | ret u =>
    obtain ⟨v, σ', H', J, rv, q⟩ := hs
    exact fin J rv q
  | next =>
    obtain ⟨σ', H', J, q⟩ := hs
    exact fin (v := V.non) (u := Value.none) J rfl q
  | brk =>
    obtain ⟨_, _, _, q⟩ := hs
    exact False.elim q
  | cont =>
    obtain ⟨_, _, _, q⟩ := hs
    exact False.elim q
section
variable {X : Cx} {CX : CXT} {k : Nat} {f : Addr} {fd : FuncData} {ps : List Str} {sp : Sp} {dvs : List V} {ds : List Value} {E : L2.St → XK} {x : Str} {p pos : Pos} {e : Expr} {es : List Expr} {t : TA}
theorem run_fnG {pins : List (Addr × Obj)} {σ : L2.St} {H : Hp} {s : Shared} {Q : VK} {us : List Value} {vs : List V} (F : FnG X.prog X.w X.K X.mg X.base CX k f fd ps sp) (hr : RoomG k X.A) (hb : Binds X.K fd ps ds) (hd : Vals dvs ds) (hx : PassesAt CX X σ (E σ))
    (I : Inv X pins σ H s) (r : Vals vs us) (h : sp (vs ++ dvs) H Q (E σ)) : wpAny (model X.prog X.w) X.A (call (.ref f) us) (EP X pins σ Q) X.xe s := by
  have r2 : Vals (vs ++ dvs) (us ++ ds) := r.append hd
  have hl : (us ++ ds).length = ps.length := by rw [← r2.length]; exact F.len _ _ _ _ h
  refine wpAny_call (codeAny_mono (F.run X.A X.stack s H ⟨us, []⟩ (us ++ ds) (vs ++ dvs) Q (E σ) hr I.env0 (hb s us I.kIn hl) r2 h) fun r s' hq => ?_)
  cases r with
  | error e => exact hx pins H s e s' I hq
  | ok fl =>
    cases fl with
    | ret u => exact I.after hq
    | next => exact False.elim hq
    | brk => exact False.elim hq
    | cont => exact False.elim hq
theorem pe_callG (F : FnG X.prog X.w X.K X.mg X.base CX k f fd ps sp) (hr : RoomG k X.A) (hg : Gl X x) (hm : X.mg x = some (.ref f)) (hk : PySem.W.keepIn X.K (.ref f) = true) (hb : Binds X.K fd ps ds) (hd : Vals dvs ds) (hx : ∀ σ, PassesAt CX X σ (E σ))
    (ha : PA X (e :: es) t) (hdb : (x == ("__debug__" : Str)) = false := by decide) (he : starEach (e :: es) X.env = (false, eval e X.env) :: starEach es X.env := by rfl) (hpl : (backTo pos (starEach es X.env)).any (·.1) = false := by rfl) :
    PE X (.Call (.Name x p) (e :: es) [] pos) (tCallSD sp dvs E t) := by
  refine ⟨fun pins s σ H Q I h => ?_⟩
  refine wpAny_Call_Name_kw (ld_glob I hg hm ?_ hdb)
  refine PySem.W.callWith_K (h₀ := X.base) I.ok.mod.kin hk (thn (ha.run pos pins s σ H _ I h) fun us s1 ⟨vs, H1, I1, r, q⟩ => ⟨I1.kIn, ?_⟩) he hpl
  exact run_fnG F hr hb hd (hx σ) I1 r q
theorem pe_callG0 (F : FnG X.prog X.w X.K X.mg X.base CX k f fd ps sp) (hr : RoomG k X.A) (hg : Gl X x) (hm : X.mg x = some (.ref f)) (hk : PySem.W.keepIn X.K (.ref f) = true) (hb : Binds X.K fd ps ds) (hd : Vals dvs ds) (hx : ∀ σ, PassesAt CX X σ (E σ))
    (hdb : (x == ("__debug__" : Str)) = false := by decide) : PE X (.Call (.Name x p) [] [] pos) (tCallSD sp dvs E tNil) := by
  refine ⟨fun pins s σ H Q I h => ?_⟩
  refine wpAny_Call_Name_kw (ld_glob I hg hm ?_ hdb)
  exact PySem.W.callWith_K0 I.kIn hk (run_fnG (us := []) F hr hb hd (hx σ) I .nil h)
theorem passE0 (σ : L2.St) : PassesAt (L2.CX X.prog X.w) X σ ((fun _ => E0) σ) := fun pins H s e s' I h => passL pins σ H s e s' I h
end

/-! ### what is raised -/
structure Xn where
  cls : Str
  fs : List (Str × D)
abbrev GX := List D → Hd → Option (Xn × Hd)
abbrev MX := Sg → Hd → Option (Xn × Sg × Hd)
def noX : MX := fun _ _ => none
def noGX : GX := fun _ _ => none
/-- the exception x is borne by the class cls and the dict d -/
def RX (K : Kw) (mg : Str → Option Value) (H : Hp) (μ : List Addr) (x : Xn) (cls : Value) (d : Option Addr) : Prop :=
  ∃ (C dx : Addr) (vs : List V), mg x.cls = some (.ref C) ∧ cls = .ref C ∧ d = some dx ∧ H dx = some (.xd ((x.fs.map (·.1)).zip vs)) ∧ Rps K H μ (x.fs.map (·.2)) vs
theorem RX.mono {K : Kw} {mg : Str → Option Value} {H H' : Hp} {μ μ' : List Addr} {x : Xn} {cls : Value} {d : Option Addr} (l : Le K H μ H' μ') (r : RX K mg H μ x cls d) : RX K mg H' μ' x cls d := by
  obtain ⟨C, dx, vs, h1, h2, h3, h4, h5⟩ := r
  exact ⟨C, dx, vs, h1, h2, h3, l.xdt _ _ h4, Rps.mono l _ _ h5⟩
def Wk (Φ : Hp) (K : Kw) (mg : Str → Option Value) (H : Hp) (μ : List Addr) (h' : Hd) (sg' : Sg) (x : Xn) (W : WX) : Prop :=
  ∀ (σ' : L2.St) (H' : Hp) (μ' : List Addr) (cls : Value) (d : Option Addr), Sm Φ K H' μ' h' → Le K H μ H' μ' → Rs K H' μ' sg' σ' → RX K mg H' μ' x cls d → W cls d σ' H'
theorem Wk.le {Φ : Hp} {K : Kw} {mg : Str → Option Value} {H H1 : Hp} {μ μ1 : List Addr} {h' : Hd} {sg' : Sg} {x : Xn} {W : WX} (l : Le K H μ H1 μ1) (k : Wk Φ K mg H μ h' sg' x W) : Wk Φ K mg H1 μ1 h' sg' x W :=
  fun σ' H' μ' cls d S l' rs r => k σ' H' μ' cls d S (l.trans l') rs r
def XEx (K : Kw) (mg : Str → Option Value) (W : WX) (t : TE) (x : MX) : Prop := ∀ {Φ : Hp} (σ : L2.St) (H : Hp) (μ : List Addr) (sg : Sg) (h : Hd) (xn : Xn) (sg' : Sg) (h' : Hd), Sm Φ K H μ h → Rs K H μ sg σ → x sg h = some (xn, sg', h') → Wk Φ K mg H μ h' sg' xn W → ∀ Q : VK, t σ H Q
def XSt (K : Kw) (mg : Str → Option Value) (W : WX) (t : TS) (x : MX) : Prop := ∀ {Φ : Hp} (σ : L2.St) (H : Hp) (μ : List Addr) (sg : Sg) (h : Hd) (xn : Xn) (sg' : Sg) (h' : Hd), Sm Φ K H μ h → Rs K H μ sg σ → x sg h = some (xn, sg', h') → Wk Φ K mg H μ h' sg' xn W → ∀ E : Ends, t E σ H
structure DEX (K : Kw) (mg : Str → Option Value) (X : Cx) (W : WX) (e : Expr) (t : TE) (m : ME) (x : MX) : Prop where
  k : KOf X = K
  p : Takes X W → PE X e t
  s : SE K t m
  x : XEx K mg W t x
structure DSX (K : Kw) (mg : Str → Option Value) (X : Cx) (W : WX) (st : Stmt) (t : TS) (m : MS) (x : MX) : Prop where
  k : KOf X = K
  p : Takes X W → PassesOwn (model X.prog X.w) X.A X.env X.xe → PS X st t
  s : SS K t m
  x : XSt K mg W t x
structure DSsX (K : Kw) (mg : Str → Option Value) (X : Cx) (W : WX) (st : List Stmt) (t : TS) (m : MS) (x : MX) : Prop where
  k : KOf X = K
  p : Takes X W → PassesOwn (model X.prog X.w) X.A X.env X.xe → PSs X st t
  s : SS K t m
  x : XSt K mg W t x
theorem xst_no {K : Kw} {mg : Str → Option Value} {W : WX} {t : TS} : XSt K mg W t noX := by
  intro Φ σ H μ sg h xn sg' h' S rs e
  cases e
theorem DSs.x {K : Kw} {mg : Str → Option Value} {X : Cx} {W : WX} {st : List Stmt} {t : TS} {m : MS} (d : DSs K X st t m) : DSsX K mg X W st t m noX := ⟨d.k, fun _ _ => d.p, d.s, xst_no⟩
theorem DS.x {K : Kw} {mg : Str → Option Value} {X : Cx} {W : WX} {st : Stmt} {t : TS} {m : MS} (d : DS K X st t m) : DSX K mg X W st t m noX := ⟨d.k, fun _ _ => d.p, d.s, xst_no⟩

/-! ### what a def keeps -/
def spX (K : Kw) (mg : Str → Option Value) (n : Nat) (m : GC) (x : GX) : Sp := fun vs H Q E => ∃ (Φ : Hp) (μ : List Addr) (ds : List D) (h : Hd), Sm Φ K H μ h ∧ Rps K H μ ds vs ∧ ds.length = n ∧
  ((∃ (d : D) (h' : Hd), m ds h = some (d, h') ∧ Kn Φ K H μ h' d Q) ∨
    ∃ (xn : Xn) (h' : Hd), x ds h = some (xn, h') ∧ ∀ (H' : Hp) (μ' : List Addr) (cls : Value) (d : Option Addr), Sm Φ K H' μ' h' → Le K H μ H' μ' → RX K mg H' μ' xn cls d → E cls d H')
def startD (n : Nat) (ds : List D) : Sg := ds.map some ++ List.replicate (n - ds.length) none
def bodyM (n : Nat) (ms : MS) : GC := fun ds h => match ms (startD n ds) h with
  | some (.nx _, h') => some (.non, h')
  | some (.rt d, h') => some (d, h')
  | _ => none
def bodyX (n : Nat) (x : MX) : GX := fun ds h => match x (startD n ds) h with
  | some (xn, _, h') => some (xn, h')
  | none => none
theorem rs_start {K : Kw} {H : Hp} {μ : List Addr} {N : List Str} {ds : List D} {vs : List V} (r : Rps K H μ ds vs) : Rs K H μ (startD N.length ds) (L2.start N vs) := by
  unfold startD L2.start
  rw [r.len]
  refine ⟨by simp [r.len], fun i d e => ?_⟩
  rw [List.getElem?_append] at e ⊢
  rw [List.length_map] at e
  rw [List.length_map, r.len]
  split at e
  · rename_i hi
    rw [if_pos hi]
    rw [List.getElem?_map] at e ⊢
    cases q : ds[i]? with
    | none => rw [q] at e; cases e
    | some d' =>
      rw [q] at e
      cases e
      obtain ⟨v, a, b⟩ := r.get q
      exact ⟨v, by rw [a]; rfl, b⟩
  · rename_i hi
    rw [List.getElem?_replicate] at e
    split at e <;> cases e
section
variable {P : Program} {w : World} {K : PySem.W.Frag} {KK : Kw} {mg : Str → Option Value} {base : Heap}
theorem body_ok {N : List Str} {X : Cx} {body : List Stmt} {t : TS} {ms : MS} {xs : MX} {vs : List V} {H : Hp} {Q : VK} {E : XK} {n : Nat} (d : DSsX KK mg X (fun cls d _ H => E cls d H) body t ms xs)
    (h : spX KK mg n (bodyM N.length ms) (bodyX N.length xs) vs H Q E) : t { nx := fun _ H' => Q .non H', rt := Q } (L2.start N vs) H := by
  obtain ⟨Φ, μ, ds, h0, S, r, _, ⟨dd, h', e, k⟩ | ⟨xn, h', e, k⟩⟩ := h
  · unfold bodyM at e
    split at e
    · rename_i sg' h1 e1
      cases e
      exact d.s _ H μ _ h0 _ _ S (rs_start r) e1 _ fun σ' H' μ' S' l' r' => k .non H' μ' S' l' rp_non
    · rename_i d1 h1 e1
      cases e
      exact d.s _ H μ _ h0 _ _ S (rs_start r) e1 _ k
    · cases e
  · unfold bodyX at e
    split at e
    · rename_i xn1 sg1 h1 e1
      cases e
      exact d.x _ H μ _ h0 _ _ _ S (rs_start r) e1 (fun σ' H' μ' cls dd S' l' _ rx => k H' μ' cls dd S' l' rx) _
    · cases e
theorem sp_len {n : Nat} {m : GC} {x : GX} {vs : List V} {H : Hp} {Q : VK} {E : XK} (h : spX KK mg n m x vs H Q E) : vs.length = n := by
  obtain ⟨Φ, μ, ds, h0, S, r, hl, _⟩ := h
  rw [r.len, hl]
/-- the wish of a body, and what passes through it -/
abbrev BdW (E : XK) : WX := fun cls d _ H => E cls d H
theorem fn_M {x qual : Str} {st : Stmt} {f : Addr} {fd : FuncData} {N ps : List Str} {k : Nat} {ms : MS} {xs : MX} (F : Fun K x qual st f fd) (S : FnScope N ps (defScope st))
    (hb : ∀ (cdv : Value) (A : Around) (outer : List Env) (s : Shared) (H : Hp) (E : XK), RoomG k (A.deeper (envOfC qual (defScope st) s.heap.objs.size f cdv)) →
      ∃ t, DSsX ⟨K, w⟩ mg (cxOf (L2.CX P w) P w K mg base N qual (defScope st) f cdv A outer s H E) (BdW E) (defBody st) t ms xs) : FnG P w K mg base (L2.CX P w) (k + 1) f fd ps (spX ⟨K, w⟩ mg ps.length (bodyM N.length ms) (bodyX N.length xs)) := by
  obtain ⟨oc, od, kV, doc, pm, an, cdv, ct, osl, rfl, lk, hcd⟩ := F.ex
  refine fng_of lk hcd S (fun vs H Q E h => sp_len h) fun A outer s H vs Q E hr h => ?_
  obtain ⟨t, d⟩ := hb cdv A outer s H E hr
  exact ⟨t, d.p (takes_of rfl rfl rfl rfl) (passes_of rfl), body_ok d h⟩
theorem fn_MD {x qual : Str} {pa : Arguments} {bd : List Stmt} {sc : Scope} {dvs : List V} {kws : List (Str × V)} {f : Addr} {fd : FuncData} {N ps : List Str} {k : Nat} {ms : MS} {xs : MX} (F : FunD K x qual pa bd sc dvs kws f fd) (S : FnScope N ps sc)
    (hb : ∀ (cdv : Value) (A : Around) (outer : List Env) (s : Shared) (H : Hp) (E : XK), RoomG k (A.deeper (envOfC qual sc s.heap.objs.size f cdv)) →
      ∃ t, DSsX ⟨K, w⟩ mg (cxOf (L2.CX P w) P w K mg base N qual sc f cdv A outer s H E) (BdW E) bd t ms xs) : FnG P w K mg base (L2.CX P w) (k + 1) f fd ps (spX ⟨K, w⟩ mg ps.length (bodyM N.length ms) (bodyX N.length xs)) := by
  obtain ⟨oc, od, dV, kV, doc, pm, an, cdv, ct, osl, rfl, lk, hcd, _, _⟩ := F.ex
  refine fng_of lk hcd S (fun vs H Q E h => sp_len h) fun A outer s H vs Q E hr h => ?_
  obtain ⟨t, d⟩ := hb cdv A outer s H E hr
  exact ⟨t, d.p (takes_of rfl rfl rfl rfl) (passes_of rfl), body_ok d h⟩
theorem fn_none {f : Addr} {fd : FuncData} {ps : List Str} {k n : Nat} : FnG P w K mg base (L2.CX P w) k f fd ps (spX ⟨K, w⟩ mg n (fun _ _ => none) noGX) :=
  ⟨fun vs H Q E h => (by
    obtain ⟨_, _, _, _, _, _, _, ⟨_, _, e, _⟩ | ⟨_, _, e, _⟩⟩ := h <;> cases e), fun A outer s H args us vs Q E _ _ _ _ h => (by
    obtain ⟨_, _, _, _, _, _, _, ⟨_, _, e, _⟩ | ⟨_, _, e, _⟩⟩ := h <;> cases e)⟩

/-- the def x keeps: called with n things it does what m says, or raises what xg says -/
structure CalM (P : Program) (w : World) (K : PySem.W.Frag) (mg : Str → Option Value) (base : Heap) (k : Nat) (x : Str) (n : Nat) (m : GC) (xg : GX) (dd : List D) : Prop where
  ex : ∃ (f : Addr) (fd : FuncData) (ps : List Str) (ds : List Value) (dvs : List V), FnG P w K mg base (L2.CX P w) k f fd ps (spX ⟨K, w⟩ mg n m xg) ∧ mg x = some (.ref f) ∧ PySem.W.keepIn K (.ref f) = true ∧ Binds K fd ps ds ∧ Vals dvs ds ∧ ∀ H μ, Rps ⟨K, w⟩ H μ dd dvs
theorem CalM.mono {j k : Nat} {x : Str} {n : Nat} {m : GC} {xg : GX} {dd : List D} (c : CalM P w K mg base j x n m xg dd) (h : j ≤ k) : CalM P w K mg base k x n m xg dd := by
  obtain ⟨f, fd, ps, ds, dvs, F, r⟩ := c.ex
  exact ⟨f, fd, ps, ds, dvs, F.mono h, r⟩
theorem rps_nil0 : ∀ H μ, Rps ⟨K, w⟩ H μ [] ([] : List V) := fun _ _ => Rps.nil
end
def callM (n : Nat) (m : GC) (dd : List D) (a : MA) : ME := fun sg h => match a sg h with
  | some (xs, h1) => if (xs ++ dd).length = n then m (xs ++ dd) h1 else none
  | none => none
def callX (n : Nat) (x : GX) (dd : List D) (a : MA) : MX := fun sg h => match a sg h with
  | some (xs, h1) => if (xs ++ dd).length = n then match x (xs ++ dd) h1 with
    | some (xn, h2) => some (xn, sg, h2)
    | none => none else none
  | none => none
def tcM (K : Kw) (mg : Str → Option Value) (n : Nat) (m : GC) (xg : GX) (dd : List D) (E : L2.St → XK) (ta : TA) : TE := fun σ H Q => ∀ dvs : List V, (∀ H μ, Rps K H μ dd dvs) → tCallSD (spX K mg n m xg) dvs E ta σ H Q
section
variable {P : Program} {w : World} {K : Kw} {mg : Str → Option Value} {base : Heap} {X : Cx} {pos p : Pos} {e : Expr} {es : List Expr} {ta : TA} {ma : MA} {x : Str} {n j k : Nat} {m : GC} {xg : GX} {dd : List D} {E : L2.St → XK} {W : WX}
theorem se_call (ha : SA K ta ma) : SE K (tcM K mg n m xg dd E ta) (callM n m dd ma) := by
  intro Φ σ H μ sg h d h' S rs e Q kk dvs hd
  unfold callM at e
  split at e
  · rename_i xs h1 e1
    split at e
    · rename_i hl
      exact ha σ H μ sg h xs h1 S rs e1 _ fun vs H1 μ1 S1 l1 r1 => ⟨Φ, μ1, xs ++ dd, h1, S1, r1.app (hd H1 μ1), hl, .inl ⟨d, h', e, fun v H2 μ2 S2 l2 r2 => kk v H2 μ2 S2 (l1.trans l2) r2⟩⟩
    · cases e
  · cases e
theorem xe_call (ha : SA K ta ma) : XEx K mg W (tcM K mg n m xg dd (WE W) ta) (callX n xg dd ma) := by
  intro Φ σ H μ sg h xn sg' h' S rs e kk Q dvs hd
  unfold callX at e
  split at e
  · rename_i xs h1 e1
    split at e
    · rename_i hl
      split at e
      · rename_i xn2 h2 e2
        cases e
        exact ha σ H μ sg h xs h1 S rs e1 _ fun vs H1 μ1 S1 l1 r1 => ⟨Φ, μ1, xs ++ dd, h1, S1, r1.app (hd H1 μ1), hl, .inr ⟨xn, h', e2, fun H2 μ2 cls d S2 l2 rx => kk σ H2 μ2 cls d S2 (l1.trans l2) (rs.mono (l1.trans l2)) rx⟩⟩
      · cases e
    · cases e
  · cases e
theorem de_call (c : CalM X.prog X.w K.f mg X.base j x n m xg dd) (hr : RoomG k X.A) (ha : DA K X (e :: es) ta ma) (hj : j ≤ k := by omega) (hmg : X.mg = mg := by rfl) (hg : Gl X x := by rfl)
    (hdb : (x == ("__debug__" : Str)) = false := by decide) (he : starEach (e :: es) X.env = (false, eval e X.env) :: starEach es X.env := by rfl) (hpl : (backTo pos (starEach es X.env)).any (·.1) = false := by rfl) :
    DE K X (.Call (.Name x p) (e :: es) [] pos) (tcM K mg n m xg dd (fun _ => E0) ta) (callM n m dd ma) := ⟨ha.k, by
  have hk := ha.k
  subst hk
  subst hmg
  obtain ⟨f, fd, ps, ds, dvs, F, h1, h2, h3, h4, h5⟩ := c.ex
  exact ⟨fun pins s σ H Q I q => (pe_callG F (hr.mono hj) hg h1 h2 h3 h4 (fun σ => passE0 σ) ha.p hdb he hpl).run pins s σ H Q I (q dvs h5)⟩, se_call ha.s⟩
theorem de_call0 (c : CalM X.prog X.w K.f mg X.base j x n m xg dd) (hr : RoomG k X.A) (hj : j ≤ k := by omega) (hmg : X.mg = mg := by rfl) (hg : Gl X x := by rfl)
    (hdb : (x == ("__debug__" : Str)) = false := by decide) (hK : KOf X = K := by rfl) :
    DE K X (.Call (.Name x p) [] [] pos) (tcM K mg n m xg dd (fun _ => E0) tNil) (callM n m dd nilM) := ⟨hK, by
  have hk := hK
  subst hk
  subst hmg
  obtain ⟨f, fd, ps, ds, dvs, F, h1, h2, h3, h4, h5⟩ := c.ex
  exact ⟨fun pins s σ H Q I q => (pe_callG0 F (hr.mono hj) hg h1 h2 h3 h4 (fun σ => passE0 σ) hdb).run pins s σ H Q I (q dvs h5)⟩, se_call (da_nil (X := X) hK).s⟩
theorem dx_call (c : CalM X.prog X.w K.f mg X.base j x n m xg dd) (hr : RoomG k X.A) (ha : DA K X (e :: es) ta ma) (hj : j ≤ k := by omega) (hmg : X.mg = mg := by rfl) (hg : Gl X x := by rfl)
    (hdb : (x == ("__debug__" : Str)) = false := by decide) (he : starEach (e :: es) X.env = (false, eval e X.env) :: starEach es X.env := by rfl) (hpl : (backTo pos (starEach es X.env)).any (·.1) = false := by rfl) :
    DEX K mg X W (.Call (.Name x p) (e :: es) [] pos) (tcM K mg n m xg dd (WE W) ta) (callM n m dd ma) (callX n xg dd ma) := ⟨ha.k, fun tk => by
  subst hmg
  have hk := ha.k
  subst hk
  obtain ⟨f, fd, ps, ds, dvs, F, h1, h2, h3, h4, h5⟩ := c.ex
  exact ⟨fun pins s σ H Q I q => (pe_callG F (hr.mono hj) hg h1 h2 h3 h4 (passAt tk) ha.p hdb he hpl).run pins s σ H Q I (q dvs h5)⟩, se_call ha.s, xe_call ha.s⟩
theorem dx_call0 (c : CalM X.prog X.w K.f mg X.base j x n m xg dd) (hr : RoomG k X.A) (hj : j ≤ k := by omega) (hmg : X.mg = mg := by rfl) (hg : Gl X x := by rfl)
    (hdb : (x == ("__debug__" : Str)) = false := by decide) (hK : KOf X = K := by rfl) :
    DEX K mg X W (.Call (.Name x p) [] [] pos) (tcM K mg n m xg dd (WE W) tNil) (callM n m dd nilM) (callX n xg dd nilM) := ⟨hK, fun tk => by
  subst hmg
  have hk := hK
  subst hk
  obtain ⟨f, fd, ps, ds, dvs, F, h1, h2, h3, h4, h5⟩ := c.ex
  exact ⟨fun pins s σ H Q I q => (pe_callG0 F (hr.mono hj) hg h1 h2 h3 h4 (passAt tk) hdb).run pins s σ H Q I (q dvs h5)⟩, se_call (da_nil (X := X) hK).s, xe_call (da_nil (X := X) hK).s⟩
end

/-! ### t[:0:-1], xs[::-1] -/
/-- the items from the last one down to the one behind the place hi -/
def backs {α : Type} (xs : List α) (hi : Option Int) : List α := match hi with
  | none => xs.reverse
  | some _ => (xs.drop 1).reverse
def TS3 := V → Option Int → Hp → VK → Prop
def rBackT (K : Kw) : V → Option Int → Hp → VK → Prop := fun x hi H Q => ∃ a xs, x = .ref a ∧ (hi = none ∨ hi = some 0) ∧ SqT K H a xs ∧ ∀ p, H p = none → Q (.ref p) (upd H p (.tup (backs xs hi)))
def rBackL (K : Kw) : V → Option Int → Hp → VK → Prop := fun x hi H Q => ∃ a xs, x = .ref a ∧ (hi = none ∨ hi = some 0) ∧ SqL K H a xs ∧ ∀ p, H p = none → Q (.ref p) (upd H p (.lst (backs xs hi)))
def tBack (r : V → Option Int → Hp → VK → Prop) (te : TE) (th : TO) (ts : TO) : TE := fun σ H Q => te σ H fun x H1 => th σ H1 fun u H2 => ts σ H2 fun st H3 => st = some (-1) ∧ r x u H3 Q
/-- x[:hi:-1] by values -/
def BkR (X : Cx) (r : V → Option Int → Hp → VK → Prop) : Prop :=
  ∀ (pins : List (Addr × Obj)) (s : Shared) (σ : L2.St) (H : Hp) (x : V) (v vu vs : Value) (hi : Option Int) (sl : Addr) (Q : VK), Inv X pins σ H s → RelV x v → s.heap.IsSliceOf sl .none vu vs → IsPart vu hi → IsPart vs (some (-1)) → r x hi H Q →
    ∃ T id, typeLookup (.type T) "__getitem__" = pure (some (.builtin id)) ∧ s.TypeIs v T ∧ wpAny (model X.prog X.w) X.A (getItem v (.ref sl)) (EP X pins σ Q) X.xe s
theorem pe_back {X : Cx} {e st : Expr} {hi : Option Expr} {p2 pos : Pos} {te : TE} {th ts : TO} {r : V → Option Int → Hp → VK → Prop} (hr : BkR X r) (he : PE X e te) (hu : PO X hi th) (hs : PO X (some st) ts) : PE X (.Subscript e (.Slice none hi (some st) p2) pos) (tBack r te th ts) := by
  refine ⟨fun pins s σ H Q I h => ?_⟩
  refine Subscript_ (thn (he.run pins s σ H _ I h) fun v s1 ⟨x, H1, I1, r1, q1⟩ => ?_)
  refine wpAny_Slice ?_
  rw [evalPart_none]
  refine wpAny_pure ?_
  refine thn (hu.run pins s1 σ H1 _ I1 q1) fun vu s3 ⟨u, H3, I3, pu, q3⟩ => ?_
  refine thn (hs.run pins s3 σ H3 _ I3 q3) fun vs s4 ⟨k, H4, I4, ps, ek, q4⟩ => ?_
  subst ek
  have I5 : Inv X pins σ H4 { s4 with heap := s4.heap.push { cls := .type "slice", data := .fields #[.none, vu, vs] } } := I4.kept (t' := s4.toks) fun b ob q => Heap.get?_push_of_some _ q
  obtain ⟨T, id, hT, ht, hg⟩ := hr pins { s4 with heap := s4.heap.push { cls := .type "slice", data := .fields #[.none, vu, vs] } } σ H4 x v vu vs u s4.heap.objs.size Q I5 r1 (Heap.IsSliceOf.new ..) pu ps q4
  show wpAny (model X.prog X.w) X.A (subscriptTail e (.Slice none hi (some st) p2) v (.ref s4.heap.objs.size)) (EP X pins σ Q) X.xe { s4 with heap := s4.heap.push { cls := .type "slice", data := .fields #[.none, vu, vs] } }
  exact tail_any (ops := [v, .ref s4.heap.objs.size]) ht hT hg (by with_unfolding_all rfl)
theorem fm_congr {α β : Type} {f g : α → Option β} : ∀ l : List α, (∀ x ∈ l, f x = g x) → l.filterMap f = l.filterMap g
  | [], _ => rfl
  | a :: l, h => by
    rw [List.filterMap_cons, List.filterMap_cons, h a List.mem_cons_self, fm_congr l fun x hx => h x (List.mem_cons_of_mem _ hx)]
theorem range_get (l : List Value) : ∀ n, (List.range n).filterMap (fun m => l[m]?) = l.take n
  | 0 => by simp
  | n + 1 => by
    rw [List.range_succ, List.filterMap_append, range_get l n, List.take_add_one]
    simp [List.filterMap_cons]
    cases l[n]? <;> simp
theorem backs_pick (l : List Value) (j : Nat) : (List.range (l.length - j)).filterMap (fun (m : Nat) => l.toArray[((l.length : Int) - 1 + (m : Int) * (-1)).toNat]?) = (l.drop j).reverse := by
  have e : (List.range (l.length - j)).filterMap (fun (m : Nat) => l.toArray[((l.length : Int) - 1 + (m : Int) * (-1)).toNat]?) = (List.range (l.length - j)).filterMap (fun m => l.reverse[m]?) := by
    refine fm_congr _ fun m hm => ?_
    have hm := List.mem_range.mp hm
    have h1 : ((l.length : Int) - 1 + (m : Int) * (-1)).toNat = l.length - 1 - m := by omega
    rw [h1, List.getElem?_toArray, List.getElem?_reverse (by omega)]
  rw [e, range_get]
  rw [List.reverse_drop]
theorem adjust_back {hi : Option Int} (h : hi = none ∨ hi = some 0) (n : Nat) : ∃ j : Nat, Builtin.Slice.sliceAdjust none hi (-1) (n : Int) = ((n : Int) - 1, (j : Int) - 1) ∧ Builtin.Slice.slicePlaces ((n : Int) - 1) ((j : Int) - 1) (-1) = n - j ∧ ∀ {α : Type} (xs : List α), xs.length = n → (xs.drop j).reverse = backs xs hi := by
  have h1 : ((-1 : Int) < 0) := by omega
  have pl : ∀ j : Nat, Builtin.Slice.slicePlaces ((n : Int) - 1) ((j : Int) - 1) (-1) = n - j := fun j => by
    unfold Builtin.Slice.slicePlaces
    have h2 : ¬ ((-1 : Int) > 0) := by omega
    simp only [h2, if_false]
    have h3 : (- (-1 : Int)) = 1 := by omega
    rw [h3, Int.ediv_one]
    split <;> omega
  rcases h with rfl | rfl
  · refine ⟨0, ?_, pl 0, fun xs _ => rfl⟩
    unfold Builtin.Slice.sliceAdjust
    simp only [h1, if_true]
    rfl
  · cases n with
    | zero =>
      refine ⟨0, ?_, pl 0, fun xs hx => ?_⟩
      · rfl
      · have : xs = [] := List.length_eq_zero_iff.mp hx
        subst this
        rfl
    | succ n =>
      refine ⟨1, ?_, pl 1, fun xs _ => rfl⟩
      unfold Builtin.Slice.sliceAdjust
      simp only [h1, if_true]
      have h2 : ¬ ((0 : Int) < 0) := by omega
      simp only [h2, if_false]
      refine Prod.ext rfl ?_
      show min (0 : Int) (((n + 1 : Nat) : Int) - 1) = ((1 : Nat) : Int) - 1
      omega
section
variable {prog : Program} {w : World} {A : Around} {E : Value → Shared → Prop} {s : Shared}
theorem sliceApplied_back {sl : Addr} {vu vs : Value} {hi : Option Int} {n j : Nat} {Q : Int × Int × Nat → Shared → Prop} (hs : s.heap.IsSliceOf sl .none vu vs) (pu : IsPart vu hi) (ps : IsPart vs (some (-1)))
    (ha : Builtin.Slice.sliceAdjust none hi (-1) (n : Int) = ((n : Int) - 1, (j : Int) - 1)) (hp : Builtin.Slice.slicePlaces ((n : Int) - 1) ((j : Int) - 1) (-1) = n - j)
    (h : Q ((n : Int) - 1, -1, n - j) s) : wpAny (model prog w) A (Builtin.Slice.sliceApplied (.ref sl) (pure (n : Int))) Q E s := by
  obtain ⟨os, hos, hcs, hds⟩ := id hs
  unfold Builtin.Slice.sliceApplied Builtin.Slice.sliceFields
  refine wpAny_bind (wpAny_bind (wpAny_field hos hds (x := .none) rfl (wpAny_bind (wpAny_field hos hds (x := vu) rfl (wpAny_bind (wpAny_field hos hds (x := vs) rfl (wpAny_pure ?_)))))))
  refine wpAny_bind (HT.slicePart_ ps ?_)
  show wpAny _ _ (if ((-1 : Int) == 0) = true then _ else _) _ _ s
  rw [if_neg (by decide)]
  refine wpAny_bind (HT.slicePart_ .none (wpAny_bind (HT.slicePart_ pu (wpAny_bind (wpAny_pure ?_)))))
  show wpAny _ _ (match Builtin.Slice.sliceAdjust none hi (-1) (n : Int) with | (lo, hi) => pure (lo, (-1 : Int), Builtin.Slice.slicePlaces lo hi (-1))) _ _ s
  rw [ha]
  show wpAny _ _ (pure ((n : Int) - 1, (-1 : Int), Builtin.Slice.slicePlaces ((n : Int) - 1) ((j : Int) - 1) (-1))) _ _ s
  rw [hp]
  exact wpAny_pure h
theorem getItem_tuple_back {t sl : Addr} {items : List Value} {vu vs : Value} {hi : Option Int} {Q : Value → Shared → Prop} (ht : IsTup s.heap t items.toArray) (hs : s.heap.IsSliceOf sl .none vu vs) (pu : IsPart vu hi) (ps : IsPart vs (some (-1))) (hh : hi = none ∨ hi = some 0)
    (h : Q (.ref s.heap.objs.size) { s with heap := s.heap.push { cls := .type "tuple", data := .seq (backs items hi).toArray } })
    (hsz : items.length ≤ sizeLine) : wpAny (model prog w) A (getItem (.ref t) (.ref sl)) Q E s := by
  obtain ⟨j, ha, hp, hb⟩ := adjust_back hh items.length
  have hb := hb items rfl
  have htake : sizeOk (.seq (backs items hi).toArray) := by
    show (backs items hi).toArray.size ≤ sizeLine
    rw [← hb, List.size_toArray, List.length_reverse, List.length_drop]
    omega
  obtain ⟨os, hos, hcs, hds⟩ := id hs
  have hTs : s.TypeIs (.ref sl) "slice" := ⟨os, hos, hcs⟩
  unfold getItem
  try with_reducible refine wpAny_holding ?_
  first | refine wpAny_bind (wpAny_pure ?_) | skip
  refine wpAny_bind (wpAny_sequenceKey ht.typeIs (by decide) ?_)
  refine wpAny_bind (wpAny_callSpecial?_slot (name := Str.ofString "__getitem__") ht.typeIs PyProof.Rows.slot_tuple_getitem
    (wpAny_call_entry PyProof.Rows.slot_tuple_getitem ht.typeIs entry_tuple_getitem ?_ (args_tuple_getitem _ _)))
  show wpAny _ _ (Builtin.Tuple.tupleItemsOf (.ref t) >>= _) _ _ s
  refine wpAny_bind (tupleItemsOf_ ht ?_)
  refine wpAny_bind (wpAny_typeOf hTs ?_)
  rw [if_pos (by decide)]
  rw [List.size_toArray]
  refine wpAny_bind (sliceApplied_back hs pu ps ha hp ?_)
  show wpAny _ _ (if (((items.length : Int) - 1) == 0 && (-1 : Int) == 1 && (items.length - j) == items.length) = true then _ else _) _ _ s
  rw [if_neg (by
    intro q
    rw [Bool.and_eq_true, Bool.and_eq_true] at q
    exact absurd q.1.2 (by decide)), backs_pick, hb]
  first
    | exact wpAny_bind (m := Builtin.Tuple.tupleExact _) (wpAny_newObj_type (wpAny_pure ⟨_, rfl, wpAny_pure h⟩) htake)
    | exact wpAny_bind (m := Builtin.Tuple.tupleExact _) (wpAny_newObj_type (wpAny_bind (wpAny_pure (wpAny_pure ⟨_, rfl, wpAny_pure h⟩))) htake)
    | exact wpAny_bind (wpAny_bind (m := Builtin.Tuple.tupleExact _) (wpAny_newObj_type (wpAny_pure (wpAny_pure ⟨_, rfl, wpAny_pure h⟩)) htake))
    | exact wpAny_bind (wpAny_bind (m := Builtin.Tuple.tupleExact _) (wpAny_newObj_type (wpAny_pure ⟨_, rfl, wpAny_pure h⟩) htake))
end
section
variable {X : Cx} {K : Kw}
theorem vals_backs {hi : Option Int} {xs : List V} {us : List Value} (r : Vals xs us) : Vals (backs xs hi) (backs us hi) := by
  cases hi with
  | none => exact Vals.reverse r
  | some i => exact Vals.reverse (r.drop 1)
theorem backs_length {α : Type} (xs : List α) (hi : Option Int) : (backs xs hi).length ≤ xs.length := by
  cases hi <;> simp [backs]
theorem bk_tup : BkR X (rBackT (KOf X)) := by
  intro pins s σ H x v vu vs hi sl Q I rx hs pu ps h
  obtain ⟨a, xs, rfl, hh, hx, q⟩ := h
  cases rx
  obtain ⟨its, r, ht, hz⟩ := I.tuple hx
  refine ⟨"tuple", _, PyProof.Rows.slot_tuple_getitem.lookup, ht.typeIs, ?_⟩
  refine getItem_tuple_back ht hs pu ps hh ?_ (by rw [← r.length]; exact hz)
  refine ⟨.ref s.heap.objs.size, _, I.laid (t' := s.toks) (o := .tup (backs xs hi)) (fun b ob q => Heap.get?_push_of_some _ q) (Nat.le_refl _) ?_, rfl, q _ (I.hok.fresh (Nat.le_refl _))⟩
  exact ⟨Nat.le_trans (backs_length xs hi) hz, _, vals_backs r, IsTup.new _ _⟩
theorem bk_list : BkR X (fun x hi H Q => hi = none ∧ rBackL (KOf X) x hi H Q) := by
  intro pins s σ H x v vu vs hi sl Q I rx hs pu ps h
  obtain ⟨rfl, a, xs, rfl, hh, hx, q⟩ := h
  cases rx
  obtain ⟨its, r, ht, hz⟩ := I.list hx
  have hlen := r.length
  refine ⟨"list", _, slot_list_getitem.lookup, ht.isList.typeIs, ?_⟩
  refine wpAny_getItem_list_slice ht.isList hs .none pu ps (by simp) ?_ (by rw [List.size_toArray] <;> omega)
  rw [PySem.W.krv_pick]
  refine ⟨.ref s.heap.objs.size, _, I.laid (t' := s.toks) (o := .lst (backs xs none)) (fun b ob q => Heap.get?_push_of_some _ q) (Nat.le_refl _) ?_, rfl, q _ (I.hok.fresh (Nat.le_refl _))⟩
  exact ⟨Nat.le_trans (backs_length xs none) hz, _, 0, Vals.reverse r, Heap.get?_push_size _ rfl⟩
def rBackU (K : Kw) : V → Option Int → Hp → VK → Prop := fun x hi H Q => rBackT K x hi H Q ∨ (hi = none ∧ rBackL K x hi H Q)
theorem bk_U (hK : KOf X = K := by rfl) : BkR X (rBackU K) := by
  subst hK
  intro pins s σ H x v vu vs hi sl Q I rx hs pu ps h
  rcases h with h | h
  · exact bk_tup pins s σ H x v vu vs hi sl Q I rx hs pu ps h
  · exact bk_list pins s σ H x v vu vs hi sl Q I rx hs pu ps h
def backD (x : D) (hi : Option Int) (h : Hd) : Option (D × Hd) := match x with
  | .tup xs => match hi with
    | none => some (.tup (backs xs none), h)
    | some i => if i = 0 then some (.tup (backs xs (some 0)), h) else none
  | .rol xs => match hi with
    | none => some (.at h.length, h ++ [.lst xs.reverse])
    | some _ => none
  | .at n => match hi with
    | none => match h[n]? with
      | some (.lst xs) => some (.at h.length, h ++ [.lst xs.reverse])
      | _ => none
    | some _ => none
  | _ => none
def backM (a : ME) (hi st : MO) : ME := fun sg h => match a sg h with
  | some (x, h1) => match hi sg h1 with
    | some (u, h2) => match st sg h2 with
      | some (some k, h3) => if k = -1 then backD x u h3 else none
      | _ => none
    | none => none
  | none => none
theorem rps_backs {H : Hp} {μ : List Addr} {ds : List D} {vs : List V} (r : Rps K H μ ds vs) (hi : Option Int) : Rps K H μ (backs ds hi) (backs vs hi) := by
  cases hi with
  | none => exact r.rev
  | some i => exact (r.drop 1).rev
theorem de_back {a : Expr} {ta : TE} {ma : ME} {hi : Option Expr} {st : Expr} {th ts : TO} {mh ms : MO} {p2 pos : Pos} (ha : DE K X a ta ma) (hh : DO K X hi th mh) (hs : DO K X (some st) ts ms) : DE K X (.Subscript a (.Slice none hi (some st) p2) pos) (tBack (rBackU K) ta th ts) (backM ma mh ms) := ⟨ha.k, pe_back (bk_U ha.k) ha.p hh.p hs.p, by
  intro Φ σ H μ sg h d h' S rs e Q k
  unfold backM at e
  split at e
  · rename_i x h1 e1
    split at e
    · rename_i u h2 e2
      split at e
      · rename_i kk h3 e3
        split at e
        · rename_i hk
          subst hk
          refine ha.s σ H μ sg h x h1 S rs e1 _ fun v H1 μ1 S1 l1 r1 => ?_
          refine hh.s σ H1 μ1 sg h1 u h2 S1 (rs.mono l1) e2 _ fun H2 μ2 S2 l2 => ?_
          refine hs.s σ H2 μ2 sg h2 _ h3 S2 (rs.mono (l1.trans l2)) e3 _ fun H3 μ3 S3 l3 => ⟨rfl, ?_⟩
          have r3 := Rp.mono (l2.trans l3) _ _ r1
          have k3 : Kn Φ K H3 μ3 h' d Q := fun v H' μ' S' l' r' => k v H' μ' S' (((l1.trans l2).trans l3).trans l') r'
          unfold backD at e
          split at e
          · obtain ⟨p, vs, rfl, c1, c2⟩ := rp_tup' r3
            split at e
            · cases e
              exact .inl ⟨p, vs, rfl, .inl rfl, c1, fun q hq => kn_tup S3 (rps_backs c2 none) k3 q hq⟩
            · split at e
              · rename_i hi0
                subst hi0
                cases e
                exact .inl ⟨p, vs, rfl, .inr rfl, c1, fun q hq => kn_tup S3 (rps_backs c2 (some 0)) k3 q hq⟩
              · cases e
          · obtain ⟨p, vs, rfl, c1, c2⟩ := rp_rol' r3
            split at e
            · cases e
              exact .inr ⟨rfl, p, vs, rfl, .inl rfl, c1.l, fun q hq => kn_lst S3 (rps_backs c2 none) k3 q hq⟩
            · cases e
          · obtain ⟨p, ep, rfl⟩ := rp_at' r3
            split at e
            · split at e
              · rename_i xs q
                cases e
                obtain ⟨vs, c1, c2⟩ := S3.lst q ep
                exact .inr ⟨rfl, p, vs, rfl, .inl rfl, .of c1, fun q hq => kn_lst S3 (rps_backs c2 none) k3 q hq⟩
              · cases e
            · cases e
          · cases e
        · cases e
      · cases e
    · cases e
  · cases e⟩
end
/-! ### x += e of ints -/
def addID : G2 := fun x y h => match x, y with
  | .int i, .int j => some (.int (i + j), h)
  | _, _ => none
theorem so_addI {K : Kw} : SO K (rI0 fun i j => .int (i + j)) addID := by
  intro Φ H μ h x y v w d h' S r1 r2 e Q k
  unfold addID at e
  split at e
  · cases e
    exact ⟨_, _, rp_int' r1, rp_int' r2, k _ H μ S Le.refl rp_int⟩
  · cases e

/-! ### what the top has left of a def -/
structure Got (K : PySem.W.Frag) (mg : Str → Option Value) (x : Str) (st : Stmt) (ps : List Str) : Prop where
  ex : ∃ (f : Addr) (fd : FuncData), Fun K x x st f fd ∧ mg x = some (.ref f) ∧ Binds K fd ps []
theorem Got.cal {P : Program} {w : World} {K : PySem.W.Frag} {mg : Str → Option Value} {base : Heap} {k : Nat} {x : Str} {st : Stmt} {ps N : List Str} {ms : MS} {xs : MX} (g : Got K mg x st ps) (S : FnScope N ps (defScope st))
    (hb : ∀ (f : Addr) (cdv : Value) (A : Around) (outer : List Env) (s : Shared) (H : Hp) (E : XK), RoomG k (A.deeper (envOfC x (defScope st) s.heap.objs.size f cdv)) →
      ∃ t, DSsX ⟨K, w⟩ mg (cxOf (L2.CX P w) P w K mg base N x (defScope st) f cdv A outer s H E) (BdW E) (defBody st) t ms xs) : CalM P w K mg base (k + 1) x ps.length (bodyM N.length ms) (bodyX N.length xs) [] := by
  obtain ⟨f, fd, F, hm, hb0⟩ := g.ex
  exact ⟨f, fd, ps, [], [], fn_M F S (fun cdv A outer s H E hr => hb f cdv A outer s H E hr), hm, F.kp, hb0, .nil, fun _ _ => Rps.nil⟩
theorem Got.none {P : Program} {w : World} {K : PySem.W.Frag} {mg : Str → Option Value} {base : Heap} {k n : Nat} {x : Str} {st : Stmt} {ps : List Str} (g : Got K mg x st ps) : CalM P w K mg base k x n (fun _ _ => none) noGX [] := by
  obtain ⟨f, fd, F, hm, hb0⟩ := g.ex
  exact ⟨f, fd, ps, [], [], fn_none, hm, F.kp, hb0, .nil, fun _ _ => Rps.nil⟩
/-- one with defaults -/
structure GotD (K : PySem.W.Frag) (mg : Str → Option Value) (x : Str) (st : Stmt) (ps : List Str) (dvs : List V) : Prop where
  ex : ∃ (f : Addr) (fd : FuncData), FunD K x x (defArgs st) (defBody st) (defScope st) dvs [] f fd ∧ mg x = some (.ref f) ∧ Binds K fd ps [] ∧ ∃ ds, Vals dvs ds ∧ Binds K fd ps ds
theorem GotD.cal {P : Program} {w : World} {K : PySem.W.Frag} {mg : Str → Option Value} {base : Heap} {k : Nat} {x : Str} {st : Stmt} {ps N : List Str} {dvs : List V} {ms : MS} {xs : MX} (g : GotD K mg x st ps dvs) (S : FnScope N ps (defScope st))
    (hb : ∀ (f : Addr) (cdv : Value) (A : Around) (outer : List Env) (s : Shared) (H : Hp) (E : XK), RoomG k (A.deeper (envOfC x (defScope st) s.heap.objs.size f cdv)) →
      ∃ t, DSsX ⟨K, w⟩ mg (cxOf (L2.CX P w) P w K mg base N x (defScope st) f cdv A outer s H E) (BdW E) (defBody st) t ms xs) : CalM P w K mg base (k + 1) x ps.length (bodyM N.length ms) (bodyX N.length xs) [] := by
  obtain ⟨f, fd, F, hm, hb0, ds, h1, h2⟩ := g.ex
  exact ⟨f, fd, ps, [], [], fn_MD F S (fun cdv A outer s H E hr => hb f cdv A outer s H E hr), hm, F.kp, hb0, .nil, fun _ _ => Rps.nil⟩
theorem GotD.cald {P : Program} {w : World} {K : PySem.W.Frag} {mg : Str → Option Value} {base : Heap} {k : Nat} {x : Str} {st : Stmt} {ps N : List Str} {dvs : List V} {dd : List D} {ms : MS} {xs : MX} (g : GotD K mg x st ps dvs) (hd : ∀ H μ, Rps ⟨K, w⟩ H μ dd dvs) (S : FnScope N ps (defScope st))
    (hb : ∀ (f : Addr) (cdv : Value) (A : Around) (outer : List Env) (s : Shared) (H : Hp) (E : XK), RoomG k (A.deeper (envOfC x (defScope st) s.heap.objs.size f cdv)) →
      ∃ t, DSsX ⟨K, w⟩ mg (cxOf (L2.CX P w) P w K mg base N x (defScope st) f cdv A outer s H E) (BdW E) (defBody st) t ms xs) : CalM P w K mg base (k + 1) x ps.length (bodyM N.length ms) (bodyX N.length xs) dd := by
  obtain ⟨f, fd, F, hm, hb0, ds, h1, h2⟩ := g.ex
  exact ⟨f, fd, ps, ds, dvs, fn_MD F S (fun cdv A outer s H E hr => hb f cdv A outer s H E hr), hm, F.kp, h2, h1, hd⟩

/-! ### the end -/
theorem law_end {K : Kw} {mg : Str → Option Value} {m : GC} {x : GX} {H : Hp} {a : Addr} {ns : List Int} (hm : ∃ h', m [.rol (ns.map D.int)] [] = some (.bl true, h')) (hO : L2.Only H) (hS : SqL K H a (ns.map V.int)) :
    spX K mg 1 m x [.ref a] H (fun v _ => v = .bl true) fun _ _ _ => False := by
  obtain ⟨h', hm⟩ := hm
  have hF : SqF K H a (ns.map V.int) := by
    rcases hS with (h | h) | h
    · rcases hO a with q | ⟨o, xs, q⟩ <;> rw [q] at h <;> cases h
    · exact .inl h
    · exact .inr h
  have rI : ∀ ns : List Int, Rps K H [] (ns.map D.int) (ns.map V.int) := by
    intro ns
    induction ns with
    | nil => exact Rps.nil
    | cons n ns ih => exact Rps.cons rp_int ih
  refine ⟨fun _ => none, [], [.rol (ns.map D.int)], [], ⟨rfl, fun n m a e => by simp at e, fun n o e => by simp at e, fun a o e => by cases e⟩, ?_, rfl, .inl ⟨.bl true, h', hm, fun v H' μ' _ _ r => rp_bl' r⟩⟩
  refine Rps.cons ?_ Rps.nil
  unfold Rp
  exact ⟨a, _, rfl, hF, rI ns⟩
/-- the law's call, where the promise wants no repr that runs (as the hand layer's law_call) -/
theorem law_callG {P : Program} {w : World} {K : PySem.W.Frag} {mg mb : Str → Option Value} {CX : CXT} {k : Nat} {fa a : Addr} {fd : FuncData} {x : Str} {sp : Sp} {s₁ : Shared} {vs : List Value} {ns : List Int}
    (KX : K.In s₁.heap) (hns : s₁.heap.Ns mainGlobals mg) (hb : s₁.heap.Ns builtinsNs mb) (hbb : ∀ x : Str, x ≠ "__name__" → mb x = bootBuiltins x) (hlim : s₁.heap.NoLimit) (hg : s₁.gens = #[])
    (ha : s₁.heap.get? a = some { cls := .type "list", data := .seq vs.toArray }) (hi : IntsAre vs ns) (hl : ns.length ≤ sizeLine) (hr : Room k callerA)
    (F : ∀ base : Heap, K.In base → base.Ns mainGlobals mg → FnG P w K mg base CX k fa fd [x] sp) (hbind : ∀ (s : Shared) (u : Value), BindsTo s fd ⟨[u], []⟩ [(x, u)])
    (hsp : ∀ H : Hp, L2.Only H → SqL K H a (ns.map V.int) → sp [.ref a] H (fun v _ => v = .bl true) fun _ _ _ => False)
    (hCX : ∀ H e s', CX [] H s₁ (fun _ _ _ => False) e s' → False) :
    codeAny (model P w) callerA (.call (.ref fa) ⟨[.ref a], []⟩) (fun r s' => r = .ok (.ret (.bool true)) ∧ OldK s₁.heap s'.heap ∧ s'.os = s₁.os ∧ AllBare s'.gens) s₁ := by
  have rv := vals_ints hi
  have lenV := hi.length
  -- from an abstract heap in which nothing but the script may be tracked
  have core : ∀ H : Hp, L2.Only H → SqL K H a (ns.map V.int) → HOk P w H s₁.heap → (∀ b, H b ≠ none → b = a) → (H a ≠ none → K.lookup a = none) →
      codeAny (model P w) callerA (.call (.ref fa) ⟨[.ref a], []⟩) (fun r s' => r = .ok (.ret (.bool true)) ∧ OldK s₁.heap s'.heap ∧ s'.os = s₁.os ∧ AllBare s'.gens) s₁ := by
    intro H hO hS hok hA hK
    have base_of : ∀ {b : Addr} {o : Obj}, s₁.heap.get? b = some o → H b = none → (hidT s₁.heap H).get? b = some o := fun e n => hidT_get e n
    have noA : ∀ {b : Addr} {o : Obj} {es : Array DictEntry} {ep : Nat}, s₁.heap.get? b = some o → o.data = .dict es ep → H b = none := fun {b o es ep} e d => by
      cases q : H b with
      | none => rfl
      | some u =>
        have e' : b = a := hA b (by rw [q]; simp)
        subst e'
        rw [ha] at e; cases e
        have d' : Data.seq vs.toArray _ = Data.dict es ep := d
        cases d'
    have nsK : ∀ {b : Addr} {m : Str → Option Value}, s₁.heap.Ns b m → (hidT s₁.heap H).Ns b m := fun {b m} ⟨o, es, ep, e, d, r⟩ => ⟨o, es, ep, base_of e (noA e d), d, r⟩
    have hKb : K.In (hidT s₁.heap H) := fun b o e => base_of (KX b o e) (by
      cases q : H b with
      | none => rfl
      | some u =>
        have e' : b = a := hA b (by rw [q]; simp)
        subst e'
        rw [hK (by rw [q]; simp)] at e; cases e)
    have hM : Mod K mg (hidT s₁.heap H) := ⟨hKb, nsK hns, ⟨mb, nsK hb, hbb⟩, let ⟨mc, h1, h2⟩ := hlim; ⟨mc, nsK h1, h2⟩⟩
    have e0 : Env0 P w K mg (hidT s₁.heap H) callerA [] s₁ H := ⟨rfl, hM, fun b o e => of_hidT e, Nat.le_of_eq (hidT_size _ _), trivial, fun b hb => absurd (show b ∈ ([] : List Addr) from hb) (by simp), hok, .of_eq hg⟩
    refine codeAny_mono ((F _ hKb (nsK hns)).run callerA [] s₁ H ⟨[.ref a], []⟩ [.ref a] [.ref a] _ _ ⟨hr, rfl⟩ e0 (hbind s₁ (.ref a)) (.cons rfl .nil) (hsp H hO hS)) fun r s' h => ?_
    cases r with
    | error e => exact (hCX H e s' h).elim
    | ok fl =>
      cases fl with
      | next => exact False.elim h
      | brk => exact False.elim h
      | cont => exact False.elim h
      | ret u =>
        obtain ⟨v, H', os, bare, un, hok', r', q⟩ := h
        have q' : v = .bl true := q
        subst q'
        obtain rfl : u = Value.bool true := r'
        refine ⟨rfl, OldK.of_keep fun b o e => ?_, os, bare⟩
        cases q : H b with
        | none => exact un.keep b o e q (by intro z; exact absurd (show b ∈ ([] : List Addr) from z) (by simp)) (by simp)
        | some u =>
          rcases hO b with z | ⟨ob, xs, z⟩
          · rw [q] at z; cases z
          · have z2 := un.frzs b ob _ z
            obtain ⟨e1, _⟩ := hok b _ z
            obtain ⟨e2, _⟩ := hok' b _ z2
            rw [e] at e1; cases e1
            exact e2
  cases hk : K.lookup a with
  | some o =>
    -- the script is one of the module's own objects
    have e := KX a o hk
    rw [ha] at e
    cases e
    refine core (fun _ => none) (fun _ => .inl rfl) (.inr ⟨_, vs.toArray, _, hk, rfl, rfl, rfl, by rw [List.size_toArray, lenV]; exact hl, by simpa using rv⟩) (fun b u z => by have z' : (none : Option HO) = some u := z; cases z') (fun b z => absurd rfl z) fun z => absurd rfl z
  | none =>
    refine core (fun b => if b = a then some (.frz { cls := .type "list", data := .seq vs.toArray } (.lst (ns.map V.int))) else none) (fun b => ?_) (.inl (.inr ⟨{ cls := .type "list", data := .seq vs.toArray }, if_pos rfl⟩)) (fun b u z => ?_) (fun b z => ?_) fun _ => hk
    · by_cases hb : b = a
      · exact .inr ⟨_, _, if_pos hb⟩
      · exact .inl (if_neg hb)
    · by_cases hb : b = a
      · have z' := (if_pos hb).symm.trans z
        cases z'
        subst hb
        exact ⟨ha, by rw [List.length_map]; exact hl, vs, _, rv, ha⟩
      · have z' := (if_neg hb).symm.trans z
        cases z'
    · by_cases hb : b = a
      · exact hb
      · exact absurd (if_neg hb) z
/-- the end, as the hand layer's walk_of -/
theorem walk_G {l : PySem.W.OpenLaw} {n k : Nat} {q : Program} {loose : List Str} {XP : (Str → Option Value) → Heap → Prop} {YP : World → Heap → Prop} {d : DefRec} {K : Params → PySem.W.Frag} {CX : World → CXT} {sp : World → Sp} {x : Str}
    (hn : l.most = some n) (hn2 : n ≤ sizeLine) (hdf : d.params.defaults = []) (hr : Room k callerA)
    (hY : ∀ (w : World) (h : Heap), YP w h → (K w.params).In h)
    (F : ∀ (w : World) (mg : Str → Option Value) (fa : Addr) (h : Heap), (K w.params).In h → h.Ns mainGlobals mg → mg d.name = some (.ref fa) →
      ∃ fd : FuncData, (∀ (s : Shared) (u : Value), BindsTo s fd ⟨[u], []⟩ [(x, u)]) ∧
        ∀ base : Heap, (K w.params).In base → base.Ns mainGlobals mg → FnG l.prog w (K w.params) mg base (CX w) k fa fd [x] (sp w))
    (hsp : ∀ (w : World) (H : Hp) (a : Addr) (ns : List Int), ns.length ≤ n → L2.Only H → SqL (K w.params) H a (ns.map V.int) → sp w [.ref a] H (fun v _ => v = .bl true) fun _ _ _ => False)
    (hCX : ∀ (w : World) (H : Hp) (s : Shared) (e : Value) (s' : Shared), CX w [] H s (fun _ _ _ => False) e s' → False) :
    PySem.W.WalkO q loose XP YP l.row.toRowW d [] (fun f vs => PySem.call f vs) := by
  refine Att.attach_call hn hdf fun w s₀ s₁ mg mb fa o pm cd doc a vs ns G Y ho hd hcd hmg hobj hints hlen hg => ?_
  have KX := hY w _ Y
  obtain ⟨fd, hb, hF⟩ := F w mg fa _ KX G.T.g hmg
  exact law_callG KX G.T.g G.T.b G.T.builtins G.T.nolimit hg hobj hints (Nat.le_trans hlen hn2) hr hF hb (fun H hO hS => hsp w H a ns hlen hO hS) fun H e s' => hCX w H s₁ e s'
end DL

/-! DL8: three assigned at once, is None, constants of the module. -/
namespace DL
open PySem L2 PySem.Spec PyProof.Rows
theorem rps3 {K : Kw} {H : Hp} {μ : List Addr} {d e f : D} {vs : List V} (r : Rps K H μ [d, e, f] vs) : ∃ v w u, vs = [v, w, u] ∧ Rp K H μ d v ∧ Rp K H μ e w ∧ Rp K H μ f u := by
  obtain ⟨v, vs', rfl, a, b⟩ := r.cons'
  obtain ⟨w, u, rfl, c, d⟩ := rps2 b
  exact ⟨v, w, u, rfl, a, c, d⟩
def par3M (i j l : Nat) (a : MA) : MS := fun sg h => match a sg h with
  | some ([x, y, z], h1) => some (.nx (((sg.set i (some x)).set j (some y)).set l (some z)), h1)
  | _ => none
section
variable {K : Kw} {X : Cx} {pos : Pos}
theorem ds_par3 (i j l : Nat) {x y z : Str} {a b c : Expr} {ta : TA} {ma : MA} {px py pz pt : Pos} {kt k2 pt2} (d : DA K X [a, b, c] ta ma) (hN : X.N.Nodup) (hi : X.N[i]? = some x := by rfl) (hj : X.N[j]? = some y := by rfl) (hl : X.N[l]? = some z := by rfl) (hij : i ≠ j := by decide) (hil : i ≠ l := by decide) (hjl : j ≠ l := by decide)
    (hx : X.env.scope.names.lookup x = some .local := by rfl) (hy : X.env.scope.names.lookup y = some .local := by rfl) (hz : X.env.scope.names.lookup z = some .local := by rfl)
    (hw : swappedStores [.Tuple [.Name x px, .Name y py, .Name z pz] kt pt] (.Tuple [a, b, c] k2 pt2) X.env = pure (some [x, y, z]) := by rfl)
    (hs : swapsWithSole [.Tuple [.Name x px, .Name y py, .Name z pz] kt pt] (.Tuple [a, b, c] k2 pt2) pos.line X.env = pure false := by rfl) (hc : X.calm = true := by rfl) :
    DS K X (.Assign [.Tuple [.Name x px, .Name y py, .Name z pz] kt pt] (.Tuple [a, b, c] k2 pt2) pos) (tPar3 i j l ta) (par3M i j l ma) := ⟨d.k, ps_par3 hc hN hi hj hl hij hil hjl hx hy hz d.p hw hs, by
  intro Φ σ H μ sg h f h' S rs e E k
  unfold par3M at e
  split at e
  · rename_i x y z h1 e1
    cases e
    refine d.s σ H μ sg h _ _ S rs e1 _ fun vs H1 μ1 S1 l1 r1 => ?_
    obtain ⟨v, w, u, rfl, r2, r3, r4⟩ := rps3 r1
    exact ⟨v, w, u, rfl, k _ H1 μ1 S1 l1 ((((rs.mono l1).put i r2).put j r3).put l r4)⟩
  · cases e⟩
/-- x is None, x is not None -/
def isNonD : D → Bool
  | .non => true
  | _ => false
def isD : G2 := fun x y h => match y with
  | .non => some (.bl (isNonD x), h)
  | _ => none
def isntD : G2 := fun x y h => match y with
  | .non => some (.bl (!isNonD x), h)
  | _ => none
def rIsNo : R2 := fun x y H Q => y = .non ∧ Q (.bl (decide (x = .non))) H
def rIsntNo : R2 := fun x y H Q => y = .non ∧ Q (.bl (!decide (x = .non))) H
theorem is_non {H : Hp} {μ : List Addr} {x : D} {v : V} (r : Rp K H μ x v) : decide (v = .non) = isNonD x := by
  cases x with
  | non => rw [rp_non' r]; rfl
  | bl b => rw [rp_bl' r]; rfl
  | int b => rw [rp_int' r]; rfl
  | str b => rw [rp_str' r]; rfl
  | ty b => rw [rp_ty' r]; rfl
  | tup b => obtain ⟨p, vs, rfl, _⟩ := rp_tup' r; rfl
  | rol b => obtain ⟨p, vs, rfl, _⟩ := rp_rol' r; rfl
  | «at» b => obtain ⟨p, _, rfl⟩ := rp_at' r; rfl
  | ad a => rw [rp_ad' r]; rfl
theorem so_is : SO K rIsNo isD := by
  intro Φ H μ h x y v w d h' S r1 r2 e Q k
  unfold isD at e
  split at e
  · cases e
    exact ⟨rp_non' r2, by rw [is_non r1]; exact k _ H μ S Le.refl rp_bl⟩
  · cases e
theorem so_isnt : SO K rIsntNo isntD := by
  intro Φ H μ h x y v w d h' S r1 r2 e Q k
  unfold isntD at e
  split at e
  · cases e
    exact ⟨rp_non' r2, by rw [is_non r1]; exact k _ H μ S Le.refl rp_bl⟩
  · cases e
theorem op_is0 : OpR X (compareOp .Is) rIsNo := op_isN
theorem op_isnt0 : OpR X (compareOp .IsNot) rIsntNo := op_notN
/-- a constant of the module: what the name holds -/
structure Kst (K : Kw) (mg : Str → Option Value) (x : Str) (d : D) : Prop where
  ex : ∃ (u : Value) (v : V), mg x = some u ∧ RelV v u ∧ ∀ H μ, Rp K H μ d v
def tKst (K : Kw) (d : D) : TE := fun _ H Q => ∀ v : V, (∀ H μ, Rp K H μ d v) → Q v H
theorem Kst.de {x : Str} {d : D} (c : Kst K X.mg x d) (hK : KOf X = K := by rfl) (hg : Gl X x := by rfl) (hd : (x == ("__debug__" : Str)) = false := by decide) : DE K X (.Name x pos) (tKst K d) (cM d) := ⟨hK, by
  obtain ⟨u, v, h1, h2, h3⟩ := c.ex
  exact ⟨fun pins s σ H Q I q => (pe_glob hg h1 h2 hd).run pins s σ H Q I (q v h3)⟩, by
  intro Φ σ H μ sg h d h' S rs e Q k
  cases e
  exact fun v hv => k v H μ S Le.refl (hv H μ)⟩
theorem Kst.int {mg : Str → Option Value} {x : Str} {i : Int} (h : ∃ t, mg x = some (.int i t)) : Kst K mg x (.int i) := by
  obtain ⟨t, h⟩ := h
  exact ⟨_, .int i, h, ⟨t, rfl⟩, fun _ _ => rp_int⟩
theorem Kst.str {mg : Str → Option Value} {x : Str} {i : Str} (h : ∃ t, mg x = some (.str i t)) : Kst K mg x (.str i) := by
  obtain ⟨t, h⟩ := h
  exact ⟨_, .str i, h, ⟨t, rfl⟩, fun _ _ => rp_str⟩
end
end DL

namespace DL
open PySem L2
/-! ### what a run gives, told from its end -/
def Ev {α : Type} (r : Option (α × Hd)) (Q : α → Hd → Prop) : Prop := ∃ d h', r = some (d, h') ∧ Q d h'
def Rt {α : Type} (r : Option (α × Hd)) (d : α) (P : Hd → Prop) : Prop := ∃ h', r = some (d, h') ∧ P h'
section
variable {α : Type} {r : Option (α × Hd)} {Q : α → Hd → Prop} {d : α} {h h' : Hd} {P : Hd → Prop}
theorem ev_eq (e : r = some (d, h')) (q : Q d h') : Ev r Q := ⟨d, h', e, q⟩
theorem ev_of (a : Rt r d P) (q : ∀ h', P h' → Q d h') : Ev r Q := by
  obtain ⟨h', e, p⟩ := a
  exact ⟨d, h', e, q h' p⟩
theorem rt_of (a : Ev r fun d' h' => d' = d ∧ P h') : Rt r d P := by
  obtain ⟨d', h', e, rfl, p⟩ := a
  exact ⟨h', e, p⟩
theorem Ev.mono {R : α → Hd → Prop} (a : Ev r Q) (k : ∀ d h', Q d h' → R d h') : Ev r R := by
  obtain ⟨d', h', e, p⟩ := a
  exact ⟨d', h', e, k _ _ p⟩
theorem Rt.mono {R : Hd → Prop} (a : Rt r d P) (k : ∀ h', P h' → R h') : Rt r d R := by
  obtain ⟨h', e, p⟩ := a
  exact ⟨h', e, k _ p⟩
def Br (t : Bool) (A B : Prop) : Prop := (t = true → A) ∧ (t = false → B)
theorem br {t : Bool} {A B : Prop} (a : t = true → A) (b : t = false → B) : Br t A B := ⟨a, b⟩
theorem br_t {t : Bool} {A B : Prop} (e : t = true) (a : A) : Br t A B := ⟨fun _ => a, fun f => by rw [e] at f; cases f⟩
theorem br_f {t : Bool} {A B : Prop} (e : t = false) (b : B) : Br t A B := ⟨fun f => (by rw [e] at f; cases f), fun _ => b⟩
def TrK (h : Hd) (x : D) (A : Bool → Prop) : Prop := ∃ t, truD h x = some t ∧ A t
def BlK (x : D) (A : Bool → Prop) : Prop := ∃ t, x = .bl t ∧ A t
def ItK (x : D) (A : Int → Prop) : Prop := ∃ t, x = .int t ∧ A t
def P2K (xs : List D) (A : D → D → Prop) : Prop := ∃ x y, xs = [x, y] ∧ A x y
def P3K (xs : List D) (A : D → D → D → Prop) : Prop := ∃ x y z, xs = [x, y, z] ∧ A x y z
def M1K (k : Option Int) (A : Prop) : Prop := k = some (-1) ∧ A
def KdK (T : String) (h : Hd) (x : D) (A : Prop) : Prop := kindD T h x = true ∧ A
theorem tr_bl {h : Hd} {b : Bool} {A : Bool → Prop} (q : A b) : TrK h (.bl b) A := ⟨b, rfl, q⟩
theorem tr_int {h : Hd} {i : Int} {A : Bool → Prop} (q : A (i != 0)) : TrK h (.int i) A := ⟨_, rfl, q⟩
theorem tr_tup {h : Hd} {xs : List D} {A : Bool → Prop} (q : A (!xs.isEmpty)) : TrK h (.tup xs) A := ⟨_, rfl, q⟩
theorem tr_non {h : Hd} {A : Bool → Prop} (q : A false) : TrK h .non A := ⟨_, rfl, q⟩
theorem tr_str {h : Hd} {s : Str} {A : Bool → Prop} (l : s.length ≤ LN) (q : A ((s.length : Int) != 0)) : TrK h (.str s) A := ⟨_, by simp only [truD, if_pos l], q⟩
theorem tr_lst {h : Hd} {n : Nat} {xs : List D} {A : Bool → Prop} (e : h[n]? = some (.lst xs)) (q : A (!xs.isEmpty)) : TrK h (.at n) A := ⟨_, by simp only [truD, e], q⟩
theorem tr_dct {h : Hd} {n : Nat} {xs : List (Key × D)} {A : Bool → Prop} (e : h[n]? = some (.dct xs)) (q : A (!xs.isEmpty)) : TrK h (.at n) A := ⟨_, by simp only [truD, e], q⟩
theorem blk {b : Bool} {A : Bool → Prop} (q : A b) : BlK (.bl b) A := ⟨b, rfl, q⟩
theorem itk {b : Int} {A : Int → Prop} (q : A b) : ItK (.int b) A := ⟨b, rfl, q⟩
theorem p2k {x y : D} {A : D → D → Prop} (q : A x y) : P2K [x, y] A := ⟨x, y, rfl, q⟩
theorem p3k {x y z : D} {A : D → D → D → Prop} (q : A x y z) : P3K [x, y, z] A := ⟨x, y, z, rfl, q⟩
theorem m1k {A : Prop} (q : A) : M1K (some (-1)) A := ⟨rfl, q⟩
theorem kd_lst {h : Hd} {n : Nat} {ws : List D} {A : Prop} (e : h[n]? = some (.lst ws)) (q : A) : KdK "list" h (.at n) A := ⟨by
  unfold kindD
  simp [e], q⟩
theorem br_tt {A B : Prop} (a : A) : Br true A B := br_t rfl a
theorem br_ff {A B : Prop} (b : B) : Br false A B := br_f rfl b
end
section
variable {sg : Sg} {h : Hd} {Q : D → Hd → Prop} {a b c : ME} {g g' : G2}
theorem ev_var {i : Nat} {d : D} (e : sg[i]? = some (some d)) (q : Q d h) : Ev (varM i sg h) Q := ⟨d, h, by simp only [varM, e], q⟩
theorem ev_c {d : D} (q : Q d h) : Ev (cM d sg h) Q := ⟨d, h, rfl, q⟩
theorem ev_op (q : Ev (a sg h) fun x h1 => Ev (b sg h1) fun y h2 => Ev (g x y h2) Q) : Ev (opM g a b sg h) Q := by
  obtain ⟨x, h1, e1, y, h2, e2, d, h3, e3, q⟩ := q
  exact ⟨d, h3, by simp only [opM, e1, e2, e3], q⟩
theorem ev_chain (q : Ev (a sg h) fun x h1 => Ev (b sg h1) fun y h2 => Ev (g x y h2) fun d h3 => BlK d fun t => Br t (Ev (c sg h3) fun z h4 => Ev (g' y z h4) Q) (Q (.bl false) h3)) : Ev (chainM g g' a b c sg h) Q := by
  obtain ⟨x, h1, e1, y, h2, e2, d, h3, e3, t, rfl, q1, q2⟩ := q
  cases t with
  | true =>
    obtain ⟨z, h4, e4, d, h5, e5, q⟩ := q1 rfl
    exact ⟨d, h5, by simp only [chainM, e1, e2, e3, e4, e5], q⟩
  | false => exact ⟨_, _, by simp only [chainM, e1, e2, e3], q2 rfl⟩
theorem ev_neg (q : Ev (a sg h) fun x h1 => ItK x fun i => Q (.int (-i)) h1) : Ev (negM a sg h) Q := by
  obtain ⟨x, h1, e1, i, rfl, q⟩ := q
  exact ⟨_, h1, by simp only [negM, e1], q⟩
theorem ev_and (q : Ev (a sg h) fun x h1 => TrK h1 x fun t => Br t (Ev (b sg h1) Q) (Q x h1)) : Ev (DL.andM a b sg h) Q := by
  obtain ⟨x, h1, e1, t, e2, q1, q2⟩ := q
  cases t with
  | true =>
    obtain ⟨d, h2, e3, q⟩ := q1 rfl
    exact ⟨d, h2, by simp only [DL.andM, e1, e2, e3], q⟩
  | false => exact ⟨x, h1, by simp only [DL.andM, e1, e2], q2 rfl⟩
theorem ev_or (q : Ev (a sg h) fun x h1 => TrK h1 x fun t => Br t (Q x h1) (Ev (b sg h1) Q)) : Ev (DL.orM a b sg h) Q := by
  obtain ⟨x, h1, e1, t, e2, q1, q2⟩ := q
  cases t with
  | false =>
    obtain ⟨d, h2, e3, q⟩ := q2 rfl
    exact ⟨d, h2, by simp only [DL.orM, e1, e2, e3], q⟩
  | true => exact ⟨x, h1, by simp only [DL.orM, e1, e2], q1 rfl⟩
theorem ev_not (q : Ev (a sg h) fun x h1 => TrK h1 x fun t => Q (.bl (!t)) h1) : Ev (DL.notM a sg h) Q := by
  obtain ⟨x, h1, e1, t, e2, q⟩ := q
  exact ⟨_, h1, by simp only [DL.notM, e1, e2], q⟩
theorem ev_ifE {t : MT} (q : Ev (t sg h) fun b0 h1 => Br b0 (Ev (a sg h1) Q) (Ev (b sg h1) Q)) : Ev (ifM t a b sg h) Q := by
  obtain ⟨x, h1, e1, q1, q2⟩ := q
  cases x with
  | true =>
    obtain ⟨d, h2, e3, q⟩ := q1 rfl
    exact ⟨d, h2, by simp only [ifM, e1, e3], q⟩
  | false =>
    obtain ⟨d, h2, e3, q⟩ := q2 rfl
    exact ⟨d, h2, by simp only [ifM, e1, e3], q⟩
end
section
variable {sg : Sg} {h : Hd} {Q : Bool → Hd → Prop} {a : ME} {s t : MT}
theorem ev_test (q : Ev (a sg h) fun x h1 => BlK x fun b => Q b h1) : Ev (testM a sg h) Q := by
  obtain ⟨x, h1, e1, b, rfl, q⟩ := q
  exact ⟨b, h1, by simp only [testM, e1], q⟩
theorem ev_tru (q : Ev (a sg h) fun x h1 => TrK h1 x fun b => Q b h1) : Ev (truM a sg h) Q := by
  obtain ⟨x, h1, e1, b, e2, q⟩ := q
  exact ⟨b, h1, by simp only [truM, e1, e2], q⟩
theorem ev_tand (q : Ev (s sg h) fun b h1 => Br b (Ev (t sg h1) Q) (Q false h1)) : Ev (tandM s t sg h) Q := by
  obtain ⟨x, h1, e1, q1, q2⟩ := q
  cases x with
  | true =>
    obtain ⟨d, h2, e3, q⟩ := q1 rfl
    exact ⟨d, h2, by simp only [tandM, e1, e3], q⟩
  | false => exact ⟨false, h1, by simp only [tandM, e1], q2 rfl⟩
theorem ev_tor (q : Ev (s sg h) fun b h1 => Br b (Q true h1) (Ev (t sg h1) Q)) : Ev (torM s t sg h) Q := by
  obtain ⟨x, h1, e1, q1, q2⟩ := q
  cases x with
  | false =>
    obtain ⟨d, h2, e3, q⟩ := q2 rfl
    exact ⟨d, h2, by simp only [torM, e1, e3], q⟩
  | true => exact ⟨true, h1, by simp only [torM, e1], q1 rfl⟩
theorem ev_tnot (q : Ev (s sg h) fun b h1 => Q (!b) h1) : Ev (tnotM s sg h) Q := by
  obtain ⟨x, h1, e1, q⟩ := q
  exact ⟨_, h1, by simp only [tnotM, e1], q⟩
theorem ev_yes (q : Q true h) : Ev (yesM sg h) Q := ⟨_, _, rfl, q⟩
end
section
variable {sg : Sg} {h : Hd} {Q : List D → Hd → Prop} {a : ME} {b : MA}
theorem ev_nil (q : Q [] h) : Ev (nilM sg h) Q := ⟨_, _, rfl, q⟩
theorem ev_cons (q : Ev (a sg h) fun x h1 => Ev (b sg h1) fun xs h2 => Q (x :: xs) h2) : Ev (consM a b sg h) Q := by
  obtain ⟨x, h1, e1, xs, h2, e2, q⟩ := q
  exact ⟨_, _, by simp only [consM, e1, e2], q⟩
end
section
variable {sg : Sg} {h : Hd} {Q : D → Hd → Prop} {a o : ME} {b : MA} {lo hi st : MO} {g : GC} {gm : GM}
def LnK (n : Nat) (A : Prop) : Prop := n ≤ LN ∧ A
theorem ln_k {n : Nat} {A : Prop} (e : n ≤ LN) (q : A) : LnK n A := ⟨e, q⟩
theorem ev_tup (q : Ev (b sg h) fun xs h1 => LnK xs.length (Q (.tup xs) h1)) : Ev (tupM b sg h) Q := by
  obtain ⟨xs, h1, e1, l, q⟩ := q
  exact ⟨_, h1, by simp only [tupM, e1, if_pos l], q⟩
theorem ev_lst (q : Ev (b sg h) fun xs h1 => LnK xs.length (Q (.at h1.length) (h1 ++ [.lst xs]))) : Ev (lstM b sg h) Q := by
  obtain ⟨xs, h1, e1, l, q⟩ := q
  exact ⟨_, _, by simp only [lstM, e1, if_pos l], q⟩
theorem ev_dnew (q : Q (.at h.length) (h ++ [.dct []])) : Ev (dnewM sg h) Q := ⟨_, _, rfl, q⟩
theorem ev_cb (q : Ev (b sg h) fun xs h1 => Ev (g xs h1) Q) : Ev (cbM g b sg h) Q := by
  obtain ⟨xs, h1, e1, d, h2, e2, q⟩ := q
  exact ⟨_, _, by simp only [cbM, e1, e2], q⟩
theorem ev_bm {T : String} (q : Ev (o sg h) fun x h1 => KdK T h1 x <| Ev (b sg h1) fun xs h2 => Ev (gm x xs h2) Q) : Ev (bmM T gm o b sg h) Q := by
  obtain ⟨x, h1, e1, k, xs, h2, e2, d, h3, e3, q⟩ := q
  exact ⟨_, _, by simp only [bmM, e1, if_pos k, e2, e3], q⟩
theorem ev_no {Q : Option Int → Hd → Prop} (q : Q none h) : Ev (noM sg h) Q := ⟨_, _, rfl, q⟩
theorem ev_part {Q : Option Int → Hd → Prop} (q : Ev (a sg h) fun x h1 => ItK x fun i => Q (some i) h1) : Ev (partM a sg h) Q := by
  obtain ⟨x, h1, e1, i, rfl, q⟩ := q
  exact ⟨_, h1, by simp only [partM, e1], q⟩
theorem ev_sl (q : Ev (a sg h) fun x h1 => Ev (lo sg h1) fun l h2 => Ev (hi sg h2) fun u h3 => Ev (sliceD x l u h3) Q) : Ev (slM a lo hi sg h) Q := by
  obtain ⟨x, h1, e1, l, h2, e2, u, h3, e3, d, h4, e4, q⟩ := q
  exact ⟨_, _, by simp only [slM, e1, e2, e3, e4], q⟩
theorem ev_back (q : Ev (a sg h) fun x h1 => Ev (hi sg h1) fun u h2 => Ev (st sg h2) fun k h3 => M1K k <| Ev (backD x u h3) Q) : Ev (backM a hi st sg h) Q := by
  obtain ⟨x, h1, e1, l, h2, e2, u, h3, e3, rfl, d, h4, e4, q⟩ := q
  exact ⟨_, _, by simp only [backM, e1, e2, e3, if_true, e4], q⟩
def ClK (n : Nat) (m : GC) (xs : List D) (h : Hd) (Q : D → Hd → Prop) : Prop := xs.length = n ∧ Ev (m xs h) Q
theorem cl_k {n : Nat} {m : GC} {xs : List D} (e : xs.length = n) (q : Ev (m xs h) Q) : ClK n m xs h Q := ⟨e, q⟩
theorem ev_call {n : Nat} {m : GC} {dd : List D} (q : Ev (b sg h) fun xs h1 => ClK n m (xs ++ dd) h1 Q) : Ev (callM n m dd b sg h) Q := by
  obtain ⟨xs, h1, e1, l, d, h2, e2, q⟩ := q
  exact ⟨_, _, by simp only [callM, e1, if_pos l, e2], q⟩
end
section
variable {sg : Sg} {h : Hd} {Q : Fl → Hd → Prop} {a o i : ME} {m n : MS} {g : MG} {t : MT}
theorem ev_pass (q : Q (.nx sg) h) : Ev (passM sg h) Q := ⟨_, _, rfl, q⟩
theorem ev_brk (q : Q (.bk sg) h) : Ev (brkM sg h) Q := ⟨_, _, rfl, q⟩
theorem ev_cnt (q : Q (.ct sg) h) : Ev (cntM sg h) Q := ⟨_, _, rfl, q⟩
theorem ev_expr (q : Ev (a sg h) fun _ h1 => Q (.nx sg) h1) : Ev (exprM a sg h) Q := by
  obtain ⟨x, h1, e1, q⟩ := q
  exact ⟨_, _, by simp only [exprM, e1], q⟩
theorem ev_ret (q : Ev (a sg h) fun d h1 => Q (.rt d) h1) : Ev (retM a sg h) Q := by
  obtain ⟨x, h1, e1, q⟩ := q
  exact ⟨_, _, by simp only [retM, e1], q⟩
theorem ev_asg (q : Ev (a sg h) fun d h1 => Ev (g d sg h1) fun sg' h2 => Q (.nx sg') h2) : Ev (asgM a g sg h) Q := by
  obtain ⟨x, h1, e1, sg', h2, e2, q⟩ := q
  exact ⟨_, _, by simp only [asgM, e1, e2], q⟩
def SqK (n : MS) (Q : Fl → Hd → Prop) : Fl → Hd → Prop
  | .nx sg, h => Ev (n sg h) Q
  | f, h => Q f h
theorem sq_nx (q : Ev (n sg h) Q) : SqK n Q (.nx sg) h := q
theorem sq_rt {d : D} (q : Q (.rt d) h) : SqK n Q (.rt d) h := q
theorem sq_bk (q : Q (.bk sg) h) : SqK n Q (.bk sg) h := q
theorem sq_ct (q : Q (.ct sg) h) : SqK n Q (.ct sg) h := q
theorem ev_seq (q : Ev (m sg h) fun f h1 => SqK n Q f h1) : Ev (seqM m n sg h) Q := by
  obtain ⟨f, h1, e1, q⟩ := q
  cases f with
  | nx sg1 =>
    obtain ⟨f2, h2, e2, q⟩ := q
    exact ⟨_, _, by simp only [seqM, e1, e2], q⟩
  | rt d => exact ⟨_, _, by simp only [seqM, e1], q⟩
  | bk d => exact ⟨_, _, by simp only [seqM, e1], q⟩
  | ct d => exact ⟨_, _, by simp only [seqM, e1], q⟩
theorem ev_ifS (q : Ev (t sg h) fun b0 h1 => Br b0 (Ev (m sg h1) Q) (Ev (n sg h1) Q)) : Ev (ifSM t m n sg h) Q := by
  obtain ⟨x, h1, e1, q1, q2⟩ := q
  cases x with
  | true =>
    obtain ⟨d, h2, e3, q⟩ := q1 rfl
    exact ⟨d, h2, by simp only [ifSM, e1, e3], q⟩
  | false =>
    obtain ⟨d, h2, e3, q⟩ := q2 rfl
    exact ⟨d, h2, by simp only [ifSM, e1, e3], q⟩
theorem ev_aug {i : Nat} {g : G2} {x : D} (e : sg[i]? = some (some x)) (q : Ev (a sg h) fun y h1 => Ev (g x y h1) fun z h2 => Q (.nx (sg.set i (some z))) h2) : Ev (augM i g a sg h) Q := by
  obtain ⟨y, h1, e1, z, h2, e2, q⟩ := q
  exact ⟨_, _, by simp only [augM, e, e1, e2], q⟩
theorem ev_par {i j : Nat} {b : MA} (q : Ev (b sg h) fun xs h1 => P2K xs fun x y => Q (.nx ((sg.set i (some x)).set j (some y))) h1) : Ev (parM i j b sg h) Q := by
  obtain ⟨xs, h1, e1, x, y, rfl, q⟩ := q
  exact ⟨_, _, by simp only [parM, e1], q⟩
theorem ev_par3 {i j l : Nat} {b : MA} (q : Ev (b sg h) fun xs h1 => P3K xs fun x y z => Q (.nx (((sg.set i (some x)).set j (some y)).set l (some z))) h1) : Ev (par3M i j l b sg h) Q := by
  obtain ⟨xs, h1, e1, x, y, z, rfl, q⟩ := q
  exact ⟨_, _, by simp only [par3M, e1], q⟩
theorem ev_setL {v : ME} {Q : Fl → Hd → Prop} (q : Ev (v sg h) fun z h1 => Ev (o sg h1) fun x h2 => Ev (i sg h2) fun y h3 => ∃ n xs j p, x = .at n ∧ h3[n]? = some (.lst xs) ∧ y = .int j ∧ ixN xs.length j = some p ∧ Q (.nx sg) (h3.set n (.lst (xs.set p z)))) : Ev (setD o i v sg h) Q := by
  obtain ⟨z, h1, e1, x, h2, e2, y, h3, e3, n, xs, j, p, rfl, e4, rfl, e5, q⟩ := q
  exact ⟨_, _, by simp only [setD, e1, e2, e3, e4, e5], q⟩
theorem ev_setK {v : ME} {Q : Fl → Hd → Prop} (q : Ev (v sg h) fun z h1 => Ev (o sg h1) fun x h2 => Ev (i sg h2) fun y h3 => ∃ n kvs k, x = .at n ∧ h3[n]? = some (.dct kvs) ∧ keyD y = some k ∧ kvs.length < LN ∧ Q (.nx sg) (h3.set n (.dct (putD kvs k z)))) : Ev (setD o i v sg h) Q := by
  obtain ⟨z, h1, e1, x, h2, e2, y, h3, e3, n, kvs, k, rfl, e4, e5, l, q⟩ := q
  exact ⟨_, _, by simp only [setD, e1, e2, e3, e4, e5, if_pos l], q⟩
theorem ev_get2 {a b : ME} {Q : D → Hd → Prop} (q : Ev (o sg h) fun x h1 => ∃ n, x = .at n ∧ isDct h1 (.at n) = true ∧ Ev (a sg h1) fun y h2 => Ev (b sg h2) fun z h3 => ∃ kvs k, h3[n]? = some (.dct kvs) ∧ keyD y = some k ∧ Q ((valD kvs k).getD z) h3) : Ev (getD2 o a b sg h) Q := by
  obtain ⟨x, h1, e1, n, rfl, k0, y, h2, e2, z, h3, e3, kvs, k, e4, e5, q⟩ := q
  exact ⟨_, _, by simp only [getD2, e1, if_pos k0, e2, e3, e4, e5], q⟩
end
section
variable {sg : Sg} {h : Hd} {Q : Sg → Hd → Prop}
theorem ev_name {i : Nat} {d : D} (q : Q (sg.set i (some d)) h) : Ev (nameG i d sg h) Q := ⟨_, _, rfl, q⟩
theorem ev_nilG (q : Q sg h) : Ev (nilG [] sg h) Q := ⟨_, _, rfl, q⟩
theorem ev_consG {a : MG} {b : MGs} {d : D} {ds : List D} (q : Ev (a d sg h) fun sg1 h1 => Ev (b ds sg1 h1) Q) : Ev (consG a b (d :: ds) sg h) Q := by
  obtain ⟨sg1, h1, e1, sg2, h2, e2, q⟩ := q
  exact ⟨_, _, by simp only [consG, e1, e2], q⟩
theorem ev_tupG {n : Nat} {a : MGs} {xs : List D} (l : xs.length = n) (q : Ev (a xs sg h) Q) : Ev (tupG n a (.tup xs) sg h) Q := by
  obtain ⟨sg1, h1, e1, q⟩ := q
  exact ⟨_, _, by simp only [tupG, if_pos l, e1], q⟩
end
section
variable {h : Hd} {Q : D → Hd → Prop} {ms : MS} {n : Nat} {ds : List D}
def BdK (Q : D → Hd → Prop) : Fl → Hd → Prop
  | .nx _, h => Q .non h
  | .rt d, h => Q d h
  | _, _ => False
theorem bd_nx {sg : Sg} (q : Q .non h) : BdK Q (.nx sg) h := q
theorem bd_rt {d : D} (q : Q d h) : BdK Q (.rt d) h := q
theorem ev_body (q : Ev (ms (startD n ds) h) (BdK Q)) : Ev (bodyM n ms ds h) Q := by
  obtain ⟨f, h1, e1, q⟩ := q
  cases f with
  | nx sg => exact ⟨_, _, by simp only [bodyM, e1], q⟩
  | rt d => exact ⟨_, _, by simp only [bodyM, e1], q⟩
  | bk sg => exact q.elim
  | ct sg => exact q.elim
end
/-! ### sources -/
section
variable {sg : Sg} {h : Hd} {Q : Src → Hd → Prop} {a : ME} {b : MA}
def sqS (x : D) (h : Hd) : Option (Src × Hd) := match x with
  | .tup xs => some (.fix xs, h)
  | .rol xs => some (.fix xs, h)
  | .at n => match h[n]? with
    | some (.lst _) => some (.obj n, h)
    | _ => none
  | .str s => some (.fix (s.cps.toList.map fun c => .str ⟨⟨[c]⟩⟩), h)
  | _ => none
theorem ev_seqI (q : Ev (a sg h) fun x h1 => Ev (sqS x h1) Q) : Ev (seqI a sg h) Q := by
  obtain ⟨x, h1, e1, s, h2, e2, q⟩ := q
  refine ⟨s, h2, ?_, q⟩
  rw [← e2]
  simp only [seqI, e1, sqS]
  cases x <;> rfl
theorem ev_rngI (q : Ev (b sg h) fun xs h1 => ∃ j, xs = [.int j] ∧ (-(2 ^ 62) ≤ j ∧ j < 2 ^ 62) ∧ Q (rngD 0 j.toNat) h1) : Ev (rngI b sg h) Q := by
  obtain ⟨xs, h1, e1, j, rfl, c, q⟩ := q
  exact ⟨_, _, by simp only [rngI, e1, if_pos c], q⟩
theorem ev_enuI (q : Ev (b sg h) fun xs h1 => ∃ n ys, xs = [.at n] ∧ h1[n]? = some (.lst ys) ∧ Q (.enu [] (some n)) h1) : Ev (enuI b sg h) Q := by
  obtain ⟨xs, h1, e1, n, ys, rfl, e2, q⟩ := q
  exact ⟨_, _, by simp only [enuI, e1, e2], q⟩
end
/-! ### loops -/
def LpK (Q : Fl → Hd → Prop) (I : Sg → Hd → Prop) : Fl → Hd → Prop
  | .nx sg, h => I sg h
  | .ct sg, h => I sg h
  | .bk sg, h => Q (.nx sg) h
  | .rt d, h => Q (.rt d) h
theorem lp_nx {Q : Fl → Hd → Prop} {I : Sg → Hd → Prop} {sg : Sg} {h : Hd} (q : I sg h) : LpK Q I (.nx sg) h := q
theorem lp_ct {Q : Fl → Hd → Prop} {I : Sg → Hd → Prop} {sg : Sg} {h : Hd} (q : I sg h) : LpK Q I (.ct sg) h := q
theorem lp_bk {Q : Fl → Hd → Prop} {I : Sg → Hd → Prop} {sg : Sg} {h : Hd} (q : Q (.nx sg) h) : LpK Q I (.bk sg) h := q
theorem lp_rt {Q : Fl → Hd → Prop} {I : Sg → Hd → Prop} {d : D} {h : Hd} (q : Q (.rt d) h) : LpK Q I (.rt d) h := q
theorem ev_while {c : MT} {b : MS} {Q : Fl → Hd → Prop} (I : Nat → Sg → Hd → Prop)
    (step : ∀ n sg h, I n sg h → Ev (c sg h) fun t h1 => Br t (Ev (b sg h1) (LpK Q fun sg2 h2 => ∃ m, m < n ∧ I m sg2 h2)) (Q (.nx sg) h1)) :
    ∀ (N n : Nat) (sg : Sg) (h : Hd), I n sg h → n < N → Ev (whileM c b N sg h) Q
  | 0, n, sg, h, i, l => by omega
  | N + 1, n, sg, h, i, l => by
    obtain ⟨t, h1, e1, q1, q2⟩ := step n sg h i
    cases t with
    | false => exact ⟨_, _, by simp only [whileM, e1], q2 rfl⟩
    | true =>
      obtain ⟨f, h2, e2, q⟩ := q1 rfl
      cases f with
      | nx sg2 =>
        obtain ⟨m, hm, i2⟩ := q
        obtain ⟨f3, h3, e3, q3⟩ := ev_while I step N m sg2 h2 i2 (by omega)
        exact ⟨_, _, by simp only [whileM, e1, e2, e3], q3⟩
      | ct sg2 =>
        obtain ⟨m, hm, i2⟩ := q
        obtain ⟨f3, h3, e3, q3⟩ := ev_while I step N m sg2 h2 i2 (by omega)
        exact ⟨_, _, by simp only [whileM, e1, e2, e3], q3⟩
      | bk sg2 => exact ⟨_, _, by simp only [whileM, e1, e2], q⟩
      | rt d => exact ⟨_, _, by simp only [whileM, e1, e2], q⟩
/-- what a source yields, for as long as I holds -/
def Yields (s : Src) (xs : List D) (h : Hd) : Prop := ∀ i, s.nxt h i = some xs[i]?
theorem yl_fix {xs : List D} {h : Hd} : Yields (.fix xs) xs h := fun i => rfl
theorem yl_obj {xs : List D} {n : Nat} {h : Hd} (e : h[n]? = some (.lst xs)) : Yields (.obj n) xs h := fun i => by simp only [Src.nxt, e]
def enuL (xs : List D) : List D := xs.mapIdx fun i d => .tup [.int (i : Nat), d]
theorem yl_enu {xs : List D} {n : Nat} {h : Hd} (e : h[n]? = some (.lst xs)) : Yields (.enu [] (some n)) (enuL xs) h := fun i => by
  simp only [Src.nxt, e, enuL, List.getElem?_mapIdx]
theorem ev_forM {s : Src} {g : MG} {b : MS} {Q : Fl → Hd → Prop} {xs : List D} (I : List D → Sg → Hd → Prop)
    (hy : ∀ as sg h, I as sg h → Yields s xs h)
    (step : ∀ as x bs sg h, xs = as ++ x :: bs → I as sg h → Ev (g x sg h) fun sg1 h1 => Ev (b sg1 h1) (LpK Q (I (as ++ [x]))))
    (fin : ∀ sg h, I xs sg h → Q (.nx sg) h) :
    ∀ (N : Nat) (as bs : List D) (sg : Sg) (h : Hd), xs = as ++ bs → I as sg h → bs.length < N → Ev (forM s g b N as.length sg h) Q
  | 0, as, bs, sg, h, e, i, l => by omega
  | N + 1, as, [], sg, h, e, i, l => by
    have hn := hy as sg h i as.length
    rw [List.append_nil] at e
    subst e
    rw [List.getElem?_eq_none (Nat.le_refl _)] at hn
    exact ⟨_, _, by simp only [forM, hn], fin _ _ i⟩
  | N + 1, as, x :: bs, sg, h, e, i, l => by
    have hn := hy as sg h i as.length
    have hx : xs[as.length]? = some x := by
      rw [e]
      simp
    rw [hx] at hn
    obtain ⟨sg1, h1, e1, f, h2, e2, q⟩ := step as x bs sg h e i
    have e' : xs = (as ++ [x]) ++ bs := by simp [e]
    have hlen : (as ++ [x]).length = as.length + 1 := by simp
    simp only [List.length_cons] at l
    cases f with
    | nx sg2 =>
      have ih := ev_forM I hy step fin N (as ++ [x]) bs sg2 h2 e' q (by omega)
      rw [hlen] at ih
      obtain ⟨f3, h3, e3, q3⟩ := ih
      exact ⟨_, _, by simp only [forM, hn, e1, e2, e3], q3⟩
    | ct sg2 =>
      have ih := ev_forM I hy step fin N (as ++ [x]) bs sg2 h2 e' q (by omega)
      rw [hlen] at ih
      obtain ⟨f3, h3, e3, q3⟩ := ih
      exact ⟨_, _, by simp only [forM, hn, e1, e2, e3], q3⟩
    | bk sg2 => exact ⟨_, _, by simp only [forM, hn, e1, e2], q⟩
    | rt d => exact ⟨_, _, by simp only [forM, hn, e1, e2], q⟩
theorem ev_forS {it : MI} {g : MG} {b : MS} {N : Nat} {sg : Sg} {h : Hd} {Q : Fl → Hd → Prop} (q : Ev (it sg h) fun s h1 => Ev (forM s g b N 0 sg h1) Q) : Ev (forSM it g b N sg h) Q := by
  obtain ⟨s, h1, e1, f, h2, e2, q⟩ := q
  exact ⟨_, _, by simp only [forSM, e1, e2], q⟩
theorem ev_for {s : Src} {g : MG} {b : MS} {Q : Fl → Hd → Prop} {xs : List D} {N : Nat} {sg : Sg} {h : Hd} (I : List D → Sg → Hd → Prop) (i : I [] sg h) (l : xs.length < N)
    (hy : ∀ as sg h, I as sg h → Yields s xs h)
    (step : ∀ as x bs sg h, xs = as ++ x :: bs → I as sg h → Ev (g x sg h) fun sg1 h1 => Ev (b sg1 h1) (LpK Q (I (as ++ [x]))))
    (fin : ∀ sg h, I xs sg h → Q (.nx sg) h) : Ev (forM s g b N 0 sg h) Q := ev_forM I hy step fin N [] xs sg h rfl i l
/-! ### comprehensions -/
theorem ev_lcM' {s : Src} {g : MG} {c : MT} {a : ME} {D0 : Nat} {sg0 : Sg} {xs : List D} (I : List D → List D → Hd → Prop)
    (hy : ∀ as ys h, I as ys h → h[D0]? = some (.lst ys) → Yields s xs h)
    (step : ∀ as x bs ys h, xs = as ++ x :: bs → I as ys h → h[D0]? = some (.lst ys) → Ev (g x sg0 h) fun sg1 h1 => Ev (c sg1 h1) fun t h2 => Br t (Ev (a sg1 h2) fun y h3 => h3[D0]? = some (.lst ys) ∧ I (as ++ [x]) (ys ++ [y]) (h3.set D0 (.lst (ys ++ [y])))) (h2[D0]? = some (.lst ys) ∧ I (as ++ [x]) ys h2)) :
    ∀ (N : Nat) (as bs ys : List D) (h : Hd), xs = as ++ bs → I as ys h → h[D0]? = some (.lst ys) → bs.length < N → ys.length + bs.length ≤ LN →
      ∃ h' zs, lcM' s g c a D0 sg0 N as.length h = some h' ∧ h'[D0]? = some (.lst zs) ∧ I xs zs h'
  | 0, as, bs, ys, h, e, i, d, l, l2 => by omega
  | N + 1, as, [], ys, h, e, i, d, l, l2 => by
    have hn := hy as ys h i d as.length
    rw [List.append_nil] at e
    subst e
    rw [List.getElem?_eq_none (Nat.le_refl _)] at hn
    exact ⟨h, ys, by simp only [lcM', hn], d, i⟩
  | N + 1, as, x :: bs, ys, h, e, i, d, l, l2 => by
    have hn := hy as ys h i d as.length
    have hx : xs[as.length]? = some x := by
      rw [e]
      simp
    rw [hx] at hn
    obtain ⟨sg1, h1, e1, t, h2, e2, q1, q2⟩ := step as x bs ys h e i d
    have e' : xs = (as ++ [x]) ++ bs := by simp [e]
    have hlen : (as ++ [x]).length = as.length + 1 := by simp
    simp only [List.length_cons] at l l2
    cases t with
    | true =>
      obtain ⟨y, h3, e3, d3, i3⟩ := q1 rfl
      have d4 : (h3.set D0 (O.lst (ys ++ [y])))[D0]? = some (.lst (ys ++ [y])) := by rw [List.getElem?_set_self (List.getElem?_eq_some_iff.mp d3).1]
      obtain ⟨h', zs, e4, q⟩ := ev_lcM' I hy step N (as ++ [x]) bs (ys ++ [y]) _ e' i3 d4 (by omega) (by simp; omega)
      rw [hlen] at e4
      exact ⟨h', zs, by simp only [lcM', hn, e1, e2, e3, d3]; rw [if_pos (by show _ < 16777216; have : LN = 16777216 := rfl; omega)]; exact e4, q⟩
    | false =>
      obtain ⟨d3, i3⟩ := q2 rfl
      obtain ⟨h', zs, e4, q⟩ := ev_lcM' I hy step N (as ++ [x]) bs ys _ e' i3 d3 (by omega) (by omega)
      rw [hlen] at e4
      exact ⟨h', zs, by simp only [lcM', hn, e1, e2]; exact e4, q⟩
theorem ev_lc {it : MI} {g : MG} {c : MT} {a : ME} {vs : List Nat} {N : Nat} {sg : Sg} {h : Hd} {Q : D → Hd → Prop}
    (q : Ev (it sg h) fun s h1 => ∃ (xs : List D) (I : List D → List D → Hd → Prop), xs.length < N ∧ xs.length ≤ LN ∧ I [] [] (h1 ++ [.lst []]) ∧
      (∀ as ys h, I as ys h → h[h1.length]? = some (.lst ys) → Yields s xs h) ∧
      (∀ as x bs ys h, xs = as ++ x :: bs → I as ys h → h[h1.length]? = some (.lst ys) → Ev (g x (wipeD sg vs) h) fun sg1 h1' => Ev (c sg1 h1') fun t h2 => Br t (Ev (a sg1 h2) fun y h3 => h3[h1.length]? = some (.lst ys) ∧ I (as ++ [x]) (ys ++ [y]) (h3.set h1.length (.lst (ys ++ [y])))) (h2[h1.length]? = some (.lst ys) ∧ I (as ++ [x]) ys h2)) ∧
      (∀ zs h', h'[h1.length]? = some (.lst zs) → I xs zs h' → Q (.at h1.length) h')) : Ev (lcM it g c a vs N sg h) Q := by
  obtain ⟨s, h1, e1, xs, I, l1, l2, i0, hy, st, fin⟩ := q
  obtain ⟨h', zs, e2, d, i⟩ := ev_lcM' I hy st N [] xs [] _ rfl i0 (by simp) l1 (by simpa using l2)
  exact ⟨_, _, by simp only [lcM, e1]; rw [show (0 : Nat) = ([] : List D).length from rfl, e2], fin zs h' d i⟩
/-! ### kinds of built-in things -/
theorem kb1 : kitB "tuple" "int" = some false := by decide +kernel
theorem kb2 : kitB "int" "int" = some true := by decide +kernel
theorem kb3 : kitB "str" "int" = some false := by decide +kernel
theorem kb4 : kitB "bool" "int" = some true := by decide +kernel
theorem kb5 : kitB "tuple" "bool" = some false := by decide +kernel
theorem kb6 : kitB "int" "bool" = some false := by decide +kernel
theorem kb7 : kitB "str" "bool" = some false := by decide +kernel
theorem kb8 : kitB "bool" "bool" = some true := by decide +kernel
theorem kb9 : kitB "tuple" "tuple" = some true := by decide +kernel
theorem kb10 : kitB "int" "tuple" = some false := by decide +kernel
theorem kb11 : kitB "str" "tuple" = some false := by decide +kernel
theorem kb12 : kitB "bool" "tuple" = some false := by decide +kernel
theorem kb13 : kitB "tuple" "str" = some false := by decide +kernel
theorem kb14 : kitB "int" "str" = some false := by decide +kernel
theorem kb15 : kitB "str" "str" = some true := by decide +kernel
theorem kb16 : kitB "bool" "str" = some false := by decide +kernel
theorem kbN1 : kitB "NoneType" "int" = some false := by decide +kernel
theorem kbN2 : kitB "NoneType" "bool" = some false := by decide +kernel
theorem kbN3 : kitB "NoneType" "tuple" = some false := by decide +kernel
theorem kbN4 : kitB "NoneType" "str" = some false := by decide +kernel
theorem eq_ii (i j : Int) (h : Hd) : eqD (.int i) (.int j) h = some (.bl (decide (i = j)), h) := by
  unfold eqD datD
  simp only [toP, PyData.canLay0, PyData.depth, PyData.eqv, true_and, Nat.min_self, Nat.zero_le, if_true]
  rw [Bool.beq_eq_decide_eq]
theorem ne_ii (i j : Int) (h : Hd) : neD (.int i) (.int j) h = some (.bl (!decide (i = j)), h) := by
  unfold neD datD
  simp only [toP, PyData.canLay0, PyData.depth, PyData.eqv, true_and, Nat.min_self, Nat.zero_le, if_true]
  rw [Bool.beq_eq_decide_eq]
/-! ### what the built-in things give -/
section
variable {h : Hd} {Q : D → Hd → Prop} {i j : Int} {s : Str} {xs ys zs ws : List D} {n m : Nat} {d : D}
theorem lf_isi {x : D} {k T : String} {b : Bool} (e1 : kdD h x = some k) (e2 : kitB k T = some b) (q : Q (.bl b) h) : Ev (isiD [x, .ty T] h) Q := ⟨_, _, by simp only [isiD, e1, e2], q⟩
theorem lf_addI (q : Q (.int (i + j)) h) : Ev (addD (.int i) (.int j) h) Q := ⟨_, _, rfl, q⟩
theorem lf_addT (l : xs.length + ys.length ≤ LN) (q : Q (.tup (xs ++ ys)) h) : Ev (addD (.tup xs) (.tup ys) h) Q := ⟨_, _, by simp only [addD, if_pos l], q⟩
theorem lf_addL (e1 : h[n]? = some (.lst xs)) (e2 : h[m]? = some (.lst ys)) (l : xs.length + ys.length ≤ LN) (q : Q (.at h.length) (h ++ [.lst (xs ++ ys)])) : Ev (addD (.at n) (.at m) h) Q := ⟨_, _, by simp only [addD, e1, e2, if_pos l], q⟩
theorem lf_addIDI (q : Q (.int (i + j)) h) : Ev (addID (.int i) (.int j) h) Q := ⟨_, _, by simp [addID], q⟩
theorem lf_subI (q : Q (.int (i - j)) h) : Ev (subD (.int i) (.int j) h) Q := ⟨_, _, rfl, q⟩
theorem lf_mulI (c : (-(2 ^ 64) < i ∧ i < 2 ^ 64) ∨ (-(2 ^ 64) < j ∧ j < 2 ^ 64) ∨ i.natAbs.log2 + j.natAbs.log2 < 1000000) (q : Q (.int (i * j)) h) : Ev (mulD (.int i) (.int j) h) Q := ⟨_, _, by simp only [mulD, if_pos c], q⟩
theorem lf_fdiv (c : 0 < j ∧ j.natAbs.log2 < 9000) (q : Q (.int (i / j)) h) : Ev (fdivD (.int i) (.int j) h) Q := ⟨_, _, by simp only [fdivD, if_pos c], q⟩
theorem lf_pow (c : 0 ≤ j ∧ (Builtin.Int.intBits i : Int) * j ≤ 2 ^ 27) (q : Q (.int (i ^ j.toNat)) h) : Ev (powD (.int i) (.int j) h) Q := ⟨_, _, by simp only [powD, if_pos c], q⟩
theorem lf_mulS (c : 0 ≤ j ∧ j ≤ 1000000 ∧ s.length * j.toNat ≤ LN) (q : Q (.str (repS s j.toNat)) h) : Ev (mulD (.str s) (.int j) h) Q := ⟨_, _, by simp only [mulD, if_pos c], q⟩
theorem lf_mulL (e : h[n]? = some (.lst xs)) (c : 0 ≤ j ∧ j ≤ 1000000 ∧ xs.length * j.toNat ≤ LN) (q : Q (.at h.length) (h ++ [.lst (List.replicate j.toNat xs).flatten])) : Ev (mulD (.at n) (.int j) h) Q := ⟨_, _, by simp only [mulD, e, if_pos c], q⟩
theorem lf_mod (c : 0 < j) (q : Q (.int (i % j)) h) : Ev (modD (.int i) (.int j) h) Q := ⟨_, _, by simp only [modD, if_pos c], q⟩
theorem lf_lt (q : Q (.bl (decide (i < j))) h) : Ev (ltD (.int i) (.int j) h) Q := ⟨_, _, rfl, q⟩
theorem lf_le (q : Q (.bl (decide (i ≤ j))) h) : Ev (leD (.int i) (.int j) h) Q := ⟨_, _, rfl, q⟩
theorem lf_gt (q : Q (.bl (decide (j < i))) h) : Ev (gtD (.int i) (.int j) h) Q := ⟨_, _, rfl, q⟩
theorem lf_ge (q : Q (.bl (decide (j ≤ i))) h) : Ev (geD (.int i) (.int j) h) Q := ⟨_, _, rfl, q⟩
theorem lf_eqI (q : Q (.bl (decide (i = j))) h) : Ev (eqD (.int i) (.int j) h) Q := ⟨_, _, eq_ii i j h, q⟩
theorem lf_neI (q : Q (.bl (!decide (i = j))) h) : Ev (neD (.int i) (.int j) h) Q := ⟨_, _, ne_ii i j h, q⟩
theorem lf_lenT (q : Q (.int xs.length) h) : Ev (lenD [.tup xs] h) Q := ⟨_, _, rfl, q⟩
theorem lf_lenR (q : Q (.int xs.length) h) : Ev (lenD [.rol xs] h) Q := ⟨_, _, rfl, q⟩
theorem lf_lenS (l : s.length ≤ LN) (q : Q (.int s.length) h) : Ev (lenD [.str s] h) Q := ⟨_, _, by simp only [lenD, if_pos l], q⟩
theorem lf_lenL (e : h[n]? = some (.lst xs)) (q : Q (.int xs.length) h) : Ev (lenD [.at n] h) Q := ⟨_, _, by simp only [lenD, e], q⟩
theorem lf_abs (q : Q (.int (if i < 0 then -i else i)) h) : Ev (absD [.int i] h) Q := ⟨_, _, rfl, q⟩
theorem lf_intI (q : Q (.int i) h) : Ev (intD [.int i] h) Q := ⟨_, _, rfl, q⟩
theorem lf_intB {b : Bool} (q : Q (.int (if b then 1 else 0)) h) : Ev (intD [.bl b] h) Q := ⟨_, _, rfl, q⟩
theorem lf_max (q : Q (.int (if j > i then j else i)) h) : Ev (maxD [.int i, .int j] h) Q := ⟨_, _, rfl, q⟩
theorem lf_min (q : Q (.int (if j < i then j else i)) h) : Ev (minD [.int i, .int j] h) Q := ⟨_, _, rfl, q⟩
theorem lf_tuplT (q : Q (.tup xs) h) : Ev (tuplD [.tup xs] h) Q := ⟨_, _, rfl, q⟩
theorem lf_tuplL (e : h[n]? = some (.lst xs)) (q : Q (.tup xs) h) : Ev (tuplD [.at n] h) Q := ⟨_, _, by simp only [tuplD, e], q⟩
theorem lf_ix (e : atI xs i = some d) (q : Q d h) : Ev (subsD (.tup xs) (.int i) h) Q := ⟨_, _, by simp only [subsD, seqD, e], q⟩
theorem lf_ixR (e : atI xs i = some d) (q : Q d h) : Ev (subsD (.rol xs) (.int i) h) Q := ⟨_, _, by simp only [subsD, seqD, e], q⟩
theorem lf_ixL (e0 : h[n]? = some (.lst xs)) (e : atI xs i = some d) (q : Q d h) : Ev (subsD (.at n) (.int i) h) Q := ⟨_, _, by simp only [subsD, seqD, e0, e], q⟩
theorem lf_ixD {kvs : List (Key × D)} {x : D} {k : Key} (e0 : h[n]? = some (.dct kvs)) (e1 : keyD x = some k) (e : valD kvs k = some d) (q : Q d h) : Ev (subsD (.at n) x h) Q := ⟨_, _, by simp only [subsD, seqD, e0, e1, e], q⟩
theorem lf_pop (e : h[n]? = some (.lst (ws ++ [d]))) (q : Q d (h.set n (.lst ws))) : Ev (popD (.at n) [] h) Q := ⟨_, _, by unfold popD; simp [e], q⟩
theorem lf_append (e : h[n]? = some (.lst ws)) (l : ws.length < LN) (q : Q .non (h.set n (.lst (ws ++ [d])))) : Ev (appendD (.at n) [d] h) Q := ⟨_, _, by simp only [appendD, e, if_pos l], q⟩
theorem lf_extendT (e : h[n]? = some (.lst ws)) (l : ws.length + zs.length ≤ LN) (q : Q .non (h.set n (.lst (ws ++ zs)))) : Ev (extendD (.at n) [.tup zs] h) Q := ⟨_, _, by simp only [extendD, e, if_pos l], q⟩
theorem lf_extendL (e : h[n]? = some (.lst ws)) (e2 : h[m]? = some (.lst zs)) (l : ws.length + zs.length ≤ LN) (q : Q .non (h.set n (.lst (ws ++ zs)))) : Ev (extendD (.at n) [.at m] h) Q := ⟨_, _, by simp only [extendD, e, e2, if_pos l], q⟩
theorem lf_slT {lo hi : Option Int} (q : Q (.tup (cutD xs lo hi)) h) : Ev (sliceD (.tup xs) lo hi h) Q := ⟨_, _, rfl, q⟩
theorem lf_slL {lo hi : Option Int} (e : h[n]? = some (.lst xs)) (q : Q (.at h.length) (h ++ [.lst (cutD xs lo hi)])) : Ev (sliceD (.at n) lo hi h) Q := ⟨_, _, by simp only [sliceD, e], q⟩
theorem lf_backT0 (q : Q (.tup (backs xs (some 0))) h) : Ev (backD (.tup xs) (some 0) h) Q := ⟨_, _, rfl, q⟩
theorem lf_listL (e : h[n]? = some (.lst xs)) (q : Q (.at h.length) (h ++ [.lst xs])) : Ev (listD [.at n] h) Q := ⟨_, _, by simp only [listD, e], q⟩
theorem lf_listD {kvs : List (Key × D)} (e : h[n]? = some (.dct kvs)) (q : Q (.at h.length) (h ++ [.lst (kvs.map fun kv => kD kv.1)])) : Ev (listD [.at n] h) Q := ⟨_, _, by simp only [listD, e], q⟩
theorem lf_dictL {ps : List (Key × D)} (e : h[n]? = some (.lst xs)) (e2 : pairsD xs = some ps) (q : Q (.at h.length) (h ++ [.dct (mergeD [] ps)])) : Ev (dictD [.at n] h) Q := ⟨_, _, by simp only [dictD, e, e2], q⟩
theorem sq_fix {Q : Src → Hd → Prop} (q : Q (.fix xs) h) : Ev (sqS (.tup xs) h) Q := ⟨_, _, rfl, q⟩
theorem sq_rol {Q : Src → Hd → Prop} (q : Q (.fix xs) h) : Ev (sqS (.rol xs) h) Q := ⟨_, _, rfl, q⟩
theorem sq_obj {Q : Src → Hd → Prop} (e : h[n]? = some (.lst xs)) (q : Q (.obj n) h) : Ev (sqS (.at n) h) Q := ⟨_, _, by simp only [sqS, e], q⟩
theorem sq_str {Q : Src → Hd → Prop} (q : Q (.fix (s.cps.toList.map fun c => .str ⟨⟨[c]⟩⟩)) h) : Ev (sqS (.str s) h) Q := ⟨_, _, rfl, q⟩
theorem at0 {α : Type} (x : α) (xs : List α) : L2.atI (x :: xs) 0 = some x := by
  unfold L2.atI L2.ixN
  simp
end
end DL

/-! DL10: bits, division by negative numbers, reversed, dict displays, tuples of the module. -/
namespace DL
open PySem L2 RT
/-! ### numbers -/
def CDivZ (i j : Int) : Prop := j ≠ 0 ∧ j.natAbs.log2 < 9000
section
variable {K : Kw} {X : Cx}
theorem op_fdivZ : OpR X (binaryOp .FloorDiv) (rI CDivZ fun i j => .int (i.fdiv j)) := opI fun i j _ _ _ _ _ hc q => PyProof.Rows.floordiv_int hc.1 q (.inl (PyProof.noPylong_of_log2 hc.2))
def fdivZD : G2 := fun x y h => match x, y with
  | .int i, .int j => if j ≠ 0 ∧ j.natAbs.log2 < 9000 then some (.int (i.fdiv j), h) else none
  | _, _ => none
theorem so_fdivZ : SO K (rI CDivZ fun i j => .int (i.fdiv j)) fdivZD := by
  intro Φ H μ h x y v w d h' S r1 r2 e Q k
  unfold fdivZD at e
  split at e
  · split at e
    · rename_i c
      cases e
      exact ⟨_, _, rp_int' r1, rp_int' r2, c, k _ H μ S Le.refl rp_int⟩
    · cases e
  · cases e
def modZD : G2 := fun x y h => match x, y with
  | .int i, .int j => if j ≠ 0 then some (.int (i.fmod j), h) else none
  | _, _ => none
theorem so_modZ : SO K (rI (fun _ j => j ≠ 0) fun i j => .int (i.fmod j)) modZD := by
  intro Φ H μ h x y v w d h' S r1 r2 e Q k
  unfold modZD at e
  split at e
  · split at e
    · rename_i c
      cases e
      exact ⟨_, _, rp_int' r1, rp_int' r2, c, k _ H μ S Le.refl rp_int⟩
    · cases e
  · cases e
def shlD : G2 := fun x y h => match x, y with
  | .int i, .int j => if 0 ≤ j ∧ (Builtin.Int.intBits i : Int) + j ≤ 2 ^ 27 then some (.int (i * 2 ^ j.toNat), h) else none
  | _, _ => none
theorem so_shl : SO K (rI CShl fun i j => .int (i * 2 ^ j.toNat)) shlD := by
  intro Φ H μ h x y v w d h' S r1 r2 e Q k
  unfold shlD at e
  split at e
  · split at e
    · rename_i c
      cases e
      exact ⟨_, _, rp_int' r1, rp_int' r2, c, k _ H μ S Le.refl rp_int⟩
    · cases e
  · cases e
def shrD : G2 := fun x y h => match x, y with
  | .int i, .int j => if 0 ≤ j then some (.int (i / 2 ^ j.toNat), h) else none
  | _, _ => none
theorem so_shr : SO K (rI (fun _ j => 0 ≤ j) fun i j => .int (i / 2 ^ j.toNat)) shrD := by
  intro Φ H μ h x y v w d h' S r1 r2 e Q k
  unfold shrD at e
  split at e
  · split at e
    · rename_i c
      cases e
      exact ⟨_, _, rp_int' r1, rp_int' r2, c, k _ H μ S Le.refl rp_int⟩
    · cases e
  · cases e
def bitD (f : Int → Int → Int) : G2 := fun x y h => match x, y with
  | .int i, .int j => some (.int (f i j), h)
  | _, _ => none
theorem so_bit (f : Int → Int → Int) : SO K (rI0 fun i j => .int (f i j)) (bitD f) := by
  intro Φ H μ h x y v w d h' S r1 r2 e Q k
  unfold bitD at e
  split at e
  · cases e
    exact ⟨_, _, rp_int' r1, rp_int' r2, k _ H μ S Le.refl rp_int⟩
  · cases e
abbrev andBD : G2 := bitD Builtin.bitAnd
abbrev orBD : G2 := bitD Builtin.bitOr
abbrev xorBD : G2 := bitD Builtin.bitXor
/-- x.bit_length() -/
def bitsM (a : ME) : ME := fun sg h => match a sg h with
  | some (.int i, h1) => some (.int (Builtin.Int.intBits i : Nat), h1)
  | _ => none
theorem de_bits {o : Expr} {to : TE} {mo : ME} {apos pos : Pos} (ho : DE K X o to mo) (hbase : attributeBase o "bit_length" X.env (eval o X.env) = eval o X.env := by rfl) (hline : (apos.endLine == pos.line) = true := by rfl) :
    DE K X (.Call (.Attribute o "bit_length" apos) [] [] pos) (tBits to) (bitsM mo) := ⟨ho.k, pe_bits ho.p hbase hline, by
  intro Φ σ H μ sg h d h' S rs e Q k
  unfold bitsM at e
  split at e
  · rename_i i h1 e1
    cases e
    exact ho.s σ H μ sg h _ _ S rs e1 _ fun v H1 μ1 S1 l1 r1 => ⟨i, rp_int' r1, k _ H1 μ1 S1 l1 rp_int⟩
  · cases e⟩
/-! ### reversed -/
def revI (a : ME) : MI := fun sg h => match a sg h with
  | some (.tup xs, h1) => some (.fix xs.reverse, h1)
  | some (.rol xs, h1) => some (.fix xs.reverse, h1)
  | some (.at n, h1) => match h1[n]? with
    | some (.lst xs) => some (.rev n xs.length, h1)
    | _ => none
  | _ => none
theorem rev_get {α : Type} {xs : List α} {i : Nat} (h : i < xs.length) : xs.reverse[i]? = xs[xs.length - 1 - i]? := List.getElem?_reverse h
theorem j_revT {a : Addr} {xs : List D} {vs : List V} {H0 : Hp} {μ0 : List Addr} (b : SqT K H0 a vs) (c : Rps K H0 μ0 xs vs) : JOk Φ K (ItvT K a vs.length) (.fix xs.reverse) H0 μ0 := by
  intro i H μ h S l
  have b' := l.tup _ _ b
  have c' := Rps.mono l _ _ c
  have hlen := c'.len
  refine ⟨fun d q => ?_, fun q => ?_⟩
  · have q := Option.some.inj q
    have hi : i < xs.length := by
      have := (List.getElem?_eq_some_iff.mp q).1
      simpa using this
    rw [rev_get hi] at q
    obtain ⟨v, c1, c2⟩ := c'.get q
    rw [← hlen] at c1
    refine ⟨⟨by rw [hlen]; exact hi, vs, v, b', c1⟩, fun x H' y => ?_⟩
    obtain ⟨rfl, y⟩ := y
    have := y vs b'
    rw [c1] at this
    cases this
    exact ⟨S, Le.refl, c2⟩
  · have := List.getElem?_eq_none_iff.mp (Option.some.inj q)
    rw [List.length_reverse] at this
    show vs.length ≤ i
    rw [hlen]
    exact this
theorem j_revF {a : Addr} {xs : List D} {vs : List V} {H0 : Hp} {μ0 : List Addr} (b : SqF K H0 a vs) (c : Rps K H0 μ0 xs vs) : JOk Φ K (Itv K a vs.length) (.fix xs.reverse) H0 μ0 := by
  intro i H μ h S l
  have b' := (l.frz _ _ b).l
  have c' := Rps.mono l _ _ c
  have hlen := c'.len
  refine ⟨fun d q => ?_, fun q => ?_⟩
  · have q := Option.some.inj q
    have hi : i < xs.length := by
      have := (List.getElem?_eq_some_iff.mp q).1
      simpa using this
    rw [rev_get hi] at q
    obtain ⟨v, c1, c2⟩ := c'.get q
    rw [← hlen] at c1
    refine ⟨⟨by rw [hlen]; exact hi, vs, v, b', c1⟩, fun x H' y => ?_⟩
    obtain ⟨rfl, y⟩ := y
    have := y vs b'
    rw [c1] at this
    cases this
    exact ⟨S, Le.refl, c2⟩
  · have := List.getElem?_eq_none_iff.mp (Option.some.inj q)
    rw [List.length_reverse] at this
    show vs.length ≤ i
    rw [hlen]
    exact this
theorem j_revL {a : Addr} {n m : Nat} {H0 : Hp} {μ0 : List Addr} (ea : μ0[n]? = some a) : JOk Φ K (Itv K a m) (.rev n m) H0 μ0 := by
  intro i H μ h S l
  have ep := l.get ea
  refine ⟨fun d q => ?_, fun q => ?_⟩
  · unfold Src.nxt at q
    simp only at q
    split at q
    · rename_i xs e1
      split at q
      · rename_i hm
        obtain ⟨vs, b, c⟩ := S.lst e1 ep
        have hlen := c.len
        have q := Option.some.inj q
        have hi : i < xs.length := by
          have := (List.getElem?_eq_some_iff.mp q).1
          simpa using this
        rw [rev_get hi] at q
        obtain ⟨v, c1, c2⟩ := c.get q
        rw [hm] at c1 hi
        refine ⟨⟨hi, vs, v, .of b, c1⟩, fun x H' y => ?_⟩
        obtain ⟨rfl, y⟩ := y
        have := y vs (.of b)
        rw [c1] at this
        cases this
        exact ⟨S, Le.refl, c2⟩
      · cases q
    · cases q
  · unfold Src.nxt at q
    simp only at q
    split at q
    · rename_i xs e1
      split at q
      · rename_i hm
        have := List.getElem?_eq_none_iff.mp (Option.some.inj q)
        rw [List.length_reverse, hm] at this
        exact this
      · cases q
    · cases q
theorem di_rev {tg e : Expr} {te : TE} {me : ME} {p pos : Pos} (a : DE K X e te me) (hm : X.mg "reversed" = none) (hg : Gl X "reversed" := by rfl) (hs : starEach [e] X.env = (false, eval e X.env) :: starEach [] X.env := by rfl) :
    DI K X tg (.Call (.Name "reversed" p) [e] [] pos) (iRevA K te) (revI me) := ⟨a.k, by
  have hk := a.k
  subst hk
  exact pi_revA hg hm a.p hs, by
  intro Φ σ H μ sg h s h' S rs e R k
  unfold revI at e
  split at e
  · rename_i xs h1 e1
    cases e
    refine a.s σ H μ sg h _ _ S rs e1 _ fun v H1 μ1 S1 l1 r1 => ?_
    obtain ⟨p, vs, rfl, b, c⟩ := rp_tup' r1
    exact ⟨p, vs, rfl, .inr ⟨b, k _ H1 μ1 S1 l1 (j_revT b c)⟩⟩
  · rename_i xs h1 e1
    cases e
    refine a.s σ H μ sg h _ _ S rs e1 _ fun v H1 μ1 S1 l1 r1 => ?_
    obtain ⟨p, vs, rfl, b, c⟩ := rp_rol' r1
    exact ⟨p, vs, rfl, .inl ⟨b.l, k _ H1 μ1 S1 l1 (j_revF b c)⟩⟩
  · rename_i n h1 e1
    split at e
    · rename_i xs q
      cases e
      refine a.s σ H μ sg h _ _ S rs e1 _ fun v H1 μ1 S1 l1 r1 => ?_
      obtain ⟨p, ep, rfl⟩ := rp_at' r1
      obtain ⟨vs, b, c⟩ := S1.lst q ep
      exact ⟨p, vs, rfl, .inl ⟨.of b, by rw [c.len]; exact k _ H1 μ1 S1 l1 (j_revL ep)⟩⟩
    · cases e
  · cases e⟩
/-! ### several names from a tuple or a list -/
theorem PG.or {tg : Expr} {t u : TG} (h : PG X tg t) (h' : PG X tg u) : PG X tg (fun v σ H Q => t v σ H Q ∨ u v σ H Q) := ⟨fun pins s σ H v w Q I r q => q.elim (h.run pins s σ H v w Q I r) (h'.run pins s σ H v w Q I r)⟩
def uplG (n : Nat) (a : MGs) : MG := fun d sg h => match d with
  | .tup xs => if xs.length = n then a xs sg h else none
  | .at l => match h[l]? with
    | some (.lst xs) => if xs.length = n then a xs sg h else none
    | _ => none
  | _ => none
theorem dg_upl {es : List Expr} {k0 : Nat} {t : TGs} {m : MGs} {n : Nat} {pos : Pos} (a : DGs K X es t m) (hn : (assignEach es X.env).length = n := by rfl) (hst : (assignEach es X.env).findIdx? (·.1) = none := by rfl) (hc : X.calm = true := by rfl) :
    DG K X (.Tuple es k0 pos) (fun v σ H Q => gTup K n t v σ H Q ∨ gLst K n t v σ H Q) (uplG n m) := ⟨a.k, by
  have hk := a.k
  subst hk
  exact PG.or (pg_tup hc a.p hn hst) (pg_lst hc a.p hn hst), by
  intro Φ σ H μ sg h x v sg' h' S rs r e Q k
  unfold uplG at e
  split at e
  · split at e
    · rename_i hl
      obtain ⟨p, vs, rfl, b, c⟩ := rp_tup' r
      exact .inl ⟨p, vs, rfl, b, by rw [c.len]; exact hl, a.s σ H μ sg h _ vs sg' h' S rs c e Q k⟩
    · cases e
  · split at e
    · rename_i q
      split at e
      · rename_i hl
        obtain ⟨p, ep, rfl⟩ := rp_at' r
        obtain ⟨vs, b, c⟩ := S.lst q ep
        exact .inr ⟨p, vs, rfl, .of b, by rw [c.len]; exact hl, a.s σ H μ sg h _ vs sg' h' S rs c e Q k⟩
      · cases e
    · cases e
  · cases e⟩
/-! ### dict displays -/
abbrev MP := Sg → Hd → Option (List (Key × D) × Hd)
def SPr (K : Kw) (trs : List (TE × TE)) (m : MP) : Prop := ∀ {Φ : Hp} (σ : L2.St) (H : Hp) (μ : List Addr) (sg : Sg) (h : Hd) (kvs : List (Key × D)) (h' : Hd), Sm Φ K H μ h → Rs K H μ sg σ → m sg h = some (kvs, h') → ∀ Q : List (V × V) → Hp → Prop,
  (∀ (kw : List (Key × V)) (H' : Hp) (μ' : List Addr), Sm Φ K H' μ' h' → Le K H μ H' μ' → Rkv K H' μ' kvs kw → Q (kw.map fun kv => (kV kv.1, kv.2)) H') → tPairs trs σ H Q
structure DP (K : Kw) (X : Cx) (pos : Pos) (keys : List (Option Expr)) (values : List Expr) (trs : List (TE × TE)) (m : MP) : Prop where
  k : KOf X = K
  p : PPs X pos keys values trs
  s : SPr K trs m
def pnilM : MP := fun _ h => some ([], h)
def pconsM (a b : ME) (r : MP) : MP := fun sg h => match a sg h with
  | some (x, h1) => match keyD x with
    | some k => match b sg h1 with
      | some (y, h2) => match r sg h2 with
        | some (kvs, h3) => some ((k, y) :: kvs, h3)
        | none => none
      | none => none
    | none => none
  | none => none
theorem dp_nil {pos : Pos} (hK : KOf X = K := by rfl) : DP K X pos [] [] [] pnilM := ⟨hK, pps_nil, by
  intro Φ σ H μ sg h kvs h' S rs e Q k
  cases e
  exact k [] H μ S Le.refl Rkv.nil⟩
theorem dp_cons {pos : Pos} {ke ve : Expr} {keys : List (Option Expr)} {values : List Expr} {tk tv : TE} {mk mv : ME} {trs : List (TE × TE)} {mr : MP} (ha : DE K X ke tk mk) (hb : DE K X ve tv mv) (hr : DP K X pos keys values trs mr) :
    DP K X pos (some ke :: keys) (ve :: values) ((tk, tv) :: trs) (pconsM mk mv mr) := ⟨ha.k, pps_cons ha.p hb.p hr.p, by
  intro Φ σ H μ sg h kvs h' S rs e Q k
  unfold pconsM at e
  split at e
  · rename_i x h1 e1
    split at e
    · rename_i kk ek
      split at e
      · rename_i y h2 e2
        split at e
        · rename_i kvs' h3 e3
          cases e
          refine ha.s σ H μ sg h x h1 S rs e1 _ fun v H1 μ1 S1 l1 r1 => ?_
          refine hb.s σ H1 μ1 sg h1 y h2 S1 (rs.mono l1) e2 _ fun w H2 μ2 S2 l2 r2 => ?_
          refine hr.s σ H2 μ2 sg h2 kvs' _ S2 (rs.mono (l1.trans l2)) e3 _ fun kw H3 μ3 S3 l3 r3 => ?_
          rw [key_of r1 ek]
          exact k ((kk, w) :: kw) H3 μ3 S3 ((l1.trans l2).trans l3) ⟨by simp [r3.1], Rps.cons (Rp.mono l3 _ _ r2) r3.2⟩
        · cases e
      · cases e
    · cases e
  · cases e⟩
def dispM (r : MP) : ME := fun sg h => match r sg (h ++ [.dct []]) with
  | some (kvs, h2) => match h2[h.length]? with
    | some (.dct []) => if kvs.length ≤ 15 then some (.at h.length, h2.set h.length (.dct (mergeD [] kvs))) else none
    | _ => none
  | none => none
theorem de_disp {pos : Pos} {keys : List (Option Expr)} {values : List Expr} {trs : List (TE × TE)} {mr : MP} (hr : DP K X pos keys values trs mr) (hall : keys.all (·.isSome) = true := by rfl) (hl : keys.length = values.length := by rfl) (h0 : keys ≠ [] := by simp)
    (h15 : keys.length ≤ 15 := by decide) : DE K X (.Dict keys values pos) (tDisp trs) (dispM mr) := ⟨hr.k, pe_disp hr.p hall hl h0 h15, by
  intro Φ σ H μ sg h d h' S rs e Q k
  unfold dispM at e
  split at e
  · rename_i kvs h2 e2
    split at e
    · rename_i q
      split at e
      · rename_i hlen
        cases e
        intro p hp
        have l0 : Le K H μ (upd H p (.dK [])) (μ ++ [p]) := le_obj hp
        have S0 : Sm Φ K (upd H p (.dK [])) (μ ++ [p]) (h ++ [.dct []]) := S.obj hp ⟨[], upd_same, Rkv.nil⟩
        refine hr.s σ _ _ sg _ kvs h2 S0 (rs.mono l0) e2 _ fun kw H2 μ2 S2 l2 r2 => ?_
        have ep := l2.get (obj_at S rfl)
        obtain ⟨kw0, b, c⟩ := S2.dct q ep
        have hk0 : kw0 = [] := by
          have := c.len
          cases kw0 with
          | nil => rfl
          | cons _ _ => simp at this
        subst hk0
        refine ⟨b, kw, rfl, ?_, ?_⟩
        · have := congrArg List.length r2.1
          simp at this
          omega
        have l4 : Le K H2 μ2 (upd H2 p (.dK (mergeK [] kw))) μ2 := le_set S2 ep
        have c2 := Rkv.merge r2 (Rkv.nil (K := K) (H := H2) (μ := μ2))
        exact k _ _ μ2 (S2.set ep ⟨_, upd_same, c2.1, Rps.mono l4 _ _ c2.2⟩) ((l0.trans l2).trans l4) (rp_at ep)
      · cases e
    · cases e
  · cases e⟩
end
/-- a tuple of texts in the module -/
theorem Kst.strs {K : Kw} {mg : Str → Option Value} {x : Str} {a : Addr} {od : Option Addr} {n : Nat} {sl : Array (Option Value)} {arr : Array Value} (h : mg x = some (.ref a)) (l : K.lookup a = some ⟨.type "tuple", od, .seq arr n, sl⟩) (ss : List Str) (e : Vals (ss.map V.str) arr.toList) (hz : arr.size ≤ 16777216) :
    Kst K mg x (.tup (ss.map D.str)) := ⟨.ref a, .ref a, h, rfl, fun H μ => by
  have r : Rps K H μ (ss.map D.str) (ss.map V.str) := by
    clear e
    induction ss with
    | nil => exact Rps.nil
    | cons s ss ih => exact Rps.cons rp_str ih
  exact rp_tup (.inr ⟨_, arr, n, l, rfl, rfl, by rw [sizeLine_eq]; exact hz, e⟩) r⟩
/-! ### rules told from the end -/
section
variable {sg : Sg} {h : Hd} {Q : D → Hd → Prop} {a b : ME} {r : MP} {i j : Int} {xs : List D}
theorem ev_bits (q : Ev (a sg h) fun x h1 => ItK x fun i => Q (.int (Builtin.Int.intBits i : Nat)) h1) : Ev (bitsM a sg h) Q := by
  obtain ⟨x, h1, e1, i, rfl, q⟩ := q
  exact ⟨_, h1, by simp only [bitsM, e1], q⟩
theorem ev_uplT {n : Nat} {m : MGs} {Q : Sg → Hd → Prop} (l : xs.length = n) (q : Ev (m xs sg h) Q) : Ev (uplG n m (.tup xs) sg h) Q := by
  obtain ⟨sg1, h1, e1, q⟩ := q
  exact ⟨_, _, by simp only [uplG, if_pos l, e1], q⟩
theorem ev_uplL {n k : Nat} {m : MGs} {Q : Sg → Hd → Prop} (e : h[k]? = some (.lst xs)) (l : xs.length = n) (q : Ev (m xs sg h) Q) : Ev (uplG n m (.at k) sg h) Q := by
  obtain ⟨sg1, h1, e1, q⟩ := q
  exact ⟨_, _, by simp only [uplG, e, if_pos l, e1], q⟩
theorem lf_fdivZ (c : j ≠ 0 ∧ j.natAbs.log2 < 9000) (q : Q (.int (i.fdiv j)) h) : Ev (fdivZD (.int i) (.int j) h) Q := ⟨_, _, by simp only [fdivZD]; rw [if_pos c], q⟩
theorem lf_modZ (c : j ≠ 0) (q : Q (.int (i.fmod j)) h) : Ev (modZD (.int i) (.int j) h) Q := ⟨_, _, by simp only [modZD]; rw [if_pos c], q⟩
theorem lf_fdivZp (c : 0 < j ∧ j.natAbs.log2 < 9000) (q : Q (.int (i / j)) h) : Ev (fdivZD (.int i) (.int j) h) Q := lf_fdivZ ⟨by omega, c.2⟩ (by rw [Int.fdiv_eq_ediv_of_nonneg i (by omega)]; exact q)
theorem lf_modZp (c : 0 < j) (q : Q (.int (i % j)) h) : Ev (modZD (.int i) (.int j) h) Q := lf_modZ (by omega) (by rw [Int.fmod_eq_emod_of_nonneg i (by omega)]; exact q)
theorem lf_shl (c : 0 ≤ j ∧ (Builtin.Int.intBits i : Int) + j ≤ 2 ^ 27) (q : Q (.int (i * 2 ^ j.toNat)) h) : Ev (shlD (.int i) (.int j) h) Q := ⟨_, _, by simp only [shlD]; rw [if_pos c], q⟩
theorem lf_shr (c : 0 ≤ j) (q : Q (.int (i / 2 ^ j.toNat)) h) : Ev (shrD (.int i) (.int j) h) Q := ⟨_, _, by simp only [shrD]; rw [if_pos c], q⟩
theorem lf_bit {f : Int → Int → Int} (q : Q (.int (f i j)) h) : Ev (bitD f (.int i) (.int j) h) Q := ⟨_, _, rfl, q⟩
def rvS (x : D) (h : Hd) : Option (Src × Hd) := match x with
  | .tup xs => some (.fix xs.reverse, h)
  | .rol xs => some (.fix xs.reverse, h)
  | .at n => match h[n]? with
    | some (.lst xs) => some (.rev n xs.length, h)
    | _ => none
  | _ => none
theorem ev_revI {Q : Src → Hd → Prop} (q : Ev (a sg h) fun x h1 => Ev (rvS x h1) Q) : Ev (revI a sg h) Q := by
  obtain ⟨x, h1, e1, s, h2, e2, q⟩ := q
  refine ⟨s, h2, ?_, q⟩
  rw [← e2]
  simp only [revI, e1, rvS]
  cases x <;> rfl
theorem rv_lst {n : Nat} {xs : List D} {Q : Src → Hd → Prop} (e : h[n]? = some (.lst xs)) (q : Q (.rev n xs.length) h) : Ev (rvS (.at n) h) Q := ⟨_, _, by simp only [rvS, e], q⟩
theorem yl_rev {n : Nat} {xs : List D} (e : h[n]? = some (.lst xs)) : Yields (.rev n xs.length) xs.reverse h := fun i => by simp only [Src.nxt, e, if_pos]
theorem rv_tup {Q : Src → Hd → Prop} (q : Q (.fix xs.reverse) h) : Ev (rvS (.tup xs) h) Q := ⟨_, _, rfl, q⟩
def KyK (x : D) (A : Key → Prop) : Prop := ∃ k, keyD x = some k ∧ A k
theorem ky_int {A : Key → Prop} (q : A (.inl i)) : KyK (.int i) A := ⟨_, rfl, q⟩
theorem ky_str {A : Key → Prop} {s : Str} (q : A (.inr s)) : KyK (.str s) A := ⟨_, rfl, q⟩
theorem ev_pnil {Q : List (Key × D) → Hd → Prop} (q : Q [] h) : Ev (pnilM sg h) Q := ⟨_, _, rfl, q⟩
theorem ev_pcons {Q : List (Key × D) → Hd → Prop} (q : Ev (a sg h) fun x h1 => KyK x fun k => Ev (b sg h1) fun y h2 => Ev (r sg h2) fun kvs h3 => Q ((k, y) :: kvs) h3) : Ev (pconsM a b r sg h) Q := by
  obtain ⟨x, h1, e1, k, e2, y, h2, e3, kvs, h3, e4, q⟩ := q
  exact ⟨_, _, by simp only [pconsM, e1, e2, e3, e4], q⟩
theorem ev_disp (q : Ev (r sg (h ++ [.dct []])) fun kvs h2 => h2[h.length]? = some (.dct []) ∧ kvs.length ≤ 15 ∧ Q (.at h.length) (h2.set h.length (.dct (mergeD [] kvs)))) : Ev (dispM r sg h) Q := by
  obtain ⟨kvs, h2, e1, e2, l, q⟩ := q
  exact ⟨_, _, by simp only [dispM, e1, e2, if_pos l], q⟩
end
end DL

/-! DM11: what is raised goes through statements; raise; try; own exceptions with their own __init__. -/
namespace PySem.W
open PySem PySem.Calls PyProof.Rows
section
variable {prog : Program} {w : World} {A : Around} {E : Value → Shared → Prop} {s : Shared} {K : Frag} {name : Str}
/-- C.name, called: a class of the text -/
theorem method_ref {C : Addr} {v : Value} {pl : Sem Bool} {Q : Value × List Value → Shared → Prop} (X : K.In s.heap) (hr : readsIn K C (.type "type") = true) (e : findCls K (.ref C) (.type "type") name = some (.val v)) (hh : handedIn v = true)
    (h : Q (v, []) { s with toks := s.toks + 1 }) : wpAny (model prog w) A (getMethod (.ref C) name pl) Q E s := by
  have hr' := hr
  simp only [readsIn, Bool.and_eq_true, beq_iff_eq] at hr'
  obtain ⟨⟨⟨⟨_, b⟩, c'⟩, _⟩, _⟩ := hr'
  have L0 := looks_typeIn (M := model prog w) X b
  unfold getMethod specialOf
  refine wpAny_bind (wpAny_bind (L0.here ((looks_findIn X c').here ?_)))
  dsimp only
  rw [if_pos canon_tga]
  refine wpAny_bind (wpAny_mono (Q := fun v => Q (v, [])) (E := E) ?_ (fun _ _ z => wpAny_pure z) fun _ _ z => z)
  exact cls_value X hr e hh h
end
end PySem.W
namespace DL
open PySem L2 PySem.Spec PyProof.Rows

/-! ### through statements -/
def seqX (ax : MX) (a : MS) (bx : MX) : MX := fun sg h => match ax sg h with
  | some r => some r
  | none => match a sg h with
    | some (.nx sg1, h1) => bx sg1 h1
    | _ => none
def ifX (c : MT) (ax bx : MX) : MX := fun sg h => match c sg h with
  | some (true, h1) => ax sg h1
  | some (false, h1) => bx sg h1
  | none => none
def whileX (c : MT) (b : MS) (bx : MX) : Nat → MX
  | 0 => noX
  | k + 1 => fun sg h => match c sg h with
    | some (true, h1) => match bx sg h1 with
      | some r => some r
      | none => match b sg h1 with
        | some (.nx sg2, h2) => whileX c b bx k sg2 h2
        | some (.ct sg2, h2) => whileX c b bx k sg2 h2
        | _ => none
    | _ => none
def forX (s : Src) (g : MG) (b : MS) (bx : MX) : Nat → Nat → MX
  | 0, _ => noX
  | k + 1, i => fun sg h => match s.nxt h i with
    | some (some d) => match g d sg h with
      | some (sg1, h1) => match bx sg1 h1 with
        | some r => some r
        | none => match b sg1 h1 with
          | some (.nx sg2, h2) => forX s g b bx k (i + 1) sg2 h2
          | some (.ct sg2, h2) => forX s g b bx k (i + 1) sg2 h2
          | _ => none
      | none => none
    | _ => none
def forSX (it : MI) (g : MG) (b : MS) (bx : MX) (N : Nat) : MX := fun sg h => match it sg h with
  | some (s, h1) => forX s g b bx N 0 sg h1
  | none => none
section
variable {K : Kw} {mg : Str → Option Value} {X : Cx} {W : WX} {pos pos' : Pos} {e : Expr} {te : TE} {me : ME} {xe : MX} {st : Stmt} {rest : List Stmt} {t u : TS} {m n : MS} {x y : MX} {c : Expr} {tc : TT} {mc : MT}
theorem dssx_one (a : DSX K mg X W st t m x) : DSsX K mg X W [st] t m x := ⟨a.k, fun tk po => pss_one (a.p tk po), a.s, a.x⟩
theorem dssx_nil (hK : KOf X = K := by rfl) : DSsX K mg X W [] tNext passM noX := (dss_nil hK).x
theorem xst_seq (as : SS K t m) (ax : XSt K mg W t x) (bx : XSt K mg W u y) : XSt K mg W (tSeq t u) (seqX x m y) := by
  intro Φ σ H μ sg h xn sg' h' S rs e k E
  unfold seqX at e
  split at e
  · rename_i r e1
    cases e
    exact ax σ H μ sg h xn sg' h' S rs e1 k _
  · split at e
    · rename_i sg1 h1 e1
      exact as σ H μ sg h _ h1 S rs e1 _ fun σ1 H1 μ1 S1 l1 rs1 => bx σ1 H1 μ1 sg1 h1 xn sg' h' S1 rs1 e (k.le l1) E
    · cases e
theorem dssx_cons (a : DSX K mg X W st t m x) (b : DSsX K mg X W rest u n y) : DSsX K mg X W (st :: rest) (tSeq t u) (seqM m n) (seqX x m y) := ⟨a.k, fun tk po => pss_cons (a.p tk po) (b.p tk po), ss_seq a.s b.s, xst_seq a.s a.x b.x⟩
theorem dsx_expr (a : DEX K mg X W e te me xe) (hs : swapsWith e none pos.line X.env = pure false := by rfl) : DSX K mg X W (.Expr e pos) (tDrop te) (exprM me) xe :=
  ⟨a.k, fun tk _ => ps_expr (a.p tk) hs, ss_expr a.s, fun {Φ} σ H μ sg h xn sg' h' S rs e k E => a.x σ H μ sg h xn sg' h' S rs e k _⟩
theorem dsx_ret (a : DEX K mg X W e te me xe) : DSX K mg X W (.Return (some e) pos) (tRet te) (retM me) xe :=
  ⟨a.k, fun tk _ => ps_ret (a.p tk), ss_ret a.s, fun {Φ} σ H μ sg h xn sg' h' S rs e k E => a.x σ H μ sg h xn sg' h' S rs e k _⟩
theorem xst_asg {tg : TG} (a : XEx K mg W te xe) : XSt K mg W (tAsg te tg) xe := fun {Φ} σ H μ sg h xn sg' h' S rs e k E => a σ H μ sg h xn sg' h' S rs e k _
theorem dsx_asg {tg : Expr} {gt : TG} {mg' : MG} (a : DEX K mg X W e te me xe) (g : DG K X tg gt mg') (hs : swapsWithSole [tg] e pos.line X.env = pure false := by rfl) (hw : swappedStores [tg] e X.env = pure none := by rfl)
    (h1 : (assignEach [tg] X.env).map (·.2) = [assign tg X.env] := by rfl) : DSX K mg X W (.Assign [tg] e pos) (tAsg te gt) (asgM me mg') xe := ⟨a.k, fun tk _ => ps_asg (a.p tk) g.p hs hw h1, ss_asg a.s g.s, xst_asg a.x⟩
theorem dsx_set (i : Nat) {x : Str} (a : DEX K mg X W e te me xe) (hN : X.N.Nodup) (hi : X.N[i]? = some x := by rfl) (hx : Loc X.env.scope x := by first | exact Or.inl rfl | exact Or.inr rfl) (hs : swapsWith e (some (.Name x pos')) pos.line X.env = pure false := by rfl)
    (hf : X.fn x = true ∨ X.env.scope.names.lookup x = some .local := by first | exact .inl rfl | exact .inr rfl) : DSX K mg X W (.Assign [.Name x pos'] e pos) (tAsg te (gName i)) (asgM me (nameG i)) xe := ⟨a.k, fun tk _ => ps_set hN hi hx (a.p tk) hs hf, ss_asg a.s (sg_name i), xst_asg a.x⟩
theorem dsx_if {p q : List Stmt} (hc : DT K X c tc mc) (a : DSsX K mg X W p t m x) (b : DSsX K mg X W q u n y) : DSX K mg X W (.If c p q pos) (tIfS tc t u) (ifSM mc m n) (ifX mc x y) := ⟨a.k, fun tk po => ps_if hc.p (a.p tk po) (b.p tk po), ss_if hc.s a.s b.s, by
  intro Φ σ H μ sg h xn sg' h' S rs e k E
  unfold ifX at e
  split at e
  · rename_i h1 e1
    exact hc.s σ H μ sg h _ h1 S rs e1 _ fun H1 μ1 S1 l1 => iteT (a.x σ H1 μ1 sg h1 xn sg' h' S1 (rs.mono l1) e (k.le l1) E)
  · rename_i h1 e1
    exact hc.s σ H μ sg h _ h1 S rs e1 _ fun H1 μ1 S1 l1 => iteF (b.x σ H1 μ1 sg h1 xn sg' h' S1 (rs.mono l1) e (k.le l1) E)
  · cases e⟩
theorem dsx_while {body : List Stmt} {tb : TS} {mb : MS} {xb : MX} (N : Nat) (hc : DT K X c tc mc) (hb : DSsX K mg X W body tb mb xb) : DSX K mg X W (.While c body [] pos) (tWhile tc tb) (whileM mc mb N) (whileX mc mb xb N) := ⟨hc.k, fun tk po => ps_while po hc.p (hb.p tk po), ss_while N hc.s hb.s, by
  intro Φ σ H μ sg h xn sg' h' S rs e k E
  refine ⟨fun m σ1 H1 => ∃ μ1 sg1 h1, Sm Φ K H1 μ1 h1 ∧ Le K H μ H1 μ1 ∧ Rs K H1 μ1 sg1 σ1 ∧ whileX mc mb xb m sg1 h1 = some (xn, sg', h'), ⟨N, μ, sg, h, S, Le.refl, rs, e⟩, ?_⟩
  rintro m σ1 H1 ⟨μ1, sg1, h1, S1, l1, rs1, e1⟩
  cases m with
  | zero => cases e1
  | succ m =>
    unfold whileX at e1
    split at e1
    · rename_i h2 e2
      refine hc.s σ1 H1 μ1 sg1 h1 _ h2 S1 rs1 e2 _ fun H2 μ2 S2 l2 => iteT ?_
      refine ⟨fun σ3 H3 => ∃ μ3 sg3 h3, Sm Φ K H3 μ3 h3 ∧ Le K H μ H3 μ3 ∧ Rs K H3 μ3 sg3 σ3 ∧ whileX mc mb xb m sg3 h3 = some (xn, sg', h'), fun σ3 H3 q => ⟨m, Nat.lt_succ_self _, q⟩, ?_⟩
      split at e1
      · rename_i r e3
        cases e1
        exact hb.x σ1 H2 μ2 sg1 h2 xn sg' h' S2 (rs1.mono l2) e3 ((k.le l1).le l2) _
      · split at e1
        · rename_i sg3 h3 e3
          exact hb.s σ1 H2 μ2 sg1 h2 _ h3 S2 (rs1.mono l2) e3 _ fun σ3 H3 μ3 S3 l3 rs3 => ⟨μ3, sg3, h3, S3, (l1.trans l2).trans l3, rs3, e1⟩
        · rename_i sg3 h3 e3
          exact hb.s σ1 H2 μ2 sg1 h2 _ h3 S2 (rs1.mono l2) e3 _ fun σ3 H3 μ3 S3 l3 rs3 => ⟨μ3, sg3, h3, S3, (l1.trans l2).trans l3, rs3, e1⟩
        · cases e1
    · cases e1⟩
theorem dsx_for {tg it : Expr} {ti : TI} {mi : MI} {gt : TG} {mg' : MG} {body : List Stmt} {tb : TS} {mb : MS} {xb : MX} (N : Nat) (hi : DI K X tg it ti mi) (hg : DG K X tg gt mg') (hb : DSsX K mg X W body tb mb xb) (hs : ∀ x, foldedSetIterable it X.env x = pure x := by intro _; rfl) (hc : X.calm = true := by rfl) :
    DSX K mg X W (.For tg it body [] pos) (tFor ti gt tb) (forSM mi mg' mb N) (forSX mi mg' mb xb N) := ⟨hi.k, fun tk po => ps_for po hc hi.p hg.p (hb.p tk po) hs, ss_for N hi.s hg.s hb.s, by
  intro Φ σ H μ sg h xn sg' h' S rs e k E
  unfold forSX at e
  split at e
  · rename_i s h0 e0
    refine hi.s σ H μ sg h s h0 S rs e0 _ fun J H0 μ0 S0 l0 hJ => ?_
    refine ⟨fun i m σ1 H1 => ∃ μ1 sg1 h1, Sm Φ K H1 μ1 h1 ∧ Le K H0 μ0 H1 μ1 ∧ Rs K H1 μ1 sg1 σ1 ∧ forX s mg' mb xb m i sg1 h1 = some (xn, sg', h'), ⟨N, μ0, sg, h0, S0, Le.refl, rs.mono l0, e⟩, ?_⟩
    rintro i m σ1 H1 ⟨μ1, sg1, h1, S1, l1, rs1, e1⟩
    cases m with
    | zero => cases e1
    | succ m =>
      unfold forX at e1
      obtain ⟨j1, j2⟩ := hJ i H1 μ1 h1 S1 l1
      split at e1
      · rename_i d q
        obtain ⟨go, yld⟩ := j1 d q
        refine .inr ⟨go, fun σ3 H3 => ∃ μ3 sg3 h3, Sm Φ K H3 μ3 h3 ∧ Le K H0 μ0 H3 μ3 ∧ Rs K H3 μ3 sg3 σ3 ∧ forX s mg' mb xb m (i + 1) sg3 h3 = some (xn, sg', h'), fun σ3 H3 q => ⟨m, Nat.lt_succ_self _, q⟩, fun x H2 y => ?_⟩
        obtain ⟨S2, l2, r2⟩ := yld x H2 y
        split at e1
        · rename_i sg3 h3 e3
          refine hg.s σ1 H2 μ1 sg1 h1 d x sg3 h3 S2 (rs1.mono l2) r2 e3 _ fun σ3 H3 μ3 S3 l3 rs3 => ?_
          split at e1
          · rename_i r e4
            cases e1
            exact hb.x σ3 H3 μ3 sg3 h3 xn sg' h' S3 rs3 e4 ((((k.le l0).le l1).le l2).le l3) _
          · split at e1
            · rename_i sg4 h4 e4
              exact hb.s σ3 H3 μ3 sg3 h3 _ h4 S3 rs3 e4 _ fun σ4 H4 μ4 S4 l4 rs4 => ⟨μ4, sg4, h4, S4, ((l1.trans l2).trans l3).trans l4, rs4, e1⟩
            · rename_i sg4 h4 e4
              exact hb.s σ3 H3 μ3 sg3 h3 _ h4 S3 rs3 e4 _ fun σ4 H4 μ4 S4 l4 rs4 => ⟨μ4, sg4, h4, S4, ((l1.trans l2).trans l3).trans l4, rs4, e1⟩
            · cases e1
        · cases e1
      · cases e1
  · cases e⟩
end

/-! ### an own exception's own __init__ -/
/-- what the written part says of a base class whose __init__ is called by its name -/
structure BasC (K : PySem.W.Frag) (mg : Str → Option Value) (x : Str) : Prop where
  ex : ∃ C : Addr, mg x = some (.ref C) ∧ PySem.W.readsIn K C (.type "type") = true ∧ PySem.W.findCls K (.ref C) (.type "type") "__init__" = some (.val (.builtin "ValueError.__init__"))
section
variable {X : Cx} {x : Str} {e : Expr} {es : List Expr} {ta : TA} {p1 p2 pos : Pos}
theorem pe_binit {pl : Sem Bool} (b : BasC X.K X.mg x) (hg : Gl X x) (ha : PA X (e :: es) ta) (hdb : (x == ("__debug__" : Str)) = false := by decide)
    (hc : eval (.Call (.Attribute (.Name x p1) "__init__" p2) (e :: es) [] pos) X.env = (do
      let ov ← eval (.Name x p1) X.env
      standAt p2.atName
      let (f, first) ← holding [ov] (getMethod ov "__init__" pl)
      callWith pos f first (backTo pos (starEach (e :: es) X.env)) (backToKw pos (keywordEach [] X.env))) := by rfl)
    (he : starEach (e :: es) X.env = (false, eval e X.env) :: starEach es X.env := by rfl) (hpl : (backTo pos (starEach es X.env)).any (·.1) = false := by rfl) :
    PE X (.Call (.Attribute (.Name x p1) "__init__" p2) (e :: es) [] pos) (tVeI X.K ta) := by
  obtain ⟨CB, hm, hr, hf⟩ := b.ex
  refine ⟨fun pins s σ H Q I h => ?_⟩
  refine PySem.W.methodCall_KW (ld_glob I hg hm ?_ hdb) hc
  refine PySem.W.method_ref I.kIn hr hf (by decide +kernel) ?_
  show wpAny _ _ (callWith pos (Value.builtin "ValueError.__init__") [] (backTo pos (starEach (e :: es) X.env)) []) _ _ _
  refine PyProof.Rows.callWith_method1 (thn (ha.run pos pins _ σ H _ (I.tok _) h) fun us s1 ⟨vs, H1, I1, r1, a, C, ws, ev, hl, T, ea, q⟩ => ?_) he hpl
  subst ev
  cases r1 with
  | @cons _ u0 _ ur ra rw' =>
    obtain rfl : u0 = Value.ref a := ra
    have hlen : ur.length ≤ sizeLine := by
      rw [← Paired.length rw', sizeLine_eq]
      omega
    exact oinit_ok T I1 ea hlen fun s' J => ⟨.non, H1, J, rfl, q⟩
end
end DL

/-! DM12: several except clauses, with names or without. -/
namespace DL
open PySem L2 PySem.Spec PyProof.Rows
/-- one clause: its class, the slot of its name, its suite -/
structure Hs where
  c : Value
  i : Option Nat
  ts : Addr → Value → Option Addr → TS
def putI (i : Option Nat) (σ : L2.St) (o : Option V) : L2.St := match i with
  | some i => σ.set i o
  | none => σ
def endI (i : Option Nat) (D : Ends) : Ends := { nx := fun σ' H' => D.nx (putI i σ' none) H', rt := D.rt, bk := fun σ' H' => D.bk (putI i σ' none) H', ct := fun σ' H' => D.ct (putI i σ' none) H' }
/-- what the clauses wish of an exception of the body, one after the other -/
def wHs (K : Kw) (Wout : WX) (D : Ends) : List Hs → WX
  | [] => Wout
  | q :: r => fun cls d σ H => ∃ b, PySem.W.exmOne K cls q.c = some b ∧ (b = true → ∀ a, H a = none → q.ts a cls d (endI q.i D) (putI q.i σ (some (.ref a))) H) ∧ (b = false → wHs K Wout D r cls d σ H)
inductive HsOk (X : Cx) : List ExceptHandler → List Hs → Prop
  | nil : HsOk X [] []
  | cons {x : Str} {c : Value} {ts : Addr → Value → Option Addr → TS} {b₀ : Stmt} {suite : List Stmt} {np pos' : Pos} {hds : List ExceptHandler} {l : List Hs} (hc : Names X x c)
      (hsu : ∀ (a : Addr) (oe : Obj) (cls : Value) (d : Option Addr) (pn : List (Addr × Obj)), Zc cls d oe → (∃ vs, oe.data = .fields vs) → PSs (X.suite a ((a, oe) :: pn)) (b₀ :: suite) (ts a cls d)) (r : HsOk X hds l) :
      HsOk X (.ExceptHandler (some (.Name x np)) none (b₀ :: suite) pos' :: hds) (⟨c, none, ts⟩ :: l)
  | consA {x n : Str} {i : Nat} {c : Value} {ts : Addr → Value → Option Addr → TS} {b₀ : Stmt} {suite : List Stmt} {np pos' : Pos} {hds : List ExceptHandler} {l : List Hs} (hc : Names X x c) (hi : X.N[i]? = some n) (hln : X.env.kindOf n = some .local)
      (hsu : ∀ (a : Addr) (oe : Obj) (cls : Value) (d : Option Addr) (pn : List (Addr × Obj)), Zc cls d oe → (∃ vs, oe.data = .fields vs) → PSs (X.suite a ((a, oe) :: pn)) (b₀ :: suite) (ts a cls d)) (r : HsOk X hds l) :
      HsOk X (.ExceptHandler (some (.Name x np)) (some n) (b₀ :: suite) pos' :: hds) (⟨c, some i, ts⟩ :: l)
section
variable {X : Cx} {body : List Stmt} {h₀ : ExceptHandler} {hds : List ExceptHandler} {l : List Hs} {pos : Pos} {tb : WX → TS} {Wout : WX}
theorem ps_try_hs (hs : X.stack = X.env :: X.outer) (hf : X.env.frame = some X.env.locals) (hN : X.N.Nodup) (tk : Takes X Wout)
    (hb : ∀ (W : WX) (pn : List (Addr × Obj)) (xe : Value → Shared → Prop), Takes (X.tr pn xe) W → PassesOwn (model X.prog X.w) X.A X.env xe → PSs (X.tr pn xe) body (tb W))
    (hh : HsOk X (h₀ :: hds) l) : PS X (.Try body (h₀ :: hds) [] [] pos) (fun D σ H => tb (wHs (KOf X) Wout D l) D σ H) := by
  refine ⟨fun pins s σ H D I h => ?_⟩
  have ok := I.ok
  have hfr : X.A.frames = some (X.env :: X.outer) := by rw [ok.frames, hs]
  refine wpAny_Try_except ?_
  refine wpAny_mono ((hb (wHs (KOf X) Wout D l) (X.pn ++ pins) (fun e s₁ => wpAny (model X.prog X.w) X.A (noteFrame e X.env) (fun _ s₂ => wpAny (model X.prog X.w) X.A (setFlight e none) (fun _ s₃ =>
    wpAny (model X.prog X.w) X.A (handleBy e X.env (h₀ :: hds)) (SP X pins D) X.xe s₃) X.xe s₂) X.xe s₁) (fun u s' xx => ?_) PassesOwn.looking).run [] s σ H D (I.toTry _) h) (fun f s1 hsp => ?_) (fun e s1 he => he)
  · obtain ⟨a, B, sI, pins', σ', H', cls, d, rfl, J', nb, up, sky, na, os, ag, w⟩ := xx
    have J : Inv X pins σ' H' sI := J'.ofTry ok
    have sky' : Sky B (X.env :: X.outer) a (Zc cls d) X.env.locals s'.heap := by rw [← hs]; exact sky
    show wpAny (model X.prog X.w) X.A (noteFrame (.ref a) X.env) _ _ _
    refine Sky.land Zc.steady hfr hf sky' fun h3 fl3 up3 => ?_
    have J3 : Inv X pins σ' H' { s' with heap := h3 } := J.landed nb fl3.1 (up.trans up3) os ag
    obtain ⟨oe3, vs3, he3, hz3, hd3⟩ := fl3.there
    have nfr : a ∉ frs (X.env :: X.outer) := fun hm => by
      obtain ⟨_, o', e', hnf⟩ := fl3.2.2.1.mem hm
      rw [he3] at e'; cases e'
      exact hnf _ hd3
    have nL : a ≠ X.env.locals := fun z => nfr (List.mem_filterMap.mpr ⟨X.env, List.mem_cons_self, by rw [hf, z]⟩)
    have nF : a ∉ X.fs := fun hm => by
      obtain ⟨e, he, q⟩ := List.mem_filterMap.mp hm
      exact nfr (List.mem_filterMap.mpr ⟨e, List.mem_cons_of_mem _ he, q⟩)
    have S3 := J3.suite he3 hd3 na nL nF
    have LT : PySem.W.Looks (model X.prog X.w) h3 (typeOf (.ref a)) cls := fun A Q E s k q => wpAny_typeOf_ref (k _ _ he3) (by rw [hz3.1]; exact q)
    have test : ∀ {x : Str} {c : Value} {np : Pos}, Names X x c → ∀ {Q : Value → Shared → Prop} {E : Value → Shared → Prop}, Q c { s' with heap := h3 } → wpAny (model X.prog X.w) (X.A.mark (some (.ref a))) (eval (.Name x np) X.env) Q E { s' with heap := h3 } := fun {x c np} hc {Q E} q => by
      obtain ⟨hg, hdbg, hm | ⟨hm, hv, hnn⟩⟩ := hc
      · exact ld_glob (X := X.suite a ((a, oe3) :: (X.pn ++ pins))) S3 hg hm q hdbg
      · exact ld_blt (X := X.suite a ((a, oe3) :: (X.pn ++ pins))) S3 hg hm hv q hnn hdbg
    have go : ∀ {hds' : List ExceptHandler} {l' : List Hs}, HsOk X hds' l' → wHs (KOf X) Wout D l' cls d σ' H' → wpAny (model X.prog X.w) X.A (handleBy (.ref a) X.env hds') (SP X pins D) X.xe { s' with heap := h3 } := by
      intro hds' l' hk
      induction hk with
      | nil =>
        intro w
        refine wpAny_handleBy_nil ?_
        obtain ⟨k1, k2, k3, oe, vs, T, oT, ts', he, hz, hd, h1, hr⟩ := id fl3
        unfold PySem.passOn
        refine wpAny_bind (wpAny_field he hd h1 ?_)
        rw [if_neg (show ¬ ((Value.ref T == Value.none) = true) from by simp)]
        have fin : wpAny (model X.prog X.w) X.A (setFlight (.ref a) X.env.frame) (fun _ s4 => wpAny (model X.prog X.w) X.A (throw (.ref a) : Sem Flow) (SP X pins D) X.xe s4) X.xe { s' with heap := h3 } := by
          rw [hf]
          refine HandSPX.setFlight_upZ fl3 fun h4 hh4 up4 => wpAny_throw (tk _ _ ?_)
          exact ⟨a, B, sI, pins, σ', H', cls, d, rfl, J, nb, (up.trans up3).trans up4, .inr (.inr (by rw [hs]; exact hh4)), na, os, ag, w⟩
        first
          | exact wpAny_bind (wpAny_pure (wpAny_bind fin))
          | exact wpAny_bind fin
      | @cons x c ts b₀ suite np pos' hds2 l2 hc hsu r ih =>
        intro w
        obtain ⟨b, hb1, hyes, hno⟩ := w
        refine wpAny_handleBy_cons (codeAny_handlers_test ?_) (by intro q; cases q)
        refine test hc ((PySem.W.exm_one (M := model X.prog X.w) (J3.kIn) LT hb1).here ?_)
        cases b with
        | true =>
          refine codeAny_handlers_suite ?_
          refine HandSPX.lands_againZ fl3 fun h4 fl4 up4 => ?_
          have J4 : Inv X pins σ' H' { s' with heap := h4 } := J.landed nb fl4.1 ((up.trans up3).trans up4) os ag
          obtain ⟨oe4, vs4, he4, hz4, hd4⟩ := fl4.there
          have S4 := J4.suite he4 hd4 na nL nF
          refine wpAny_mono ((hsu a oe4 cls d (X.pn ++ pins) hz4 ⟨_, hd4⟩).run [] _ _ H' _ S4 (hyes rfl a na)) (fun f s6 hsp => ?_) (fun _ _ z => False.elim z)
          cases f with
          | next =>
            obtain ⟨σ6, H6, S6, q6⟩ := hsp
            exact ⟨_, _, S6.unsuite ok, q6⟩
          | brk =>
            obtain ⟨σ6, H6, S6, q6⟩ := hsp
            exact ⟨_, _, S6.unsuite ok, q6⟩
          | cont =>
            obtain ⟨σ6, H6, S6, q6⟩ := hsp
            exact ⟨_, _, S6.unsuite ok, q6⟩
          | ret u =>
            obtain ⟨v6, σ6, H6, S6, r6, q6⟩ := hsp
            exact ⟨_, _, _, S6.unsuite ok, r6, q6⟩
        | false =>
          show wpAny _ X.A (handleBy (.ref a) X.env hds2) _ _ _
          exact ih (hno rfl)
      | @consA x n i c ts b₀ suite np pos' hds2 l2 hc hi hln hsu r ih =>
        intro w
        obtain ⟨b, hb1, hyes, hno⟩ := w
        refine wpAny_handleBy_cons (codeAny_handlers_test ?_) (by intro q; cases q)
        refine test hc ((PySem.W.exm_one (M := model X.prog X.w) (J3.kIn) LT hb1).here ?_)
        cases b with
        | true =>
          refine codeAny_handlers_suite_as ?_
          refine HandSPX.lands_againZ fl3 fun h4 fl4 up4 => ?_
          have J4 : Inv X pins σ' H' { s' with heap := h4 } := J.landed nb fl4.1 ((up.trans up3).trans up4) os ag
          obtain ⟨oe4, vs4, he4, hz4, hd4⟩ := fl4.there
          have S4 := J4.suite he4 hd4 na nL nF
          refine store_ok (X := X.suite a ((a, oe4) :: (X.pn ++ pins))) (v := .ref a) S4 hN hi (.inl hln) rfl (fun s5 S5 => ?_) (.inr hln)
          refine wpAny_mono ((hsu a oe4 cls d (X.pn ++ pins) hz4 ⟨_, hd4⟩).run [] s5 _ H' _ S5 (hyes rfl a na)) (fun f s6 hsp => ?_) (fun _ _ z => False.elim z)
          have end_ : ∀ {σ6 : L2.St} {H6 : Hp} {Q : Shared → Prop}, Inv (X.suite a ((a, oe4) :: (X.pn ++ pins))) [] σ6 H6 s6 → (∀ s7, Inv X pins (σ6.set i none) H6 s7 → Q s7) →
              wpAny (model X.prog X.w) X.A (do bindName X.env n .none; unbindBehindTheSuite X.env n pos') (fun _ s7 => Q s7) X.xe s6 := fun {σ6 H6 Q} S6 hq => gone_ok (S6.unsuite ok) hN hi hln hq
          cases f with
          | next =>
            obtain ⟨σ6, H6, S6, q6⟩ := hsp
            exact end_ S6 fun s7 J7 => ⟨_, _, J7, q6⟩
          | brk =>
            obtain ⟨σ6, H6, S6, q6⟩ := hsp
            exact end_ S6 fun s7 J7 => ⟨_, _, J7, q6⟩
          | cont =>
            obtain ⟨σ6, H6, S6, q6⟩ := hsp
            exact end_ S6 fun s7 J7 => ⟨_, _, J7, q6⟩
          | ret u =>
            obtain ⟨v6, σ6, H6, S6, r6, q6⟩ := hsp
            exact end_ S6 fun s7 J7 => ⟨_, _, _, J7, r6, q6⟩
        | false =>
          show wpAny _ X.A (handleBy (.ref a) X.env hds2) _ _ _
          exact ih (hno rfl)
    exact go hh w
  · cases f with
    | next =>
      obtain ⟨σ', H', J', q⟩ := hsp
      exact wpAny_execs_nil ⟨σ', H', J'.ofTry ok, q⟩
    | brk =>
      obtain ⟨σ', H', J', q⟩ := hsp
      exact ⟨σ', H', J'.ofTry ok, q⟩
    | cont =>
      obtain ⟨σ', H', J', q⟩ := hsp
      exact ⟨σ', H', J'.ofTry ok, q⟩
    | ret u =>
      obtain ⟨v, σ', H', J', r, q⟩ := hsp
      exact ⟨v, σ', H', J'.ofTry ok, r, q⟩
end
end DL

/-! DM13: raise C(..); own exceptions; suites; try. -/
namespace DL
open PySem L2 PySem.Spec PyProof.Rows

/-! ### what an own __init__ keeps -/
def spI (K : PySem.W.Frag) (C : Addr) (fs : List Str) : Sp := fun vs H Q _ => ∃ (a : Addr) (ys : List V), vs = .ref a :: ys ∧ ys.length = fs.length ∧ H a = some (exo a C none) ∧
  ∀ (H' : Hp) (dx : Addr), H dx = none → dx ≠ a → H' a = some (exo a C (some dx)) → H' dx = some (exd dx (fs.zip ys).reverse) → (∀ b, b ≠ a → b ≠ dx → H' b = H b) → Q .non H'
theorem spI_len {K : PySem.W.Frag} {C : Addr} {fs : List Str} {vs : List V} {H : Hp} {Q : VK} {E : XK} (h : spI K C fs vs H Q E) : vs.length = fs.length + 1 := by
  obtain ⟨a, ys, rfl, hl, _⟩ := h
  rw [List.length_cons, hl]
section
variable {K : PySem.W.Frag} {C : Addr} {N : List Str} {H : Hp} {Q : VK} {E : XK} {vs : List V}
theorem ini1 {f : Str} (T : OexC K C) (hno : PySem.W.findIn K (.ref C) f = some none) (h : spI K C [f] vs H Q E) :
    tSeq (tDrop (tVeI K (tCons (tVar 0) tNil))) (tOst K f (tVar 0) (tVar 1)) { nx := fun _ H' => Q .non H', rt := Q } (L2.start [("self" : Str), f] vs) H := by
  obtain ⟨a, ys, rfl, hl, ha, k⟩ := h
  match ys, hl with
  | [y], _ =>
    refine ⟨_, rfl, a, C, [], rfl, by decide, T, ha, y, rfl, _, rfl, a, C, rfl, T, hno, .inl ⟨ha, fun dx hd hne => ?_⟩⟩
    exact k _ dx hd hne upd_same (by rw [upd_ne hne]; exact upd_same) fun b hb hb2 => by rw [upd_ne hb, upd_ne hb2]
theorem ini2 {f g : Str} (T : OexC K C) (hno : PySem.W.findIn K (.ref C) f = some none) (hno2 : PySem.W.findIn K (.ref C) g = some none) (h : spI K C [f, g] vs H Q E) :
    tSeq (tDrop (tVeI K (tCons (tVar 0) tNil))) (tSeq (tOst K f (tVar 0) (tVar 1)) (tOst K g (tVar 0) (tVar 2))) { nx := fun _ H' => Q .non H', rt := Q } (L2.start [("self" : Str), f, g] vs) H := by
  obtain ⟨a, ys, rfl, hl, ha, k⟩ := h
  match ys, hl with
  | [y, z], _ =>
    refine ⟨_, rfl, a, C, [], rfl, by decide, T, ha, y, rfl, _, rfl, a, C, rfl, T, hno, .inl ⟨ha, fun dx hd hne => ?_⟩⟩
    refine ⟨z, rfl, _, rfl, a, C, rfl, T, hno2, .inr ⟨dx, _, upd_same, by rw [upd_ne hne]; exact upd_same, by simp, ?_⟩⟩
    exact k _ dx hd hne (by rw [upd_ne fun z => hne z.symm]; exact upd_same) upd_same fun b hb hb2 => by rw [upd_ne hb2, upd_ne hb, upd_ne hb2]
end
/-- what the text says of an own exception class with fields fs -/
structure ExT (K : PySem.W.Frag) (mg : Str → Option Value) (x : Str) (fs : List Str) : Prop where
  ex : ∃ (C fI : Addr) (fd : FuncData), mg x = some (.ref C) ∧ OexC K C ∧ PySem.W.findIn K (.ref C) "__init__" = some (some (.ref fI)) ∧ PySem.W.typeIn K (.ref fI) = some (.type "function") ∧
    (∀ (P : Program) (w : World) (base : Heap), FnOk P w K mg base (L2.CX P w) 1 fI fd ("self" :: fs) (spI K C fs)) ∧ Binds K fd ("self" :: fs) [] ∧ XfC K C ∧ ∀ f ∈ fs, PySem.W.findIn K (.ref C) f = some none

/-! ### raise -/
def raiseX (x : Str) (fs : List Str) (a : MA) : MX := fun sg h => match a sg h with
  | some (ds, h1) => if ds.length = fs.length ∧ fs.length ≤ 1000 then some (⟨x, (fs.zip ds).reverse⟩, sg, h1) else none
  | none => none
def tRaise (K : Kw) (mg : Str → Option Value) (x : Str) (fs : List Str) (W : WX) (ta : TA) : TS := fun _ σ H => ∀ C, mg x = some (.ref C) → tMkO C (spI K C fs) [] ta σ H fun cls d H' => W cls d σ H'
theorem zip_rev {α β : Type} : ∀ {as : List α} {bs : List β}, as.length = bs.length → (as.zip bs).reverse = as.reverse.zip bs.reverse
  | [], [], _ => rfl
  | a :: as, b :: bs, h => by
    have h' : as.length = bs.length := by simpa using h
    rw [List.zip_cons_cons, List.reverse_cons, zip_rev h', List.reverse_cons, List.reverse_cons, List.zip_append (by simp [h'])]
    rfl
theorem le_xd {K : Kw} {H : Hp} {μ : List Addr} {p : Addr} {o : HO} (hp : H p = none) : Le K H μ (upd H p o) μ := le_new hp
section
variable {K : Kw} {mg : Str → Option Value} {X : Cx} {W : WX} {x : Str} {fs : List Str} {e : Expr} {es : List Expr} {ta : TA} {ma : MA} {p pos pos' : Pos} {k : Nat}
theorem dsx_raise (T : ExT K.f mg x fs) (hr : RoomG (k + 2) X.A) (ha : DA K X (e :: es) ta ma) (hmg : X.mg = mg := by rfl) (hc : X.calm = true := by rfl) (hg : Gl X x := by rfl) (hdb : (x == ("__debug__" : Str)) = false := by decide)
    (he : starEach (e :: es) X.env = (false, eval e X.env) :: starEach es X.env := by rfl) (hpl : (backTo pos (starEach es X.env)).any (·.1) = false := by rfl) :
    DSX K mg X W (.Raise (some (.Call (.Name x p) (e :: es) [] pos)) none pos') (tRaise K mg x fs W ta) neverM (raiseX x fs ma) := ⟨ha.k, fun tk _ => by
  have hk := ha.k
  subst hk
  subst hmg
  obtain ⟨C, fI, fd, hm, oC, iC, tI, F1, hb, _, _⟩ := T.ex
  exact ⟨fun pins s σ H D I q => (ps_raise hc tk (pmk_oex oC iC tI (F1 _ _ _) (hr.r.mono (by omega)) hb .nil passL hg hm ha.p hdb he hpl)).run pins s σ H D I (q C hm)⟩,
  fun {Φ} σ H μ sg h f h' S rs e E k => (by cases e), by
  intro Φ σ H μ sg h xn sg' h' S rs e kk E C hC
  unfold raiseX at e
  split at e
  · rename_i ds h1 e1
    split at e
    · rename_i hl
      cases e
      refine ha.s σ H μ sg h ds _ S rs e1 _ fun vs H1 μ1 S1 l1 r1 => ⟨by rw [r1.len, hl.1]; exact hl.2, fun a hna => ?_⟩
      refine ⟨a, vs, by rw [List.append_nil], by rw [r1.len, hl.1], upd_same, fun H' dx hd hne ea ed kp => ⟨rfl, dx, _, ea, ed, ?_, ?_⟩⟩
      · rw [upd_ne hne] at hd; exact hd
      · rw [upd_ne hne] at hd
        have eH : upd (del H' a) dx (.xd (fs.zip vs).reverse) = upd H1 dx (.xd (fs.zip vs).reverse) := by
          funext b
          by_cases hb : b = dx
          · rw [hb, upd_same, upd_same]
          · rw [upd_ne hb, upd_ne hb]
            by_cases hba : b = a
            · rw [hba, del_same, hna]
            · rw [del_ne hba, kp b hba hb, upd_ne hba]
        rw [eH]
        have l2 : Le K H1 μ1 (upd H1 dx (.xd (fs.zip vs).reverse)) μ1 := le_xd hd
        refine kk σ _ μ1 _ _ (S1.new hd) (l1.trans l2) (rs.mono (l1.trans l2)) ⟨C, dx, vs.reverse, hC, rfl, rfl, ?_, ?_⟩
        · rw [upd_same]
          congr 2
          show _ = (((fs.zip ds).reverse).map (·.1)).zip vs.reverse
          rw [List.map_reverse, List.map_fst_zip (by omega), zip_rev (by rw [r1.len, hl.1])]
        · show Rps K _ μ1 (((fs.zip ds).reverse).map (·.2)) vs.reverse
          rw [List.map_reverse, List.map_snd_zip (by omega)]
          exact (Rps.mono l2 _ _ r1).rev
    · cases e
  · cases e⟩
end

/-! ### what stands in a suite -/
structure Hx (K : Kw) (mg : Str → Option Value) (H : Hp) (μ : List Addr) (σ : L2.St) (sl : Option Nat) (a : Addr) (xn : Xn) (cls : Value) (d : Option Addr) : Prop where
  r : RX K mg H μ xn cls d
  s : ∀ i, sl = some i → σ[i]? = some (some (.ref a))
theorem Hx.mono {K : Kw} {mg : Str → Option Value} {H H' : Hp} {μ μ' : List Addr} {σ : L2.St} {sl : Option Nat} {a : Addr} {xn : Xn} {cls : Value} {d : Option Addr} (l : Le K H μ H' μ') (x : Hx K mg H μ σ sl a xn cls d) : Hx K mg H' μ' σ sl a xn cls d := ⟨x.r.mono l, x.s⟩
def SEh (K : Kw) (mg : Str → Option Value) (sl : Option Nat) (a : Addr) (xn : Xn) (cls : Value) (d : Option Addr) (t : TE) (m : ME) : Prop :=
  ∀ {Φ : Hp} (σ : L2.St) (H : Hp) (μ : List Addr) (sg : Sg) (h : Hd) (y : D) (h' : Hd), Sm Φ K H μ h → Rs K H μ sg σ → Hx K mg H μ σ sl a xn cls d → m sg h = some (y, h') → ∀ Q : VK, Kn Φ K H μ h' y Q → t σ H Q
def SAh (K : Kw) (mg : Str → Option Value) (sl : Option Nat) (a : Addr) (xn : Xn) (cls : Value) (d : Option Addr) (t : TA) (m : MA) : Prop :=
  ∀ {Φ : Hp} (σ : L2.St) (H : Hp) (μ : List Addr) (sg : Sg) (h : Hd) (ys : List D) (h' : Hd), Sm Φ K H μ h → Rs K H μ sg σ → Hx K mg H μ σ sl a xn cls d → m sg h = some (ys, h') → ∀ Q : List V → Hp → Prop,
    (∀ (vs : List V) (H' : Hp) (μ' : List Addr), Sm Φ K H' μ' h' → Le K H μ H' μ' → Rps K H' μ' ys vs → Q vs H') → t σ H Q
structure DEh (K : Kw) (mg : Str → Option Value) (X : Cx) (sl : Option Nat) (a : Addr) (xn : Xn) (cls : Value) (d : Option Addr) (e : Expr) (t : TE) (m : ME) : Prop where
  k : KOf X = K
  p : PE X e t
  s : SEh K mg sl a xn cls d t m
structure DAh (K : Kw) (mg : Str → Option Value) (X : Cx) (sl : Option Nat) (a : Addr) (xn : Xn) (cls : Value) (d : Option Addr) (e : List Expr) (t : TA) (m : MA) : Prop where
  k : KOf X = K
  p : PA X e t
  s : SAh K mg sl a xn cls d t m
section
variable {K : Kw} {mg : Str → Option Value} {X : Cx} {sl : Option Nat} {a : Addr} {xn : Xn} {cls : Value} {d : Option Addr} {e e1 e2 : Expr} {es : List Expr} {t u : TE} {m n : ME} {ta : TA} {ma : MA} {pos : Pos}
theorem deh_of (x : DE K X e t m) : DEh K mg X sl a xn cls d e t m := ⟨x.k, x.p, fun {Φ} σ H μ sg h y h' S rs _ q Q k => x.s σ H μ sg h y h' S rs q Q k⟩
theorem dah_nil (hK : KOf X = K := by rfl) : DAh K mg X sl a xn cls d [] tNil nilM := ⟨hK, pa_nil, fun {Φ} σ H μ sg h y h' S rs _ q Q k => (da_nil (X := X) hK).s σ H μ sg h y h' S rs q Q k⟩
theorem dah_cons (ha : DEh K mg X sl a xn cls d e t m) (hb : DAh K mg X sl a xn cls d es ta ma) (hs : starEach (e :: es) X.env = (false, eval e X.env) :: starEach es X.env := by rfl) : DAh K mg X sl a xn cls d (e :: es) (tCons t ta) (consM m ma) := ⟨ha.k, pa_cons ha.p hb.p hs, by
  intro Φ σ H μ sg h ds h' S rs hx e Q k
  unfold consM at e
  split at e
  · rename_i x h1 e1
    split at e
    · rename_i xs h2 e2
      cases e
      refine ha.s σ H μ sg h x h1 S rs hx e1 _ fun v H1 μ1 S1 l1 r1 => ?_
      refine hb.s σ H1 μ1 sg h1 xs _ S1 (rs.mono l1) (hx.mono l1) e2 _ fun vs H2 μ2 S2 l2 r2 => ?_
      exact k _ H2 μ2 S2 (l1.trans l2) (Rps.cons (Rp.mono l2 _ _ r1) r2)
    · cases e
  · cases e⟩
theorem deh_tup {x1} (ha : DAh K mg X sl a xn cls d es ta ma) : DEh K mg X sl a xn cls d (.Tuple es x1 pos) (tTup ta) (tupM ma) := ⟨ha.k, pe_tup ha.p, by
  intro Φ σ H μ sg h y h' S rs hx e Q k
  unfold tupM at e
  split at e
  · rename_i xs h1 e1
    split at e
    · rename_i hz
      cases e
      refine ha.s σ H μ sg h xs _ S rs hx e1 _ fun vs H1 μ1 S1 l1 r1 => ⟨by rw [r1.len]; exact ln_of hz, fun p hp => kn_tup S1 r1 (fun v H2 μ2 S2 l2 r2 => k v H2 μ2 S2 (l1.trans l2) r2) p hp⟩
    · cases e
  · cases e⟩
theorem seh_op {r : R2} {g : G2} (hs : SO K r g) (ha : SEh K mg sl a xn cls d t m) (hb : SEh K mg sl a xn cls d u n) : SEh K mg sl a xn cls d (tOp r t u) (opM g m n) := by
  intro Φ σ H μ sg h y h' S rs hx e Q k
  unfold opM at e
  split at e
  · rename_i x h1 e1
    split at e
    · rename_i z h2 e2
      refine ha σ H μ sg h x h1 S rs hx e1 _ fun v H1 μ1 S1 l1 r1 => ?_
      refine hb σ H1 μ1 sg h1 z h2 S1 (rs.mono l1) (hx.mono l1) e2 _ fun w H2 μ2 S2 l2 r2 => ?_
      exact hs H2 μ2 h2 x z v w y h' S2 (Rp.mono l2 _ _ r1) r2 e Q fun u H3 μ3 S3 l3 r3 => k u H3 μ3 S3 ((l1.trans l2).trans l3) r3
    · cases e
  · cases e
theorem deh_cmp {op : CmpOp} {r : R2} {g : G2} (hs : SO K r g) (ho : OpR X (compareOp op) r) (ha : DEh K mg X sl a xn cls d e1 t m) (hb : DEh K mg X sl a xn cls d e2 u n) (hm : lastMarks [op] [e2] = false := by with_unfolding_all rfl) : DEh K mg X sl a xn cls d (.Compare e1 [op] [e2] pos) (tOp r t u) (opM g m n) :=
  ⟨ha.k, pe_cmpR ho ha.p hb.p hm, seh_op hs ha.s hb.s⟩
theorem deh_one {op : BoolOp} (ha : DEh K mg X sl a xn cls d e t m) : DEh K mg X sl a xn cls d (.BoolOp op [e] pos) t m := ⟨ha.k, pe_one ha.p, ha.s⟩
theorem deh_and {rest : List Expr} (ha : DEh K mg X sl a xn cls d e1 t m) (hb : DEh K mg X sl a xn cls d (.BoolOp .And (e2 :: rest) pos) u n) : DEh K mg X sl a xn cls d (.BoolOp .And (e1 :: e2 :: rest) pos) (tAndT K t u) (DL.andM m n) := ⟨ha.k, by
  have hk := ha.k
  subst hk
  exact pe_andT ha.p hb.p, by
  intro Φ σ H μ sg h y h' S rs hx e Q k
  unfold DL.andM at e
  split at e
  · rename_i x h1 e1
    refine ha.s σ H μ sg h x h1 S rs hx e1 _ fun v H1 μ1 S1 l1 r1 => ?_
    split at e
    · rename_i et
      exact ⟨true, tru_of S1 r1 et, iteT (hb.s σ H1 μ1 sg h1 y h' S1 (rs.mono l1) (hx.mono l1) e Q fun u H2 μ2 S2 l2 r2 => k u H2 μ2 S2 (l1.trans l2) r2)⟩
    · rename_i et
      cases e
      exact ⟨false, tru_of S1 r1 et, iteF (k v H1 μ1 S1 l1 r1)⟩
    · cases e
  · cases e⟩
end
/-! ### e.f -/
abbrev XTab := List (Str × List Str)
def ExTab (K : PySem.W.Frag) (mg : Str → Option Value) (T : XTab) : Prop := ∀ p ∈ T, ExT K mg p.1 p.2
def fldX (T : XTab) (xn : Xn) (f : Str) : ME := fun _ h => if (T.any fun p => decide (p.1 = xn.cls) && p.2.contains f) = true then match xn.fs.lookup f with
  | some d => some (d, h)
  | none => none else none
theorem lookup_zip {K : Kw} {H : Hp} {μ : List Addr} {f : Str} {d : D} : ∀ {fs : List (Str × D)} {vs : List V}, fs.lookup f = some d → Rps K H μ (fs.map (·.2)) vs → ∃ v, ((fs.map (·.1)).zip vs).lookup f = some v ∧ Rp K H μ d v
  | [], vs, e, r => by cases e
  | (g, y) :: fs, vs, e, r => by
    obtain ⟨v, vs', rfl, r1, r2⟩ := r.cons'
    by_cases hb : (f == g) = true
    · rw [List.lookup_cons, hb] at e
      cases e
      exact ⟨v, by rw [List.map_cons, List.zip_cons_cons, List.lookup_cons, hb], r1⟩
    · have hb' : (f == g) = false := by simpa using hb
      rw [List.lookup_cons, hb'] at e
      obtain ⟨w, q1, q2⟩ := lookup_zip e r2
      exact ⟨w, by rw [List.map_cons, List.zip_cons_cons, List.lookup_cons, hb']; exact q1, q2⟩
def tFld (K : Kw) (a : Addr) (cls : Value) (d : Option Addr) (f : Str) (te : TE) : TE := fun σ H Q => ∃ C, cls = .ref C ∧ XfC K C ∧ PySem.W.findIn K (.ref C) f = some none ∧ tXf a cls d C f te σ H Q
section
variable {K : Kw} {mg : Str → Option Value} {X : Cx} {i : Nat} {a : Addr} {oe : Obj} {xn : Xn} {cls : Value} {d : Option Addr} {pn : List (Addr × Obj)} {f n : Str} {p pos : Pos} {T : XTab}
theorem deh_fld (i : Nat) (tb : ExTab K mg T) (hz : Zc cls d oe) (hf : ∃ vs, oe.data = .fields vs) (hN : X.N[i]? = some n := by rfl) (hV : Vis X.env.scope n := by exact .inl rfl) (hK : KOf X = K := by rfl) (hd : (n == ("__debug__" : Str)) = false := by decide) (hcd : (n == ("__classdict__" : Str)) = false := by decide)
    (hb : attributeBase (.Name n p) f X.env (eval (.Name n p) X.env) = eval (.Name n p) X.env := by rfl) :
    DEh K mg (X.suite a ((a, oe) :: pn)) (some i) a xn cls d (.Attribute (.Name n p) f pos) (tFld K a cls d f (tVar i)) (fldX T xn f) := ⟨hK, by
  have hk := hK
  subst hk
  exact ⟨fun pins s σ H Q I ⟨C, ec, xc, hno, q⟩ => (pe_xf xc hno hz hf (pe_var (X := X.suite a ((a, oe) :: pn)) hN hV (hd := hd) (hcd := hcd)) hb).run pins s σ H Q I q⟩, by
  intro Φ σ H μ sg h y h' S rs hx e Q k
  unfold fldX at e
  split at e
  · rename_i hin
    split at e
    · rename_i dd q
      cases e
      obtain ⟨C, dx, vs, h1, h2, h3, h4, h5⟩ := hx.r
      obtain ⟨v, q1, q2⟩ := lookup_zip q h5
      obtain ⟨pr, hpr, hc⟩ := List.any_eq_true.mp hin
      obtain ⟨c1, c2⟩ := Bool.and_eq_true_iff.mp hc
      obtain ⟨C', fI, fd, m1, _, _, _, _, _, xc, hno⟩ := (tb pr hpr).ex
      rw [of_decide_eq_true c1, h1] at m1
      cases m1
      exact ⟨C, h2, xc, hno f (by simpa using c2), .ref a, hx.s i rfl, rfl, h2, dx, _, v, h3, h4, q1, k v H μ S Le.refl q2⟩
    · cases e
  · cases e⟩
end
end DL

/-! DM14: repr; suites with built-ins; try. -/
namespace DL
open PySem L2 PySem.Spec PyProof.Rows

/-! ### repr -/
def rRepr (K : Kw) : List V → Hp → VK → Prop := fun vs H Q => ∃ (v : V), vs = [v] ∧
  ((∃ d, Dp K H v d ∧ d.showable = true ∧ d.hasDict = false ∧ d.depth ≤ 64 ∧ d.shown.length ≤ sizeLine ∧ Q (.str d.shown) H) ∨
    ∃ a, v = .ref a ∧ H a = some (.dK []) ∧ Q (.str (PyData.dict []).shown) H)
section
variable {K : Kw} {X : Cx}
theorem call_reprU (hg : X.A.guards = some []) (hu : X.A.units + 100 < cLine) (hK : KOf X = K := by rfl) : CallR X (.builtin "repr") (rRepr K) := by
  subst hK
  intro pins s σ H xs us Q I r h
  obtain ⟨v, rfl, ⟨d, hd, hs, hn, hdp, hl, q⟩ | ⟨a, rfl, ha, q⟩⟩ := h
  · obtain ⟨u, rfl, r1⟩ := vals1 r
    obtain ⟨as, rd⟩ := Dp.reads I d v u hd r1
    cases rd with
    | none => exact PySem.P.repr_of_none ⟨.str _, H, I.tok _, ⟨_, rfl⟩, q⟩
    | bool b => exact PySem.P.repr_of_bool ⟨.str _, H, I.tok _, ⟨_, rfl⟩, q⟩
    | int i t => exact PySem.P.repr_of_int (by simpa [PyData.showable] using hs) ⟨.str _, H, I.tok _, ⟨_, rfl⟩, q⟩
    | str x t => exact PySem.P.repr_of_str ⟨.str _, H, I.tok _, ⟨_, rfl⟩, q⟩ (by simpa [PyData.shown] using hl)
    | list h1 h2 h3 h4 => exact repr_of_reads' (.list h1 h2 h3 h4) hs (fun z => by rw [hn] at z; cases z) hg (by omega) (fun _ _ z => z) (fun h' u tk kp => ⟨.str _, H, I.kept (t' := tk) kp, ⟨_, rfl⟩, q⟩) hl
    | tuple h1 h2 h3 h4 => exact repr_of_reads' (.tuple h1 h2 h3 h4) hs (fun z => by rw [hn] at z; cases z) hg (by omega) (fun _ _ z => z) (fun h' u tk kp => ⟨.str _, H, I.kept (t' := tk) kp, ⟨_, rfl⟩, q⟩) hl
    | dict h1 h2 h3 h4 h5 => simp [PyData.hasDict] at hn
  · obtain ⟨u, rfl, r1⟩ := vals1 r
    obtain rfl : u = Value.ref a := r1
    obtain ⟨_, hm, vs, kv, o, es, ep, ho, hx, hdt, _, hp, _⟩ := I.hok a _ ha
    have e0 : vs = [] := by cases kv; rfl
    subst e0
    have e1 : es.toList = [] := by
      generalize es.toList = l at hp ⊢
      cases hp
      rfl
    have rd : Reads s.heap (.ref a) (.dict []) (a :: [] ++ []) := .dict (n := ep) ho hx.1 hdt (by rw [e1]; exact .nil) (by rw [e1]; exact .nil)
    have hdp : PyData.depth (.dict []) ≤ 2 := by decide
    refine repr_of_reads' rd rfl (fun _ hm' => ?_) hg (by omega) (fun _ _ z => z) (fun h' u tk kp => ⟨.str _, H, I.kept (t' := tk) kp, ⟨_, rfl⟩, q⟩) (by rw [sizeLine_eq]; decide +kernel)
    have : sysModules = a := by simpa using hm'
    rw [← this] at hm
    simp at hm
def reprD : GC := fun xs h => match xs with
  | [x] => match datD h x with
    | some p => if p.showable = true ∧ p.hasDict = false ∧ p.depth ≤ 64 ∧ p.shown.length ≤ LN then some (.str p.shown, h) else none
    | none => match x with
      | .at n => match h[n]? with
        | some (.dct []) => some (.str (PyData.dict []).shown, h)
        | _ => none
      | _ => none
  | _ => none
theorem sc_repr : SC K (rRepr K) reprD := by
  intro Φ H μ h xs vs d h' S r e Q k
  unfold reprD at e
  split at e
  · obtain ⟨v, rfl, r1⟩ := rps1 r
    split at e
    · rename_i p q
      split at e
      · rename_i hc
        cases e
        exact ⟨v, rfl, .inl ⟨p, dat_of S r1 q, hc.1, hc.2.1, hc.2.2.1, ln_of hc.2.2.2, k _ H μ S Le.refl rp_str⟩⟩
      · cases e
    · split at e
      · split at e
        · rename_i q
          cases e
          obtain ⟨a, ea, rfl⟩ := rp_at' r1
          obtain ⟨kw, hk, rk⟩ := S.dct q ea
          rw [rk.nil'] at hk
          exact ⟨_, rfl, .inr ⟨a, rfl, hk, k _ H μ S Le.refl rp_str⟩⟩
        · cases e
      · cases e
  · cases e
end

/-! ### built-ins in a suite -/
section
variable {K : Kw} {mg : Str → Option Value} {X : Cx} {sl : Option Nat} {a : Addr} {xn : Xn} {cls : Value} {d : Option Addr} {e : Expr} {es : List Expr} {t u : TE} {m n : ME} {ta : TA} {ma : MA} {pos p : Pos} {r : List V → Hp → VK → Prop} {g : GC}
theorem deh_callB {x : Str} {id : String} (hs : SC K r g) (hc : CallR X (.builtin id) r) (hm : X.mg x = none) (ha : DAh K mg X sl a xn cls d (e :: es) ta ma) (hv : bootBuiltins x = some (.builtin id) := by decide +kernel) (hg : Gl X x := by rfl) (hn : x ≠ "__name__" := by decide) (hdb : (x == ("__debug__" : Str)) = false := by decide)
    (he : starEach (e :: es) X.env = (false, eval e X.env) :: starEach es X.env := by rfl) (hpl : (backTo pos (starEach es X.env)).any (·.1) = false := by rfl) : DEh K mg X sl a xn cls d (.Call (.Name x p) (e :: es) [] pos) (tCB r ta) (cbM g ma) := ⟨ha.k, pe_callB hc hg hm hv ha.p hn hdb he hpl, by
  intro Φ σ H μ sg h y h' S rs hx e Q k
  unfold cbM at e
  split at e
  · rename_i xs h1 e1
    exact ha.s σ H μ sg h xs h1 S rs hx e1 _ fun vs H1 μ1 S1 l1 r1 => hs H1 μ1 h1 xs vs y h' S1 r1 e Q fun v H2 μ2 S2 l2 r2 => k v H2 μ2 S2 (l1.trans l2) r2
  · cases e⟩
end

/-! ### try -/
structure Hn where
  cls : Str
  sl : Option Nat
  to : Option Nat
  me : Xn → ME
def setI (i : Option Nat) (sg : Sg) (d : Option D) : Sg := match i with
  | some i => sg.set i d
  | none => sg
def okI (i : Option Nat) (sg : Sg) : Bool := match i with
  | some i => decide (i < sg.length)
  | none => true
def handM (q : Hn) (xn : Xn) (sg : Sg) (h : Hd) : Option (Fl × Hd) := if okI q.sl sg = true then match q.me xn (setI q.sl sg none) h with
  | some (d, h2) => match q.to with
    | none => some (.rt d, h2)
    | some j => some (.nx (setI q.sl ((setI q.sl sg none).set j (some d)) none), h2)
  | none => none else none
def handsM (sub : Str → Str → Bool) : List Hn → Xn → Sg → Hd → Option (Fl × Hd)
  | [], _, _, _ => none
  | q :: r, xn, sg, h => if sub xn.cls q.cls = true then handM q xn sg h else handsM sub r xn sg h
def handsX (sub : Str → Str → Bool) : List Hn → Xn → Bool
  | [], _ => true
  | q :: r, xn => if sub xn.cls q.cls = true then false else handsX sub r xn
def tryM (sub : Str → Str → Bool) (L : List Str) (hs : List Hn) (m : MS) (x : MX) : MS := fun sg h => match x sg h with
  | some (xn, sg1, h1) => if L.contains xn.cls = true then handsM sub hs xn sg1 h1 else none
  | none => m sg h
def tryX (sub : Str → Str → Bool) (L : List Str) (hs : List Hn) (x : MX) : MX := fun sg h => match x sg h with
  | some (xn, sg1, h1) => if L.contains xn.cls = true ∧ handsX sub hs xn = true then some (xn, sg1, h1) else none
  | none => none
theorem rs_putI {K : Kw} {H : Hp} {μ : List Addr} {sg : Sg} {σ : L2.St} (i : Option Nat) (o : Option V) (r : Rs K H μ sg σ) : Rs K H μ (setI i sg none) (putI i σ o) := by
  cases i with
  | none => exact r
  | some i =>
    refine ⟨by show (List.set _ _ _).length = (List.set _ _ _).length; rw [List.length_set, List.length_set, r.1], fun j e q => ?_⟩
    show ∃ v, (List.set σ i o)[j]? = _ ∧ _
    have q' : (List.set sg i none)[j]? = some (some e) := q
    by_cases hj : j = i
    · subst hj
      rw [List.getElem?_set] at q'
      simp at q'
    · rw [List.getElem?_set_ne (fun z => hj z.symm)] at q' ⊢
      exact r.2 j e q'
/-- one suite: return e, or n = e -/
def toS (to : Option Nat) (te : TE) : TS := match to with
  | none => tRet te
  | some j => tAsg te (gName j)
structure HnD (K : Kw) (mg : Str → Option Value) (sub : Str → Str → Bool) (L : List Str) (q : Hn) (r : Hs) (te : Addr → Value → Option Addr → TE) : Prop where
  c : ∃ C, mg q.cls = some (.ref C) ∧ r.c = .ref C ∧ ∀ x ∈ L, ∀ Cx, mg x = some (.ref Cx) → PySem.W.exmOne K (.ref Cx) (.ref C) = some (sub x q.cls)
  i : r.i = q.sl
  t : ∀ a cls d, r.ts a cls d = toS q.to (te a cls d)
  s : ∀ a xn cls d, SEh K mg q.sl a xn cls d (te a cls d) (q.me xn)
inductive HnDs (K : Kw) (mg : Str → Option Value) (sub : Str → Str → Bool) (L : List Str) : List Hn → List Hs → Prop
  | nil : HnDs K mg sub L [] []
  | cons {q : Hn} {r : Hs} {te : Addr → Value → Option Addr → TE} {qs : List Hn} {rs : List Hs} : HnD K mg sub L q r te → HnDs K mg sub L qs rs → HnDs K mg sub L (q :: qs) (r :: rs)
section
variable {K : Kw} {mg : Str → Option Value} {sub : Str → Str → Bool} {L : List Str} {W : WX} {Φ : Hp}
theorem hands_ok {qs : List Hn} {rs : List Hs} (hd : HnDs K mg sub L qs rs) {H : Hp} {μ : List Addr} {sg : Sg} {h : Hd} {σ : L2.St} {xn : Xn} {cls : Value} {d : Option Addr} {f : Fl} {h' : Hd} {E : Ends} (S : Sm Φ K H μ h) (rsg : Rs K H μ sg σ)
    (hx : RX K mg H μ xn cls d) (hL : xn.cls ∈ L) (e : handsM sub qs xn sg h = some (f, h')) (k : Ek Φ K H μ h' f E) : wHs K W E rs cls d σ H := by
  induction hd with
  | nil => cases e
  | @cons q r te qs rs hq _ ih =>
    obtain ⟨C, hC, hr, hsub⟩ := hq.c
    obtain ⟨Cx, dx, vs, h1, h2, h3, h4, h5⟩ := id hx
    refine ⟨sub xn.cls q.cls, by rw [hr, h2]; exact hsub _ hL Cx h1, fun hb a na => ?_, fun hb => ?_⟩
    · unfold handsM at e
      rw [if_pos hb] at e
      unfold handM at e
      rw [hq.t, hq.i]
      split at e
      · rename_i hok
        have hsl : ∀ i, q.sl = some i → i < σ.length := fun i hi => by
          rw [hi] at hok
          rw [← rsg.1]
          exact of_decide_eq_true hok
        split at e
        · rename_i y h2' e1
          have hxx : Hx K mg H μ (putI q.sl σ (some (.ref a))) q.sl a xn cls d := ⟨hx, fun i hi => by
            rw [hi]
            show (List.set σ i _)[i]? = _
            rw [List.getElem?_set_self (hsl i hi)]⟩
          have rs1 : Rs K H μ (setI q.sl sg none) (putI q.sl σ (some (.ref a))) := rs_putI _ _ rsg
          unfold toS
          split at e
          · rename_i hto
            cases e
            rw [hto]
            exact hq.s a xn cls d _ H μ _ h _ _ S rs1 hxx e1 _ fun v H1 μ1 S1 l1 r1 => k v H1 μ1 S1 l1 r1
          · rename_i j hto
            cases e
            rw [hto]
            exact hq.s a xn cls d _ H μ _ h _ _ S rs1 hxx e1 _ fun v H1 μ1 S1 l1 r1 => k _ H1 μ1 S1 l1 (rs_putI q.sl none ((rs1.mono l1).put j r1))
        · cases e
      · cases e
    · unfold handsM at e
      rw [if_neg (by rw [hb]; exact Bool.false_ne_true)] at e
      exact ih e
end
section
variable {K : Kw} {mg : Str → Option Value} {sub : Str → Str → Bool} {L : List Str} {W : WX} {Φ : Hp}
theorem handsX_ok {qs : List Hn} {rs : List Hs} (hd : HnDs K mg sub L qs rs) {H : Hp} {μ : List Addr} {σ : L2.St} {xn : Xn} {cls : Value} {d : Option Addr} {E : Ends}
    (hx : RX K mg H μ xn cls d) (hL : xn.cls ∈ L) (e : handsX sub qs xn = true) (k : W cls d σ H) : wHs K W E rs cls d σ H := by
  induction hd with
  | nil => exact k
  | @cons q r te qs rs hq _ ih =>
    obtain ⟨C, hC, hr, hsub⟩ := hq.c
    obtain ⟨Cx, dx, vs, h1, h2, h3, h4, h5⟩ := id hx
    refine ⟨sub xn.cls q.cls, by rw [hr, h2]; exact hsub _ hL Cx h1, fun hb a na => ?_, fun hb => ?_⟩
    · unfold handsX at e
      rw [if_pos hb] at e
      cases e
    · unfold handsX at e
      rw [if_neg (by rw [hb]; exact Bool.false_ne_true)] at e
      exact ih e
theorem Ek.le' {K : Kw} {H H1 : Hp} {μ μ1 : List Addr} {h' : Hd} {f : Fl} {E : Ends} (k : Ek Φ K H μ h' f E) (l : Le K H μ H1 μ1) : Ek Φ K H1 μ1 h' f E := k.le l
end
section
variable {K : Kw} {mg : Str → Option Value} {X : Cx} {W : WX} {sub : Str → Str → Bool} {L : List Str} {body : List Stmt} {h₀ : ExceptHandler} {hds : List ExceptHandler} {qs : List Hn} {l : List Hs} {pos : Pos} {tb : WX → TS} {m : MS} {x : MX}
/-- what the text says of a clause -/
inductive HnOk (K : Kw) (mg : Str → Option Value) (X : Cx) (sub : Str → Str → Bool) (L : List Str) : List ExceptHandler → List Hn → List Hs → Prop
  | nil : HnOk K mg X sub L [] [] []
  | ret {x : Str} {C : Addr} {np pos' p : Pos} {e : Expr} {te : Addr → Value → Option Addr → TE} {me : Xn → ME} {hds : List ExceptHandler} {qs : List Hn} {l : List Hs} (hm : mg x = some (.ref C)) (hg : Gl X x) (hdb : (x == ("__debug__" : Str)) = false)
      (hx : ∀ r ∈ L, ∀ Cx, mg r = some (.ref Cx) → PySem.W.exmOne K (.ref Cx) (.ref C) = some (sub r x))
      (hsu : ∀ (a : Addr) (oe : Obj) (cls : Value) (d : Option Addr) (pn : List (Addr × Obj)) (xn : Xn), Zc cls d oe → (∃ vs, oe.data = .fields vs) → DEh K mg (X.suite a ((a, oe) :: pn)) none a xn cls d e (te a cls d) (me xn))
      (r : HnOk K mg X sub L hds qs l) : HnOk K mg X sub L (.ExceptHandler (some (.Name x np)) none [.Return (some e) p] pos' :: hds) (⟨x, none, none, me⟩ :: qs) (⟨.ref C, none, fun a cls d => toS none (te a cls d)⟩ :: l)
  | retA {x n : Str} {C : Addr} {i : Nat} {np pos' p : Pos} {e : Expr} {te : Addr → Value → Option Addr → TE} {me : Xn → ME} {hds : List ExceptHandler} {qs : List Hn} {l : List Hs} (hm : mg x = some (.ref C)) (hg : Gl X x) (hdb : (x == ("__debug__" : Str)) = false)
      (hx : ∀ r ∈ L, ∀ Cx, mg r = some (.ref Cx) → PySem.W.exmOne K (.ref Cx) (.ref C) = some (sub r x)) (hi : X.N[i]? = some n) (hln : X.env.kindOf n = some .local)
      (hsu : ∀ (a : Addr) (oe : Obj) (cls : Value) (d : Option Addr) (pn : List (Addr × Obj)) (xn : Xn), Zc cls d oe → (∃ vs, oe.data = .fields vs) → DEh K mg (X.suite a ((a, oe) :: pn)) (some i) a xn cls d e (te a cls d) (me xn))
      (r : HnOk K mg X sub L hds qs l) : HnOk K mg X sub L (.ExceptHandler (some (.Name x np)) (some n) [.Return (some e) p] pos' :: hds) (⟨x, some i, none, me⟩ :: qs) (⟨.ref C, some i, fun a cls d => toS none (te a cls d)⟩ :: l)
  | set {x : Str} {C : Addr} {j : Nat} {np pos' : Pos} {e : Expr} {st : Stmt} {te : Addr → Value → Option Addr → TE} {me : Xn → ME} {hds : List ExceptHandler} {qs : List Hn} {l : List Hs} (hm : mg x = some (.ref C)) (hg : Gl X x) (hdb : (x == ("__debug__" : Str)) = false)
      (hx : ∀ r ∈ L, ∀ Cx, mg r = some (.ref Cx) → PySem.W.exmOne K (.ref Cx) (.ref C) = some (sub r x))
      (hst : ∀ (a : Addr) (pn : List (Addr × Obj)) (t : TE), PE (X.suite a pn) e t → PS (X.suite a pn) st (tAsg t (gName j)))
      (hsu : ∀ (a : Addr) (oe : Obj) (cls : Value) (d : Option Addr) (pn : List (Addr × Obj)) (xn : Xn), Zc cls d oe → (∃ vs, oe.data = .fields vs) → DEh K mg (X.suite a ((a, oe) :: pn)) none a xn cls d e (te a cls d) (me xn))
      (r : HnOk K mg X sub L hds qs l) : HnOk K mg X sub L (.ExceptHandler (some (.Name x np)) none [st] pos' :: hds) (⟨x, none, some j, me⟩ :: qs) (⟨.ref C, none, fun a cls d => toS (some j) (te a cls d)⟩ :: l)
  | setA {x n : Str} {C : Addr} {i j : Nat} {np pos' : Pos} {e : Expr} {st : Stmt} {te : Addr → Value → Option Addr → TE} {me : Xn → ME} {hds : List ExceptHandler} {qs : List Hn} {l : List Hs} (hm : mg x = some (.ref C)) (hg : Gl X x) (hdb : (x == ("__debug__" : Str)) = false)
      (hx : ∀ r ∈ L, ∀ Cx, mg r = some (.ref Cx) → PySem.W.exmOne K (.ref Cx) (.ref C) = some (sub r x)) (hi : X.N[i]? = some n) (hln : X.env.kindOf n = some .local)
      (hst : ∀ (a : Addr) (pn : List (Addr × Obj)) (t : TE), PE (X.suite a pn) e t → PS (X.suite a pn) st (tAsg t (gName j)))
      (hsu : ∀ (a : Addr) (oe : Obj) (cls : Value) (d : Option Addr) (pn : List (Addr × Obj)) (xn : Xn), Zc cls d oe → (∃ vs, oe.data = .fields vs) → DEh K mg (X.suite a ((a, oe) :: pn)) (some i) a xn cls d e (te a cls d) (me xn))
      (r : HnOk K mg X sub L hds qs l) : HnOk K mg X sub L (.ExceptHandler (some (.Name x np)) (some n) [st] pos' :: hds) (⟨x, some i, some j, me⟩ :: qs) (⟨.ref C, some i, fun a cls d => toS (some j) (te a cls d)⟩ :: l)
theorem HnOk.hs (h : HnOk K X.mg X sub L hds qs l) : HsOk X hds l := by
  induction h with
  | nil => exact .nil
  | ret hm hg hdb hx hsu r ih => exact .cons ⟨hg, hdb, .inl hm⟩ (fun a oe cls d pn hz hf => pss_one (ps_ret (hsu a oe cls d pn ⟨("" : Str), []⟩ hz hf).p)) ih
  | retA hm hg hdb hx hi hln hsu r ih => exact .consA ⟨hg, hdb, .inl hm⟩ hi hln (fun a oe cls d pn hz hf => pss_one (ps_ret (hsu a oe cls d pn ⟨("" : Str), []⟩ hz hf).p)) ih
  | set hm hg hdb hx hst hsu r ih => exact .cons ⟨hg, hdb, .inl hm⟩ (fun a oe cls d pn hz hf => pss_one (hst _ _ _ (hsu a oe cls d pn ⟨("" : Str), []⟩ hz hf).p)) ih
  | setA hm hg hdb hx hi hln hst hsu r ih => exact .consA ⟨hg, hdb, .inl hm⟩ hi hln (fun a oe cls d pn hz hf => pss_one (hst _ _ _ (hsu a oe cls d pn ⟨("" : Str), []⟩ hz hf).p)) ih
def oeOf (cls : Value) (d : Option Addr) : Obj := { cls := cls, dict := d, data := .fields #[] }
theorem HnOk.ds (h : HnOk K X.mg X sub L hds qs l) : HnDs K X.mg sub L qs l := by
  induction h with
  | nil => exact .nil
  | ret hm hg hdb hx hsu r ih => exact .cons ⟨⟨_, hm, rfl, hx⟩, rfl, fun _ _ _ => rfl, fun a xn cls d => (hsu a (oeOf cls d) cls d [] xn ⟨rfl, rfl⟩ ⟨_, rfl⟩).s⟩ ih
  | retA hm hg hdb hx hi hln hsu r ih => exact .cons ⟨⟨_, hm, rfl, hx⟩, rfl, fun _ _ _ => rfl, fun a xn cls d => (hsu a (oeOf cls d) cls d [] xn ⟨rfl, rfl⟩ ⟨_, rfl⟩).s⟩ ih
  | set hm hg hdb hx hst hsu r ih => exact .cons ⟨⟨_, hm, rfl, hx⟩, rfl, fun _ _ _ => rfl, fun a xn cls d => (hsu a (oeOf cls d) cls d [] xn ⟨rfl, rfl⟩ ⟨_, rfl⟩).s⟩ ih
  | setA hm hg hdb hx hi hln hst hsu r ih => exact .cons ⟨⟨_, hm, rfl, hx⟩, rfl, fun _ _ _ => rfl, fun a xn cls d => (hsu a (oeOf cls d) cls d [] xn ⟨rfl, rfl⟩ ⟨_, rfl⟩).s⟩ ih
/-- try: body / except ..: .. -/
theorem dsx_try (hN : X.N.Nodup) (hb : ∀ (W' : WX) (pn : List (Addr × Obj)) (xe : Value → Shared → Prop), DSsX K mg (X.tr pn xe) W' body (tb W') m x)
    (hh : HnOk K mg X sub L (h₀ :: hds) qs l) (hs : X.stack = X.env :: X.outer := by rfl) (hf : X.env.frame = some X.env.locals := by rfl) (hK : KOf X = K := by rfl) (hmg : X.mg = mg := by rfl) :
    DSX K mg X W (.Try body (h₀ :: hds) [] [] pos) (fun D σ H => tb (wHs K W D l) D σ H) (tryM sub L qs m x) (tryX sub L qs x) := ⟨hK, fun tk _ => by
  have hk := hK
  subst hk
  subst hmg
  exact ps_try_hs hs hf hN tk (fun W' pn xe tk' po => (hb W' pn xe).p tk' po) hh.hs, by
  have hk := hK
  subst hk
  subst hmg
  intro Φ σ H μ sg h f h' S rs e E k
  have B := hb (wHs (KOf X) W E l) [] fun _ _ => False
  unfold tryM at e
  split at e
  · rename_i xn sg1 h1 e1
    split at e
    · rename_i hL
      refine B.x σ H μ sg h xn sg1 h1 S rs e1 (fun σ1 H1 μ1 cls d S1 l1 rs1 rx => ?_) E
      exact hands_ok hh.ds S1 rs1 rx (by simpa using hL) e (k.le l1)
    · cases e
  · exact B.s σ H μ sg h f h' S rs e E k, by
  have hk := hK
  subst hk
  subst hmg
  intro Φ σ H μ sg h xn sg' h' S rs e k E
  have B := hb (wHs (KOf X) W E l) [] fun _ _ => False
  unfold tryX at e
  split at e
  · rename_i xn1 sg1 h1 e1
    split at e
    · rename_i hL
      cases e
      refine B.x σ H μ sg h xn sg' h' S rs e1 (fun σ1 H1 μ1 cls d S1 l1 rs1 rx => ?_) E
      exact handsX_ok hh.ds rx (by simpa using hL.1) hL.2 (k σ1 H1 μ1 cls d S1 l1 rs1 rx)
    · cases e
  · cases e⟩
end
end DL

/-! DM15: a def whose arguments hold no object's number: its run is told from no objects at all, its new objects stand behind those that are there. -/
namespace DL
open PySem L2 PySem.Spec PyProof.Rows
mutual
def shD (n : Nat) : D → D
  | .at k => .at (n + k)
  | .tup xs => .tup (shDs n xs)
  | .rol xs => .rol (shDs n xs)
  | .non => .non
  | .bl b => .bl b
  | .int i => .int i
  | .str s => .str s
  | .ty s => .ty s
  | .ad a => .ad a
def shDs (n : Nat) : List D → List D
  | [] => []
  | d :: ds => shD n d :: shDs n ds
end
mutual
def cloD : D → Bool
  | .at _ => false
  | .tup xs => cloDs xs
  | .rol xs => cloDs xs
  | .non => true
  | .bl _ => true
  | .int _ => true
  | .str _ => true
  | .ty _ => true
  | .ad _ => true
def cloDs : List D → Bool
  | [] => true
  | d :: ds => cloD d && cloDs ds
end
def shO (n : Nat) : O → O
  | .lst xs => .lst (shDs n xs)
  | .dct kvs => .dct (kvs.map fun kv => (kv.1, shD n kv.2))
  | .ins C fs => .ins C (fs.map fun kv => (kv.1, shD n kv.2))
  | .dcn kvs => .dcn (kvs.map fun kv => (kv.1, shD n kv.2))
def shH (n : Nat) (h : Hd) : Hd := h.map (shO n)
def shX (n : Nat) (x : Xn) : Xn := ⟨x.cls, x.fs.map fun p => (p.1, shD n p.2)⟩
mutual
theorem shD_clo (n : Nat) : ∀ d : D, cloD d = true → shD n d = d
  | .at _, h => by simp [cloD] at h
  | .tup xs, h => by simp only [cloD] at h; simp only [shD, shDs_clo n xs h]
  | .rol xs, h => by simp only [cloD] at h; simp only [shD, shDs_clo n xs h]
  | .non, _ => rfl
  | .bl _, _ => rfl
  | .int _, _ => rfl
  | .str _, _ => rfl
  | .ty _, _ => rfl
  | .ad _, _ => rfl
theorem shDs_clo (n : Nat) : ∀ ds : List D, cloDs ds = true → shDs n ds = ds
  | [], _ => rfl
  | d :: ds, h => by
    simp only [cloDs, Bool.and_eq_true] at h
    simp only [shDs, shD_clo n d h.1, shDs_clo n ds h.2]
end
theorem shDs_map (n : Nat) : ∀ ds : List D, shDs n ds = ds.map (shD n)
  | [] => rfl
  | d :: ds => by simp only [shDs, List.map_cons, shDs_map n ds]
section
variable {K : Kw} {H : Hp} {μ μ1 : List Addr}
mutual
theorem rp_clo : ∀ (d : D) (v : V), cloD d = true → Rp K H μ d v → Rp K H μ1 d v
  | .at _, _, h, _ => by simp [cloD] at h
  | .tup xs, v, h, r => by
    unfold Rp at *
    obtain ⟨p, vs, a, b, c⟩ := r
    exact ⟨p, vs, a, b, rps_clo xs vs (by simpa only [cloD] using h) c⟩
  | .rol xs, v, h, r => by
    unfold Rp at *
    obtain ⟨p, vs, a, b, c⟩ := r
    exact ⟨p, vs, a, b, rps_clo xs vs (by simpa only [cloD] using h) c⟩
  | .non, _, _, r => by unfold Rp at *; exact r
  | .bl _, _, _, r => by unfold Rp at *; exact r
  | .int _, _, _, r => by unfold Rp at *; exact r
  | .str _, _, _, r => by unfold Rp at *; exact r
  | .ty _, _, _, r => by unfold Rp at *; exact r
  | .ad _, _, _, r => by unfold Rp at *; exact r
theorem rps_clo : ∀ (ds : List D) (vs : List V), cloDs ds = true → Rps K H μ ds vs → Rps K H μ1 ds vs
  | [], _, _, r => by unfold Rps at *; exact r
  | d :: ds, vs, h, r => by
    simp only [cloDs, Bool.and_eq_true] at h
    obtain ⟨v, vs', rfl, a, b⟩ := r.cons'
    exact Rps.cons (rp_clo d v h.1 a) (rps_clo ds vs' h.2 b)
end
mutual
theorem rp_sh : ∀ (d : D) (v : V), Rp K H μ1 d v → Rp K H (μ ++ μ1) (shD μ.length d) v
  | .at k, v, r => by
    unfold Rp at r
    obtain ⟨a, ea, rfl⟩ := r
    simp only [shD]
    unfold Rp
    exact ⟨a, by rw [List.getElem?_append_right (by omega), show μ.length + k - μ.length = k by omega]; exact ea, rfl⟩
  | .tup xs, v, r => by
    simp only [shD]
    unfold Rp at *
    obtain ⟨p, vs, a, b, c⟩ := r
    exact ⟨p, vs, a, b, rps_sh xs vs c⟩
  | .rol xs, v, r => by
    simp only [shD]
    unfold Rp at *
    obtain ⟨p, vs, a, b, c⟩ := r
    exact ⟨p, vs, a, b, rps_sh xs vs c⟩
  | .non, _, r => by simp only [shD]; unfold Rp at *; exact r
  | .bl _, _, r => by simp only [shD]; unfold Rp at *; exact r
  | .int _, _, r => by simp only [shD]; unfold Rp at *; exact r
  | .str _, _, r => by simp only [shD]; unfold Rp at *; exact r
  | .ty _, _, r => by simp only [shD]; unfold Rp at *; exact r
  | .ad _, _, r => by simp only [shD]; unfold Rp at *; exact r
theorem rps_sh : ∀ (ds : List D) (vs : List V), Rps K H μ1 ds vs → Rps K H (μ ++ μ1) (shDs μ.length ds) vs
  | [], _, r => by simp only [shDs]; unfold Rps at *; exact r
  | d :: ds, vs, r => by
    obtain ⟨v, vs', rfl, a, b⟩ := r.cons'
    simp only [shDs]
    exact Rps.cons (rp_sh d v a) (rps_sh ds vs' b)
end
mutual
theorem nk_clo : ∀ (d : D) (nk : NestedKey), nkD d = some nk → cloD d = true
  | .at _, _, h => by unfold nkD at h; cases h
  | .tup xs, nk, h => by
    unfold nkD at h
    split at h
    · rename_i ks q
      simp only [cloD]
      exact nks_clo xs ks q
    · cases h
  | .rol xs, _, h => by unfold nkD at h; cases h
  | .non, _, _ => rfl
  | .bl _, _, _ => rfl
  | .int _, _, _ => rfl
  | .str _, _, _ => rfl
  | .ty _, _, _ => rfl
  | .ad _, _, _ => rfl
theorem nks_clo : ∀ (ds : List D) (ks : List NestedKey), nkDs ds = some ks → cloDs ds = true
  | [], _, _ => rfl
  | d :: ds, ks, h => by
    unfold nkDs at h
    split at h
    · rename_i k ks' q1 q2
      simp only [cloDs, nk_clo d k q1, nks_clo ds ks' q2, Bool.and_self]
    · cases h
end
theorem dks_sh : ∀ {kvs : List (D × D)} {xs : List (NestedKey × Addr × Value)}, DKs K H μ1 kvs xs → DKs K H (μ ++ μ1) (kvs.map fun kv => (kv.1, shD μ.length kv.2)) xs
  | [], xs, h => h
  | (k, d) :: r, xs, h => by
    obtain ⟨nk, b, u, v, ys, h0, h1, h2, h3, h4, h5, h6⟩ := h
    exact ⟨nk, b, u, v, ys, h0, h1, h2, rp_clo _ _ (nk_clo _ _ h1) h3, h4, rp_sh _ _ h5, dks_sh h6⟩
theorem ok_sh {a : Addr} : ∀ {o : O}, Ok K H μ1 a o → Ok K H (μ ++ μ1) a (shO μ.length o)
  | .lst xs, ⟨vs, h, r⟩ => ⟨vs, h, rps_sh xs vs r⟩
  | .dct kvs, ⟨kw, h, k, r⟩ => by
    refine ⟨kw, h, ?_, ?_⟩
    · rw [k]
      simp [shO]
    · have := rps_sh (μ := μ) _ _ r
      rw [shDs_map] at this
      simpa [shO, Function.comp_def] using this
  | .ins C fs, ⟨dx, kw, h, k, r⟩ => by
    refine ⟨dx, kw, h, ?_, ?_⟩
    · rw [k]
      simp [shO]
    · have := rps_sh (μ := μ) _ _ r
      rw [shDs_map] at this
      simpa [shO, Function.comp_def] using this
  | .dcn kvs, ⟨xs, h, l, n, d, r⟩ => ⟨xs, h, l, n, d, dks_sh r⟩
/-- all that is there is put aside -/
theorem sm_hide {Φ : Hp} {h : Hd} (S : Sm Φ K H μ h) : ∃ Φ' : Hp, Sm Φ' K H [] [] ∧ ∀ (H' : Hp) (μ1 : List Addr) (h1 : Hd), Sm Φ' K H' μ1 h1 → Le K H [] H' μ1 → Sm Φ K H' (μ ++ μ1) (h ++ shH h.length h1) ∧ Le K H μ H' (μ ++ μ1) := by
  classical
  refine ⟨fun a => if a ∈ μ then H a else Φ a, ⟨rfl, fun n m a e => by simp at e, fun n o e => by simp at e, fun a o e => ?_⟩, fun H' μ1 h1 S1 l1 => ?_⟩
  · refine ⟨?_, by simp⟩
    by_cases ha : a ∈ μ
    · rw [if_pos ha] at e; exact e
    · rw [if_neg ha] at e; exact (S.fr a o e).1
  have kp : ∀ a, a ∈ μ → (∃ u, H a = some u ∧ H' a = some u) ∧ a ∉ μ1 := fun a ha => by
    obtain ⟨n, hn⟩ := List.mem_iff_getElem?.mp ha
    obtain ⟨u, hu, _⟩ := S.has hn
    obtain ⟨q1, q2⟩ := S1.fr a u (by rw [if_pos ha]; exact hu)
    exact ⟨⟨u, hu, q1⟩, q2⟩
  have l : Le K H μ H' (μ ++ μ1) := ⟨⟨μ1, rfl⟩, l1.tup, l1.frz, l1.xdt⟩
  refine ⟨⟨by simp [shH, S.len, S1.len], fun n m a e1 e2 => ?_, fun n o e => ?_, fun a o e => ?_⟩, l⟩
  · rw [List.getElem?_append] at e1 e2
    split at e1 <;> split at e2
    · exact S.nd n m a e1 e2
    · exact absurd (List.mem_of_getElem? e2) (kp a (List.mem_of_getElem? e1)).2
    · exact absurd (List.mem_of_getElem? e1) (kp a (List.mem_of_getElem? e2)).2
    · have := S1.nd _ _ a e1 e2
      omega
  · rw [List.getElem?_append] at e
    split at e
    · obtain ⟨a, ea, k⟩ := S.ob n o e
      obtain ⟨⟨u, h1', h2'⟩, _⟩ := kp a (List.mem_of_getElem? ea)
      exact ⟨a, by rw [List.getElem?_append_left (List.getElem?_eq_some_iff.mp ea).1]; exact ea, k.mono l (by rw [h1', h2'])⟩
    · rename_i hn
      unfold shH at e
      rw [List.getElem?_map] at e
      obtain ⟨o1, e1, rfl⟩ := Option.map_eq_some_iff.mp e
      obtain ⟨a, ea, k⟩ := S1.ob _ _ e1
      refine ⟨a, ?_, ?_⟩
      · rw [List.getElem?_append_right (by rw [S.len]; omega), S.len]
        exact ea
      · have := ok_sh (μ := μ) k
        rw [S.len] at this
        exact this
  · obtain ⟨q1, q2⟩ := S.fr a o e
    obtain ⟨q3, q4⟩ := S1.fr a o (by rw [if_neg q2]; exact e)
    exact ⟨q3, fun z => (List.mem_append.mp z).elim q2 q4⟩
end
def frM (m : GC) : GC := fun xs h => if cloDs xs = true then match m xs [] with
  | some (d, h1) => some (shD h.length d, h ++ shH h.length h1)
  | none => none else none
def frX (x : GX) : GX := fun xs h => if cloDs xs = true then match x xs [] with
  | some (xn, h1) => some (shX h.length xn, h ++ shH h.length h1)
  | none => none else none
section
variable {P : Program} {w : World} {K : Kw} {mg : Str → Option Value} {base : Heap}
theorem rx_sh {H : Hp} {μ μ1 : List Addr} {x : Xn} {cls : Value} {d : Option Addr} (r : RX K mg H μ1 x cls d) : RX K mg H (μ ++ μ1) (shX μ.length x) cls d := by
  obtain ⟨C, dx, vs, h1, h2, h3, h4, h5⟩ := r
  refine ⟨C, dx, vs, h1, h2, h3, ?_, ?_⟩
  · rw [h4]
    simp [shX, Function.comp_def]
  · have := rps_sh (μ := μ) _ _ h5
    rw [shDs_map] at this
    simpa [shX, Function.comp_def] using this
theorem sp_fr {n : Nat} {m : GC} {x : GX} {vs : List V} {H : Hp} {Q : VK} {E : XK} (h : spX K mg n (frM m) (frX x) vs H Q E) : spX K mg n m x vs H Q E := by
  obtain ⟨Φ, μ, ds, h0, S, r, hl, q⟩ := h
  obtain ⟨Φ', S', up⟩ := sm_hide S
  rcases q with ⟨d, h', e, k⟩ | ⟨xn, h', e, k⟩
  · unfold frM at e
    split at e
    · rename_i hc
      split at e
      · rename_i d1 h1 e1
        cases e
        refine ⟨Φ', [], ds, [], S', rps_clo _ _ hc r, hl, .inl ⟨d1, h1, e1, fun v H1 μ1 S1 l1 r1 => ?_⟩⟩
        obtain ⟨S2, l2⟩ := up H1 μ1 h1 S1 l1
        refine k v H1 (μ ++ μ1) S2 l2 ?_
        have := rp_sh (μ := μ) _ _ r1
        rw [S.len] at this
        exact this
      · cases e
    · cases e
  · unfold frX at e
    split at e
    · rename_i hc
      split at e
      · rename_i d1 h1 e1
        cases e
        refine ⟨Φ', [], ds, [], S', rps_clo _ _ hc r, hl, .inr ⟨d1, h1, e1, fun H1 μ1 cls d S1 l1 r1 => ?_⟩⟩
        obtain ⟨S2, l2⟩ := up H1 μ1 h1 S1 l1
        refine k H1 (μ ++ μ1) cls d S2 l2 ?_
        have := rx_sh (μ := μ) r1
        rw [S.len] at this
        exact this
      · cases e
    · cases e
theorem CalM.fr {k n : Nat} {x : Str} {m : GC} {xg : GX} {dd : List D} (c : CalM P w K mg base k x n m xg dd) : CalM P w K mg base k x n (frM m) (frX xg) dd := by
  obtain ⟨f, fd, ps, ds, dvs, F, r⟩ := c.ex
  exact ⟨f, fd, ps, ds, dvs, ⟨fun vs H Q E h => F.len vs H Q E (sp_fr h), fun A outer s H args us vs Q E h1 h2 h3 h4 h5 => F.run A outer s H args us vs Q E h1 h2 h3 h4 (sp_fr h5)⟩, r⟩
end
end DL

/-! DM16: isinstance(e, C) in a suite. -/
namespace PySem.W
open PySem PySem.Spec PySem.Calls PyProof.Rows
section
variable {prog : Program} {w : World} {A : Around} {E : Value → Shared → Prop} {s : Shared} {K : Frag} {x D : Addr} {ox : Obj} {od : Option Obj}
theorem findObj_dataG {C : Addr} {name : Str} {a g : Value} (hc : (clsIn K C).isSome = true) (ha : findIn K (.ref C) name = some (some a)) (hg : specialIn K a "__get__" = some (some g)) (ht : takesIn K a = some true) : findObj K C od name = some (.bind g a) := by
  obtain ⟨cd, hc⟩ := Option.isSome_iff_exists.mp hc
  unfold findObj
  rw [hc, Option.bind_some, ha, Option.bind_some]
  simp [hg, ht]
/-- as kin_classE, of an exception that has a dict -/
theorem kin_classG {Q : Option Value → Shared → Prop} (hga : findIn K (.ref D) "__getattribute__" = some (some (.builtin "BaseException.__getattribute__"))) (hgt : findIn K (.ref D) "__getattr__" = some none) (hsub : subIn K (.ref D) (.type "BaseException") = some true)
    (hdct : hasDictIn K D = true) (ha : findIn K (.ref D) "__class__" = some (some (.builtin "object.__class__")))
    (hn : specialIn K (.builtin "object.__class__") "__get__" = some (some (.builtin "getset_descriptor.__get__"))) (htk : takesIn K (.builtin "object.__class__") = some true) (hm : mroIn K D (.type "object") = some true)
    (X : K.In s.heap) (I : InstAt s.heap x ox D od) (h : Q (some (.ref D)) { s with toks := s.toks + 1 }) : wpAny (model prog w) A (getAttr? (.ref x) "__class__") Q E s := by
  have hf : findObj K D od "__class__" = some (.bind (.builtin "getset_descriptor.__get__") (.builtin "object.__class__")) := findObj_dataG (by obtain ⟨cd, hc, _⟩ := any_some hdct; rw [hc]; rfl) ha hn htk
  obtain ⟨hp, g, d, t, os⟩ := s
  have L0 := I.type (M := model prog w)
  have L1 := looks_findIn (M := model prog w) X hga
  have L2 := looks_findIn (M := model prog w) X hgt
  have L3 := looks_find (M := model prog w) X I hf
  have sub : Looks (model prog w) hp (isInstance (.ref x) (.type "BaseException")) true := L0.andThen (looks_subIn X hsub)
  have hx0 : (false && onTheHeap (Value.builtin "BaseException.__getattribute__")) = false := rfl
  have hx2 : (Value.builtin "BaseException.__getattribute__" == Value.builtin "object.__getattribute__") = false := by decide +kernel
  have hx1 : (onTheHeap (Value.ref D) && Value.builtin "BaseException.__getattribute__" == Value.builtin "object.__getattribute__") = false := by rw [hx2]; rfl
  unfold getAttr? getAttrBy? getAttrBy
  refine wpAny_bind (wpAny_mkText (wpAny_bind (wpAny_attempt (wpAny_holding (wpAny_bind (L0.at (wpAny_bind (L1.at ?_))))))))
  show wpAny _ _ (if (onTheHeap (Value.ref D) && Value.builtin "BaseException.__getattribute__" == Value.builtin "object.__getattribute__") = true then _ else _) _ _ _
  rw [hx1, if_neg Bool.false_ne_true]
  unfold getAttrByItsOwn hookBefore
  refine wpAny_bind ?_
  rw [if_pos (show onTheHeap (Value.ref D) = true from rfl)]
  refine L2.at ?_
  refine wpAny_bind (wpAny_attempt (wpAny_holding ?_))
  unfold callGetattribute
  rw [hx0, if_neg Bool.false_ne_true]
  unfold boundAndCalled
  rw [PySem.F.excAttr_ValueError.ga.bind (.ref x)]
  refine wpAny_bind (wpAny_pure ?_)
  show wpAny _ _ (call (.builtin "BaseException.__getattribute__") [.ref x, .str "__class__" t]) _ _ _
  refine wpAny_call (codeAny_call_builtin PySem.F.excAttr_ValueError.ga.plain PySem.F.entry_bexc_ga ?_)
  refine @check_slot (model prog w) _ _ ⟨hp, g, d, t + 1, os⟩ "BaseException.__getattribute__" "BaseException" "__getattribute__" (.ref x) [.str "__class__" t] [] _ (by decide +kernel) (by decide +kernel) sub (PySem.F.args_bexc_ga (.ref x) (.str "__class__" t)) ?_
  unfold Builtin.«object.__getattribute__»
  refine wpAny_bind (wpAny_of_eq (a := ((Value.ref x : Value), [Value.str "__class__" t])) (by first | rfl | (simp only [slotArgs]; rfl)) ?_)
  refine wpAny_bind (wpAny_pure (wpAny_bind (L0.at (wpAny_bind (L3.at ?_)))))
  show wpAny _ _ (holding [Value.builtin "object.__class__"] (call (.builtin "getset_descriptor.__get__") [.builtin "object.__class__", .ref x, .ref D]) >>= ret) _ _ _
  refine wpAny_bind (wpAny_holding (wpAny_call (class_get (s := ⟨hp, g, d, t + 1, os⟩) (ox := ox) (od := od) X I hm ?_)))
  refine wpAny_pure ?_
  show wpAny _ _ (handedOut (.ref D)) _ _ _
  rw [handedOut_of (v := .ref D) rfl]
  first
    | exact wpAny_pure (wpAny_pure h)
    | exact wpAny_pure h
    | exact wpAny_pure (wpAny_bind (wpAny_pure (wpAny_pure h)))
/-- as kitx_exc -/
theorem kitxG (hga : findIn K (.ref D) "__getattribute__" = some (some (.builtin "BaseException.__getattribute__"))) (hgt : findIn K (.ref D) "__getattr__" = some none) (hsub : subIn K (.ref D) (.type "BaseException") = some true) (hdct : hasDictIn K D = true) (ha : findIn K (.ref D) "__class__" = some (some (.builtin "object.__class__")))
    (hn : specialIn K (.builtin "object.__class__") "__get__" = some (some (.builtin "getset_descriptor.__get__"))) (htk : takesIn K (.builtin "object.__class__") = some true) (hm : mroIn K D (.type "object") = some true) :
    KitX K (.ref x) (.ref D) (fun h => ∃ od, InstAt h x ox D od) where
  ty := fun _ _ _ I => by obtain ⟨od, I⟩ := I; exact I.type
  it := fun _ _ X _ => by
    obtain ⟨cdD, hcD, _⟩ := any_some hdct
    unfold clsIn at hcD
    split at hcD
    · rename_i c' d' cd' sl' ho
      intro A' Q' E' s' k q
      unfold isType loadHead
      exact wpAny_bind (wpAny_loadPart (k _ _ (X _ _ ho)) (wpAny_pure q))
    · cases hcD
  ne := fun h tp dd its n sl X htp => by
    obtain ⟨cdD, hcD, _⟩ := any_some hdct
    refine Bool.eq_false_iff.mpr fun q => ?_
    have e : D = tp := Value.ref.inj (beq_iff_eq.mp q)
    subst e
    unfold clsIn at hcD
    split at hcD
    · rename_i c' d' cd' sl' ho
      have z := (X _ _ ho).symm.trans htp
      cases z
    · cases hcD
  ca := fun X I k => by
    obtain ⟨od, I⟩ := I
    exact kin_classG hga hgt hsub hdct ha hn htk hm X I k
end
end PySem.W
namespace DL
open PySem L2 PySem.Spec PyProof.Rows
/-- isinstance(e, c) -/
def tIsE (K : Kw) (a : Addr) (cls : Value) (d : Option Addr) (c : Addr) (te : TE) : TE := fun σ H Q => te σ H fun x H1 => ∃ (D dd : Addr) (fs : List (Str × V)) (b : Bool), x = .ref a ∧ cls = .ref D ∧ d = some dd ∧ H1 dd = some (.xd fs) ∧ ExcC K D ∧ PySem.W.kitOne K (.ref D) (.ref c) = some b ∧ Q (.bl b) H1
/-- what the text says, so that isinstance asks the instances of x rightly, for the class y -/
structure IsT (K : PySem.W.Frag) (mg : Str → Option Value) (sub : Str → Str → Bool) (L : List Str) (y : Str) : Prop where
  ex : ∃ c, mg y = some (.ref c) ∧ ∀ x ∈ L, ∀ D, mg x = some (.ref D) → ExcC K D ∧ PySem.W.kitOne K (.ref D) (.ref c) = some (sub x y)
def isxM (sub : Str → Str → Bool) (L : List Str) (xn : Xn) (y : Str) : ME := fun _ h => if L.contains xn.cls = true then some (.bl (sub xn.cls y), h) else none
def tIsX (K : Kw) (mg : Str → Option Value) (a : Addr) (cls : Value) (d : Option Addr) (y : Str) (te : TE) : TE := fun σ H Q => ∀ c, mg y = some (.ref c) → tIsE K a cls d c te σ H Q
section
variable {K : Kw} {mg : Str → Option Value} {X : Cx} {a : Addr} {oe : Obj} {xn : Xn} {cls : Value} {d : Option Addr} {pn : List (Addr × Obj)} {n y : Str} {p p1 p2 pos : Pos} {sub : Str → Str → Bool} {L : List Str}
theorem deh_isE (i : Nat) (T : IsT K mg sub L y) (hz : Zc cls d oe) (hf : ∃ vs, oe.data = .fields vs) (hm : mg "isinstance" = none) (hN : X.N[i]? = some n := by rfl) (hV : Vis X.env.scope n := by exact .inl rfl) (hg : Gl X y := by rfl) (hg2 : Gl X "isinstance" := by rfl) (hK : KOf X = K := by rfl) (hmg : X.mg = mg := by rfl)
    (hd : (n == ("__debug__" : Str)) = false := by decide) (hcd : (n == ("__classdict__" : Str)) = false := by decide) (hdy : (y == ("__debug__" : Str)) = false := by decide)
    (he : starEach [.Name n p1, .Name y p2] X.env = (false, eval (.Name n p1) X.env) :: starEach [.Name y p2] X.env := by rfl) (he2 : starEach [.Name y p2] X.env = (false, eval (.Name y p2) X.env) :: starEach [] X.env := by rfl)
    (hpl : (backTo pos (starEach [.Name y p2] X.env)).any (·.1) = false := by rfl) :
    DEh K mg (X.suite a ((a, oe) :: pn)) (some i) a xn cls d (.Call (.Name "isinstance" p) [.Name n p1, .Name y p2] [] pos) (tIsX K mg a cls d y (tVar i)) (isxM sub L xn y) := ⟨hK, by
  have hk := hK
  subst hk
  subst hmg
  obtain ⟨c, hc, _⟩ := T.ex
  refine ⟨fun pins s σ H Q I h => ?_⟩
  have h := h c hc
  have hcall : CallR (X.suite a ((a, oe) :: pn)) (.builtin "isinstance") (fun xs H Q => ∃ (D dd : Addr) (fs : List (Str × V)) (b : Bool), xs = [.ref a, .ref c] ∧ cls = .ref D ∧ d = some dd ∧ H dd = some (.xd fs) ∧ ExcC X.K D ∧ PySem.W.kitOne X.K (.ref D) (.ref c) = some b ∧ Q (.bl b) H) := by
    intro pins s σ H xs us Q I r h
    obtain ⟨D, dd, fs, b, rfl, hD, hdd, hxd, C, e, q⟩ := h
    cases r with
    | cons rx rr =>
      cases rr with
      | cons rt rr =>
        cases rr
        cases rx
        cases rt
        obtain ⟨hget, _⟩ := I.pin (a, oe) (List.mem_append.mpr (.inl List.mem_cons_self))
        obtain ⟨vs, hv⟩ := hf
        have hx : ObjOk X.prog X.w H s.heap dd (.xd fs) := I.hok dd _ hxd
        obtain ⟨mA, hns, _⟩ := hx
        obtain ⟨od, ho, _⟩ := lookIn_ns hns
        have J : PySem.W.InstAt s.heap a oe D (some od) := ⟨hget, by rw [hz.1, hD], by unfold PySem.W.notCls; rw [hv] <;> rfl, by rw [hz.2, hdd]; exact ho⟩
        exact PySem.W.kia_one (PySem.W.kitxG C.hg C.hk C.hs C.hd C.ha C.hn C.ht C.hm) I.kIn ⟨_, J⟩ e (fun z => nomatch z) fun tk => ⟨.bl b, H, I.kept (t' := tk) fun _ _ z => z, rfl, q⟩
  obtain ⟨v, hv, D, dd, fs, b, rfl, h2, h3, h4, h5, h6, h7⟩ := h
  exact (pe_callB (X := X.suite a ((a, oe) :: pn)) hcall hg2 hm (by decide +kernel) (pa_cons (pe_var (X := X.suite a ((a, oe) :: pn)) hN hV hd hcd) (pa_cons (pe_glob (X := X.suite a ((a, oe) :: pn)) (v := .ref c) hg hc rfl hdy) pa_nil he2) he) (he := he) (hpl := hpl)).run pins s σ H Q I
    ⟨.ref a, hv, D, dd, fs, b, rfl, h2, h3, h4, h5, h6, h7⟩, by
  intro Φ σ H μ sg h y' h' S rs hx e Q k c hc
  unfold isxM at e
  split at e
  · rename_i hL
    cases e
    obtain ⟨c', hc', hT⟩ := T.ex
    rw [hc] at hc'
    cases hc'
    obtain ⟨C, dx, vs, h1, h2, h3, h4, h5⟩ := hx.r
    obtain ⟨t1, t2⟩ := hT xn.cls (by simpa using hL) C h1
    exact ⟨.ref a, hx.s i rfl, C, dx, _, _, rfl, h2, h3, h4, t1, t2, k _ H μ S Le.refl rp_bl⟩
  · cases e⟩
end
end DL

/-! DM17: where nothing is raised; small words for what gen2.py prints. -/
namespace DL
open PySem L2 PySem.Spec PyProof.Rows
theorem hu100 {A : Around} {k : Nat} (hr : RoomG k A) : A.units + 100 < cLine := by have := hr.r.un; omega
def adr (mg : Str → Option Value) (x : Str) : Addr := match mg x with
  | some (.ref C) => C
  | _ => 0
theorem adr_of {mg : Str → Option Value} {x : Str} {C : Addr} (h : mg x = some (.ref C)) : adr mg x = C := by unfold adr; rw [h]
def clsBody : Stmt → List Stmt
  | .ClassDef (body := b) .. => b
  | _ => []
section
variable {K : Kw} {mg : Str → Option Value} {X : Cx} {W : WX} {pos : Pos} {st : Stmt} {rest sts : List Stmt} {t u : TS} {m n : MS} {x y : MX} {c : Expr} {tc : TT} {mc : MT}
theorem DSsX.no (a : DSsX K mg X W sts t m x) : DSsX K mg X W sts t m noX := ⟨a.k, a.p, a.s, xst_no⟩
theorem DSX.no (a : DSX K mg X W st t m x) : DSX K mg X W st t m noX := ⟨a.k, a.p, a.s, xst_no⟩
theorem dssx_cons0 (a : DSX K mg X W st t m x) (b : DSsX K mg X W rest u n y) : DSsX K mg X W (st :: rest) (tSeq t u) (seqM m n) noX := (dssx_cons a b).no
theorem dsx_if0 {p q : List Stmt} (hc : DT K X c tc mc) (a : DSsX K mg X W p t m x) (b : DSsX K mg X W q u n y) : DSX K mg X W (.If c p q pos) (tIfS tc t u) (ifSM mc m n) noX := (dsx_if hc a b).no
theorem dsx_while0 {body : List Stmt} {tb : TS} {mb : MS} {xb : MX} (N : Nat) (hc : DT K X c tc mc) (hb : DSsX K mg X W body tb mb xb) : DSX K mg X W (.While c body [] pos) (tWhile tc tb) (whileM mc mb N) noX := (dsx_while N hc hb).no
theorem dsx_for0 {tg it : Expr} {ti : TI} {mi : MI} {gt : TG} {mg' : MG} {body : List Stmt} {tb : TS} {mb : MS} {xb : MX} (N : Nat) (hi : DI K X tg it ti mi) (hg : DG K X tg gt mg') (hb : DSsX K mg X W body tb mb xb) (hs : ∀ x, foldedSetIterable it X.env x = pure x := by intro _; rfl) (hc : X.calm = true := by rfl) :
    DSX K mg X W (.For tg it body [] pos) (tFor ti gt tb) (forSM mi mg' mb N) noX := (dsx_for N hi hg hb hs hc).no
end
end DL

/-! DM18: n = [.. for ..]. -/
namespace DL
open PySem L2 PySem.Spec PyProof.Rows
section
variable {K : Kw} {X : Cx} {pos spos py : Pos} {tg it elt : Expr} {ifs : List Expr} {ti : TI} {mi : MI} {gt : TG} {mg : MG} {tt : TT} {mt : MT} {te : TE} {me : ME} {scope : Scope} {own : List (Str × Nat)} {n : Str}
theorem ds_setLc (i N : Nat) (hN : X.N.Nodup) (hi : DI K X tg it ti mi) (ok : BlkOk X.N X.env.scope scope own) (ho : Only (own.map (·.2)) gt)
    (hg : ∀ (s : Shared) (H : Hp) (C : Addr) (cl : List (Str × Addr)) (fp : List Addr), DG K (X.blk s H scope (compEnvC scope cl C X.env) fp) tg gt mg)
    (ht : ∀ (s : Shared) (H : Hp) (C : Addr) (cl : List (Str × Addr)) (fp : List Addr), DTs K (X.blk s H scope (compEnvC scope cl C X.env) fp) ifs tt mt)
    (he : ∀ (s : Shared) (H : Hp) (C : Addr) (cl : List (Str × Addr)) (fp : List Addr), DE K (X.blk s H scope (compEnvC scope cl C X.env) fp) elt te me)
    (ha : (scope.names.any fun (m, k) => m == n && (k == .local || k == .cell)) = false) (hy : X.N[i]? = some n := by rfl) (hyl : X.env.scope.names.lookup n = some .local := by rfl) (hk : X.env.scope.kind = .function := by rfl) (hl : (py.line == pos.line) = true := by rfl)
    (hs : ∀ x, foldedSetIterable it X.env x = pure x := by intro _; rfl) (hc : X.calm = true := by rfl) :
    DS K X (.Assign [.Name n py] (.ListComp elt [⟨tg, it, ifs, 0⟩] scope pos) spos) (tAsg (tLc ti gt tt te (own.map (·.2))) (gName i)) (asgM (lcM mi mg mt me (own.map (·.2)) N) (nameG i)) :=
  ⟨hi.k, ps_setLc hc hN hy hyl (sw_true hk hyl hl ha) hi.p ok (fun s H C cl fp => (hg s H C cl fp).p) (fun s H C cl fp => (ht s H C cl fp).p) (fun s H C cl fp => (he s H C cl fp).p) hs, ss_asg (de_lc (pos := pos) N hN hi ok ho hg ht he hs hc).s (sg_name i)⟩
end
/-! ### the law's promise: no exception -/
def spN (K : Kw) (n : Nat) (m : GC) : Sp := fun vs H Q _ => ∃ (Φ : Hp) (μ : List Addr) (ds : List D) (h : Hd) (d : D) (h' : Hd), Sm Φ K H μ h ∧ Rps K H μ ds vs ∧ ds.length = n ∧ m ds h = some (d, h') ∧ Kn Φ K H μ h' d Q
theorem FnG.toN {P : Program} {w : World} {K : Kw} {mg : Str → Option Value} {base : Heap} {CX : CXT} {k n : Nat} {f : Addr} {fd : FuncData} {ps : List Str} {m : GC} {x : GX} (F : FnG P w K mg base CX k f fd ps (spX K mg n m x)) : FnG P w K mg base CX k f fd ps (spN K n m) := by
  have key : ∀ vs H Q E, spN K n m vs H Q E → spX K mg n m x vs H Q E := fun vs H Q E ⟨Φ, μ, ds, h, d, h', S, r, hl, e, k⟩ => ⟨Φ, μ, ds, h, S, r, hl, .inl ⟨d, h', e, k⟩⟩
  exact ⟨fun vs H Q E h => F.len vs H Q E (key _ _ _ _ h), fun A outer s H args us vs Q E h1 h2 h3 h4 h5 => F.run A outer s H args us vs Q E h1 h2 h3 h4 (key _ _ _ _ h5)⟩
theorem law_endN {K : Kw} {m : GC} {H : Hp} {a : Addr} {ns : List Int} (hm : ∃ h', m [.rol (ns.map D.int)] [] = some (.bl true, h')) (hO : L2.Only H) (hS : SqL K H a (ns.map V.int)) :
    spN K 1 m [.ref a] H (fun v _ => v = .bl true) fun _ _ _ => False := by
  obtain ⟨Φ, μ, ds, h, S, r, hl, ⟨d, h', e, k⟩ | ⟨xn, h', e, _⟩⟩ := law_end (mg := fun _ => none) (x := noGX) hm hO hS
  · exact ⟨Φ, μ, ds, h, d, h', S, r, hl, e, k⟩
  · cases e
/-- isinstance of classes of the text, by what is below what -/
theorem kit_ref {K : PySem.W.Frag} {D C : Addr} {b : Bool} (hdct : PySem.W.hasDictIn K C = true) (ht : PySem.W.typeIn K (.ref C) = some (.type "type")) (hs : PySem.W.subIn K (.ref C) (.ref C) = some true) (h4 : PySem.W.subIn K (.ref D) (.ref C) = some b) : PySem.W.kitOne K (.ref D) (.ref C) = some b := by
  obtain ⟨cd, hc, _⟩ := PySem.W.any_some hdct
  have e2 : ((PySem.W.clsIn K C).isSome && PySem.W.typeIn K (.ref C) == some (.type "type")) = true := by rw [hc, ht] <;> rfl
  unfold PySem.W.kitOne
  by_cases h : D = C
  · subst h
    rw [hs] at h4
    cases h4
    rw [if_pos (by simp)]
  · rw [if_neg (by simp; exact h)]
    show (if ((PySem.W.clsIn K C).isSome && PySem.W.typeIn K (.ref C) == some (.type "type")) = true then PySem.W.subIn K (.ref D) (.ref C) else none) = some b
    rw [if_pos e2]
    exact h4
end DL

/-! DM19: is, is not of bools. -/
namespace DL
open PySem L2 PySem.Spec PyProof.Rows
section
variable {K : Kw} {X : Cx}
def isBD : G2 := fun x y h => match x, y with
  | .bl a, .bl b => some (.bl (decide (a = b)), h)
  | _, _ => none
def isntBD : G2 := fun x y h => match x, y with
  | .bl a, .bl b => some (.bl (!decide (a = b)), h)
  | _, _ => none
theorem so_isB : SO K rIsB isBD := by
  intro Φ H μ h x y v w d h' S r1 r2 e Q k
  unfold isBD at e
  split at e
  · cases e
    exact ⟨_, _, rp_bl' r1, rp_bl' r2, k _ H μ S Le.refl rp_bl⟩
  · cases e
theorem so_isntB : SO K rNotB isntBD := by
  intro Φ H μ h x y v w d h' S r1 r2 e Q k
  unfold isntBD at e
  split at e
  · cases e
    exact ⟨_, _, rp_bl' r1, rp_bl' r2, k _ H μ S Le.refl rp_bl⟩
  · cases e
theorem op_isB : OpR X (compareOp .Is) rIsB := op_isBl
theorem op_isntB : OpR X (compareOp .IsNot) rNotB := op_notBl
end
theorem lf_isB {a b : Bool} {h : Hd} {Q : D → Hd → Prop} (q : Q (.bl (decide (a = b))) h) : Ev (isBD (.bl a) (.bl b) h) Q := ⟨_, _, rfl, q⟩
theorem lf_isntB {a b : Bool} {h : Hd} {Q : D → Hd → Prop} (q : Q (.bl (!decide (a = b))) h) : Ev (isntBD (.bl a) (.bl b) h) Q := ⟨_, _, rfl, q⟩
end DL

/-! DM20: dicts whose keys are tuples of data; membership in a dict. -/
namespace DL
open PySem L2 PySem.Spec PyProof.Rows
/-! ### trees as keys -/
mutual
theorem key_rp {K : Kw} {H : Hp} {μ : List Addr} : ∀ (d : D) (v : V) (nk : NestedKey), Rp K H μ d v → nkD d = some nk → KeyV K.f H nk v
  | .non, v, nk, r, e => by unfold nkD at e; cases e; unfold KeyV; exact rp_non' r
  | .int i, v, nk, r, e => by unfold nkD at e; cases e; unfold KeyV; exact rp_int' r
  | .str i, v, nk, r, e => by unfold nkD at e; cases e; unfold KeyV; exact rp_str' r
  | .tup xs, v, nk, r, e => by
    unfold nkD at e
    split at e
    · rename_i ks q
      cases e
      obtain ⟨p, vs, rfl, b, c⟩ := rp_tup' r
      unfold KeyV
      exact ⟨p, vs, rfl, b, keys_rp xs vs ks c q⟩
    · cases e
  | .bl _, v, nk, r, e => by unfold nkD at e; cases e
  | .ty _, v, nk, r, e => by unfold nkD at e; cases e
  | .rol _, v, nk, r, e => by unfold nkD at e; cases e
  | .at _, v, nk, r, e => by unfold nkD at e; cases e
  | .ad _, v, nk, r, e => by unfold nkD at e; cases e
theorem keys_rp {K : Kw} {H : Hp} {μ : List Addr} : ∀ (ds : List D) (vs : List V) (ks : List NestedKey), Rps K H μ ds vs → nkDs ds = some ks → KeyVs K.f H ks vs
  | [], vs, ks, r, e => by unfold nkDs at e; cases e; unfold KeyVs; exact r.nil'
  | d :: ds, vs, ks, r, e => by
    unfold nkDs at e
    obtain ⟨v, vs', rfl, a, b⟩ := r.cons'
    split at e
    · rename_i k ks' q1 q2
      cases e
      unfold KeyVs
      exact ⟨v, vs', rfl, key_rp d v k a q1, keys_rp ds vs' ks' b q2⟩
    · cases e
end
theorem key_tup {d : D} {nk : NestedKey} {K : Kw} {H : Hp} {μ : List Addr} {v : V} (r : Rp K H μ d v) (h : ∃ xs, d = .tup xs) : ∃ b, v = .ref b := by
  obtain ⟨xs, rfl⟩ := h
  obtain ⟨p, vs, rfl, _⟩ := rp_tup' r
  exact ⟨p, rfl⟩
def depN (d : D) : Bool := match d with
  | .tup _ => match nkD d with
    | some nk => decide (nk.depth ≤ 8)
    | none => false
  | _ => false
def sameN (k : D) (kv : D × D) : Bool := decide (nkD kv.1 = nkD k)
/-- what a dict holds at a key -/
def valN (kvs : List (D × D)) (k : D) : Option D := (kvs.find? (sameN k)).map (·.2)
def putN (kvs : List (D × D)) (k v : D) : List (D × D) := if kvs.any (sameN k) then kvs.map (fun kv => if sameN k kv then (kv.1, v) else kv) else kvs ++ [(k, v)]
section
variable {K : Kw} {H : Hp} {μ : List Addr}
theorem DKs.val {k : D} {nk : NestedKey} (hk : nkD k = some nk) : ∀ {kvs : List (D × D)} {xs : List (NestedKey × Addr × Value)}, DKs K H μ kvs xs →
    (valN kvs k = none ∧ atKey xs nk = none) ∨ ∃ d b u v, valN kvs k = some d ∧ atKey xs nk = some (b, u) ∧ RelV v u ∧ Rp K H μ d v
  | [], xs, h => by
    cases (show xs = [] from h)
    exact .inl ⟨rfl, rfl⟩
  | (k', d') :: r, xs, h => by
    obtain ⟨nk', b, u, v, ys, rfl, h1, h2, h3, h4, h5, h6⟩ := h
    unfold valN atKey
    by_cases q : nk' = nk
    · subst q
      refine .inr ⟨d', b, u, v, ?_, ?_, h4, h5⟩
      · simp [List.find?_cons, sameN, h1, hk]
      · simp [List.find?_cons]
    · have e1 : sameN k (k', d') = false := by simp [sameN, h1, hk, q]
      have ih := DKs.val hk h6
      unfold valN atKey at ih
      simpa [List.find?_cons, e1, q] using ih
theorem DKs.any {k : D} {nk : NestedKey} (hk : nkD k = some nk) {kvs : List (D × D)} {xs : List (NestedKey × Addr × Value)} (h : DKs K H μ kvs xs) : kvs.any (sameN k) = (atKey xs nk).isSome := by
  have e : kvs.any (sameN k) = (valN kvs k).isSome := by
    unfold valN
    rw [Option.isSome_map, Bool.eq_iff_iff, List.any_eq_true, List.find?_isSome]
  rw [e]
  rcases h.val hk with ⟨a, b⟩ | ⟨d, b, u, v, a, c, _⟩
  · rw [a, b]; rfl
  · rw [a, c]; rfl
theorem DKs.map {k : D} {nk : NestedKey} {w : D} {v : V} {u : Value} (hk : nkD k = some nk) (rv : RelV v u) (rw' : Rp K H μ w v) : ∀ {kvs : List (D × D)} {xs : List (NestedKey × Addr × Value)}, DKs K H μ kvs xs → DKs K H μ (kvs.map fun kv => if sameN k kv then (kv.1, w) else kv) (xs.map (putAt nk u))
  | [], xs, h => by
    cases (show xs = [] from h)
    rfl
  | (k', d') :: r, xs, h => by
    obtain ⟨nk', b, u', v', ys, rfl, h1, h2, h3, h4, h5, h6⟩ := h
    have ih := DKs.map (w := w) hk rv rw' h6
    by_cases q : nk' = nk
    · subst q
      have e1 : sameN k (k', d') = true := by simp [sameN, h1, hk]
      rw [List.map_cons, List.map_cons, if_pos e1]
      exact ⟨nk', b, u, v, _, by simp [putAt], h1, h2, h3, rv, rw', ih⟩
    · have e1 : sameN k (k', d') = false := by simp [sameN, h1, hk, q]
      rw [List.map_cons, List.map_cons, e1]
      exact ⟨nk', b, u', v', _, by simp [putAt, q], h1, h2, h3, h4, h5, ih⟩
theorem DKs.snoc {k w : D} {nk : NestedKey} {b : Addr} {v : V} {u : Value} (hk : nkD k = some nk) (hd : nk.depth ≤ 8) (rk : Rp K H μ k (.ref b)) (rv : RelV v u) (rw' : Rp K H μ w v) : ∀ {kvs : List (D × D)} {xs : List (NestedKey × Addr × Value)}, DKs K H μ kvs xs → DKs K H μ (kvs ++ [(k, w)]) (xs ++ [(nk, b, u)])
  | [], xs, h => by
    cases (show xs = [] from h)
    exact ⟨nk, b, u, v, [], rfl, hk, hd, rk, rv, rw', rfl⟩
  | (k', d') :: r, xs, h => by
    obtain ⟨nk', b', u', v', ys, rfl, h1, h2, h3, h4, h5, h6⟩ := h
    exact ⟨nk', b', u', v', _, rfl, h1, h2, h3, h4, h5, DKs.snoc hk hd rk rv rw' h6⟩
theorem DKs.keys : ∀ {kvs : List (D × D)} {xs : List (NestedKey × Addr × Value)}, DKs K H μ kvs xs → ∀ x ∈ xs, KeyV K.f H x.1 (.ref x.2.1) ∧ x.1.depth ≤ 8
  | [], xs, h => by
    cases (show xs = [] from h)
    intro x hx
    cases hx
  | (k', d') :: r, xs, h => by
    obtain ⟨nk', b', u', v', ys, rfl, h1, h2, h3, h4, h5, h6⟩ := h
    intro x hx
    rcases List.mem_cons.mp hx with rfl | hx
    · exact ⟨key_rp _ _ _ h3 h1, h2⟩
    · exact DKs.keys h6 x hx
theorem DKs.len : ∀ {kvs : List (D × D)} {xs : List (NestedKey × Addr × Value)}, DKs K H μ kvs xs → xs.length = kvs.length
  | [], xs, h => by
    cases (show xs = [] from h)
    rfl
  | (k', d') :: r, xs, h => by
    obtain ⟨nk', b', u', v', ys, rfl, h1, h2, h3, h4, h5, h6⟩ := h
    simp [DKs.len h6]
variable {Φ : Hp}
theorem Sm.dcn {h : Hd} {n : Nat} {kvs : List (D × D)} {a : Addr} (S : Sm Φ K H μ h) (e : h[n]? = some (.dcn kvs)) (ea : μ[n]? = some a) : ∃ xs, NAt K H a xs ∧ DKs K H μ kvs xs := by
  obtain ⟨xs, h1, h2, h3, h4, h5⟩ := (show Ok K H μ a (.dcn kvs) from S.at ea e)
  exact ⟨xs, ⟨h1, h3, h4, h5.keys, h2⟩, h5⟩
end
/-! ### in -/
def inND (neg : Bool) : G2 := fun x y h => match y with
  | .at n => match h[n]? with
    | some (.dcn kvs) => if depN x then some (.bl (neg ^^ (valN kvs x).isSome), h) else none
    | _ => none
  | _ => none
def rNIn (K : Kw) (neg : Bool) : R2 := fun x y H Q => ∃ a b xs nk, x = .ref b ∧ y = .ref a ∧ NAt K H a xs ∧ KeyV K.f H nk (.ref b) ∧ nk.depth ≤ 8 ∧ Q (.bl (neg ^^ (atKey xs nk).isSome)) H
theorem depN_of {d : D} (e : depN d = true) : ∃ xs nk, d = .tup xs ∧ nkD d = some nk ∧ nk.depth ≤ 8 := by
  unfold depN at e
  split at e
  · rename_i xs
    split at e
    · rename_i nk q
      exact ⟨xs, nk, rfl, q, of_decide_eq_true e⟩
    · cases e
  · cases e
section
variable {K : Kw} {X : Cx}
theorem so_inN (neg : Bool) : SO K (rNIn K neg) (inND neg) := by
  intro Φ H μ h x y v w d h' S r1 r2 e Q k
  unfold inND at e
  split at e
  · rename_i n
    split at e
    · rename_i kvs q
      split at e
      · rename_i hd
        cases e
        obtain ⟨xs, nk, rfl, e1, e2⟩ := depN_of hd
        obtain ⟨a, ea, rfl⟩ := rp_at' r2
        obtain ⟨ys, n1, n2⟩ := S.dcn q ea
        obtain ⟨p, vs, rfl, _⟩ := rp_tup' r1
        refine ⟨a, p, ys, nk, rfl, rfl, n1, key_rp _ _ _ r1 e1, e2, ?_⟩
        have : (atKey ys nk).isSome = (valN kvs (.tup xs)).isSome := by
          rcases n2.val e1 with ⟨z1, z2⟩ | ⟨_, _, _, _, z1, z2, _⟩ <;> rw [z1, z2] <;> rfl
        rw [this]
        exact k _ H μ S Le.refl rp_bl
      · cases e
    · cases e
  · cases e
theorem op_inN (hu : X.A.units + 64 < cLine) (hK : KOf X = K := by rfl) : OpR X (compareOp .In) (rNIn K false) := by
  subst hK
  intro pins s σ H x y v u Q I rx ry h
  obtain ⟨a, b, xs, nk, rfl, rfl, n, kv, dp, q⟩ := h
  cases (show v = Value.ref b from rx)
  cases (show u = Value.ref a from ry)
  refine wpAny_in_heap (nroom hu) ⟨key_is I _ _ _ kv rfl, dp⟩ n.sy (n.dict I) ?_
  exact ⟨.bl _, H, I.tok _, rfl, by simpa using q⟩
theorem op_niN (hu : X.A.units + 64 < cLine) (hK : KOf X = K := by rfl) : OpR X (compareOp .NotIn) (rNIn K true) := by
  subst hK
  intro pins s σ H x y v u Q I rx ry h
  obtain ⟨a, b, xs, nk, rfl, rfl, n, kv, dp, q⟩ := h
  cases (show v = Value.ref b from rx)
  cases (show u = Value.ref a from ry)
  refine notIn_keyed (nroom hu) ⟨key_is I _ _ _ kv rfl, dp⟩ n.sy ⟨xs, n.dict I, rfl⟩ ?_
  rw [valueAt_pairsH, Option.isSome_map]
  exact ⟨.bl _, H, I.tok _, rfl, by simpa using q⟩
/-! k in d, for a dict of ints and texts -/
def inKD (neg : Bool) : G2 := fun x y h => match y with
  | .at n => match h[n]? with
    | some (.dct kvs) => match keyD x with
      | some k => some (.bl (neg ^^ (valD kvs k).isSome), h)
      | none => none
    | _ => none
  | _ => none
def rKIn (neg : Bool) : R2 := fun x y H Q => ∃ a o, y = .ref a ∧ DGet H a x o ∧ Q (.bl (neg ^^ o.isSome)) H
theorem so_inK (neg : Bool) : SO K (rKIn neg) (inKD neg) := by
  intro Φ H μ h x y v w d h' S r1 r2 e Q k
  unfold inKD at e
  split at e
  · rename_i n
    split at e
    · rename_i kvs q
      split at e
      · rename_i kk q3
        cases e
        obtain ⟨a, ea, rfl⟩ := rp_at' r2
        obtain ⟨kw, c1, c2⟩ := S.dct q ea
        refine ⟨a, valV kw kk, rfl, by rw [key_of r1 q3]; exact DGet.k c1, ?_⟩
        have : (valV kw kk).isSome = (valD kvs kk).isSome := by
          rcases c2.val (k := kk) with ⟨z1, z2⟩ | ⟨_, _, z1, z2, _⟩ <;> rw [z1, z2] <;> rfl
        rw [this]
        exact k _ H μ S Le.refl rp_bl
      · cases e
    · cases e
  · cases e
theorem op_inK (hu : X.A.units + 64 < cLine) : OpR X (compareOp .In) (rKIn false) := by
  intro pins s σ H x y v u Q I rx ry h
  obtain ⟨a, o, rfl, g, q⟩ := h
  cases (show u = Value.ref a from ry)
  exact d_in (by omega) I g rx fun s' I' => ⟨.bl o.isSome, H, I', rfl, by simpa using q⟩
theorem op_niK (hu : X.A.units + 64 < cLine) : OpR X (compareOp .NotIn) (rKIn true) := by
  intro pins s σ H x y v u Q I rx ry h
  obtain ⟨a, o, rfl, g, q⟩ := h
  cases (show u = Value.ref a from ry)
  exact d_notIn (by omega) I g rx fun s' I' => ⟨.bl (!o.isSome), H, I', rfl, by simpa using q⟩
end

/-! ### d[k], d[k] = v, {} -/
def subsND : G2 := fun x y h => match x with
  | .at n => match h[n]? with
    | some (.dcn kvs) => if depN y then match valN kvs y with
      | some d => some (d, h)
      | none => none else none
    | _ => none
  | _ => none
def tNGet (K : Kw) (td ty : TE) : TE := fun σ H Q => td σ H fun x H1 => ty σ H1 fun y H2 => ∃ a b xs nk c u v, x = .ref a ∧ y = .ref b ∧ NAt K H2 a xs ∧ KeyV K.f H2 nk (.ref b) ∧ nk.depth ≤ 8 ∧ atKey xs nk = some (c, u) ∧ RelV v u ∧ Q v H2
theorem NAt.typeIs {X : Cx} {pins : List (Addr × Obj)} {σ : L2.St} {H : Hp} {s : Shared} (I : L2.Inv X pins σ H s) {a : Addr} {xs : List (NestedKey × Addr × Value)} (n : NAt (KOf X) H a xs) : s.TypeIs (.ref a) "dict" := (n.dict I).typeIs
section
variable {X : Cx} {o i value : Expr} {pos pos' : Pos} {td ty tv : TE}
theorem pe_nget (hu : X.A.units + 64 < cLine) (ho : PE X o td) (hi : PE X i ty) (hs : NoSl i) : PE X (.Subscript o i pos) (tNGet (KOf X) td ty) := by
  refine ⟨fun pins s σ H Q I h => ?_⟩
  refine subD_of PySem.F.slot_dict_getitem.lookup hs (thn (ho.run pins s σ H _ I h) fun u s1 ⟨x, H1, I1, rx, q1⟩ => thn (hi.run pins s1 σ H1 _ I1 q1) fun iv s2 ⟨y, H2, I2, ry, a, b, xs, nk, c, u', v, ex, ey, n, kv, dp, ea, rv, q2⟩ => ?_)
  subst ex ey
  obtain rfl : u = Value.ref a := rx
  obtain rfl : iv = Value.ref b := ry
  refine ⟨n.typeIs I2, ?_⟩
  exact wpAny_getItem_heap (nroom hu) ⟨key_is I2 _ _ _ kv rfl, dp⟩ (n.dict I2) ea ⟨v, H2, I2.tok _, rv, q2⟩
def sNPut (K : Kw) (td ty tv : TE) : TS := fun D σ H => tv σ H fun v H1 => td σ H1 fun x H2 => ty σ H2 fun y H3 => ∃ a b xs nk, x = .ref a ∧ y = .ref b ∧ NAt K H3 a xs ∧ KeyV K.f H3 nk (.ref b) ∧ nk.depth ≤ 8 ∧ xs.length < sizeLine ∧
  ∀ u, RelV v u → D.nx σ (upd H3 a (.ext (NPhi K.w a (storedH xs nk b u))))
theorem ps_nput (hu : X.A.units + 64 < cLine) (ho : PE X o td) (hi : PE X i ty) (hv : PE X value tv) (hs : swapsWith value (some (.Subscript o i pos')) pos.line X.env = pure false) :
    PS X (.Assign [.Subscript o i pos'] value pos) (sNPut (KOf X) td ty tv) := by
  refine ⟨fun pins s σ H D I h => ?_⟩
  refine wpAny_Assign_Subscript (thn (hv.run pins s σ H _ I h) fun r s1 ⟨v, H1, I1, rv, q1⟩ => thn (ho.run pins s1 σ H1 _ I1 q1) fun u s2 ⟨x, H2, I2, rx, q2⟩ => thn (hi.run pins s2 σ H2 _ I2 q2) fun iv s3 ⟨y, H3, I3, ry, a, b, xs, nk, ex, ey, n, kv, dp, hl, q3⟩ => ?_) hs
  subst ex ey
  obtain rfl : u = Value.ref a := rx
  obtain rfl : iv = Value.ref b := ry
  refine wpAny_setItem_heap (hsz := n.ln) (nroom hu) ⟨key_is I3 _ _ _ kv rfl, dp⟩ (n.dict I3) fun h' dd' hs' => ?_
  obtain ⟨q, es, ep, hq, h2, h3, h4, _, h5⟩ := dd'
  refine ⟨σ, _, d_write I3 (by rw [n.at_]; exact True.intro) hs' ⟨q, hq⟩ ?_, q3 r rv⟩
  exact ⟨⟨q, es, ep, hq, h2, h3, h4⟩, ⟨q, hq⟩, fun g1 g2 ⟨o1, es1, ep1, z1, z2, z3, z4⟩ kp => ⟨o1, es1, ep1, kp _ z1, z2, z3, z4⟩⟩
/-- {}, to be such a dict -/
def tDNewN (K : Kw) : TE := fun _ H Q => ∀ p, H p = none → (p == sysModules) = false → Q (.ref p) (upd H p (.ext (NPhi K.w p [])))
theorem pe_dnewN : PE X (.Dict [] [] pos) (tDNewN (KOf X)) := ⟨fun pins s σ H Q I h =>
  wpAny_Dict_empty ⟨.ref s.heap.objs.size, _, I.laid (a := s.heap.objs.size) (o := .ext (NPhi X.w s.heap.objs.size [])) (t' := s.toks) (fun _ _ q => Heap.get?_push_of_some _ q) (Nat.le_refl _)
    ⟨⟨_, #[], 0, Heap.get?_push_size _ rfl, ⟨rfl, rfl, rfl⟩, rfl, rfl⟩, ⟨_, Heap.get?_push_size _ rfl⟩, fun g1 g2 ⟨o1, es1, ep1, z1, z2, z3, z4⟩ kp => ⟨o1, es1, ep1, kp _ z1, z2, z3, z4⟩⟩, rfl,
    h _ (I.hok.fresh (Nat.le_refl _)) (beq_eq_false_iff_ne.mpr (Ne.symm (Nat.ne_of_lt I.big)))⟩⟩
end
theorem storedH_nodup {xs : List (NestedKey × Addr × Value)} {k : NestedKey} {a : Addr} {v : Value} (h : (xs.map (·.1)).Nodup) : ((storedH xs k a v).map (·.1)).Nodup := by
  unfold storedH
  split
  · have : (xs.map (putAt k v)).map (·.1) = xs.map (·.1) := by
      rw [List.map_map]
      apply List.map_congr_left
      intro x _
      simp only [Function.comp_apply, putAt]
      split <;> rfl
    rw [this]
    exact h
  · rename_i hn
    rw [List.map_append, List.nodup_append]
    refine ⟨h, by simp, fun x hx y hy e => ?_⟩
    simp only [List.map_cons, List.map_nil, List.mem_singleton] at hy
    subst hy
    subst e
    obtain ⟨z, hz, rfl⟩ := List.mem_map.mp hx
    apply hn
    unfold atKey
    rw [Option.isSome_map, List.find?_isSome]
    exact ⟨z, hz, by simp⟩
def dnewNM : ME := fun _ h => some (.at h.length, h ++ [.dcn []])
def setND (o i v : ME) : MS := fun sg h => match v sg h with
  | some (z, h1) => match o sg h1 with
    | some (.at n, h2) => match i sg h2 with
      | some (y, h3) => match h3[n]? with
        | some (.dcn kvs) => if depN y = true ∧ kvs.length < LN then some (.nx sg, h3.set n (.dcn (putN kvs y z))) else none
        | _ => none
      | none => none
    | _ => none
  | none => none
section
variable {K : Kw} {X : Cx} {a b o i v : Expr} {pos pos' : Pos} {ta tb to ti tv : TE} {ma mb mo mi mv : ME}
theorem de_dnewN (hK : KOf X = K := by rfl) : DE K X (.Dict [] [] pos) (tDNewN K) dnewNM := ⟨hK, by subst hK; exact pe_dnewN, by
  intro Φ σ H μ sg h d h' S rs e Q k
  cases e
  intro p hp hs
  refine k _ _ (μ ++ [p]) (S.obj hp ⟨[], upd_same, Nat.zero_le _, hs, List.nodup_nil, rfl⟩) (le_obj hp) ?_
  unfold Rp
  exact ⟨p, obj_at S rfl, rfl⟩⟩
theorem de_subN (ha : DE K X a ta ma) (hb : DE K X b tb mb) (hu : X.A.units + 64 < cLine) (hs2 : NoSl b := by exact fun _ _ => rfl) : DE K X (.Subscript a b pos) (tNGet K ta tb) (opM subsND ma mb) := ⟨ha.k, by have hk := ha.k; subst hk; exact pe_nget hu ha.p hb.p hs2, by
  intro Φ σ H μ sg h d h' S rs e Q k
  unfold opM at e
  split at e
  · rename_i x h1 e1
    split at e
    · rename_i y h2 e2
      unfold subsND at e
      split at e
      · rename_i n
        split at e
        · rename_i kvs q
          split at e
          · rename_i hd
            split at e
            · rename_i d1 q4
              cases e
              obtain ⟨ys, nk, rfl, e3, e4⟩ := depN_of hd
              refine ha.s σ H μ sg h _ h1 S rs e1 _ fun v H1 μ1 S1 l1 r1 => ?_
              refine hb.s σ H1 μ1 sg h1 _ _ S1 (rs.mono l1) e2 _ fun w H2 μ2 S2 l2 r2 => ?_
              obtain ⟨p, ep, rfl⟩ := rp_at' (Rp.mono l2 _ _ r1)
              obtain ⟨xs, n1, n2⟩ := S2.dcn q ep
              obtain ⟨c, vs, rfl, _⟩ := rp_tup' r2
              rcases n2.val e3 with ⟨z, _⟩ | ⟨d2, b', u, v', z1, z2, z3, z4⟩
              · rw [q4] at z; cases z
              · rw [q4] at z1
                cases z1
                exact ⟨p, c, xs, nk, b', u, v', rfl, rfl, n1, key_rp _ _ _ r2 e3, e4, z2, z3, k _ H2 μ2 S2 (l1.trans l2) z4⟩
            · cases e
          · cases e
        · cases e
      · cases e
    · cases e
  · cases e⟩
theorem ds_putN (ho : DE K X o to mo) (hi : DE K X i ti mi) (hv : DE K X v tv mv) (hu : X.A.units + 64 < cLine) (hs : swapsWith v (some (.Subscript o i pos')) pos.line X.env = pure false := by rfl) :
    DS K X (.Assign [.Subscript o i pos'] v pos) (sNPut K to ti tv) (setND mo mi mv) := ⟨ho.k, by have hk := ho.k; subst hk; exact ps_nput hu ho.p hi.p hv.p hs, by
  intro Φ σ H μ sg h f h' S rs e E k
  unfold setND at e
  split at e
  · rename_i z h1 e1
    split at e
    · rename_i n h2 e2
      split at e
      · rename_i y h3 e3
        split at e
        · rename_i kvs q
          split at e
          · rename_i hc
            cases e
            obtain ⟨ys, nk, rfl, e4, e5⟩ := depN_of hc.1
            refine hv.s σ H μ sg h _ h1 S rs e1 _ fun v1 H1 μ1 S1 l1 r1 => ?_
            refine ho.s σ H1 μ1 sg h1 _ _ S1 (rs.mono l1) e2 _ fun w H2 μ2 S2 l2 r2 => ?_
            refine hi.s σ H2 μ2 sg h2 _ _ S2 (rs.mono (l1.trans l2)) e3 _ fun w3 H3 μ3 S3 l3 r3 => ?_
            obtain ⟨p, ep, rfl⟩ := rp_at' (Rp.mono l3 _ _ r2)
            obtain ⟨xs, n1, n2⟩ := S3.dcn q ep
            obtain ⟨c, vs, rfl, _⟩ := rp_tup' r3
            have hl := n2.len
            refine ⟨p, c, xs, nk, rfl, rfl, n1, key_rp _ _ _ r3 e4, e5, ?_, fun u ru => ?_⟩
            · rw [hl]; exact ln_lt hc.2
            have r1' : Rp K H3 μ3 z v1 := Rp.mono (l2.trans l3) _ _ r1
            have lset : Le K H3 μ3 (upd H3 p (.ext (NPhi K.w p (storedH xs nk c u)))) μ3 := le_set S3 ep
            have hnd : ((storedH xs nk c u).map (·.1)).Nodup := by
              have := (storedH_nodup (xs := xs) (k := nk) (a := c) (v := u) n1.nd)
              exact this
            have hlen : (storedH xs nk c u).length ≤ sizeLine := by
              have h1 : (storedH xs nk c u).length ≤ xs.length + 1 := by
                unfold storedH
                split <;> simp
              have h2 := ln_lt hc.2
              omega
            have hdk : DKs K H3 μ3 (putN kvs (.tup ys) z) (storedH xs nk c u) := by
              unfold putN storedH
              rw [n2.any e4]
              split
              · exact n2.map e4 ru r1'
              · exact n2.snoc e4 e5 r3 ru r1'
            refine k _ _ μ3 (S3.set ep ⟨storedH xs nk c u, upd_same, hlen, n1.sy, hnd, hdk.mono lset⟩) ((l1.trans l2).trans (l3.trans lset)) (rs.mono ((l1.trans l2).trans (l3.trans lset)))
          · cases e
        · cases e
      · cases e
    · cases e
  · cases e⟩
end
end DL

/-! DM21: instances: fields, methods, making. -/
namespace DL
open PySem L2 PySem.Spec PyProof.Rows
/-! ### fields -/
def fldD (f : Nat) : List (Nat × D) → Option D
  | [] => none
  | (g, d) :: r => if f = g then some d else fldD f r
def putFD (f : Nat) (v : D) : List (Nat × D) → List (Nat × D)
  | [] => [(f, v)]
  | (g, x) :: r => if g = f then (g, v) :: r else (g, x) :: putFD f v r
section
variable {K : Kw} {H : Hp} {μ : List Addr} {Φ : Hp}
theorem fld_rp {f : Nat} : ∀ {fs : List (Nat × D)} {fw : List (Str × V)}, fw.map (·.1) = fs.map (fun p => nmN p.1) → Rps K H μ (fs.map (·.2)) (fw.map (·.2)) →
    (fldD f fs = none ∧ fw.lookup (nmN f) = none) ∨ ∃ d v, fldD f fs = some d ∧ fw.lookup (nmN f) = some v ∧ Rp K H μ d v
  | [], [], _, _ => .inl ⟨rfl, rfl⟩
  | [], _ :: _, h, _ => by simp at h
  | _ :: _, [], h, _ => by simp at h
  | (g, d) :: fs, (n, v) :: fw, h, r => by
    simp only [List.map_cons, List.cons.injEq] at h
    obtain ⟨h1, h2⟩ := h
    obtain ⟨v', vs', e, r1, r2⟩ := r.cons'
    cases e
    subst h1
    by_cases q : f = g
    · subst q
      refine .inr ⟨d, v, by simp [fldD], ?_, r1⟩
      simp [List.lookup]
    · have ih := fld_rp (f := f) h2 r2
      have hb : (nmN f == nmN g) = false := beq_eq_false_iff_ne.mpr fun e => q (nmN_inj e)
      simpa [fldD, q, List.lookup, hb] using ih
theorem put_rp {f : Nat} {z : D} {y : V} (ry : Rp K H μ z y) : ∀ {fs : List (Nat × D)} {fw : List (Str × V)}, fw.map (·.1) = fs.map (fun p => nmN p.1) → Rps K H μ (fs.map (·.2)) (fw.map (·.2)) →
    (putF (nmN f) y fw).map (·.1) = (putFD f z fs).map (fun p => nmN p.1) ∧ Rps K H μ ((putFD f z fs).map (·.2)) ((putF (nmN f) y fw).map (·.2))
  | [], [], _, _ => ⟨rfl, Rps.cons ry Rps.nil⟩
  | [], _ :: _, h, _ => by simp at h
  | _ :: _, [], h, _ => by simp at h
  | (g, d) :: fs, (n, v) :: fw, h, r => by
    simp only [List.map_cons, List.cons.injEq] at h
    obtain ⟨h1, h2⟩ := h
    obtain ⟨v', vs', e, r1, r2⟩ := r.cons'
    cases e
    subst h1
    by_cases q : g = f
    · subst q
      simp only [putF, putFD, if_true, List.map_cons]
      exact ⟨by rw [h2], Rps.cons ry r2⟩
    · have hb : ¬ nmN g = nmN f := fun e => q (nmN_inj e)
      obtain ⟨a, b⟩ := put_rp (f := f) ry h2 r2
      simp only [putF, putFD, if_neg hb, if_neg q, List.map_cons]
      exact ⟨by rw [a], Rps.cons r1 b⟩
theorem Sm.ins {h : Hd} {n : Nat} {C : Addr} {fs : List (Nat × D)} {a : Addr} (S : Sm Φ K H μ h) (e : h[n]? = some (.ins C fs)) (ea : μ[n]? = some a) :
    ∃ (dx : Addr) (fw : List (Str × V)), H a = some (.ins C dx fw) ∧ fw.map (·.1) = fs.map (fun p => nmN p.1) ∧ Rps K H μ (fs.map (·.2)) (fw.map (·.2)) :=
  (show Ok K H μ a (.ins C fs) from S.at ea e)
end
/-- the classes that an object's field is read of -/
structure ClF (K : PySem.W.Frag) (C : Addr) (f : Str) : Prop where
  c : Cls K C
  n : NoAttr K C f
def fldM (Cs : List Addr) (f : Nat) (a : ME) : ME := fun sg h => match a sg h with
  | some (.at n, h1) => match h1[n]? with
    | some (.ins C fs) => if C ∈ Cs then match fldD f fs with
      | some d => some (d, h1)
      | none => none else none
    | _ => none
  | _ => none
def setFldM (Cs : List Addr) (f : Nat) (o v : ME) : MS := fun sg h => match v sg h with
  | some (z, h1) => match o sg h1 with
    | some (.at n, h2) => match h2[n]? with
      | some (.ins C fs) => if C ∈ Cs ∧ fs.length < 1000 then some (.nx sg, h2.set n (.ins C (putFD f z fs))) else none
      | _ => none
    | _ => none
  | none => none
section
variable {K : Kw} {X : Cx} {a o v : Expr} {f : Str} {pos pos' : Pos} {ta to tv : TE} {ma mo mv : ME} {Cs : List Addr} {n : Nat}
theorem de_fld (hC : ∀ C ∈ Cs, ClF K C f) (hn : nmN n = f) (ha : DE K X a ta ma) (hb : attributeBase a f X.env (eval a X.env) = eval a X.env := by rfl) : DE K X (.Attribute a f pos) (L2.tFld X.K ta f) (fldM Cs n ma) := ⟨ha.k, pe_fld ha.p hb, by
  have hk := ha.k
  subst hk
  subst hn
  intro Φ σ H μ sg h d h' S rs e Q k
  unfold fldM at e
  split at e
  · rename_i m h1 e1
    split at e
    · rename_i C fs q
      split at e
      · rename_i hm
        split at e
        · rename_i d1 q2
          cases e
          refine ha.s σ H μ sg h _ _ S rs e1 _ fun v H1 μ1 S1 l1 r1 => ?_
          obtain ⟨p, ep, rfl⟩ := rp_at' r1
          obtain ⟨dx, fw, c1, c2, c3⟩ := S1.ins q ep
          rcases fld_rp (f := n) c2 c3 with ⟨z, _⟩ | ⟨d2, u, z1, z2, z3⟩
          · rw [q2] at z; cases z
          · rw [q2] at z1
            cases z1
            exact ⟨p, C, dx, fw, u, rfl, c1, (hC C hm).c, (hC C hm).n, z2, k _ H1 μ1 S1 l1 z3⟩
        · cases e
      · cases e
    · cases e
  · cases e⟩
theorem ds_fld (hC : ∀ C ∈ Cs, ClF K C f) (hn : nmN n = f) (ho : DE K X o to mo) (hv : DE K X v tv mv) (hs : swapsWith v (some (.Attribute o f pos')) pos.line X.env = pure false := by rfl) :
    DS K X (.Assign [.Attribute o f pos'] v pos) (L2.sFld X.K to tv f) (setFldM Cs n mo mv) := ⟨ho.k, ps_fld ho.p hv.p hs, by
  have hk := ho.k
  subst hk
  subst hn
  intro Φ σ H μ sg h fl h' S rs e E k
  unfold setFldM at e
  split at e
  · rename_i z h1 e1
    split at e
    · rename_i m h2 e2
      split at e
      · rename_i C fs q
        split at e
        · rename_i hm
          cases e
          refine hv.s σ H μ sg h _ _ S rs e1 _ fun v1 H1 μ1 S1 l1 r1 => ?_
          refine ho.s σ H1 μ1 sg h1 _ _ S1 (rs.mono l1) e2 _ fun w H2 μ2 S2 l2 r2 => ?_
          obtain ⟨p, ep, rfl⟩ := rp_at' r2
          obtain ⟨dx, fw, c1, c2, c3⟩ := S2.ins q ep
          have hl : fw.length = fs.length := by
            have := congrArg List.length c2
            simpa using this
          refine ⟨p, C, dx, fw, rfl, c1, (hC C hm.1).c, (hC C hm.1).n, by omega, ?_⟩
          obtain ⟨p1, p2⟩ := put_rp (f := n) (Rp.mono l2 _ _ r1) c2 c3
          have lset : Le (KOf X) H2 μ2 (upd H2 p (.ins C dx (putF (nmN n) v1 fw))) μ2 := le_set S2 ep
          exact k _ _ μ2 (S2.set ep ⟨dx, _, upd_same, p1, Rps.mono lset _ _ p2⟩) (l1.trans (l2.trans lset)) (rs.mono (l1.trans (l2.trans lset)))
        · cases e
      · cases e
    · cases e
  · cases e⟩
end
end DL

/-! DM22: methods, objects made. -/
namespace DL
open PySem L2 PySem.Spec PyProof.Rows
def tMethSD (C : Addr) (m : Str) (sp : Sp) (dvs : List V) (E : L2.St → XK) (ta : TE) (t : TA) : TE := fun σ H Q => ta σ H fun x H1 => ∃ a dx fs, x = .ref a ∧ H1 a = some (.ins C dx fs) ∧ fs.lookup m = none ∧
  t σ H1 fun vs H2 => sp (x :: (vs ++ dvs)) H2 Q (E σ)
def tMakeSD (C : Addr) (sp : Sp) (dvs : List V) (E : L2.St → XK) (t : TA) : TE := fun σ H Q => t σ H fun vs H1 => ∀ x dx, H1 x = none → H1 dx = none → dx ≠ x →
  sp (.ref x :: (vs ++ dvs)) (upd (upd H1 dx (.own x)) x (.ins C dx [])) (fun v H2 => v = .non ∧ Q (.ref x) H2) (E σ)
theorem RoomG.make {k : Nat} {A : Around} (r : RoomG (k + 1) A) (C : Addr) (us : List Value) (kw : List (Str × Value)) : RoomG k (A.under (.builtin "type.__call__" ⟨.ref C :: us, kw⟩)) := ⟨r.r.make C us kw, r.g⟩
section
variable {X : Cx} {CX : CXT} {k : Nat} {C f : Addr} {m x : Str} {fd : FuncData} {ps : List Str} {sp : Sp} {dvs : List V} {ds : List Value} {E : L2.St → XK} {p apos pos : Pos} {e o : Expr} {es : List Expr} {ta : TE} {t : TA}
theorem pe_methG {pl : Sem Bool} (he : PE X o ta) (c : Cls X.K C) (hm : Meth X.K C m f) (F : FnG X.prog X.w X.K X.mg X.base CX k f fd ps sp) (hr : RoomG k X.A) (hb : Binds X.K fd ps ds) (hd : Vals dvs ds) (hx : ∀ σ, PassesAt CX X σ (E σ)) (ha : PA X (e :: es) t)
    (hst : starEach (e :: es) X.env = (false, eval e X.env) :: starEach es X.env := by rfl) (hpl : (backTo pos (starEach es X.env)).any (·.1) = false := by rfl)
    (ht : eval (.Call (.Attribute o m apos) (e :: es) [] pos) X.env = (do
      let ov ← eval o X.env
      standAt apos.atName
      let (f, first) ← holding [ov] (getMethod ov m pl)
      callWith pos f first (backTo pos (starEach (e :: es) X.env)) (backToKw pos (keywordEach [] X.env))) := by rfl) :
    PE X (.Call (.Attribute o m apos) (e :: es) [] pos) (tMethSD C m sp dvs E ta t) := by
  refine ⟨fun pins s σ H Q I h => ?_⟩
  refine PySem.W.methodCall_KW (pl := pl) (thn (he.run pins s σ H _ I h) fun u s1 ⟨x, H1, I1, rx, a, dx, fs, ex, ea, l, q⟩ => ?_) ht
  subst ex
  obtain rfl : u = Value.ref a := rx
  refine getmeth_ok I1 ea c hm l ?_
  refine PySem.W.callWith_K (first := [.ref a]) (h₀ := X.base) I.ok.mod.kin hm.kp (thn (ha.run pos pins s1 σ H1 _ I1 q) fun us s2 ⟨vs, H2, I2, r, q2⟩ => ⟨I2.kIn, ?_⟩) hst hpl
  exact run_fnG (us := .ref a :: us) (vs := .ref a :: vs) F hr hb hd (hx σ) I2 (.cons rfl r) q2
theorem pe_methG0 {pl : Sem Bool} (he : PE X o ta) (c : Cls X.K C) (hm : Meth X.K C m f) (F : FnG X.prog X.w X.K X.mg X.base CX k f fd ps sp) (hr : RoomG k X.A) (hb : Binds X.K fd ps ds) (hd : Vals dvs ds) (hx : ∀ σ, PassesAt CX X σ (E σ))
    (ht : eval (.Call (.Attribute o m apos) [] [] pos) X.env = (do
      let ov ← eval o X.env
      standAt apos.atName
      let (f, first) ← holding [ov] (getMethod ov m pl)
      callWith pos f first (backTo pos (starEach [] X.env)) (backToKw pos (keywordEach [] X.env))) := by rfl) :
    PE X (.Call (.Attribute o m apos) [] [] pos) (tMethSD C m sp dvs E ta tNil) := by
  refine ⟨fun pins s σ H Q I h => ?_⟩
  refine PySem.W.methodCall_KW (pl := pl) (thn (he.run pins s σ H _ I h) fun u s1 ⟨x, H1, I1, rx, a, dx, fs, ex, ea, l, q⟩ => ?_) ht
  subst ex
  obtain rfl : u = Value.ref a := rx
  refine getmeth_ok I1 ea c hm l ?_
  exact PySem.W.callWith_K0 (first := [.ref a]) I1.kIn hm.kp (run_fnG (us := [.ref a]) (vs := [.ref a]) F hr hb hd (hx σ) I1 (.cons rfl .nil) q)
theorem run_makeG {pins : List (Addr × Obj)} {σ : L2.St} {H : Hp} {s : Shared} {Q : VK} {us : List Value} {vs : List V} (M : Mk X.K C f) (F : FnG X.prog X.w X.K X.mg X.base CX k f fd ps sp) (hr : RoomG (k + 1) X.A) (hb : Binds X.K fd ps ds) (hd : Vals dvs ds)
    (hx : ∀ σ, PassesAt CX X σ (E σ)) (I : L2.Inv X pins σ H s) (r : Vals vs us)
    (h : ∀ x dx, H x = none → H dx = none → dx ≠ x → sp (.ref x :: (vs ++ dvs)) (upd (upd H dx (.own x)) x (.ins C dx [])) (fun v H2 => v = .non ∧ Q (.ref x) H2) (E σ)) :
    wpAny (model X.prog X.w) X.A (call (.ref C) us) (EP X pins σ Q) X.xe s := by
  have hq := h (s.heap.objs.size + 1) s.heap.objs.size (I.hok.fresh (Nat.le_succ _)) (I.hok.fresh (Nat.le_refl _)) (Nat.ne_of_lt (Nat.lt_succ_self _))
  have I2 := Inv.made (C := C) I
  have r2 : Vals (V.ref (s.heap.objs.size + 1) :: (vs ++ dvs)) (Value.ref (s.heap.objs.size + 1) :: (us ++ ds)) := .cons rfl (r.append hd)
  have hl : (Value.ref (s.heap.objs.size + 1) :: us ++ ds).length = ps.length := by
    have e := r2.length
    rw [F.len _ _ _ _ hq] at e
    exact e.symm
  refine wpAny_call (make_map (f := f) I.kIn M.makes M.init (beq_iff_eq.mp M.fn) (codeAny_mono (F.run _ X.stack _ _ ⟨Value.ref (s.heap.objs.size + 1) :: us, []⟩ (Value.ref (s.heap.objs.size + 1) :: (us ++ ds)) _ _ (E σ) (hr.make C us [])
    (I2.env0.make C us []) (hb _ (Value.ref (s.heap.objs.size + 1) :: us) I2.kIn hl) r2 hq) fun r s' hq' => ?_))
  cases r with
  | error e => exact hx σ pins _ _ e s' I2 hq'
  | ok fl =>
    cases fl with
    | ret u =>
      obtain ⟨v, H', I3, rv, ev, q3⟩ := I2.after hq'
      subst ev
      exact ⟨rv, ⟨V.ref (s.heap.objs.size + 1), H', I3, rfl, q3⟩⟩
    | next => exact False.elim hq'
    | brk => exact False.elim hq'
    | cont => exact False.elim hq'
theorem pe_makeG (M : Mk X.K C f) (F : FnG X.prog X.w X.K X.mg X.base CX k f fd ps sp) (hr : RoomG (k + 1) X.A) (hg : Gl X x) (hm : X.mg x = some (.ref C)) (hb : Binds X.K fd ps ds) (hd : Vals dvs ds) (hx : ∀ σ, PassesAt CX X σ (E σ))
    (ha : PA X (e :: es) t) (hdb : (x == ("__debug__" : Str)) = false := by decide) (he : starEach (e :: es) X.env = (false, eval e X.env) :: starEach es X.env := by rfl) (hpl : (backTo pos (starEach es X.env)).any (·.1) = false := by rfl) :
    PE X (.Call (.Name x p) (e :: es) [] pos) (tMakeSD C sp dvs E t) := by
  refine ⟨fun pins s σ H Q I h => ?_⟩
  refine wpAny_Call_Name_kw (ld_glob I hg hm ?_ hdb)
  refine PySem.W.callWith_K (h₀ := X.base) I.ok.mod.kin M.kp (thn (ha.run pos pins s σ H _ I h) fun us s1 ⟨vs, H1, I1, r, q⟩ => ⟨I1.kIn, ?_⟩) he hpl
  exact run_makeG M F hr hb hd hx I1 r q
theorem pe_makeG0 (M : Mk X.K C f) (F : FnG X.prog X.w X.K X.mg X.base CX k f fd ps sp) (hr : RoomG (k + 1) X.A) (hg : Gl X x) (hm : X.mg x = some (.ref C)) (hb : Binds X.K fd ps ds) (hd : Vals dvs ds) (hx : ∀ σ, PassesAt CX X σ (E σ))
    (hdb : (x == ("__debug__" : Str)) = false := by decide) : PE X (.Call (.Name x p) [] [] pos) (tMakeSD C sp dvs E tNil) := by
  refine ⟨fun pins s σ H Q I h => ?_⟩
  refine wpAny_Call_Name_kw (ld_glob I hg hm ?_ hdb)
  exact PySem.W.callWith_K0 I.kIn M.kp (run_makeG (us := []) M F hr hb hd hx I .nil h)
end
/-- the method f of the class C keeps m, xg -/
structure MthM (P : Program) (w : World) (K : PySem.W.Frag) (mg : Str → Option Value) (base : Heap) (k : Nat) (C : Addr) (f : Str) (n : Nat) (m : GC) (xg : GX) (dd : List D) : Prop where
  ex : ∃ (fa : Addr) (fd : FuncData) (ps : List Str) (ds : List Value) (dvs : List V), FnG P w K mg base (L2.CX P w) k fa fd ps (spX ⟨K, w⟩ mg n m xg) ∧ Meth K C f fa ∧ Cls K C ∧ Binds K fd ps ds ∧ Vals dvs ds ∧ ∀ H μ, Rps ⟨K, w⟩ H μ dd dvs
/-- the class x at C is made by an __init__ that keeps m, xg -/
structure MakM (P : Program) (w : World) (K : PySem.W.Frag) (mg : Str → Option Value) (base : Heap) (k : Nat) (x : Str) (C : Addr) (n : Nat) (m : GC) (xg : GX) (dd : List D) : Prop where
  ex : ∃ (fa : Addr) (fd : FuncData) (ps : List Str) (ds : List Value) (dvs : List V), FnG P w K mg base (L2.CX P w) k fa fd ps (spX ⟨K, w⟩ mg n m xg) ∧ Mk K C fa ∧ mg x = some (.ref C) ∧ Binds K fd ps ds ∧ Vals dvs ds ∧ ∀ H μ, Rps ⟨K, w⟩ H μ dd dvs
/-- o.f(a ..) -/
def methM (C : Addr) (f : Nat) (n : Nat) (m : GC) (dd : List D) (o : ME) (a : MA) : ME := fun sg h => match o sg h with
  | some (.at j, h1) => match h1[j]? with
    | some (.ins C' fs) => if C' = C ∧ fldD f fs = none then match a sg h1 with
      | some (xs, h2) => if (D.at j :: (xs ++ dd)).length = n then m (.at j :: (xs ++ dd)) h2 else none
      | none => none else none
    | _ => none
  | _ => none
def methX (C : Addr) (f : Nat) (n : Nat) (x : GX) (dd : List D) (o : ME) (a : MA) : MX := fun sg h => match o sg h with
  | some (.at j, h1) => match h1[j]? with
    | some (.ins C' fs) => if C' = C ∧ fldD f fs = none then match a sg h1 with
      | some (xs, h2) => if (D.at j :: (xs ++ dd)).length = n then match x (.at j :: (xs ++ dd)) h2 with
        | some (xn, h3) => some (xn, sg, h3)
        | none => none else none
      | none => none else none
    | _ => none
  | _ => none
/-- C(a ..) -/
def makeM (C : Addr) (n : Nat) (m : GC) (dd : List D) (a : MA) : ME := fun sg h => match a sg h with
  | some (xs, h1) => if (D.at h1.length :: (xs ++ dd)).length = n then match m (.at h1.length :: (xs ++ dd)) (h1 ++ [.ins C []]) with
    | some (.non, h2) => some (.at h1.length, h2)
    | _ => none else none
  | none => none
def makeX (C : Addr) (n : Nat) (x : GX) (dd : List D) (a : MA) : MX := fun sg h => match a sg h with
  | some (xs, h1) => if (D.at h1.length :: (xs ++ dd)).length = n then match x (.at h1.length :: (xs ++ dd)) (h1 ++ [.ins C []]) with
    | some (xn, h2) => some (xn, sg, h2)
    | none => none else none
  | none => none
def tmM (K : Kw) (mg : Str → Option Value) (C : Addr) (f : Str) (n : Nat) (m : GC) (xg : GX) (dd : List D) (E : L2.St → XK) (to : TE) (ta : TA) : TE := fun σ H Q => ∀ dvs : List V, (∀ H μ, Rps K H μ dd dvs) → tMethSD C f (spX K mg n m xg) dvs E to ta σ H Q
def tkM (K : Kw) (mg : Str → Option Value) (C : Addr) (n : Nat) (m : GC) (xg : GX) (dd : List D) (E : L2.St → XK) (ta : TA) : TE := fun σ H Q => ∀ dvs : List V, (∀ H μ, Rps K H μ dd dvs) → tMakeSD C (spX K mg n m xg) dvs E ta σ H Q
section
variable {K : Kw} {mg : Str → Option Value} {X : Cx} {pos p apos : Pos} {o e : Expr} {es : List Expr} {to : TE} {ta : TA} {mo : ME} {ma : MA} {f x : Str} {n j k c : Nat} {m : GC} {xg : GX} {dd : List D} {E : L2.St → XK} {W : WX} {C : Addr}
theorem se_meth (hc : nmN c = f) (ho : SE K to mo) (ha : SA K ta ma) : SE K (tmM K mg C f n m xg dd E to ta) (methM C c n m dd mo ma) := by
  subst hc
  intro Φ σ H μ sg h d h' S rs e Q kk dvs hd
  unfold methM at e
  split at e
  · rename_i i h1 e1
    split at e
    · rename_i C' fs q
      split at e
      · rename_i hC
        split at e
        · rename_i xs h2 e2
          split at e
          · rename_i hl
            refine ho σ H μ sg h _ _ S rs e1 _ fun v H1 μ1 S1 l1 r1 => ?_
            obtain ⟨a, ea, rfl⟩ := rp_at' r1
            obtain ⟨dx, fw, c1, c2, c3⟩ := S1.ins q ea
            have hn : fw.lookup (nmN c) = none := by
              rcases fld_rp (f := c) c2 c3 with ⟨_, z⟩ | ⟨d2, u, z1, _, _⟩
              · exact z
              · rw [hC.2] at z1; cases z1
            rw [hC.1] at c1
            refine ⟨a, dx, fw, rfl, c1, hn, ha σ H1 μ1 sg h1 xs _ S1 (rs.mono l1) e2 _ fun vs H2 μ2 S2 l2 r2 => ?_⟩
            exact ⟨Φ, μ2, .at i :: (xs ++ dd), h2, S2, Rps.cons (Rp.mono l2 _ _ r1) (r2.app (hd H2 μ2)), hl, .inl ⟨d, h', e, fun v H3 μ3 S3 l3 r3 => kk v H3 μ3 S3 (l1.trans (l2.trans l3)) r3⟩⟩
          · cases e
        · cases e
      · cases e
    · cases e
  · cases e
theorem xe_meth (hc : nmN c = f) (ho : SE K to mo) (ha : SA K ta ma) : XEx K mg W (tmM K mg C f n m xg dd (WE W) to ta) (methX C c n xg dd mo ma) := by
  subst hc
  intro Φ σ H μ sg h xn sg' h' S rs e kk Q dvs hd
  unfold methX at e
  split at e
  · rename_i i h1 e1
    split at e
    · rename_i C' fs q
      split at e
      · rename_i hC
        split at e
        · rename_i xs h2 e2
          split at e
          · rename_i hl
            split at e
            · rename_i xn2 h3 e3
              cases e
              refine ho σ H μ sg h _ _ S rs e1 _ fun v H1 μ1 S1 l1 r1 => ?_
              obtain ⟨a, ea, rfl⟩ := rp_at' r1
              obtain ⟨dx, fw, c1, c2, c3⟩ := S1.ins q ea
              have hn : fw.lookup (nmN c) = none := by
                rcases fld_rp (f := c) c2 c3 with ⟨_, z⟩ | ⟨d2, u, z1, _, _⟩
                · exact z
                · rw [hC.2] at z1; cases z1
              rw [hC.1] at c1
              refine ⟨a, dx, fw, rfl, c1, hn, ha σ H1 μ1 sg h1 xs _ S1 (rs.mono l1) e2 _ fun vs H2 μ2 S2 l2 r2 => ?_⟩
              exact ⟨Φ, μ2, .at i :: (xs ++ dd), h2, S2, Rps.cons (Rp.mono l2 _ _ r1) (r2.app (hd H2 μ2)), hl, .inr ⟨xn, h', e3, fun H3 μ3 cls d S3 l3 rx => kk σ H3 μ3 cls d S3 (l1.trans (l2.trans l3)) (rs.mono (l1.trans (l2.trans l3))) rx⟩⟩
            · cases e
          · cases e
        · cases e
      · cases e
    · cases e
  · cases e
theorem made_sm {Φ : Hp} {H : Hp} {μ : List Addr} {h : Hd} (S : Sm Φ K H μ h) {x dx : Addr} (hx : H x = none) (hdx : H dx = none) (ne : dx ≠ x) :
    Sm Φ K (upd (upd H dx (.own x)) x (.ins C dx [])) (μ ++ [x]) (h ++ [.ins C []]) ∧ Le K H μ (upd (upd H dx (.own x)) x (.ins C dx [])) (μ ++ [x]) := by
  have hx' : upd H dx (.own x) x = none := by rw [upd_ne fun z => ne z.symm]; exact hx
  refine ⟨(S.new hdx).obj hx' ⟨dx, [], upd_same, rfl, Rps.nil⟩, (le_new hdx).trans (le_obj hx')⟩
theorem se_make (ha : SA K ta ma) : SE K (tkM K mg C n m xg dd E ta) (makeM C n m dd ma) := by
  intro Φ σ H μ sg h d h' S rs e Q kk dvs hd
  unfold makeM at e
  split at e
  · rename_i xs h1 e1
    split at e
    · rename_i hl
      split at e
      · rename_i h2 e2
        cases e
        refine ha σ H μ sg h xs _ S rs e1 _ fun vs H1 μ1 S1 l1 r1 => ?_
        intro x dx hx hdx ne
        obtain ⟨S2, l2⟩ := made_sm (C := C) S1 hx hdx ne
        have rx : Rp K (upd (upd H1 dx (.own x)) x (.ins C dx [])) (μ1 ++ [x]) (.at h1.length) (.ref x) := by
          unfold Rp
          exact ⟨x, obj_at S1 rfl, rfl⟩
        refine ⟨Φ, μ1 ++ [x], .at h1.length :: (xs ++ dd), _, S2, Rps.cons rx ((Rps.mono l2 _ _ r1).app (hd _ _)), hl, .inl ⟨.non, h', e2, fun v H3 μ3 S3 l3 r3 => ⟨rp_non' r3, kk _ H3 μ3 S3 (l1.trans (l2.trans l3)) (Rp.mono l3 _ _ rx)⟩⟩⟩
      · cases e
    · cases e
  · cases e
theorem xe_make (ha : SA K ta ma) : XEx K mg W (tkM K mg C n m xg dd (WE W) ta) (makeX C n xg dd ma) := by
  intro Φ σ H μ sg h xn sg' h' S rs e kk Q dvs hd
  unfold makeX at e
  split at e
  · rename_i xs h1 e1
    split at e
    · rename_i hl
      split at e
      · rename_i xn2 h2 e2
        cases e
        refine ha σ H μ sg h xs _ S rs e1 _ fun vs H1 μ1 S1 l1 r1 => ?_
        intro x dx hx hdx ne
        obtain ⟨S2, l2⟩ := made_sm (C := C) S1 hx hdx ne
        have rx : Rp K (upd (upd H1 dx (.own x)) x (.ins C dx [])) (μ1 ++ [x]) (.at h1.length) (.ref x) := by
          unfold Rp
          exact ⟨x, obj_at S1 rfl, rfl⟩
        refine ⟨Φ, μ1 ++ [x], .at h1.length :: (xs ++ dd), _, S2, Rps.cons rx ((Rps.mono l2 _ _ r1).app (hd _ _)), hl, .inr ⟨xn, h', e2, fun H3 μ3 cls d S3 l3 rx => kk σ H3 μ3 cls d S3 (l1.trans (l2.trans l3)) (rs.mono (l1.trans (l2.trans l3))) rx⟩⟩
      · cases e
    · cases e
  · cases e
theorem de_meth {pl : Sem Bool} (q : MthM X.prog X.w K.f mg X.base j C f n m xg dd) (hc : nmN c = f) (hr : RoomG k X.A) (ho : DE K X o to mo) (ha : DA K X (e :: es) ta ma) (hj : j ≤ k := by omega) (hmg : X.mg = mg := by rfl)
    (hst : starEach (e :: es) X.env = (false, eval e X.env) :: starEach es X.env := by rfl) (hpl : (backTo pos (starEach es X.env)).any (·.1) = false := by rfl)
    (ht : eval (.Call (.Attribute o f apos) (e :: es) [] pos) X.env = (do
      let ov ← eval o X.env
      standAt apos.atName
      let (f, first) ← holding [ov] (getMethod ov f pl)
      callWith pos f first (backTo pos (starEach (e :: es) X.env)) (backToKw pos (keywordEach [] X.env))) := by rfl) :
    DE K X (.Call (.Attribute o f apos) (e :: es) [] pos) (tmM K mg C f n m xg dd (fun _ => E0) to ta) (methM C c n m dd mo ma) := ⟨ha.k, by
  have hk := ha.k
  subst hk
  subst hmg
  obtain ⟨fa, fd, ps, ds, dvs, F, h1, h2, h3, h4, h5⟩ := q.ex
  exact ⟨fun pins s σ H Q I q => (pe_methG ho.p h2 h1 F (hr.mono hj) h3 h4 (fun σ => passE0 σ) ha.p hst hpl ht).run pins s σ H Q I (q dvs h5)⟩, se_meth hc ho.s ha.s⟩
theorem de_meth0 {pl : Sem Bool} (q : MthM X.prog X.w K.f mg X.base j C f n m xg dd) (hc : nmN c = f) (hr : RoomG k X.A) (ho : DE K X o to mo) (hj : j ≤ k := by omega) (hmg : X.mg = mg := by rfl)
    (ht : eval (.Call (.Attribute o f apos) [] [] pos) X.env = (do
      let ov ← eval o X.env
      standAt apos.atName
      let (f, first) ← holding [ov] (getMethod ov f pl)
      callWith pos f first (backTo pos (starEach [] X.env)) (backToKw pos (keywordEach [] X.env))) := by rfl) :
    DE K X (.Call (.Attribute o f apos) [] [] pos) (tmM K mg C f n m xg dd (fun _ => E0) to tNil) (methM C c n m dd mo nilM) := ⟨ho.k, by
  have hk := ho.k
  subst hk
  subst hmg
  obtain ⟨fa, fd, ps, ds, dvs, F, h1, h2, h3, h4, h5⟩ := q.ex
  exact ⟨fun pins s σ H Q I q => (pe_methG0 ho.p h2 h1 F (hr.mono hj) h3 h4 (fun σ => passE0 σ) ht).run pins s σ H Q I (q dvs h5)⟩, se_meth hc ho.s (da_nil (X := X) ho.k).s⟩
theorem dx_meth {pl : Sem Bool} (q : MthM X.prog X.w K.f mg X.base j C f n m xg dd) (hc : nmN c = f) (hr : RoomG k X.A) (ho : DE K X o to mo) (ha : DA K X (e :: es) ta ma) (hj : j ≤ k := by omega) (hmg : X.mg = mg := by rfl)
    (hst : starEach (e :: es) X.env = (false, eval e X.env) :: starEach es X.env := by rfl) (hpl : (backTo pos (starEach es X.env)).any (·.1) = false := by rfl)
    (ht : eval (.Call (.Attribute o f apos) (e :: es) [] pos) X.env = (do
      let ov ← eval o X.env
      standAt apos.atName
      let (f, first) ← holding [ov] (getMethod ov f pl)
      callWith pos f first (backTo pos (starEach (e :: es) X.env)) (backToKw pos (keywordEach [] X.env))) := by rfl) :
    DEX K mg X W (.Call (.Attribute o f apos) (e :: es) [] pos) (tmM K mg C f n m xg dd (WE W) to ta) (methM C c n m dd mo ma) (methX C c n xg dd mo ma) := ⟨ha.k, fun tk => by
  have hk := ha.k
  subst hk
  subst hmg
  obtain ⟨fa, fd, ps, ds, dvs, F, h1, h2, h3, h4, h5⟩ := q.ex
  exact ⟨fun pins s σ H Q I q => (pe_methG ho.p h2 h1 F (hr.mono hj) h3 h4 (passAt tk) ha.p hst hpl ht).run pins s σ H Q I (q dvs h5)⟩, se_meth hc ho.s ha.s, xe_meth hc ho.s ha.s⟩
theorem dx_meth0 {pl : Sem Bool} (q : MthM X.prog X.w K.f mg X.base j C f n m xg dd) (hc : nmN c = f) (hr : RoomG k X.A) (ho : DE K X o to mo) (hj : j ≤ k := by omega) (hmg : X.mg = mg := by rfl)
    (ht : eval (.Call (.Attribute o f apos) [] [] pos) X.env = (do
      let ov ← eval o X.env
      standAt apos.atName
      let (f, first) ← holding [ov] (getMethod ov f pl)
      callWith pos f first (backTo pos (starEach [] X.env)) (backToKw pos (keywordEach [] X.env))) := by rfl) :
    DEX K mg X W (.Call (.Attribute o f apos) [] [] pos) (tmM K mg C f n m xg dd (WE W) to tNil) (methM C c n m dd mo nilM) (methX C c n xg dd mo nilM) := ⟨ho.k, fun tk => by
  have hk := ho.k
  subst hk
  subst hmg
  obtain ⟨fa, fd, ps, ds, dvs, F, h1, h2, h3, h4, h5⟩ := q.ex
  exact ⟨fun pins s σ H Q I q => (pe_methG0 ho.p h2 h1 F (hr.mono hj) h3 h4 (passAt tk) ht).run pins s σ H Q I (q dvs h5)⟩, se_meth hc ho.s (da_nil (X := X) ho.k).s, xe_meth hc ho.s (da_nil (X := X) ho.k).s⟩
theorem de_make (q : MakM X.prog X.w K.f mg X.base j x C n m xg dd) (hr : RoomG (k + 1) X.A) (ha : DA K X (e :: es) ta ma) (hj : j ≤ k := by omega) (hmg : X.mg = mg := by rfl) (hg : Gl X x := by rfl)
    (hdb : (x == ("__debug__" : Str)) = false := by decide) (he : starEach (e :: es) X.env = (false, eval e X.env) :: starEach es X.env := by rfl) (hpl : (backTo pos (starEach es X.env)).any (·.1) = false := by rfl) :
    DE K X (.Call (.Name x p) (e :: es) [] pos) (tkM K mg C n m xg dd (fun _ => E0) ta) (makeM C n m dd ma) := ⟨ha.k, by
  have hk := ha.k
  subst hk
  subst hmg
  obtain ⟨fa, fd, ps, ds, dvs, F, h1, h2, h3, h4, h5⟩ := q.ex
  exact ⟨fun pins s σ H Q I q => (pe_makeG h1 (F.mono hj) hr hg h2 h3 h4 (fun σ => passE0 σ) ha.p hdb he hpl).run pins s σ H Q I (q dvs h5)⟩, se_make ha.s⟩
theorem de_make0 (q : MakM X.prog X.w K.f mg X.base j x C n m xg dd) (hr : RoomG (k + 1) X.A) (hj : j ≤ k := by omega) (hmg : X.mg = mg := by rfl) (hg : Gl X x := by rfl)
    (hdb : (x == ("__debug__" : Str)) = false := by decide) (hK : KOf X = K := by rfl) :
    DE K X (.Call (.Name x p) [] [] pos) (tkM K mg C n m xg dd (fun _ => E0) tNil) (makeM C n m dd nilM) := ⟨hK, by
  have hk := hK
  subst hk
  subst hmg
  obtain ⟨fa, fd, ps, ds, dvs, F, h1, h2, h3, h4, h5⟩ := q.ex
  exact ⟨fun pins s σ H Q I q => (pe_makeG0 h1 (F.mono hj) hr hg h2 h3 h4 (fun σ => passE0 σ) hdb).run pins s σ H Q I (q dvs h5)⟩, se_make (da_nil (X := X) hK).s⟩
theorem dx_make (q : MakM X.prog X.w K.f mg X.base j x C n m xg dd) (hr : RoomG (k + 1) X.A) (ha : DA K X (e :: es) ta ma) (hj : j ≤ k := by omega) (hmg : X.mg = mg := by rfl) (hg : Gl X x := by rfl)
    (hdb : (x == ("__debug__" : Str)) = false := by decide) (he : starEach (e :: es) X.env = (false, eval e X.env) :: starEach es X.env := by rfl) (hpl : (backTo pos (starEach es X.env)).any (·.1) = false := by rfl) :
    DEX K mg X W (.Call (.Name x p) (e :: es) [] pos) (tkM K mg C n m xg dd (WE W) ta) (makeM C n m dd ma) (makeX C n xg dd ma) := ⟨ha.k, fun tk => by
  have hk := ha.k
  subst hk
  subst hmg
  obtain ⟨fa, fd, ps, ds, dvs, F, h1, h2, h3, h4, h5⟩ := q.ex
  exact ⟨fun pins s σ H Q I q => (pe_makeG h1 (F.mono hj) hr hg h2 h3 h4 (passAt tk) ha.p hdb he hpl).run pins s σ H Q I (q dvs h5)⟩, se_make ha.s, xe_make ha.s⟩
end
end DL

/-! DM23: the end, where the mirrors know the classes by their places. -/
namespace DL
open PySem L2 PySem.Spec PyProof.Rows
def caOf (mg : Str → Option Value) : Str → Addr := fun s => match mg s with
  | some (.ref a) => a
  | _ => 0
theorem caOf_eq {mg : Str → Option Value} {x : Str} {C : Addr} (h : mg x = some (.ref C)) : caOf mg x = C := by
  unfold caOf
  rw [h]
def spA (K : Kw) (n : Nat) (m : (Str → Addr) → GC) : Sp := fun vs H Q E => ∀ CA, spN K n (m CA) vs H Q E
theorem FnG.toA {P : Program} {w : World} {K : PySem.W.Frag} {mg : Str → Option Value} {base : Heap} {CX : CXT} {k n : Nat} {f : Addr} {fd : FuncData} {ps : List Str} {m : (Str → Addr) → GC} {x : GX} {CA : Str → Addr} (F : FnG P w K mg base CX k f fd ps (spX ⟨K, w⟩ mg n (m CA) x)) : FnG P w K mg base CX k f fd ps (spA ⟨K, w⟩ n m) := by
  have G : FnG P w (Kw.mk K w).f mg base CX k f fd ps (spN ⟨K, w⟩ n (m CA)) := FnG.toN (K := ⟨K, w⟩) F
  exact ⟨fun vs H Q E h => G.len vs H Q E (h CA), fun A outer s H args us vs Q E h1 h2 h3 h4 h5 => G.run A outer s H args us vs Q E h1 h2 h3 h4 (h5 CA)⟩
theorem law_endA {K : Kw} {m : (Str → Addr) → GC} {H : Hp} {a : Addr} {ns : List Int} (hm : ∀ CA, ∃ h', m CA [.rol (ns.map D.int)] [] = some (.bl true, h')) (hO : L2.Only H) (hS : SqL K H a (ns.map V.int)) :
    spA K 1 m [.ref a] H (fun v _ => v = .bl true) fun _ _ _ => False := fun CA => law_endN (hm CA) hO hS
end DL

/-! DM24: max(a, b), min(a, b), <, > of data. -/
namespace DL
open PySem L2 PySem.Spec PyProof.Rows PySem.W
section
variable {prog : Program} {w : World} {A : Around} {E : Value → Shared → Prop} {s : Shared} {a b : Value} {x y : PyData} {as bs : List Addr} {Q : Value → Shared → Prop}
def MaxW (prog : Program) (w : World) (A : Around) (op : CmpOp) (Q : Value → Shared → Prop) : Value → Shared → Prop := fun it s₂ => ∃ (I : Addr) (fp wr : List Addr) (G : Array GenState → Array GenState → Prop) (n : Nat) (P : Nat → Value → Prop) (St : Nat → Shared → Prop) (H : Heap) (bt : Nat → Nat → Bool), it = Value.ref I ∧ WalksS prog w A.in1 I fp wr G n P St ∧ St 0 s₂ ∧ (∀ b ∈ fp, b < s₂.heap.objs.size) ∧ 0 < n ∧
      (∀ b o, H.get? b = some o → b ∉ wr) ∧ (∀ b o, H.get? b = some o → s₂.heap.get? b = some o) ∧ CmpIn prog w A.in1 op H P bt ∧ ∀ v s', P (argBest bt (n - 1)) v → Moved wr G s₂ s' → Q v s'
theorem max_two_data (hh : A.handled = none) (rx : Reads s.heap a x as) (ry : Reads s.heap b y bs) (ha : AlikeAll [x, y]) (hu : A.units + 1 + PyData.depthAll [x, y] < cLine)
    (h : ∀ h' tk, (∀ b o, s.heap.get? b = some o → h'.get? b = some o) → Q (if dataLt x y = true then b else a) { s with heap := h', toks := tk }) : wpAny (model prog w) A (call (.builtin "max") [a, b]) Q E s := by
  have hname : (toString "max" ++ toString ".loop" : String) = "max.loop" := by decide
  refine call_function_tree F.kind_max F.plain_max F.entry_max (F.args_max2 _ _) ?_
  show wpAny _ A.in1 (Builtin.Builtins.bindParams "max" ["key", "default"] 0 ⟨[], []⟩ >>= _) _ _ s
  refine wpAny_bind (wpAny_of_eq (show Builtin.Builtins.bindParams "max" ["key", "default"] 0 ⟨[], []⟩ = pure [none, none] from rfl) ?_)
  show wpAny _ A.in1 (newTuple [a, b] >>= _) _ _ s
  refine wpAny_bind (wpAny_newObj_type ?_)
  have hT : (s.heap.push { cls := .type "tuple", data := .seq #[a, b] }).IsTuple s.heap.objs.size #[a, b] := ⟨_, Heap.get?_push_size _ rfl, rfl, 0, rfl⟩
  have kp : ∀ b' o, s.heap.get? b' = some o → (s.heap.push { cls := .type "tuple", data := .seq #[a, b] }).get? b' = some o := fun _ _ e => Heap.get?_push_of_some _ e
  have hr : ReadsAll (s.heap.push { cls := .type "tuple", data := .seq #[a, b] }) [a, b] [x, y] (as ++ (bs ++ [])) := .cons (reads_keeps kp rx) (.cons (reads_keeps kp ry) .nil)
  refine wpAny_bind (wpAny_mono (show wpAny (model prog w) A.in1 (pyIter (.ref s.heap.objs.size)) (MaxW prog w A .Gt Q) E { s with heap := s.heap.push { cls := .type "tuple", data := .seq #[a, b] } } from iter_tupleW (A := A.in1) hh hT fun s₂ e W st hfp hw hk => ⟨_, _, _, _, _, _, _, s.heap.push { cls := .type "tuple", data := .seq #[a, b] }, _, rfl, W, st, hfp, (by show 0 < 2; decide), hw, hk, cmpIn_gt (A := A.in1) (s := { s with heap := s.heap.push { cls := .type "tuple", data := .seq #[a, b] } }) hr ha (by show A.units + 1 + _ < _; exact hu), fun v s' hP m => ?_⟩) (fun it s₂ h₂ => ?_) fun _ _ e => e)
  · obtain ⟨h', tk, rfl, hk'⟩ := moved_old e rfl m
    have e1 : argBest (fun i j => dataLt ([x, y].getD j .none) ([x, y].getD i .none)) 1 = if dataLt x y = true then 1 else 0 := by simp [argBest]
    have hv : v = if dataLt x y = true then b else a := by
      have hP' : #[a, b][argBest (fun i j => dataLt ([x, y].getD j .none) ([x, y].getD i .none)) 1]? = some v := hP
      rw [e1] at hP'
      split at hP' <;> simp_all
    rw [hv]
    exact h h' tk fun b' o e => hk' b' o (kp b' o e)
  · obtain ⟨I, fp, wr, G, n, P, St, H, bt, rfl, W, hst, hfp, hn, hw, hkeep, hcmp, hQ⟩ := h₂
    refine wpAny_bind (wpAny_newObj_type ?_)
    have hSf : s₂.heap.objs.size ∉ fp := fun hm => Nat.lt_irrefl _ (hfp _ hm)
    rw [hname]
    refine wpAny_pure ⟨plainId_quiet F.plain_max_loop _, codeAny_max_loop_firstH W H hw bt hcmp s₂.heap.objs.size hSf (fresh_in hkeep) _ hn (fun b o e => Heap.get?_push_of_some _ (hkeep b o e)) (W.frame 0 s₂ _ s₂.toks hst (Nat.le_refl _) fun b _ o e => Heap.get?_push_of_some _ e) (Heap.get?_push_size _ rfl) fun v s' hP hm => ?_⟩
    exact hQ v s' hP (Moved.drop_new (tk := s₂.toks) hm (Nat.le_refl _))
theorem min_two_data (hh : A.handled = none) (rx : Reads s.heap a x as) (ry : Reads s.heap b y bs) (ha : AlikeAll [x, y]) (hu : A.units + 1 + PyData.depthAll [x, y] < cLine)
    (h : ∀ h' tk, (∀ b o, s.heap.get? b = some o → h'.get? b = some o) → Q (if dataLt y x = true then b else a) { s with heap := h', toks := tk }) : wpAny (model prog w) A (call (.builtin "min") [a, b]) Q E s := by
  have hname : (toString "min" ++ toString ".loop" : String) = "min.loop" := by decide
  refine call_function_tree F.kind_min F.plain_min F.entry_min (F.args_min2 _ _) ?_
  show wpAny _ A.in1 (Builtin.Builtins.bindParams "min" ["key", "default"] 0 ⟨[], []⟩ >>= _) _ _ s
  refine wpAny_bind (wpAny_of_eq (show Builtin.Builtins.bindParams "min" ["key", "default"] 0 ⟨[], []⟩ = pure [none, none] from rfl) ?_)
  show wpAny _ A.in1 (newTuple [a, b] >>= _) _ _ s
  refine wpAny_bind (wpAny_newObj_type ?_)
  have hT : (s.heap.push { cls := .type "tuple", data := .seq #[a, b] }).IsTuple s.heap.objs.size #[a, b] := ⟨_, Heap.get?_push_size _ rfl, rfl, 0, rfl⟩
  have kp : ∀ b' o, s.heap.get? b' = some o → (s.heap.push { cls := .type "tuple", data := .seq #[a, b] }).get? b' = some o := fun _ _ e => Heap.get?_push_of_some _ e
  have hr : ReadsAll (s.heap.push { cls := .type "tuple", data := .seq #[a, b] }) [a, b] [x, y] (as ++ (bs ++ [])) := .cons (reads_keeps kp rx) (.cons (reads_keeps kp ry) .nil)
  refine wpAny_bind (wpAny_mono (show wpAny (model prog w) A.in1 (pyIter (.ref s.heap.objs.size)) (MaxW prog w A .Lt Q) E { s with heap := s.heap.push { cls := .type "tuple", data := .seq #[a, b] } } from iter_tupleW (A := A.in1) hh hT fun s₂ e W st hfp hw hk => ⟨_, _, _, _, _, _, _, s.heap.push { cls := .type "tuple", data := .seq #[a, b] }, _, rfl, W, st, hfp, (by show 0 < 2; decide), hw, hk, cmpIn_lt (A := A.in1) (s := { s with heap := s.heap.push { cls := .type "tuple", data := .seq #[a, b] } }) hr ha (by show A.units + 1 + _ < _; exact hu), fun v s' hP m => ?_⟩) (fun it s₂ h₂ => ?_) fun _ _ e => e)
  · obtain ⟨h', tk, rfl, hk'⟩ := moved_old e rfl m
    have e1 : argBest (fun i j => dataLt ([x, y].getD i .none) ([x, y].getD j .none)) 1 = if dataLt y x = true then 1 else 0 := by simp [argBest]
    have hv : v = if dataLt y x = true then b else a := by
      have hP' : #[a, b][argBest (fun i j => dataLt ([x, y].getD i .none) ([x, y].getD j .none)) 1]? = some v := hP
      rw [e1] at hP'
      split at hP' <;> simp_all
    rw [hv]
    exact h h' tk fun b' o e => hk' b' o (kp b' o e)
  · obtain ⟨I, fp, wr, G, n, P, St, H, bt, rfl, W, hst, hfp, hn, hw, hkeep, hcmp, hQ⟩ := h₂
    refine wpAny_bind (wpAny_newObj_type ?_)
    have hSf : s₂.heap.objs.size ∉ fp := fun hm => Nat.lt_irrefl _ (hfp _ hm)
    rw [hname]
    refine wpAny_pure ⟨plainId_quiet F.plain_min_loop _, codeAny_min_loop_firstH W H hw bt hcmp s₂.heap.objs.size hSf (fresh_in hkeep) _ hn (fun b o e => Heap.get?_push_of_some _ (hkeep b o e)) (W.frame 0 s₂ _ s₂.toks hst (Nat.le_refl _) fun b _ o e => Heap.get?_push_of_some _ e) (Heap.get?_push_size _ rfl) fun v s' hP hm => ?_⟩
    exact hQ v s' hP (Moved.drop_new (tk := s₂.toks) hm (Nat.le_refl _))
end
def okOrd (p q : PyData) : Bool := alike p p && alike p q && alike q p && alike q q && (match p with | .none => false | _ => true) && (match q with | .none => false | _ => true) && decide (p.depth ≤ 50) && decide (q.depth ≤ 50)
theorem okOrd_of {p q : PyData} (h : okOrd p q = true) : AlikeAll [p, q] ∧ PyData.depthAll [p, q] ≤ 50 := by
  unfold okOrd at h
  simp only [Bool.and_eq_true, decide_eq_true_eq] at h
  obtain ⟨⟨⟨⟨⟨⟨⟨h1, h2⟩, h3⟩, h4⟩, h5⟩, h6⟩, h7⟩, h8⟩ := h
  refine ⟨⟨fun x hx y hy => ?_, fun x hx => ?_⟩, ?_⟩
  · simp only [List.mem_cons, List.not_mem_nil, or_false] at hx hy
    rcases hx with rfl | rfl <;> rcases hy with rfl | rfl <;> assumption
  · simp only [List.mem_cons, List.not_mem_nil, or_false] at hx
    rcases hx with rfl | rfl
    · rintro rfl; cases h5
    · rintro rfl; cases h6
  · simp only [PyData.depthAll]
    omega
/-- max(a, b), min(a, b) of data -/
def maxPD : GC := fun xs h => match xs with
  | [x, y] => match datD h x, datD h y with
    | some p, some q => if okOrd p q = true then some (if dataLt p q = true then y else x, h) else none
    | _, _ => none
  | _ => none
def minPD : GC := fun xs h => match xs with
  | [x, y] => match datD h x, datD h y with
    | some p, some q => if okOrd p q = true then some (if dataLt q p = true then y else x, h) else none
    | _, _ => none
  | _ => none
def rMaxP (K : Kw) (mx : Bool) : List V → Hp → VK → Prop := fun xs H Q => ∃ x y p q, xs = [x, y] ∧ Dp K H x p ∧ Dp K H y q ∧ okOrd p q = true ∧ Q (if dataLt (if mx then p else q) (if mx then q else p) = true then y else x) H
section
variable {K : Kw} {X : Cx}
theorem call_maxP (hu : X.A.units + 64 < cLine) (hK : KOf X = K := by rfl) (hc : X.calm = true := by rfl) : CallR X (.builtin "max") (rMaxP K true) := by
  subst hK
  intro pins s σ H xs us Q I r h
  obtain ⟨x, y, p, q, rfl, hp, hq, ho, k⟩ := h
  obtain ⟨u, w', rfl, r1, r2⟩ := vals2 r
  obtain ⟨as, a1⟩ := Dp.reads I p x u hp r1
  obtain ⟨bs, a2⟩ := Dp.reads I q y w' hq r2
  obtain ⟨o1, o2⟩ := okOrd_of ho
  refine max_two_data (I.ok.hd hc) a1 a2 o1 (by omega) fun h' tk kp => ⟨_, H, I.kept kp, ?_, k⟩
  simp only [if_true]
  split
  · exact r2
  · exact r1
theorem call_minP (hu : X.A.units + 64 < cLine) (hK : KOf X = K := by rfl) (hc : X.calm = true := by rfl) : CallR X (.builtin "min") (rMaxP K false) := by
  subst hK
  intro pins s σ H xs us Q I r h
  obtain ⟨x, y, p, q, rfl, hp, hq, ho, k⟩ := h
  obtain ⟨u, w', rfl, r1, r2⟩ := vals2 r
  obtain ⟨as, a1⟩ := Dp.reads I p x u hp r1
  obtain ⟨bs, a2⟩ := Dp.reads I q y w' hq r2
  obtain ⟨o1, o2⟩ := okOrd_of ho
  refine min_two_data (I.ok.hd hc) a1 a2 o1 (by omega) fun h' tk kp => ⟨_, H, I.kept kp, ?_, k⟩
  simp only [Bool.false_eq_true, if_false]
  split
  · exact r2
  · exact r1
theorem sc_maxP : SC K (rMaxP K true) maxPD := by
  intro Φ H μ h xs vs d h' S r e Q k
  unfold maxPD at e
  split at e
  · rename_i x y
    split at e
    · rename_i p q e1 e2
      split at e
      · rename_i ho
        cases e
        obtain ⟨v, w, rfl, a, b⟩ := rps2 r
        refine ⟨v, w, p, q, rfl, dat_of S a e1, dat_of S b e2, ho, ?_⟩
        simp only [if_true]
        refine k _ H μ S Le.refl ?_
        split
        · exact b
        · exact a
      · cases e
    · cases e
  · cases e
theorem sc_minP : SC K (rMaxP K false) minPD := by
  intro Φ H μ h xs vs d h' S r e Q k
  unfold minPD at e
  split at e
  · rename_i x y
    split at e
    · rename_i p q e1 e2
      split at e
      · rename_i ho
        cases e
        obtain ⟨v, w, rfl, a, b⟩ := rps2 r
        refine ⟨v, w, p, q, rfl, dat_of S a e1, dat_of S b e2, ho, ?_⟩
        simp only [Bool.false_eq_true, if_false]
        refine k _ H μ S Le.refl ?_
        split
        · exact b
        · exact a
      · cases e
    · cases e
  · cases e
end
end DL

/-! DM25: ranges downwards, xs += ys, what runs of the new things give. -/
namespace DL
open PySem L2 PySem.Spec PyProof.Rows
/-! ### range(a, b, -1) -/
def rngC (lo : Int) (n : Nat) : Src := .fix ((List.range n).map fun i => .int (lo + (i : Nat) * (-1)))
def rng3I (a : MA) : MI := fun sg h => match a sg h with
  | some ([.int i, .int j, .int c], h1) => if c = -1 ∧ -(2 ^ 62) ≤ i ∧ i < 2 ^ 62 ∧ -(2 ^ 62) ≤ j ∧ j < 2 ^ 62 then some (rngC i (i - j).toNat, h1) else none
  | _ => none
section
variable {K : Kw} {X : Cx} {tg : Expr} {p pos : Pos} {ta : TA} {ma : MA}
theorem j_rngC {Φ : Hp} {lo : Int} {n : Nat} {H0 : Hp} {μ0 : List Addr} : JOk Φ K (Itc lo (-1) n) (rngC lo n) H0 μ0 := by
  intro i H μ h S l
  refine ⟨fun d q => ?_, fun q => ?_⟩
  · have q := Option.some.inj q
    rw [List.getElem?_map] at q
    by_cases hi : i < n
    · rw [List.getElem?_range hi] at q
      cases q
      refine ⟨hi, fun x H' y => ?_⟩
      obtain ⟨rfl, rfl⟩ := y
      exact ⟨S, Le.refl, rp_int⟩
    · rw [List.getElem?_eq_none (by simp; omega)] at q
      cases q
  · have q := List.getElem?_eq_none_iff.mp (Option.some.inj q)
    show n ≤ i
    simpa using q
theorem di_range3 {a b c : Expr} (ha : DA K X [a, b, c] ta ma) (hm : X.mg "range" = none) (hg : Gl X "range" := by rfl) (hs : starEach [a, b, c] X.env = (false, eval a X.env) :: starEach [b, c] X.env := by rfl) (hpl : (backTo pos (starEach [b, c] X.env)).any (·.1) = false := by rfl) :
    DI K X tg (.Call (.Name "range" p) [a, b, c] [] pos) (iRng3 ta) (rng3I ma) := ⟨ha.k, pi_range3 hg hm ha.p hs hpl, by
  intro Φ σ H μ sg h s h' S rs e R k
  unfold rng3I at e
  split at e
  · rename_i i j c h1 e1
    split at e
    · rename_i hj
      cases e
      refine ha.s σ H μ sg h _ _ S rs e1 _ fun vs H1 μ1 S1 l1 r1 => ?_
      obtain ⟨v, w, u, rfl, r2, r3, r4⟩ := rps3 r1
      rw [rp_int' r2, rp_int' r3, rp_int' r4, hj.1]
      exact ⟨i, j, -1, _, rfl, RgC.neg hj.2.1 hj.2.2.1 hj.2.2.2.1 hj.2.2.2.2, k _ H1 μ1 S1 l1 j_rngC⟩
    · cases e
  · cases e⟩
/-! ### xs += ys -/
def addIL : G2 := fun x y h => match x, y with
  | .at n, .at m => match h[n]?, h[m]? with
    | some (.lst xs), some (.lst ys) => if xs.length + ys.length ≤ LN then some (.at n, h.set n (.lst (xs ++ ys))) else none
    | _, _ => none
  | _, _ => none
theorem ip_ext : PIp X .Add rExt2 := fun pins s σ H x y v u Q I r1 r2 q => iop_ext pins s σ H x y v u Q I r1 r2 q
theorem so_addIL : SO K rExt2 addIL := by
  intro Φ H μ h x y v w d h' S r1 r2 e Q k
  unfold addIL at e
  split at e
  · rename_i n m
    split at e
    · rename_i xs ys q1 q2
      split at e
      · rename_i hl
        cases e
        obtain ⟨a, ea, rfl⟩ := rp_at' r1
        obtain ⟨b, eb, rfl⟩ := rp_at' r2
        obtain ⟨vs, c1, c2⟩ := S.lst q1 ea
        obtain ⟨ws, c3, c4⟩ := S.lst q2 eb
        refine ⟨a, b, vs, ws, rfl, rfl, c1, c3, ?_, ?_⟩
        · rw [c2.len, c4.len]; exact ln_of hl
        have lset : Le K H μ (upd H a (.lst (vs ++ ws))) μ := le_set S ea
        refine k _ _ μ (S.set ea ⟨_, upd_same, Rps.mono lset _ _ (c2.app c4)⟩) lset ?_
        unfold Rp
        exact ⟨a, ea, rfl⟩
      · cases e
    · cases e
  · cases e
end
/-! ### told from the end -/
section
variable {sg : Sg} {h : Hd} {Q : D → Hd → Prop} {a o : ME} {b : MA}
theorem ev_rng2I {b : MA} {Q : Src → Hd → Prop} (q : Ev (b sg h) fun xs h1 => ∃ i j, xs = [.int i, .int j] ∧ (-(2 ^ 62) ≤ i ∧ i < 2 ^ 62 ∧ -(2 ^ 62) ≤ j ∧ j < 2 ^ 62) ∧ Q (rngD i (j - i).toNat) h1) : Ev (rng2I b sg h) Q := by
  obtain ⟨xs, h1, e1, i, j, rfl, c, q⟩ := q
  exact ⟨_, _, by simp only [rng2I, e1, if_pos c], q⟩
theorem ev_rng3I {b : MA} {Q : Src → Hd → Prop} (q : Ev (b sg h) fun xs h1 => ∃ i j, xs = [.int i, .int j, .int (-1)] ∧ (-(2 ^ 62) ≤ i ∧ i < 2 ^ 62 ∧ -(2 ^ 62) ≤ j ∧ j < 2 ^ 62) ∧ Q (rngC i (i - j).toNat) h1) : Ev (rng3I b sg h) Q := by
  obtain ⟨xs, h1, e1, i, j, rfl, c, q⟩ := q
  exact ⟨_, _, by simp only [rng3I, e1, if_pos (And.intro trivial c)], q⟩
theorem lf_addIL {n m : Nat} {xs ys : List D} (e1 : h[n]? = some (.lst xs)) (e2 : h[m]? = some (.lst ys)) (l : xs.length + ys.length ≤ LN) (q : Q (.at n) (h.set n (.lst (xs ++ ys)))) : Ev (addIL (.at n) (.at m) h) Q := ⟨_, _, by simp only [addIL, e1, e2, if_pos l], q⟩
def FldK (Cs : List Addr) (f : Nat) (x : D) (h : Hd) (A : D → Prop) : Prop := ∃ n C fs d, x = .at n ∧ h[n]? = some (.ins C fs) ∧ C ∈ Cs ∧ fldD f fs = some d ∧ A d
theorem ev_fld {Cs : List Addr} {f : Nat} (q : Ev (a sg h) fun x h1 => FldK Cs f x h1 fun d => Q d h1) : Ev (fldM Cs f a sg h) Q := by
  obtain ⟨x, h1, e1, n, C, fs, d, rfl, e2, hc, e3, q⟩ := q
  exact ⟨d, h1, by simp only [fldM, e1, e2, if_pos hc, e3], q⟩
theorem fld_k {Cs : List Addr} {f : Nat} {n : Nat} {C : Addr} {fs : List (Nat × D)} {d : D} {A : D → Prop} (e : h[n]? = some (.ins C fs)) (hc : C ∈ Cs) (e2 : fldD f fs = some d) (q : A d) : FldK Cs f (.at n) h A := ⟨n, C, fs, d, rfl, e, hc, e2, q⟩
def SFldK (Cs : List Addr) (f : Nat) (z x : D) (h : Hd) (A : Hd → Prop) : Prop := ∃ n C fs, x = .at n ∧ h[n]? = some (.ins C fs) ∧ C ∈ Cs ∧ fs.length < 1000 ∧ A (h.set n (.ins C (putFD f z fs)))
theorem ev_setFld {Cs : List Addr} {f : Nat} {v : ME} {Q : Fl → Hd → Prop} (q : Ev (v sg h) fun z h1 => Ev (o sg h1) fun x h2 => SFldK Cs f z x h2 fun h3 => Q (.nx sg) h3) : Ev (setFldM Cs f o v sg h) Q := by
  obtain ⟨z, h1, e1, x, h2, e2, n, C, fs, rfl, e3, hc, hl, q⟩ := q
  exact ⟨_, _, by simp only [setFldM, e1, e2, e3, if_pos (And.intro hc hl)], q⟩
theorem sfld_k {Cs : List Addr} {f : Nat} {n : Nat} {z : D} {C : Addr} {fs : List (Nat × D)} {A : Hd → Prop} (e : h[n]? = some (.ins C fs)) (hc : C ∈ Cs) (hl : fs.length < 1000) (q : A (h.set n (.ins C (putFD f z fs)))) : SFldK Cs f z (.at n) h A := ⟨n, C, fs, rfl, e, hc, hl, q⟩
def MtK (C : Addr) (f : Nat) (x : D) (h : Hd) (A : Prop) : Prop := ∃ n fs, x = .at n ∧ h[n]? = some (.ins C fs) ∧ fldD f fs = none ∧ A
theorem mt_k {C : Addr} {f n : Nat} {fs : List (Nat × D)} {A : Prop} (e : h[n]? = some (.ins C fs)) (e2 : fldD f fs = none) (q : A) : MtK C f (.at n) h A := ⟨n, fs, rfl, e, e2, q⟩
theorem ev_meth {C : Addr} {f n : Nat} {m : GC} {dd : List D} (q : Ev (o sg h) fun x h1 => MtK C f x h1 <| Ev (b sg h1) fun xs h2 => ClK n m (x :: (xs ++ dd)) h2 Q) : Ev (methM C f n m dd o b sg h) Q := by
  obtain ⟨x, h1, e1, k, fs, rfl, e2, e3, xs, h2, e4, hl, d, h3, e5, q⟩ := q
  exact ⟨_, _, by simp only [methM, e1, e2, if_pos (And.intro trivial e3), e4, if_pos hl, e5], q⟩
def NonK (x : D) (A : Prop) : Prop := x = .non ∧ A
theorem non_k {A : Prop} (q : A) : NonK .non A := ⟨rfl, q⟩
theorem ev_make {C : Addr} {n : Nat} {m : GC} {dd : List D} (q : Ev (b sg h) fun xs h1 => ClK n m (.at h1.length :: (xs ++ dd)) (h1 ++ [.ins C []]) fun r h2 => NonK r (Q (.at h1.length) h2)) : Ev (makeM C n m dd b sg h) Q := by
  obtain ⟨xs, h1, e1, hl, r, h2, e2, rfl, q⟩ := q
  exact ⟨_, _, by simp only [makeM, e1, if_pos hl, e2], q⟩
theorem ev_dnewN (q : Q (.at h.length) (h ++ [.dcn []])) : Ev (dnewNM sg h) Q := ⟨_, _, rfl, q⟩
theorem lf_inN {neg : Bool} {n : Nat} {kvs : List (D × D)} {x : D} (e : h[n]? = some (.dcn kvs)) (hd : depN x = true) (q : Q (.bl (neg ^^ (valN kvs x).isSome)) h) : Ev (inND neg x (.at n) h) Q := ⟨_, _, by simp only [inND, e, if_pos hd], q⟩
theorem lf_inK {neg : Bool} {n : Nat} {kvs : List (Key × D)} {x : D} {k : Key} (e : h[n]? = some (.dct kvs)) (hk : keyD x = some k) (q : Q (.bl (neg ^^ (valD kvs k).isSome)) h) : Ev (inKD neg x (.at n) h) Q := ⟨_, _, by simp only [inKD, e, hk], q⟩
theorem lf_ixN {n : Nat} {kvs : List (D × D)} {x d : D} (e : h[n]? = some (.dcn kvs)) (hd : depN x = true) (e2 : valN kvs x = some d) (q : Q d h) : Ev (subsND (.at n) x h) Q := ⟨_, _, by simp only [subsND, e, if_pos hd, e2], q⟩
theorem ev_setN {i v : ME} {Q : Fl → Hd → Prop} (q : Ev (v sg h) fun z h1 => Ev (o sg h1) fun x h2 => Ev (i sg h2) fun y h3 => ∃ n kvs, x = .at n ∧ h3[n]? = some (.dcn kvs) ∧ depN y = true ∧ kvs.length < LN ∧ Q (.nx sg) (h3.set n (.dcn (putN kvs y z)))) : Ev (setND o i v sg h) Q := by
  obtain ⟨z, h1, e1, x, h2, e2, y, h3, e3, n, kvs, rfl, e4, hd, hl, q⟩ := q
  exact ⟨_, _, by simp only [setND, e1, e2, e3, e4, if_pos (And.intro hd hl)], q⟩
theorem lf_maxP {x y : D} {p q : PyData} (e1 : datD h x = some p) (e2 : datD h y = some q) (e3 : okOrd p q = true) (k : Q (if PySem.W.dataLt p q = true then y else x) h) : Ev (maxPD [x, y] h) Q := ⟨_, _, by simp only [maxPD, e1, e2, if_pos e3], k⟩
theorem lf_minP {x y : D} {p q : PyData} (e1 : datD h x = some p) (e2 : datD h y = some q) (e3 : okOrd p q = true) (k : Q (if PySem.W.dataLt q p = true then y else x) h) : Ev (minPD [x, y] h) Q := ⟨_, _, by simp only [minPD, e1, e2, if_pos e3], k⟩
end
end DL

/-! DM26: what the top has left of classes. -/
namespace DL
open PySem L2 PySem.Spec PyProof.Rows
/-- the method m of the class at C is the def st -/
structure GotM (K : PySem.W.Frag) (C : Addr) (m qual : Str) (st : Stmt) (ps : List Str) : Prop where
  ex : ∃ (f : Addr) (fd : FuncData), Fun K m qual st f fd ∧ Meth K C m f ∧ Cls K C ∧ Binds K fd ps []
/-- the class x at C is made by the def st -/
structure GotI (K : PySem.W.Frag) (mg : Str → Option Value) (x : Str) (C : Addr) (qual : Str) (st : Stmt) (ps : List Str) : Prop where
  ex : ∃ (f : Addr) (fd : FuncData), Fun K "__init__" qual st f fd ∧ Mk K C f ∧ mg x = some (.ref C) ∧ Binds K fd ps []
section
variable {P : Program} {w : World} {K : PySem.W.Frag} {mg : Str → Option Value} {base : Heap} {k : Nat} {C : Addr} {m x qual : Str} {st : Stmt} {ps N : List Str} {ms : MS} {xs : MX}
theorem GotM.cal (g : GotM K C m qual st ps) (S : FnScope N ps (defScope st))
    (hb : ∀ (f : Addr) (cdv : Value) (A : Around) (outer : List Env) (s : Shared) (H : Hp) (E : XK), RoomG k (A.deeper (envOfC qual (defScope st) s.heap.objs.size f cdv)) →
      ∃ t, DSsX ⟨K, w⟩ mg (cxOf (L2.CX P w) P w K mg base N qual (defScope st) f cdv A outer s H E) (BdW E) (defBody st) t ms xs) : MthM P w K mg base (k + 1) C m ps.length (bodyM N.length ms) (bodyX N.length xs) [] := by
  obtain ⟨f, fd, F, hm, hc, hb0⟩ := g.ex
  exact ⟨f, fd, ps, [], [], fn_M F S (fun cdv A outer s H E hr => hb f cdv A outer s H E hr), hm, hc, hb0, .nil, fun _ _ => Rps.nil⟩
theorem GotI.cal (g : GotI K mg x C qual st ps) (S : FnScope N ps (defScope st))
    (hb : ∀ (f : Addr) (cdv : Value) (A : Around) (outer : List Env) (s : Shared) (H : Hp) (E : XK), RoomG k (A.deeper (envOfC qual (defScope st) s.heap.objs.size f cdv)) →
      ∃ t, DSsX ⟨K, w⟩ mg (cxOf (L2.CX P w) P w K mg base N qual (defScope st) f cdv A outer s H E) (BdW E) (defBody st) t ms xs) : MakM P w K mg base (k + 1) x C ps.length (bodyM N.length ms) (bodyX N.length xs) [] := by
  obtain ⟨f, fd, F, hm, hc, hb0⟩ := g.ex
  exact ⟨f, fd, ps, [], [], fn_M F S (fun cdv A outer s H E hr => hb f cdv A outer s H E hr), hm, hc, hb0, .nil, fun _ _ => Rps.nil⟩
end
theorem MthM.mono {P : Program} {w : World} {K : PySem.W.Frag} {mg : Str → Option Value} {base : Heap} {j k : Nat} {C : Addr} {f : Str} {n : Nat} {m : GC} {xg : GX} {dd : List D} (c : MthM P w K mg base j C f n m xg dd) (h : j ≤ k) : MthM P w K mg base k C f n m xg dd := by
  obtain ⟨fa, fd, ps, ds, dvs, F, r⟩ := c.ex
  exact ⟨fa, fd, ps, ds, dvs, F.mono h, r⟩
theorem MakM.mono {P : Program} {w : World} {K : PySem.W.Frag} {mg : Str → Option Value} {base : Heap} {j k : Nat} {x : Str} {C : Addr} {n : Nat} {m : GC} {xg : GX} {dd : List D} (c : MakM P w K mg base j x C n m xg dd) (h : j ≤ k) : MakM P w K mg base k x C n m xg dd := by
  obtain ⟨fa, fd, ps, ds, dvs, F, r⟩ := c.ex
  exact ⟨fa, fd, ps, ds, dvs, F.mono h, r⟩
theorem clf_one {K : PySem.W.Frag} {C : Addr} {f : Str} (h : ClF K C f) : ∀ D ∈ [C], ClF K D f := by
  intro D hD
  rw [List.mem_singleton.mp hD]
  exact h
theorem clf_two {K : PySem.W.Frag} {C E : Addr} {f : Str} (h : ClF K C f) (g : ClF K E f) : ∀ D ∈ [C, E], ClF K D f := by
  intro D hD
  simp only [List.mem_cons, List.not_mem_nil, or_false] at hD
  rcases hD with rfl | rfl
  · exact h
  · exact g
end DL

/-! DM27: d.setdefault(k, v), xs.pop(0), x in a list of data. -/
namespace DL
open PySem L2 PySem.Spec PyProof.Rows
/-! ### setdefault of a dict of ints and texts -/
def setdD : GM := fun x xs h => match x, xs with
  | .at n, [y, z] => match h[n]? with
    | some (.dct kvs) => match keyD y with
      | some k => match valD kvs k with
        | some d => some (d, h)
        | none => if kvs.length < LN then some (z, h.set n (.dct (putD kvs k z))) else none
      | none => none
    | _ => none
  | _, _ => none
def rSetdM : V → List V → Hp → VK → Prop := fun x vs H Q => ∃ (a : Addr) (kvs : List (Key × V)) (k : Key) (v : V), x = .ref a ∧ vs = [kV k, v] ∧ H a = some (.dK kvs) ∧
  (∀ u, valV kvs k = some u → Q u H) ∧ (valV kvs k = none → kvs.length < sizeLine ∧ Q v (upd H a (.dK (putK kvs k v))))
section
variable {K : Kw} {X : Cx}
theorem mt_setd : MtR X "dict.setdefault" rSetdM := by
  intro pins s σ H x vs v us Q I rx rv h
  obtain ⟨a, kvs, k, v, rfl, rfl, ea, w1, w2⟩ := h
  cases rx
  cases rv with
  | cons ry rv =>
    cases rv with
    | cons rd rv =>
      cases rv
      obtain ⟨z, hd, vs0, rel, dd⟩ := dk_of I.hok ea
      have hz : vs0.length ≤ sizeLine := by rw [← rel.length]; exact z
      refine call_meetsIn PySem.F.slot_dict_setdefault dd.typeIs PySem.F.entry_dict_setdefault (PySem.F.args_dict_setdefault_3 _ _ _) (kt_meets_setdefault (mixKind X.prog X.w) _ (kV_is ry) hd _) ⟨vs0, dd, hz, fun u hu => ?_, fun hn h' dd' hs => ?_⟩
      · have rr := rel.val k
        rw [hu] at rr
        cases hv : valV kvs k with
        | none => rw [hv] at rr; exact False.elim rr
        | some x =>
          rw [hv] at rr
          exact (⟨x, H, I.tok _, rr, w1 x hv⟩ : EP X pins σ Q u _)
      · have rr := rel.val k
        rw [hn] at rr
        cases hv : valV kvs k with
        | some x => rw [hv] at rr; exact False.elim rr
        | none =>
          obtain ⟨w3, w4⟩ := w2 hv
          have hl2 : (putK kvs k v).length ≤ sizeLine := by have := length_putK kvs k v; omega
          exact (⟨v, _, d_write (t' := s.toks + 1) I (by rw [ea]; exact True.intro) hs (let ⟨q, _, _, hq, _⟩ := dd'; ⟨q, hq⟩) (dk_new hl2 hd (rel.put k rd) dd'), rd, w4⟩ : EP X pins σ Q _ _)
theorem sm_setd : SM K rSetdM setdD := by
  intro Φ H μ h x v xs vs d h' S r1 r2 e Q k
  unfold setdD at e
  split at e
  · split at e
    · rename_i kvs q
      split at e
      · rename_i kk q2
        obtain ⟨p, ep, rfl⟩ := rp_at' r1
        obtain ⟨v1, v2, rfl, a1, a2⟩ := rps2 r2
        obtain ⟨kw, b, c⟩ := S.dct q ep
        refine ⟨p, kw, kk, v2, rfl, by rw [key_of a1 q2], b, fun u hu => ?_, fun hn => ?_⟩
        · rcases c.val (k := kk) with ⟨z1, z2⟩ | ⟨d1, u1, z1, z2, z3⟩
          · rw [hu] at z2; cases z2
          · rw [z1] at e
            cases e
            rw [hu] at z2
            cases z2
            exact k _ H μ S Le.refl z3
        · rcases c.val (k := kk) with ⟨z1, z2⟩ | ⟨d1, u1, z1, z2, z3⟩
          · rw [z1] at e
            simp only at e
            split at e
            · rename_i hz
              cases e
              have l4 : Le K H μ (upd H p (.dK (putK kw kk v2))) μ := le_set S ep
              have c2 := c.put (k := kk) a2
              exact ⟨by rw [c.len]; exact ln_lt hz, k _ _ μ (S.set ep ⟨_, upd_same, c2.1, Rps.mono l4 _ _ c2.2⟩) l4 (Rp.mono l4 _ _ a2)⟩
            · cases e
          · rw [hn] at z2; cases z2
      · cases e
    · cases e
  · cases e
end
/-! ### pop(0) -/
def pop0D : GM := fun x xs h => match x, xs with
  | .at n, [.int 0] => match h[n]? with
    | some (.lst (y :: ys)) => some (y, h.set n (.lst ys))
    | _ => none
  | _, _ => none
def rPop0 : V → List V → Hp → VK → Prop := fun x vs H Q => ∃ (l : Addr) (y : V) (xs : List V), x = .ref l ∧ vs = [.int 0] ∧ H l = some (.lst (y :: xs)) ∧ Q y (upd H l (.lst xs))
section
variable {K : Kw} {X : Cx}
theorem mt_pop0 : MtR X "list.pop" rPop0 := by
  intro pins s σ H x vs v us Q I rx rv h
  obtain ⟨l, y, xs, rfl, rfl, hH, q⟩ := h
  cases rx
  obtain ⟨u, rfl, ru⟩ := rv.one
  obtain ⟨tk, rfl⟩ : ∃ tk, u = Value.int 0 tk := ru
  obtain ⟨z, its, n, r, hl, e⟩ := I.lstM hH
  cases r with
  | cons ry r =>
    rename_i w its'
    have hsz : (w :: its').toArray.size ≤ sizeLine := by
      rw [List.size_toArray]
      omega
    refine call_meets PySem.F.slot_list_pop ⟨_, e, rfl⟩ PySem.F.entry_list_pop (PySem.F.args_list_pop_2 _ _) (PySem.MeetsSeq.list_pop_at l _ n 0 tk 0 w (by decide +kernel) (by simp [seqIndex?]) (by simp) hsz) ⟨e, ?_⟩
    refine ⟨y, _, I.lset (its' := its') hH e ?_ r ?_, ry, q⟩
    · simp
    · simp at hl z ⊢
      omega
theorem sm_pop0 : SM K rPop0 pop0D := by
  intro Φ H μ h x v xs vs d h' S r1 r2 e Q k
  unfold pop0D at e
  split at e
  · split at e
    · rename_i y ys q
      cases e
      obtain ⟨p, ep, rfl⟩ := rp_at' r1
      obtain ⟨w, rfl, a⟩ := rps1 r2
      obtain ⟨ws, b, c⟩ := S.lst q ep
      obtain ⟨w1, ws1, rfl, c1, c2⟩ := c.cons'
      exact ⟨p, w1, ws1, rfl, by rw [rp_int' a], b, kn_set S ep c2 c1 k⟩
    · cases e
  · cases e
end
/-! ### x in a list of data -/
def inPD (neg : Bool) : G2 := fun x y h => match datD h x, datD h y with
  | some p, some (.list ps) => if p.canLay0 = true ∧ PyData.canLayAll0 ps = true ∧ p.depth ≤ 60 then some (.bl (neg ^^ ps.any fun z => PyData.eqv z p), h) else none
  | _, _ => none
def rInPD (K : Kw) (neg : Bool) : R2 := fun x y H Q => ∃ d ds, Dp K H x d ∧ Dp K H y (.list ds) ∧ d.canLay0 = true ∧ PyData.canLayAll0 ds = true ∧ d.depth ≤ 60 ∧ Q (.bl (neg ^^ ds.any fun z => PyData.eqv z d)) H
section
variable {K : Kw} {X : Cx}
theorem so_inP (neg : Bool) : SO K (rInPD K neg) (inPD neg) := by
  intro Φ H μ h x y v w d h' S r1 r2 e Q k
  unfold inPD at e
  split at e
  · rename_i p ps e1 e2
    split at e
    · rename_i hc
      cases e
      exact ⟨p, ps, dat_of S r1 e1, dat_of S r2 e2, hc.1, hc.2.1, hc.2.2, k _ H μ S Le.refl rp_bl⟩
    · cases e
  · cases e
theorem op_inP (hu : X.A.units + 64 < cLine) (hK : KOf X = K := by rfl) : OpR X (compareOp .In) (rInPD K false) := by
  subst hK
  intro pins s σ H x y v u Q I rx ry h
  obtain ⟨d, ds, hd, he, sd, se, hm, q⟩ := h
  obtain ⟨as, r1⟩ := Dp.reads I d x v hd rx
  obtain ⟨bs, r2⟩ := Dp.reads I (.list ds) y u he ry
  exact SeqAt.in_list_reads r2 r1 se sd (by omega) ⟨.bl _, H, I, rfl, by simpa using q⟩
theorem op_niP (hu : X.A.units + 64 < cLine) (hK : KOf X = K := by rfl) : OpR X (compareOp .NotIn) (rInPD K true) := by
  subst hK
  intro pins s σ H x y v u Q I rx ry h
  obtain ⟨d, ds, hd, he, sd, se, hm, q⟩ := h
  obtain ⟨as, r1⟩ := Dp.reads I d x v hd rx
  obtain ⟨bs, r2⟩ := Dp.reads I (.list ds) y u he ry
  exact SeqAt.notIn_list_reads r2 r1 se sd (by omega) ⟨.bl _, H, I, rfl, by simpa using q⟩
end
/-! ### told from the end -/
section
variable {h : Hd} {Q : D → Hd → Prop}
theorem lf_setdT {n : Nat} {kvs : List (Key × D)} {y z d : D} {k : Key} (e : h[n]? = some (.dct kvs)) (ek : keyD y = some k) (ev : valD kvs k = some d) (q : Q d h) : Ev (setdD (.at n) [y, z] h) Q := ⟨_, _, by simp only [setdD, e, ek, ev], q⟩
theorem lf_setdF {n : Nat} {kvs : List (Key × D)} {y z : D} {k : Key} (e : h[n]? = some (.dct kvs)) (ek : keyD y = some k) (ev : valD kvs k = none) (l : kvs.length < LN) (q : Q z (h.set n (.dct (putD kvs k z)))) : Ev (setdD (.at n) [y, z] h) Q := ⟨_, _, by simp only [setdD, e, ek, ev, if_pos l], q⟩
theorem lf_pop0 {n : Nat} {y : D} {ys : List D} (e : h[n]? = some (.lst (y :: ys))) (q : Q y (h.set n (.lst ys))) : Ev (pop0D (.at n) [.int 0] h) Q := ⟨_, _, by simp only [pop0D, e], q⟩
theorem lf_inP {neg : Bool} {x y : D} {p : PyData} {ps : List PyData} (e1 : datD h x = some p) (e2 : datD h y = some (.list ps)) (c : p.canLay0 = true ∧ PyData.canLayAll0 ps = true ∧ p.depth ≤ 60) (q : Q (.bl (neg ^^ ps.any fun z => PyData.eqv z p)) h) : Ev (inPD neg x y h) Q := ⟨_, _, by simp only [inPD, e1, e2, if_pos c], q⟩
end
end DL

/-! DM28: del xs[a:]. -/
namespace DL
open PySem L2 PySem.Spec PyProof.Rows
theorem drop_filter (p : Nat → Bool) (a : Nat) : ∀ (xs : List Value) (m : Nat), (∀ k, m ≤ k → k < m + xs.length → p k = decide (a ≤ k)) →
    ((xs.zipIdx m).filterMap fun (x, k) => if p k then none else some x) = xs.take (a - m)
  | [], m, h => by simp
  | x :: xs, m, h => by
    have ih := drop_filter p a xs (m + 1) (fun k h1 h2 => h k (by omega) (by simp; omega))
    have h0 := h m (Nat.le_refl _) (by simp)
    rw [List.zipIdx_cons, List.filterMap_cons]
    by_cases hm : a ≤ m
    · have e : p m = true := by rw [h0]; exact decide_eq_true hm
      simp only [e, if_true]
      rw [ih]
      have e1 : a - (m + 1) = 0 := by omega
      have e2 : a - m = 0 := by omega
      rw [e1, e2]
      simp
    · have e : p m = false := by rw [h0]; exact decide_eq_false hm
      simp only [e, Bool.false_eq_true, if_false]
      rw [ih]
      have e2 : a - m = (a - (m + 1)) + 1 := by omega
      rw [e2]
      simp
def keepF (a n : Nat) : Array Value → Array Value := fun xs : Array Value => ((xs.toList.zipIdx.filterMap fun (x, k) => if (if (1 : Int) > 0 then decide (((min a n : Nat) : Int) ≤ (k : Int)) && decide ((k : Int) < (n : Int)) && ((k : Int) - ((min a n : Nat) : Int)) % 1 == 0 else decide ((n : Int) < (k : Int)) && decide ((k : Int) ≤ ((min a n : Nat) : Int)) && ((((min a n : Nat) : Int) - (k : Int)) % (-1) == 0)) = true then none else some x).toArray)
section
variable {prog : Program} {w : World} {A : Around} {E : Value → Shared → Prop} {s : Shared}
theorem bounds_from {a n : Nat} : sliceBounds (some (a : Int)) none none n = (((min a n : Nat) : Int), (n : Int), 1) := by
  simp only [sliceBounds, Option.getD_none]
  have h1 : ¬ ((a : Int) < 0) := by omega
  simp only [h1, if_false, show (1 : Int) > 0 by decide, if_true]
  congr 1
  omega
theorem delItem_slice {l sl : Addr} {items : Array Value} {n : Nat} {vl : Value} {a : Nat} {Q : Unit → Shared → Prop}
    (e : s.heap.get? l = some { cls := .type "list", data := .seq items n })
    (hs : s.heap.IsSliceOf sl vl .none .none) (pl : IsPart vl (some (a : Int)))
    (hsz : items.size ≤ sizeLine) (h : ∀ f : Array Value → Array Value, f items = (items.toList.take a).toArray → Q () { s with heap := s.heap.update l (Obj.mapSeq f) }) :
    wpAny (model prog w) A (delItem (.ref l) (.ref sl)) Q E s := by
  have hl : s.heap.IsList l items := PySem.IsL.isList e
  obtain ⟨os, hos, hcs, hds⟩ := id hs
  have hTs : s.TypeIs (.ref sl) "slice" := ⟨os, hos, hcs⟩
  have hstep : ¬ ((rawPart none == rawInt 0) = true) := Bool.false_ne_true
  refine wpAny_delItem_slot hl.typeIs (by decide) PySem.F.slot_list_delitem ?_
  refine wpAny_call_entry PySem.F.slot_list_delitem hl.typeIs PySem.F.entry_list_delitem ?_ (PySem.F.args_list_delitem_2 _ _)
  show wpAny _ _ (Builtin.List.listSubscript? (.ref sl) >>= _) _ _ s
  refine wpAny_bind ?_
  unfold Builtin.List.listSubscript?
  refine wpAny_bind (wpAny_specialOf hTs slice_no_index ?_)
  simp only [Option.isNone_none, if_true]
  refine wpAny_pure ?_
  show wpAny _ _ (typeOf (.ref sl) >>= _) _ _ s
  refine wpAny_bind (wpAny_typeOf hTs ?_)
  first
    | rw [if_neg (by decide)]
    | refine PySem.W.KFB.if_not (by decide) ?_
  rw [listSliceParts_eq]
  refine wpAny_bind (wpAny_bind (wpAny_field hos hds (x := .none) rfl (wpAny_bind (wpAny_listPart .none ?_))))
  rw [if_neg hstep]
  refine wpAny_bind (wpAny_field hos hds (x := vl) rfl (wpAny_bind (wpAny_listPart pl ?_)))
  refine wpAny_bind (wpAny_field hos hds (x := .none) rfl (wpAny_bind (wpAny_listPart .none (wpAny_pure ?_))))
  unfold Builtin.List.listItems
  refine wpAny_bind (wpAny_bind (wpAny_seqItems e rfl (wpAny_pure ?_)))
  refine wpAny_bind (wpAny_of_eq ((sliceIndices_raw (some (a : Int)) none none items.size (by simp)).trans (congrArg (pure : Int × Int × Int → Sem (Int × Int × Int)) bounds_from)) ?_)
  refine wpAny_bind (wpAny_rule ?_)
  have key : ∀ f : Array Value → Array Value, f items = (items.toList.take a).toArray → (f items).size ≤ sizeLine + 1 := fun f hf => by
    rw [hf, List.size_toArray, List.length_take, Array.length_toList]; omega
  have hf : keepF a items.size items = (items.toList.take a).toArray := by
    show (List.filterMap _ _).toArray = _
    congr 1
    refine (drop_filter (fun k => if (1 : Int) > 0 then decide (((min a items.size : Nat) : Int) ≤ (k : Int)) && decide ((k : Int) < (items.size : Int)) && ((k : Int) - ((min a items.size : Nat) : Int)) % 1 == 0 else decide ((items.size : Int) < (k : Int)) && decide ((k : Int) ≤ ((min a items.size : Nat) : Int)) && ((((min a items.size : Nat) : Int) - (k : Int)) % (-1) == 0)) a items.toList 0 ?_)
    intro k _ hk
    rw [Nat.zero_add, Array.length_toList] at hk
    simp only [show (1 : Int) > 0 by decide, if_true, Int.emod_one, beq_self_eq_true, Bool.and_true]
    have h1 : decide ((k : Int) < (items.size : Int)) = true := decide_eq_true (by omega)
    rw [h1, Bool.and_true]
    apply decide_eq_decide.mpr
    omega
  show wpAny _ _ (updateSeq l (keepF a items.size) >>= _) _ _ s
  refine wpAny_bind (wpAny_updateSeq (hz := hsz) (_hz' := key _ hf) e rfl ?_)
  refine wpAny_bind (wpAny_letGo ?_)
  exact wpAny_pure ⟨.none, rfl, h _ hf⟩
end
/-- del o[lo:] -/
def tDelS (to : TE) (tl : TE) : TS := fun D σ H => to σ H fun x H1 => tl σ H1 fun y H2 => ∃ (l : Addr) (xs : List V) (i : Int), x = .ref l ∧ y = .int i ∧ H2 l = some (.lst xs) ∧ 0 ≤ i ∧ D.nx σ (upd H2 l (.lst (xs.take i.toNat)))
theorem ps_delS {X : Cx} {o i : Expr} {to ti : TE} {tpos p2 pos : Pos} (ho : PE X o to) (hi : PE X i ti) : PS X (.Delete [.Subscript o (.Slice (some i) none none p2) tpos] pos) (tDelS to ti) := by
  refine ⟨fun pins s σ H D I h => ?_⟩
  refine wpAny_Delete (wpAny_deleteEach_cons (wpAny_delete_Subscript (thn (ho.run pins s σ H _ I h) fun u s1 ⟨x, H1, I1, rx, q1⟩ => ?_)))
  refine wpAny_Slice ?_
  rw [evalPart_some]
  refine thn (hi.run pins s1 σ H1 _ I1 q1) fun iv s2 ⟨y, H2, I2, ry, q2⟩ => ?_
  rw [evalPart_none]
  refine wpAny_pure ?_
  refine wpAny_pure ?_
  obtain ⟨l, xs, j, ex, ey, hH, h0, q2⟩ := q2
  subst ex
  subst ey
  cases (show u = Value.ref l from rx)
  obtain ⟨t, rfl⟩ := (show ∃ t, iv = Value.int j t from ry)
  have I4 : Inv X pins σ H2 { s2 with heap := s2.heap.push { cls := .type "slice", data := .fields #[.int j t, .none, .none] } } := I2.kept (t' := s2.toks) fun b ob q => Heap.get?_push_of_some _ q
  obtain ⟨z, its, n, r, hl, e⟩ := I4.lstM hH
  obtain ⟨a, rfl⟩ := Int.eq_ofNat_of_zero_le h0
  simp only [Int.toNat_natCast] at q2
  refine delItem_slice (a := a) e (Heap.IsSliceOf.new ..) (.int _ _) (by rw [List.size_toArray]; omega) fun f hf => ?_
  refine wpAny_deleteEach_nil ⟨σ, _, I4.lset (its' := its.take a) hH e hf (r.take _) ?_, q2⟩
  rw [List.length_take]
  omega
def delSM (o i : ME) : MS := fun sg h => match o sg h with
  | some (.at n, h1) => match i sg h1 with
    | some (.int j, h2) => match h2[n]? with
      | some (.lst xs) => if 0 ≤ j then some (.nx sg, h2.set n (.lst (xs.take j.toNat))) else none
      | _ => none
    | _ => none
  | _ => none
theorem ds_delS {K : Kw} {X : Cx} {o i : Expr} {to ti : TE} {mo mi : ME} {tpos p2 pos : Pos} (ho : DE K X o to mo) (hi : DE K X i ti mi) : DS K X (.Delete [.Subscript o (.Slice (some i) none none p2) tpos] pos) (tDelS to ti) (delSM mo mi) := ⟨ho.k, ps_delS ho.p hi.p, by
  intro Φ σ H μ sg h f h' S rs e E k
  unfold delSM at e
  split at e
  · rename_i n h1 e1
    split at e
    · rename_i j h2 e2
      split at e
      · rename_i xs q
        split at e
        · rename_i hj
          cases e
          refine ho.s σ H μ sg h _ h1 S rs e1 _ fun v H1 μ1 S1 l1 r1 => ?_
          refine hi.s σ H1 μ1 sg h1 _ h2 S1 (rs.mono l1) e2 _ fun w H2 μ2 S2 l2 r2 => ?_
          obtain ⟨p, ep, rfl⟩ := rp_at' (Rp.mono l2 _ _ r1)
          obtain ⟨ws, b, c⟩ := S2.lst q ep
          refine ⟨p, ws, j, rfl, rp_int' r2, b, hj, ?_⟩
          have l4 : Le K H2 μ2 (upd H2 p (.lst (ws.take j.toNat))) μ2 := le_set S2 ep
          exact k σ _ μ2 (S2.set ep ⟨_, upd_same, Rps.mono l4 _ _ (c.take _)⟩) ((l1.trans l2).trans l4) (rs.mono ((l1.trans l2).trans l4))
        · cases e
      · cases e
    · cases e
  · cases e⟩
section
variable {h : Hd} {sg : Sg} {Q : Fl → Hd → Prop}
theorem ev_delS {o i : ME} {P : Fl → Hd → Prop} (hh : Ev (o sg h) fun x h1 => ∃ n, x = .at n ∧ Ev (i sg h1) fun y h2 => ∃ j xs, y = .int j ∧ h2[n]? = some (.lst xs) ∧ 0 ≤ j ∧ P (.nx sg) (h2.set n (.lst (xs.take j.toNat)))) : Ev (delSM o i sg h) P := by
  obtain ⟨x, h1, e1, n, rfl, y, h2, e2, j, xs, rfl, e3, h0, q⟩ := hh
  exact ⟨_, _, by simp only [delSM, e1, e2, e3, if_pos h0], q⟩
end
end DL

/-! DM29: methods, len and list of dicts with nested keys; sum. -/
namespace DL
open PySem L2 PySem.Spec PyProof.Rows
def isDcn (h : Hd) (x : D) : Bool := match x with
  | .at n => match h[n]? with
    | some (.dcn _) => true
    | _ => false
  | _ => false
def tBMN (K : Kw) (r : V → List V → Hp → VK → Prop) (to : TE) (t : TA) : TE := fun σ H Q => to σ H fun x H1 => (∃ a xs, x = .ref a ∧ NAt K H1 a xs) ∧ t σ H1 fun vs H2 => r x vs H2 Q
section
variable {K : Kw} {X : Cx} {o e : Expr} {es : List Expr} {to : TE} {t ta : TA} {mo : ME} {ma : MA} {apos cpos : Pos} {name : Str} {id : String} {r : V → List V → Hp → VK → Prop} {g : GM}
theorem pe_bmN (pa : PlainAttrs "dict") (slot : Slot "dict" name id) (hty : typeOf (.builtin id) = pure (.type "method_descriptor")) (hm : MtR X id r) (ho : PE X o to) (ha : PA X (e :: es) t)
    (hbase : attributeBase o name X.env (eval o X.env) = eval o X.env := by rfl)
    (hfew : ((backTo cpos (starEach (e :: es) X.env)).all (fun x => !x.1) && (backToKw cpos (keywordEach [] X.env)).all (fun x => x.1.isSome)
      && decide ((e :: es).length + ([] : List Keyword).length + (if ([] : List Keyword).isEmpty then 0 else 1) < 30)) = true := by rfl)
    (hline : (apos.endLine == cpos.line) = true := by rfl) (hs : starEach (e :: es) X.env = (false, eval e X.env) :: starEach es X.env := by rfl) (hplain : (backTo cpos (starEach es X.env)).any (·.1) = false := by rfl) :
    PE X (.Call (.Attribute o name apos) (e :: es) [] cpos) (tBMN (KOf X) r to t) := by
  refine ⟨fun pins s σ H Q I h => ?_⟩
  refine wpAny_Call_method_late hbase hfew hline rfl (thn (ho.run pins s σ H _ I h) fun v s1 ⟨x, H1, I1, r1, ty, q1⟩ => ?_)
  obtain ⟨a, xs, rfl, n⟩ := ty
  obtain rfl : v = Value.ref a := r1
  refine ⟨"dict", id, pa, slot, hty, n.typeIs I1, n.noDict I1, ?_⟩
  have hA := ha.run cpos pins s1 σ H1 _ I1 q1
  rw [hs] at hA ⊢
  refine Calls.callWith_builtin (by show (false || (backTo cpos (starEach es X.env)).any (·.1)) = false; rw [hplain] <;> rfl) (Calls.evalArgs_plain ?_)
  exact thn hA fun us s2 ⟨vs, H2, I2, r2, q2⟩ => hm pins s2 σ H2 (.ref a) vs (.ref a) us Q I2 rfl r2 q2
def bmN (g : GM) (o : ME) (a : MA) : ME := fun sg h => match o sg h with
  | some (x, h1) => if isDcn h1 x = true then match a sg h1 with
    | some (xs, h2) => g x xs h2
    | none => none else none
  | none => none
theorem dcn_of {Φ : Hp} {H : Hp} {μ : List Addr} {h : Hd} {x : D} {v : V} (S : Sm Φ K H μ h) (rx : Rp K H μ x v) (e : isDcn h x = true) : ∃ a xs, v = .ref a ∧ NAt K H a xs := by
  unfold isDcn at e
  split at e
  · obtain ⟨p, ep, rfl⟩ := rp_at' rx
    split at e
    · rename_i kvs q
      obtain ⟨xs, n1, n2⟩ := S.dcn q ep
      exact ⟨p, xs, rfl, n1⟩
    · cases e
  · cases e
theorem de_bmN (hs : SM K r g) (pa : PlainAttrs "dict") (slot : Slot "dict" name id) (hty : typeOf (.builtin id) = pure (.type "method_descriptor")) (hm : MtR X id r) (ho : DE K X o to mo) (ha : DA K X (e :: es) ta ma)
    (hbase : attributeBase o name X.env (eval o X.env) = eval o X.env := by rfl)
    (hfew : ((backTo cpos (starEach (e :: es) X.env)).all (fun x => !x.1) && (backToKw cpos (keywordEach [] X.env)).all (fun x => x.1.isSome)
      && decide ((e :: es).length + ([] : List Keyword).length + (if ([] : List Keyword).isEmpty then 0 else 1) < 30)) = true := by rfl)
    (hline : (apos.endLine == cpos.line) = true := by rfl) (hs1 : starEach (e :: es) X.env = (false, eval e X.env) :: starEach es X.env := by rfl) (hplain : (backTo cpos (starEach es X.env)).any (·.1) = false := by rfl) :
    DE K X (.Call (.Attribute o name apos) (e :: es) [] cpos) (tBMN K r to ta) (bmN g mo ma) := ⟨ho.k, by
  have hk := ho.k
  subst hk
  exact pe_bmN pa slot hty hm ho.p ha.p hbase hfew hline hs1 hplain, by
  intro Φ σ H μ sg h d h' S rs e Q k
  unfold bmN at e
  split at e
  · rename_i x h1 e1
    split at e
    · rename_i hk
      split at e
      · rename_i xs h2 e2
        refine ho.s σ H μ sg h x h1 S rs e1 _ fun v H1 μ1 S1 l1 r1 => ⟨dcn_of S1 r1 hk, ?_⟩
        refine ha.s σ H1 μ1 sg h1 xs h2 S1 (rs.mono l1) e2 _ fun vs H2 μ2 S2 l2 r2 => ?_
        exact hs H2 μ2 h2 x v xs vs d h' S2 (Rp.mono l2 _ _ r1) r2 e Q fun v H3 μ3 S3 l3 r3 => k v H3 μ3 S3 ((l1.trans l2).trans l3) r3
      · cases e
    · cases e
  · cases e⟩
end
/-! ### setdefault -/
def setdND : GM := fun x xs h => match x, xs with
  | .at n, [y, z] => match h[n]? with
    | some (.dcn kvs) => if depN y = true then match valN kvs y with
      | some d => some (d, h)
      | none => if kvs.length < LN then some (z, h.set n (.dcn (putN kvs y z))) else none else none
    | _ => none
  | _, _ => none
def rSetdN (K : Kw) : V → List V → Hp → VK → Prop := fun x vs H Q => ∃ a b xs nk v, x = .ref a ∧ vs = [.ref b, v] ∧ NAt K H a xs ∧ KeyV K.f H nk (.ref b) ∧ nk.depth ≤ 8 ∧
  (∀ c u, atKey xs nk = some (c, u) → ∃ z, RelV z u ∧ Q z H) ∧ (atKey xs nk = none → xs.length < sizeLine ∧ ∀ u, RelV v u → Q v (upd H a (.ext (NPhi K.w a (storedH xs nk b u)))))
section
variable {K : Kw} {X : Cx}
theorem mt_setdN (hu : X.A.units + 64 < cLine) (hK : KOf X = K := by rfl) : MtR X "dict.setdefault" (rSetdN K) := by
  subst hK
  intro pins s σ H x vs v us Q I rx rv h
  obtain ⟨a, b, xs, nk, w, rfl, rfl, n, kv, dp, w1, w2⟩ := h
  cases (show v = Value.ref a from rx)
  cases rv with
  | cons ry rv =>
    cases rv with
    | cons rd rv =>
      rename_i ub uw _
      cases rv
      cases (show ub = Value.ref b from ry)
      refine call_setdefault_heap (nroom hu) ⟨key_is I _ _ _ kv rfl, dp⟩ n.sy (n.dict I) (fun p hp => ?_) (fun hn h' dd' hs' => ?_) n.ln
      · obtain ⟨z, rz, q⟩ := w1 p.1 p.2 hp
        exact ⟨z, H, I.tok _, rz, q⟩
      · obtain ⟨w3, w4⟩ := w2 hn
        obtain ⟨q, es, ep, hq, h2, h3, h4, _, h5⟩ := dd'
        refine ⟨w, _, d_write (t' := s.toks + (nestedKind X.prog X.w).draws nk) I (by rw [n.at_]; exact True.intro) hs' ⟨q, hq⟩ ?_, rd, w4 uw rd⟩
        exact ⟨⟨q, es, ep, hq, h2, h3, h4⟩, ⟨q, hq⟩, fun g1 g2 ⟨o1, es1, ep1, z1, z2, z3, z4⟩ kp => ⟨o1, es1, ep1, kp _ z1, z2, z3, z4⟩⟩
theorem sm_setdN : SM K (rSetdN K) setdND := by
  intro Φ H μ h x v xs vs d h' S r1 r2 e Q k
  unfold setdND at e
  split at e
  · split at e
    · rename_i kvs q
      split at e
      · rename_i hc
        obtain ⟨p, ep, rfl⟩ := rp_at' r1
        obtain ⟨v1, v2, rfl, a1, a2⟩ := rps2 r2
        obtain ⟨ys, nk, rfl, e4, e5⟩ := depN_of hc
        obtain ⟨zs, n1, n2⟩ := S.dcn q ep
        obtain ⟨c, ws, rfl, _⟩ := rp_tup' a1
        have hl := n2.len
        refine ⟨p, c, zs, nk, v2, rfl, rfl, n1, key_rp _ _ _ a1 e4, e5, fun c' u hu => ?_, fun hn => ?_⟩
        · rcases n2.val e4 with ⟨z1, z2⟩ | ⟨d2, b', u', v', z1, z2, z3, z4⟩
          · rw [hu] at z2; cases z2
          · rw [hu] at z2
            cases z2
            rw [z1] at e
            cases e
            exact ⟨v', z3, k _ H μ S Le.refl z4⟩
        · rcases n2.val e4 with ⟨z1, z2⟩ | ⟨d2, b', u', v', z1, z2, z3, z4⟩
          · rw [z1] at e
            simp only at e
            split at e
            · rename_i hz
              cases e
              refine ⟨by rw [hl]; exact ln_lt hz, fun u ru => ?_⟩
              have lset : Le K H μ (upd H p (.ext (NPhi K.w p (storedH zs nk c u)))) μ := le_set S ep
              have hnd : ((storedH zs nk c u).map (·.1)).Nodup := storedH_nodup n1.nd
              have hlen : (storedH zs nk c u).length ≤ sizeLine := by
                have h1 : (storedH zs nk c u).length ≤ zs.length + 1 := by
                  unfold storedH
                  split <;> simp
                have h2 := ln_lt hz
                omega
              have hdk : DKs K H μ (putN kvs (.tup ys) d) (storedH zs nk c u) := by
                unfold putN storedH
                rw [n2.any e4]
                split
                · exact n2.map e4 ru a2
                · exact n2.snoc e4 e5 a1 ru a2
              exact k _ _ μ (S.set ep ⟨storedH zs nk c u, upd_same, hlen, n1.sy, hnd, hdk.mono lset⟩) lset (Rp.mono lset _ _ a2)
            · cases e
          · rw [hn] at z2; cases z2
      · cases e
    · cases e
  · cases e
end
/-! ### len(d), list(d) -/
def lenND : GC := fun xs h => match xs with
  | [.at n] => match h[n]? with
    | some (.dcn kvs) => some (.int kvs.length, h)
    | _ => none
  | _ => none
def rLenN (K : Kw) : List V → Hp → VK → Prop := fun vs H Q => ∃ a xs, vs = [V.ref a] ∧ NAt K H a xs ∧ Q (.int xs.length) H
def listND : GC := fun xs h => match xs with
  | [.at n] => match h[n]? with
    | some (.dcn kvs) => some (.at h.length, h ++ [.lst (kvs.map (·.1))])
    | _ => none
  | _ => none
def rListN (K : Kw) : List V → Hp → VK → Prop := fun vs H Q => ∃ a xs, vs = [V.ref a] ∧ NAt K H a xs ∧ ∀ q, H q = none → Q (.ref q) (upd H q (.lst (xs.map fun x => V.ref x.2.1)))
theorem dks_keys {K : Kw} {H : Hp} {μ : List Addr} : ∀ {kvs : List (D × D)} {xs : List (NestedKey × Addr × Value)}, DKs K H μ kvs xs → Rps K H μ (kvs.map (·.1)) (xs.map fun x => V.ref x.2.1)
  | [], xs, h => by
    cases (show xs = [] from h)
    exact Rps.nil
  | (k', d') :: r, xs, h => by
    obtain ⟨nk', b, u, v, ys, rfl, h1, h2, h3, h4, h5, h6⟩ := h
    exact Rps.cons h3 (dks_keys h6)
section
variable {K : Kw} {X : Cx}
theorem call_lenN (hK : KOf X = K := by rfl) : CallR X (.builtin "len") (rLenN K) := by
  subst hK
  intro pins s σ H vs us Q I r h
  obtain ⟨a, xs, rfl, n, q⟩ := h
  obtain ⟨u, rfl, rx⟩ := r.one
  cases (show u = Value.ref a from rx)
  have hz := n.ln
  rw [sizeLine_eq] at hz
  exact call_len_dictH n.sy (n.dict I) (by omega) ⟨.int _, H, I.tok _, ⟨_, rfl⟩, q⟩
theorem sc_lenN : SC K (rLenN K) lenND := by
  intro Φ H μ h xs vs d h' S r e Q k
  unfold lenND at e
  split at e
  · split at e
    · rename_i kvs q
      cases e
      obtain ⟨v, rfl, a⟩ := rps1 r
      obtain ⟨p, ep, rfl⟩ := rp_at' a
      obtain ⟨zs, n1, n2⟩ := S.dcn q ep
      exact ⟨p, zs, rfl, n1, by rw [n2.len]; exact k _ H μ S Le.refl rp_int⟩
    · cases e
  · cases e
theorem call_listN (hK : KOf X = K := by rfl) (hc : X.calm = true := by rfl) : CallR X (.type "list") (rListN K) := by
  subst hK
  intro pins s σ H vs us Q I r h
  obtain ⟨d, ks, rfl, nd, q⟩ := h
  obtain ⟨u, rfl, rx⟩ := r.one
  cases (show u = Value.ref d from rx)
  obtain ⟨⟨o, es, ep, ho, hx, hdt, he⟩, _⟩ := (show ObjOk X.prog X.w H s.heap d (.ext (NPhi X.w d ks)) from I.hok d _ nd.at_)
  have l1 : es.size = ks.length := by
    have := congrArg List.length he
    simpa using this
  have hz := nd.ln
  refine PySem.W.kdl_call (kdl_raw nd.sy hx hdt) (I.ok.hd hc) ho (by omega) fun h' tk acc' c' kp e it => ?_
  have ea : acc'.toList = (ks.map fun x => x.2.1).map Value.ref := by
    have hl : acc'.toList.length = ks.length := by rw [Array.length_toList, it.1]; exact l1
    apply List.ext_getElem?
    intro j
    rw [List.map_map, List.getElem?_map]
    cases hj : acc'.toList[j]? with
    | none =>
      have h1 := List.getElem?_eq_none_iff.mp hj
      rw [List.getElem?_eq_none (by omega)]
      rfl
    | some v =>
      obtain ⟨en, hen, hv⟩ := it.2 j v (by rw [← Array.getElem?_toList]; exact hj)
      have qe : es.toList[j]? = (ks.map (enN X.w))[j]? := by rw [he]
      rw [Array.getElem?_toList, hen, List.getElem?_map] at qe
      cases hb : ks[j]? with
      | none => rw [hb] at qe; cases qe
      | some b =>
        rw [hb] at qe
        have e2 : en = enN X.w b := Option.some.inj qe
        rw [hv, e2]
        rfl
  have rv : Vals ((ks.map fun x => x.2.1).map V.ref) acc'.toList := by rw [ea]; exact vals_refs _
  have e3 : (ks.map fun x => V.ref x.2.1) = (ks.map fun x => x.2.1).map V.ref := by rw [List.map_map]; rfl
  have hz : ((ks.map fun x => x.2.1).map V.ref).length ≤ sizeLine := by rw [List.length_map, List.length_map]; exact nd.ln
  refine ⟨.ref s.heap.objs.size, _, I.laid (t' := tk) (o := .lst ((ks.map fun x => x.2.1).map V.ref)) kp (Nat.le_refl _) ?_, rfl, by rw [← e3]; exact q _ (I.hok.fresh (Nat.le_refl _))⟩
  exact ⟨hz, acc'.toList, c', rv, by rw [Array.toArray_toList]; exact e⟩
theorem sc_listN : SC K (rListN K) listND := by
  intro Φ H μ h xs vs d h' S r e Q k
  unfold listND at e
  split at e
  · split at e
    · rename_i kvs q
      cases e
      obtain ⟨v, rfl, a⟩ := rps1 r
      obtain ⟨p, ep, rfl⟩ := rp_at' a
      obtain ⟨zs, n1, n2⟩ := S.dcn q ep
      exact ⟨p, zs, rfl, n1, fun b hb => kn_lst S (dks_keys n2) k b hb⟩
    · cases e
  · cases e
/-! ### sum(xs) -/
def sumD : GC := fun xs h => match xs with
  | [.at n] => match h[n]? with
    | some (.lst ys) => match intsD ys with
      | some ns => some (.int ns.sum, h)
      | none => none
    | _ => none
  | _ => none
theorem call_sumU (hK : KOf X = K := by rfl) (hc : X.calm = true := by rfl) : CallR X (.builtin "sum") (rSum K) := by
  subst hK
  exact cr_sum hc
theorem sc_sum : SC K (rSum K) sumD := by
  intro Φ H μ h xs vs d h' S r e Q k
  unfold sumD at e
  split at e
  · split at e
    · rename_i ys q
      split at e
      · rename_i ns q2
        cases e
        obtain ⟨v, rfl, a⟩ := rps1 r
        obtain ⟨p, ep, rfl⟩ := rp_at' a
        obtain ⟨ws, b, c⟩ := S.lst q ep
        obtain rfl := ints_of c q2
        exact ⟨p, ns, rfl, .of b, k _ H μ S Le.refl rp_int⟩
      · cases e
    · cases e
  · cases e
end
/-! ### told from the end -/
section
variable {h : Hd} {Q : D → Hd → Prop}
theorem lf_setdNT {n : Nat} {kvs : List (D × D)} {y z d : D} (e : h[n]? = some (.dcn kvs)) (hd : depN y = true) (ev : valN kvs y = some d) (q : Q d h) : Ev (setdND (.at n) [y, z] h) Q := ⟨_, _, by simp only [setdND, e, if_pos hd, ev], q⟩
theorem lf_setdNF {n : Nat} {kvs : List (D × D)} {y z : D} (e : h[n]? = some (.dcn kvs)) (hd : depN y = true) (ev : valN kvs y = none) (l : kvs.length < LN) (q : Q z (h.set n (.dcn (putN kvs y z)))) : Ev (setdND (.at n) [y, z] h) Q := ⟨_, _, by simp only [setdND, e, if_pos hd, ev, if_pos l], q⟩
theorem lf_lenN {n : Nat} {kvs : List (D × D)} (e : h[n]? = some (.dcn kvs)) (q : Q (.int kvs.length) h) : Ev (lenND [.at n] h) Q := ⟨_, _, by simp only [lenND, e], q⟩
theorem lf_listN {n : Nat} {kvs : List (D × D)} (e : h[n]? = some (.dcn kvs)) (q : Q (.at h.length) (h ++ [.lst (kvs.map (·.1))])) : Ev (listND [.at n] h) Q := ⟨_, _, by simp only [listND, e], q⟩
theorem lf_sum {n : Nat} {ys : List D} {ns : List Int} (e : h[n]? = some (.lst ys)) (e2 : intsD ys = some ns) (q : Q (.int ns.sum) h) : Ev (sumD [.at n] h) Q := ⟨_, _, by simp only [sumD, e, e2], q⟩
theorem ev_bmN {g : GM} {o : ME} {a : MA} {sg : Sg} (q : Ev (o sg h) fun x h1 => ∃ n kvs, x = .at n ∧ h1[n]? = some (.dcn kvs) ∧ Ev (a sg h1) fun xs h2 => Ev (g x xs h2) Q) : Ev (bmN g o a sg h) Q := by
  obtain ⟨x, h1, e1, n, kvs, rfl, e2, xs, h2, e3, q⟩ := q
  obtain ⟨d, h', e4, q⟩ := q
  exact ⟨d, h', by simp only [bmN, e1, isDcn, e2, if_pos, e3, e4], q⟩
end
end DL

/-! DM30: isinstance(x, (A, B)) for two built-in types. -/
namespace DL
open PySem L2 PySem.Spec PyProof.Rows
def isi2D : GC := fun xs h => match xs with
  | [x, .tup [.ty A, .ty B]] => match kdD h x with
    | some k => match kitB k A, kitB k B with
      | some a, some b => some (.bl (a || b), h)
      | _, _ => none
    | none => none
  | _ => none
def rIsi2 (K : Kw) : List V → Hp → VK → Prop := fun xs H Q => ∃ (x : V) (tp : Addr) (cs : List V) (t : Value) (us : List Value) (b : Bool), xs = [x, .ref tp] ∧ SqT K H tp cs ∧ Paired ClsV cs us ∧ TyX K H x t ∧ PySem.W.kitAny K t us = some b ∧ Q (.bl b) H
section
variable {K : Kw} {X : Cx}
theorem call_isi2 (hK : KOf X = K := by rfl) : CallR X (.builtin "isinstance") (rIsi2 K) := by
  subst hK
  intro pins s σ H xs us Q I r h
  obtain ⟨x, tp, cs, t, ws, b, rfl, hT, k, ty, e, q⟩ := h
  obtain ⟨u1, u2, rfl, r1, r2⟩ := vals2 r
  cases (show u2 = Value.ref tp from r2)
  obtain ⟨P, Z, p, hx⟩ := kit_of I r1 ty
  obtain ⟨its, rv, ⟨o, h1, h2, n, h3⟩, _⟩ := I.tuple hT
  have e3 := ClsV.all k rv
  subst e3
  obtain ⟨oc, od, dt, sl⟩ := o
  simp only at h2 h3
  subst h2 h3
  exact PySem.W.kia_tup Z I.kIn p h1 (by simpa using e) hx fun tk => ⟨.bl b, H, I.tok tk, rfl, q⟩
theorem sc_isi2 : SC K (rIsi2 K) isi2D := by
  intro Φ H μ h xs vs d h' S r e Q k
  unfold isi2D at e
  split at e
  · split at e
    · rename_i kk q
      split at e
      · rename_i a b q2 q3
        cases e
        obtain ⟨v, w, rfl, ra, rc⟩ := rps2 r
        obtain ⟨p, ws, rfl, c1, c2⟩ := rp_tup' rc
        obtain ⟨w1, w2, rfl, t1, t2⟩ := rps2 c2
        rw [rp_ty' t1, rp_ty' t2] at c1
        refine ⟨v, p, _, _, _, a || b, rfl, c1, .cons (.ty _) (.cons (.ty _) .nil), kd_of S ra q, ?_, k _ H μ S Le.refl rp_bl⟩
        exact kitAny_cons (kit_ty q2) (fun ha => kitAny_cons (kit_ty q3) (fun hb => by rw [ha, hb]; rfl) fun hb => by rw [ha, hb]; rfl) fun ha => by rw [ha]; rfl
      · cases e
    · cases e
  · cases e
end
theorem lf_isi2 {h : Hd} {Q : D → Hd → Prop} {x : D} {k A B : String} {a b : Bool} (e1 : kdD h x = some k) (e2 : kitB k A = some a) (e3 : kitB k B = some b) (q : Q (.bl (a || b)) h) : Ev (isi2D [x, .tup [.ty A, .ty B]] h) Q := ⟨_, _, by simp only [isi2D, e1, e2, e3], q⟩
end DL

/-! DM31: two dicts that are equal compared by !=; the first place of an int in a list of ints. -/
namespace DL
open PySem L2 PySem.Spec PyProof.Rows
def eqKV (h : Hd) (ls : List (Key × D)) (p : Key × D) : Bool := match valD ls p.1 with
  | some y => match datD h p.2, datD h y with
    | some d, some e => d.canLay0 && e.canLay0 && decide (min d.depth e.depth ≤ 60) && PyData.eqv d e
    | _, _ => false
  | none => false
def neDD : G2 := fun x y h => match x, y with
  | .at n, .at m => match h[n]?, h[m]? with
    | some (.dct ks), some (.dct ls) => if ks.length = ls.length ∧ ks.all (eqKV h ls) = true then some (.bl false, h) else none
    | _, _ => none
  | _, _ => none
def rNeDD (K : Kw) : R2 := fun x y H Q => ∃ a b ks ls, x = .ref a ∧ y = .ref b ∧ H a = some (.dK ks) ∧ H b = some (.dK ls) ∧ ks.length = ls.length ∧
  (∀ p ∈ ks, ∃ u d e, valV ls p.1 = some u ∧ Dp K H p.2 d ∧ Dp K H u e ∧ d.canLay0 = true ∧ e.canLay0 = true ∧ min d.depth e.depth ≤ 60 ∧ PyData.eqv d e = true) ∧ Q (.bl false) H
section
variable {K : Kw} {X : Cx} {pins : List (Addr × Obj)} {σ : L2.St} {H : Hp} {s : Shared}
theorem hitsD (I : Inv X pins σ H s) {A : Around} (hu : A.units + 60 < cLine) {kvs : List (Key × V)} {vb : List (Key × Value)} (rb : KV kvs vb) {ks : List (Key × V)} {va : List (Key × Value)} (ra : KV ks va) :
    (∀ p ∈ ks, ∃ u d e, valV kvs p.1 = some u ∧ Dp X.K H p.2 d ∧ Dp X.K H u e ∧ d.canLay0 = true ∧ e.canLay0 = true ∧ min d.depth e.depth ≤ 60 ∧ PyData.eqv d e = true) → PySem.W.KeqHits A s vb va true := by
  unfold KV at ra
  induction ra with
  | nil => intro _; exact .nil
  | @cons p q ps qs h t ih =>
    intro hp
    obtain ⟨h1, h2⟩ := h
    obtain ⟨u, d, e, e1, e2, e3, c1, c2, c3, c4⟩ := hp p List.mem_cons_self
    have rr : RelO (some u) (valueAt vb p.1) := by rw [← e1]; exact rb.val p.1
    obtain ⟨y, hy, ry⟩ := rr.some_of
    obtain ⟨k, v⟩ := q
    have h1' : p.1 = k := h1
    rw [h1'] at hy
    obtain ⟨as, r1⟩ := Dp.reads I d p.2 v e2 h2
    obtain ⟨bs, r2⟩ := Dp.reads I e u y e3 ry
    have z := SeqAt.eqAt_reads d e A s v y as bs r1 r2 c1 c2 (by omega)
    rw [c4] at z
    show PySem.W.KeqHits A s vb ((k, v) :: qs) (true && true)
    exact .hit hy z (ih fun p' hm => hp p' (List.mem_cons_of_mem _ hm))
theorem op_neDD (hu : X.A.units + 64 < cLine) (hK : KOf X = K := by rfl) : OpR X (compareOp .NotEq) (rNeDD K) := by
  subst hK
  intro pins s σ H x y v u Q I rx ry h
  obtain ⟨a, b, ks, ls, rfl, rfl, ea, eb, hlen, hp, q⟩ := h
  obtain rfl : v = Value.ref a := rx
  obtain rfl : u = Value.ref b := ry
  obtain ⟨_, ya, va, ra, da⟩ := (show ObjOk X.prog X.w H s.heap a (.dK ks) from I.hok a _ ea)
  obtain ⟨_, yb, vb, rb, db⟩ := (show ObjOk X.prog X.w H s.heap b (.dK ls) from I.hok b _ eb)
  have hl : va.length = vb.length := by rw [← ra.length, ← rb.length]; exact hlen
  exact PySem.W.keq_ne (knd := mixKind X.prog X.w) (r := true) ya yb da db (by omega) (fun _ => hitsD I (by show X.A.units + 1 + 60 < cLine; omega) rb ra hp) ⟨.bl false, H, I, by simp [hl]; rfl, q⟩
theorem Rkv.mem {μ : List Addr} : ∀ {kvs : List (Key × D)} {kw : List (Key × V)}, Rkv K H μ kvs kw → ∀ p ∈ kw, ∃ d, (p.1, d) ∈ kvs ∧ Rp K H μ d p.2
  | [], kw, r, p, hp => by rw [r.nil'] at hp; cases hp
  | (k, d) :: kvs, kw, r, p, hp => by
    obtain ⟨v, kw', rfl, a, b⟩ := r.cons'
    rcases List.mem_cons.mp hp with rfl | hp
    · exact ⟨d, by simp, a⟩
    · obtain ⟨d', h1, h2⟩ := Rkv.mem b p hp
      exact ⟨d', by simp [h1], h2⟩
theorem so_neDD : SO K (rNeDD K) neDD := by
  intro Φ H μ h x y v w d h' S r1 r2 e Q k
  unfold neDD at e
  split at e
  · split at e
    · rename_i ks ls q1 q2
      split at e
      · rename_i c
        cases e
        obtain ⟨a, ea, rfl⟩ := rp_at' r1
        obtain ⟨b, eb, rfl⟩ := rp_at' r2
        obtain ⟨kw, b1, b2⟩ := S.dct q1 ea
        obtain ⟨lw, c1, c2⟩ := S.dct q2 eb
        refine ⟨a, b, kw, lw, rfl, rfl, b1, c1, by have := Rkv.len b2; have := Rkv.len c2; have := c.1; omega, fun p hp => ?_, k _ H μ S Le.refl rp_bl⟩
        obtain ⟨d, hd, rd⟩ := Rkv.mem b2 p hp
        have hall := List.all_eq_true.mp c.2 _ hd
        unfold eqKV at hall
        split at hall
        · rename_i y hy
          rcases c2.val (k := p.1) with ⟨z1, _⟩ | ⟨y', u, z1, z2, z3⟩
          · rw [z1] at hy; cases hy
          · rw [z1] at hy
            cases hy
            split at hall
            · rename_i d1 d2 w1 w2
              simp only [Bool.and_eq_true, decide_eq_true_eq] at hall
              exact ⟨u, d1, d2, z2, dat_of S rd w1, dat_of S z3 w2, hall.1.1.1, hall.1.1.2, hall.1.2, hall.2⟩
            · cases hall
        · cases hall
      · cases e
    · cases e
  · cases e
end
/-! ### list.index -/
def indexD : GM := fun x xs h => match x, xs with
  | .at n, [.int i] => match h[n]? with
    | some (.lst ys) => match intsD ys with
      | some ns => if i ∈ ns then some (.int (ns.idxOf i : Nat), h) else none
      | none => none
    | _ => none
  | _, _ => none
section
variable {K : Kw} {X : Cx}
theorem sm_index : SM K (rIndex K) indexD := by
  intro Φ H μ h x v xs vs d h' S r1 r2 e Q k
  unfold indexD at e
  split at e
  · rename_i n i
    split at e
    · rename_i ys q
      split at e
      · rename_i ns q2
        split at e
        · rename_i c
          cases e
          obtain ⟨p, ep, rfl⟩ := rp_at' r1
          obtain ⟨w, rfl, a⟩ := rps1 r2
          obtain rfl := rp_int' a
          obtain ⟨ws, b, b2⟩ := S.lst q ep
          obtain rfl := ints_of b2 q2
          have hlt : ns.idxOf i < ns.length := List.idxOf_lt_length_iff.mpr c
          refine ⟨p, _, _, ns.idxOf i, .int i, rfl, rfl, .of b, rfl, by simp [flatV], ?_, by simp [eqV], fun m z' hm hz => ?_, k _ H μ S Le.refl rp_int⟩
          · rw [List.getElem?_map, List.getElem?_eq_getElem hlt]
            simp
          · rw [List.getElem?_map] at hz
            obtain ⟨j, hj, rfl⟩ := Option.map_eq_some_iff.mp hz
            obtain ⟨hm2, hj2⟩ := List.getElem?_eq_some_iff.mp hj
            have := List.not_of_lt_findIdx (p := (· == i)) (xs := ns) (i := m) (by simpa [List.idxOf] using hm)
            simp only [eqV]
            rw [← hj2]
            simpa using this
        · cases e
      · cases e
    · cases e
  · cases e
end
section
variable {h : Hd} {Q : D → Hd → Prop}
theorem lf_neDD {n m : Nat} {ks ls : List (Key × D)} (e1 : h[n]? = some (.dct ks)) (e2 : h[m]? = some (.dct ls)) (c1 : ks.length = ls.length) (c2 : ks.all (eqKV h ls) = true) (q : Q (.bl false) h) : Ev (neDD (.at n) (.at m) h) Q := ⟨_, _, by simp only [neDD, e1, e2, if_pos (And.intro c1 c2)], q⟩
theorem lf_index {n : Nat} {ys : List D} {ns : List Int} {i : Int} (e : h[n]? = some (.lst ys)) (e2 : intsD ys = some ns) (c : i ∈ ns) (q : Q (.int (ns.idxOf i : Nat)) h) : Ev (indexD (.at n) [.int i] h) Q := ⟨_, _, by simp only [indexD, e, e2, if_pos c], q⟩
end
end DL

set_option autoImplicit false
/-! DM32: sorted(xs, key=f), f a def: its calls go on from state to state. -/
namespace DL
open PySem PySem.W PySem.Calls PyProof.Rows

/-! ### over the heap alone -/
section
variable {prog : Program} {w : World} {A : Around} {E : Value → Shared → Prop} {s : Shared} {a kS : Addr} {b : Bool} {vs : List Value} {e1 : Nat} {P : PySem.Fin → Shared → Prop} {J : List Value → Shared → Prop}
/-- what a state becomes when a and kS alone are changed -/
def But2 (a kS : Addr) (h h' : Heap) : Prop := ∀ b o, b ≠ a → b ≠ kS → h.get? b = some o → h'.get? b = some o
theorem keyJ_rest {f : Value} (nk : s.heap.get? kS = some (seqObj "list" #[] 0)) (na : s.heap.get? a = some (seqObj "list" #[] e1)) (hka : kS ≠ a) (hZ : vs.length ≤ sizeLine)
    (j0 : J [] s) (stay : ∀ us s' h' tk, J us s' → But2 a kS s'.heap h' → J us { s' with heap := h', toks := tk })
    (turn : ∀ (i : Nat) (v : Value) (us : List Value) (s' : Shared), vs[i]? = some v → us.length = i → J us s' → (∃ o, s'.heap.get? a = some o ∧ ∀ v, o.data ≠ .cell v) → (∃ o, s'.heap.get? kS = some o ∧ ∀ v, o.data ≠ .cell v) →
      wpAny (model prog w) A (call f [v]) (fun u s2 => J (us ++ [u]) s2 ∧ s2.heap.get? kS = s'.heap.get? kS ∧ s2.heap.get? a = s'.heap.get? a) (fun _ _ => False) s')
    (fin : ∀ us s', J us s' → us.length = vs.length → ∃ kz : List PyData, AllAlike kz ∧ Sortable kz ∧ (∀ d, d ∈ kz → A.units + d.depth < cLine) ∧ EachIs (fun v k => ∃ as, Reads s'.heap v k as) us kz ∧
      ∀ h' tk out c, But2 a kS s'.heap h' → h'.get? a = some (seqObj "list" (List.toArray out) c) → KeyedOut b kz vs out → P (.done (.ret .none)) { s' with heap := h', toks := tk }) :
    wpAny (model prog w) A (ksk_rest a f b vs.toArray e1 (.ref kS)) P E s := by
  unfold ksk_rest
  refine wpAny_bind (wpAny_rule ?_)
  first
    | rw [List.forIn_toArray]
    | (rw [← Array.forIn_toList]; simp only [List.toList_toArray])
    | rw [← Array.forIn_toList]
  refine wpAny_bind (ksk_fold (fun i s' => ∃ kA e, J kA.toList s' ∧ s'.heap.get? kS = some (seqObj "list" kA e) ∧ s'.heap.get? a = some (seqObj "list" #[] e1) ∧ kA.toList.length = i) vs 0 s
    ⟨#[], 0, j0, nk, na, rfl⟩ ?step ?done)
  case step =>
    rintro j x s' hx ⟨kA, e, jk, nk', na', hl⟩
    simp only [Nat.zero_add] at hl ⊢
    have hj : j < vs.length := (List.getElem?_eq_some_iff.mp hx).1
    have hz : kA.size ≤ vs.length := by
      rw [Array.length_toList] at hl
      omega
    refine wpAny_bind (wpAny_attempt (wpAny_mono (turn j x kA.toList s' hx hl jk ⟨_, na', fun v q => by cases q⟩ ⟨_, nk', fun v q => by cases q⟩) (fun v s'' he => ?_) fun _ _ hF => hF.elim))
    obtain ⟨jg, gk, ga⟩ := he
    try dsimp only
    rw [nk'] at gk
    rw [na'] at ga
    have s1 := Heap.SameBut.update s''.heap kS (Obj.mapSeq (·.push v))
    obtain ⟨c2, hc2⟩ : ∃ c2, (s''.heap.update kS (Obj.mapSeq (·.push v))).get? kS = some (seqObj "list" (kA.push v) c2) := ⟨_, get?_update_seq gk (·.push v)⟩
    have ea : (kA.push v).toList = kA.toList ++ [v] := by simp
    refine wpAny_bind (listUpdate_at gk rfl ?_ (Nat.le_trans hz hZ) (Nat.le_trans (Nat.le_of_eq (Array.size_push ..)) (Nat.succ_le_succ (Nat.le_trans hz hZ))))
    refine wpAny_pure ⟨rfl, kA.push v, c2, ?_, hc2, (s1.2 a hka.symm).trans ga, ?_⟩
    · rw [ea]
      exact stay _ s'' _ _ jg fun b o hb hk q => (s1.2 b hk).trans q
    · rw [ea, List.length_append, hl]
      rfl
  case done =>
    rintro s' ⟨kA, e, jk, nk', na', hl⟩
    simp only [Nat.zero_add] at hl
    obtain ⟨kz, hal, hsk, hu, hk', h⟩ := fin kA.toList s' jk hl
    have hsz : kA.size = vs.length := by
      rw [Array.length_toList] at hl
      exact hl
    try dsimp only
    refine wpAny_bind (listItems_at nk' rfl ?_)
    have hlt : kS < s'.heap.objs.size := Heap.lt_size nk'
    obtain ⟨h₁, q1, q2, q3⟩ : ∃ h₁ : Heap, h₁.get? kS = none ∧ KeepsBut a h₁ s'.heap ∧ ∀ b o, b ≠ kS → s'.heap.get? b = some o → h₁.get? b = some o := by
      refine ⟨hideAll s'.heap [kS], hideAll_none _ (by simp), fun b o _ q => of_hideAll _ q, fun b o hb q => hideAll_get _ q (by simpa using hb)⟩
    exact keyH_end (κ := dataKind s'.heap kz) (h₁ := h₁) q2 q1 nk' na' hka (SortsAt.data (s := s') hk' hal hsk hu) hsz hZ fun h3 tk3 c k3 n3 =>
      h h3 tk3 _ c (fun b o hb hk q => k3 b o hb (q3 b o hk q)) n3 ⟨s'.heap, kA.toList, hal, rfl, hk'⟩
theorem keyJ_tree {f : Value} {n : Nat} {J : Addr → List Value → Shared → Prop} (ho : s.heap.get? a = some (seqObj "list" vs.toArray n)) (hZ : vs.length ≤ sizeLine)
    (j0 : ∀ h' tk kS, s.heap.objs.size ≤ kS → (∀ b o, b ≠ a → s.heap.get? b = some o → h'.get? b = some o) → J kS [] { s with heap := h', toks := tk })
    (stay : ∀ kS us s' h' tk, J kS us s' → But2 a kS s'.heap h' → J kS us { s' with heap := h', toks := tk })
    (turn : ∀ (kS : Addr) (i : Nat) (v : Value) (us : List Value) (s' : Shared), vs[i]? = some v → us.length = i → J kS us s' → (∃ o, s'.heap.get? a = some o ∧ ∀ v, o.data ≠ .cell v) → (∃ o, s'.heap.get? kS = some o ∧ ∀ v, o.data ≠ .cell v) →
      wpAny (model prog w) A (call f [v]) (fun u s2 => J kS (us ++ [u]) s2 ∧ s2.heap.get? kS = s'.heap.get? kS ∧ s2.heap.get? a = s'.heap.get? a) (fun _ _ => False) s')
    (fin : ∀ kS us s', J kS us s' → us.length = vs.length → ∃ kz : List PyData, AllAlike kz ∧ Sortable kz ∧ (∀ d, d ∈ kz → A.units + d.depth < cLine) ∧ EachIs (fun v k => ∃ as, Reads s'.heap v k as) us kz ∧
      ∀ h' tk out c, But2 a kS s'.heap h' → h'.get? a = some (seqObj "list" (List.toArray out) c) → KeyedOut b kz vs out → P (.done (.ret .none)) { s' with heap := h', toks := tk }) :
    wpAny (model prog w) A (ksk_tree a f b) P E s := by
  have ha : a < s.heap.objs.size := Heap.lt_size ho
  obtain ⟨e1, ho1⟩ : ∃ e1, (s.heap.update a (Obj.mapSeq fun _ => (#[] : Array Value))).get? a = some (seqObj "list" #[] e1) := ⟨_, get?_update_seq ho fun _ => #[]⟩
  have hkS : ((s.heap.update a (Obj.mapSeq fun _ => (#[] : Array Value))).push (seqObj "tuple" vs.toArray 0)).objs.size = s.heap.objs.size + 1 := by rw [size_push', Heap.size_update]
  unfold ksk_tree
  refine wpAny_bind (listItems_at ho rfl ?_)
  refine wpAny_bind (listUpdate_at ho rfl ?_ (by rw [List.size_toArray]; exact hZ) (Nat.zero_le _))
  refine wpAny_bind (seqEpoch_at ho1 rfl ?_)
  refine wpAny_bind (wpAny_newTuple ?_ (by show vs.length ≤ _; exact hZ))
  refine wpAny_bind (wpAny_newList ?_ (Nat.zero_le _))
  refine wpAny_holding ?_
  have kp : KeepsBut a s.heap (sortingHeap s.heap a vs) := fun b o hb q => sortingHeap_old hb q
  exact keyJ_rest (J := J ((s.heap.update a (Obj.mapSeq fun _ => (#[] : Array Value))).push (seqObj "tuple" vs.toArray 0)).objs.size) (s := { s with heap := ((s.heap.update a (Obj.mapSeq fun _ => (#[] : Array Value))).push (seqObj "tuple" vs.toArray 0)).push (seqObj "list" #[] 0) }) (kS := ((s.heap.update a (Obj.mapSeq fun _ => (#[] : Array Value))).push (seqObj "tuple" vs.toArray 0)).objs.size)
    (Heap.get?_push_size _ rfl) (Heap.get?_push_of_some _ (Heap.get?_push_of_some _ ho1)) (by rw [hkS]; exact Nat.ne_of_gt (Nat.lt_succ_of_lt ha)) hZ
    (j0 _ s.toks _ (by rw [hkS]; exact Nat.le_succ _) kp) (fun us s' h' tk q k => stay _ us s' h' tk q k) (fun i v us s' q1 q2 q3 q4 q5 => turn _ i v us s' q1 q2 q3 q4 q5) fun us s' q1 q2 => fin _ us s' q1 q2
theorem collect_seq {l : Addr} {T : String} {Q : List Value → Shared → Prop} (hT : T = "list" ∨ T = "tuple") (hl : ∃ o, s.heap.get? l = some o ∧ o.cls = .type T ∧ ∃ n, o.data = .seq vs.toArray n)
    (h : Q vs { s with heap := (s.heap.push (seqObj "list" #[] 0)).update s.heap.objs.size (Obj.mapSeq (· ++ vs.toArray)) }) (hsz : vs.length ≤ sizeLine) :
    wpAny (model prog w) A (collect (.ref l)) Q E s := by
  obtain ⟨o, ho, hc, n, hd⟩ := id hl
  unfold collect
  refine wpAny_bind (wpAny_runValue (codeAny_builtin entry_proto_collect' ?_))
  show wpAny _ _ (do again (.builtin "list.__iadd__" ⟨[← newList [], .ref l], []⟩)) _ _ s
  refine wpAny_bind (wpAny_newList (wpAny_pure ⟨Code.quiet_builtin _ (by decide +kernel), codeAny_builtin entry_list_iadd' ?_⟩))
  show wpAny _ _ (Builtin.List.listExtendWith (.ref s.heap.objs.size) (.ref l) (.ref s.heap.objs.size)) _ _ { s with heap := s.heap.push (seqObj "list" #[] 0) }
  unfold Builtin.List.listExtendWith
  have ho' : (s.heap.push (seqObj "list" #[] 0)).get? l = some o := Heap.get?_push_of_some _ ho
  refine wpAny_bind (wpAny_typeOf (T := T) ⟨o, ho', hc⟩ ?_)
  have ht : (Value.type T == Value.type "list" || Value.type T == Value.type "tuple") = true := by
    rcases hT with rfl | rfl <;> decide +kernel
  rw [if_pos (by rw [Bool.or_assoc, ht]; simp)]
  refine wpAny_bind (listItems_at ho' hd ?_)
  refine wpAny_bind (listItems_at (xs := #[]) (n := 0) (Heap.get?_push_size _ rfl) rfl ?_)
  rw [if_neg (by simp)]
  refine wpAny_bind (listUpdate_at (xs := #[]) (n := 0) (Heap.get?_push_size _ rfl) rfl ?_ (Nat.zero_le _) (by show (#[] ++ vs.toArray).size ≤ sizeLine + 1; simp only [Array.size_append, List.size_toArray, List.length_nil]; omega))
  refine wpAny_pure ?_
  show wpAny (model prog w) A (do
      let o ← load s.heap.objs.size
      match o.data with
      | .seq xs _ => pure xs.toList
      | _ => unsupported "internal:collect") Q E { s with heap := (s.heap.push (seqObj "list" #[] 0)).update s.heap.objs.size (Obj.mapSeq (· ++ vs.toArray)) }
  refine wpAny_bind (wpAny_load (get?_update_seq (Heap.get?_push_size _ rfl) _) ?_)
  show wpAny _ _ (pure ((#[] : Array Value) ++ vs.toArray).toList) Q E _
  rw [show ((#[] : Array Value) ++ vs.toArray).toList = vs by simp]
  exact wpAny_pure h
theorem sorted_of_seq {l : Addr} {T : String} {kw : List (Str × Value)} {Q : Value → Shared → Prop} (hT : T = "list" ∨ T = "tuple") (hl : ∃ o, s.heap.get? l = some o ∧ o.cls = .type T ∧ ∃ n, o.data = .seq vs.toArray n) (hL : vs.length ≤ sizeLine) (ha1 : argsOk "sorted" ⟨[.ref l], kw⟩) (ha2 : ∀ x, argsOk "list.sort" ⟨[.ref x], kw⟩)
    (body : ∀ E' : Value → Shared → Prop, wpAny (model prog w) A.in1.in1 (Builtin.«list.sort» ⟨[.ref (s.heap.objs.size + 1)], kw⟩) (fun f s' => f = .done (.ret .none) ∧ Q (.ref (s.heap.objs.size + 1)) s') E' { s with heap := copyHeap s.heap vs }) :
    wpAny (model prog w) A (call (.builtin "sorted") [.ref l] kw) Q E s := by
  refine call_function_entry_kw kind_sorted plain_sorted entry_sorted ha1 ?_
  unfold Builtin.«sorted»
  refine wpAny_bind (m := checkCount "sorted" 1 1 _) (wpAny_pure ?_)
  refine wpAny_bind (collect_seq hT hl ?_ hL)
  refine wpAny_bind (wpAny_newList ?_ hL)
  have hsz : ((s.heap.push (seqObj "list" #[] 0)).update s.heap.objs.size (Obj.mapSeq (· ++ vs.toArray))).objs.size = s.heap.objs.size + 1 := by
    rw [Heap.size_update, size_push']
  show wpAny _ _ _ _ _ { s with heap := copyHeap s.heap vs }
  rw [hsz]
  refine wpAny_bind (wpAny_holding (wpAny_call_entry_kw slot_list_sort ⟨_, copyHeap_at s.heap vs, rfl⟩ entry_list_sort ?body (ha2 _)))
  case body =>
    show wpAny (model prog w) A.in1.in1 (Builtin.«list.sort» ⟨[.ref (s.heap.objs.size + 1)], kw⟩) _ _ _
    refine wpAny_mono (body _) (fun f s' hf => ?_) fun _ _ e => e
    obtain ⟨rfl, hq⟩ := hf
    exact ⟨_, rfl, wpAny_pure ⟨_, rfl, hq⟩⟩
/-- sorted(xs, key=f) -/
theorem sorted_J {l : Addr} {T : String} {f : Value} {kw : List (Str × Value)} {Q : Value → Shared → Prop} {J : Addr → Addr → List Value → Shared → Prop} (hT : T = "list" ∨ T = "tuple") (hl : ∃ o, s.heap.get? l = some o ∧ o.cls = .type T ∧ ∃ n, o.data = .seq vs.toArray n) (hL : vs.length ≤ sizeLine) (ha1 : argsOk "sorted" ⟨[.ref l], kw⟩) (ha2 : ∀ x, argsOk "list.sort" ⟨[.ref x], kw⟩)
    (ht : ∀ x, Builtin.«list.sort» ⟨[.ref x], kw⟩ = ksk_tree x f b)
    (j0 : ∀ h' tk a kS, s.heap.objs.size ≤ a → s.heap.objs.size ≤ kS → (∀ b o, s.heap.get? b = some o → h'.get? b = some o) → J a kS [] { s with heap := h', toks := tk })
    (stay : ∀ a kS us s' h' tk, J a kS us s' → But2 a kS s'.heap h' → J a kS us { s' with heap := h', toks := tk })
    (turn : ∀ (a kS : Addr) (i : Nat) (v : Value) (us : List Value) (s' : Shared), vs[i]? = some v → us.length = i → J a kS us s' → (∃ o, s'.heap.get? a = some o ∧ ∀ v, o.data ≠ .cell v) → (∃ o, s'.heap.get? kS = some o ∧ ∀ v, o.data ≠ .cell v) →
      wpAny (model prog w) A.in1.in1 (call f [v]) (fun u s2 => J a kS (us ++ [u]) s2 ∧ s2.heap.get? kS = s'.heap.get? kS ∧ s2.heap.get? a = s'.heap.get? a) (fun _ _ => False) s')
    (fin : ∀ a kS us s', J a kS us s' → us.length = vs.length → ∃ kz : List PyData, AllAlike kz ∧ Sortable kz ∧ (∀ d, d ∈ kz → A.in1.in1.units + d.depth < cLine) ∧ EachIs (fun v k => ∃ as, Reads s'.heap v k as) us kz ∧
      ∀ h' tk out c, But2 a kS s'.heap h' → h'.get? a = some (seqObj "list" (List.toArray out) c) → KeyedOut b kz vs out → Q (.ref a) { s' with heap := h', toks := tk }) :
    wpAny (model prog w) A (call (.builtin "sorted") [.ref l] kw) Q E s := by
  have fresh : s.heap.get? (s.heap.objs.size + 1) = none := Heap.get?_none_of_le (Nat.le_succ _)
  have csz : s.heap.objs.size ≤ (copyHeap s.heap vs).objs.size := by
    exact Nat.le_of_lt (Nat.lt_of_succ_lt (Heap.lt_size (copyHeap_at s.heap vs)))
  refine sorted_of_seq hT hl hL ha1 ha2 fun E' => ?_
  rw [ht]
  refine keyJ_tree (J := J (s.heap.objs.size + 1)) (s := { s with heap := copyHeap s.heap vs }) (copyHeap_at s.heap vs) hL (fun h' tk kS hk q => ?_) (fun kS => stay _ kS) (fun kS => turn _ kS) fun kS us s' q1 q2 => ?_
  · exact j0 h' tk _ kS (Nat.le_succ _) (Nat.le_trans csz hk) fun b o e => q b o (Nat.ne_of_lt (Nat.lt_succ_of_lt (Heap.lt_size e))) (copyHeap_old e)
  · obtain ⟨kz, h1, h2, h3, h4, h5⟩ := fin _ kS us s' q1 q2
    exact ⟨kz, h1, h2, h3, h4, fun h' tk out c q3 q4 q5 => ⟨rfl, h5 h' tk out c q3 q4 q5⟩⟩
end

/-! ### over the layer -/
open L2 PySem.Spec
def KeyRun (K : Kw) (mg : Str → Option Value) (m : GC) : List V → List V → Hp → (List V → Hp → Prop) → Prop
  | [], ks, H, R => R ks H
  | x :: xs, ks, H, R => spX K mg 1 m noGX [x] H (fun k H' => KeyRun K mg m xs (ks ++ [k]) H' R) L2.E0
def sortV {α : Type} (xs : List α) (ps : List PyData) : List α := ((xs.zip ps).mergeSort (dataLe false (·.2))).map (·.1)
def okSort (ps : List PyData) : Prop := AllAlike ps ∧ Sortable ps ∧ ∀ d ∈ ps, d.depth ≤ 64
def rSortKey (K : Kw) (mg : Str → Option Value) (m : GC) : List V → Hp → VK → Prop := fun vs H Q => ∃ (a : Addr) (xs : List V), vs = [.ref a] ∧ (SqL K H a xs ∨ SqT K H a xs) ∧
  KeyRun K mg m xs [] H fun ks H' => ∃ ps, EachIs (Dp K H') ks ps ∧ okSort ps ∧ ∀ p, H' p = none → Q (.ref p) (upd H' p (.lst (sortV xs ps)))
theorem vals_each {xs : List V} {us : List Value} (r : Vals xs us) : EachIs (fun u x => RelV x u) us xs := by
  induction r with
  | nil => exact .nil
  | cons a _ ih => exact .cons a ih
theorem each_vals {xs : List V} {us : List Value} (r : EachIs (fun u x => RelV x u) us xs) : Vals xs us := by
  induction r with
  | nil => exact .nil
  | cons a _ ih => exact .cons a ih
theorem each_zip {α β γ : Type} {R : α → β → Prop} : ∀ {as : List α} {bs : List β} {cs : List γ}, EachIs R as bs → cs.length = bs.length → EachIs (fun a (p : β × γ) => R a p.1) as (bs.zip cs)
  | _, _, [], .nil, _ => .nil
  | _, _, _ :: _, .nil, h => by simp at h
  | _, _, [], .cons _ _, h => by simp at h
  | _, _, c :: cs, .cons a r, h => .cons a (each_zip r (by simpa using h))
theorem each_map {α β γ : Type} {R : α → γ → Prop} (g : β → γ) : ∀ {as : List α} {bs : List β}, EachIs (fun a b => R a (g b)) as bs → EachIs R as (bs.map g)
  | _, _, .nil => .nil
  | _, _, .cons a r => .cons a (each_map g r)
theorem zip_snd {α β : Type} : ∀ (as : List α) (bs : List β), bs.length = as.length → (as.zip bs).map (·.2) = bs
  | [], [], _ => rfl
  | [], _ :: _, h => by simp at h
  | _ :: _, [], h => by simp at h
  | a :: as, b :: bs, h => by simp [zip_snd as bs (by simpa using h)]
section
variable {K : Kw} {X : Cx} {mg : Str → Option Value} {m : GC} {j k : Nat} {x : Str} {dd : List D}
theorem run_fnG2 {f : Addr} {fd : FuncData} {ps : List Str} {sp : Sp} {pins : List (Addr × Obj)} {σ : L2.St} {H : Hp} {s : Shared} {Q : VK} {us : List Value} {vs : List V} (F : FnG X.prog X.w X.K X.mg X.base (L2.CX X.prog X.w) k f fd ps sp) (hr : RoomG k X.A.in1.in1) (hb : Binds X.K fd ps [])
    (I : Inv X pins σ H s) (r : Vals vs us) (h : sp vs H Q L2.E0) : wpAny (model X.prog X.w) X.A.in1.in1 (call (.ref f) us) (EP X pins σ Q) (fun _ _ => False) s := by
  have hl : us.length = ps.length := by rw [← r.length]; exact F.len _ _ _ _ h
  refine wpAny_call (codeAny_mono (F.run X.A.in1.in1 X.stack s H ⟨us, []⟩ us vs Q L2.E0 hr I.env0.in1.in1 (by have := hb s us I.kIn (by simpa using hl); simpa using this) r h) fun r s' hq => ?_)
  cases r with
  | error e =>
    obtain ⟨_, _, _, _, _, _, _, _, _, _, _, _, q⟩ := hq
    exact q
  | ok fl =>
    cases fl with
    | ret u => exact I.after hq
    | next => exact False.elim hq
    | brk => exact False.elim hq
    | cont => exact False.elim hq
theorem Inv_adopt {pins : List (Addr × Obj)} {σ : L2.St} {H : Hp} {s : Shared} {a : Addr} {o : HO} (I : Inv X pins σ H s) (hf : FpOk X pins H a) (ht : ∃ u, s.heap.get? a = some u) (new : ObjOk X.prog X.w (upd H a o) s.heap a o) : Inv X pins σ (upd H a o) s := by
  obtain ⟨hn, f1, f2, f3, f4, f5⟩ := hf
  have ne : ∀ {b : Addr} {u : HO}, H b = some u → b ≠ a := fun e z => by rw [z, hn] at e; cases e
  have := I.step (ch := [a]) (h' := s.heap) (g' := s.gens) (d' := s.drawn) (t' := s.toks) (H' := upd H a o)
    (fun b hb => by rw [List.mem_singleton.mp hb]; exact ⟨f3, f1, f4, f5⟩) (fun b o' _ _ _ e _ => e) (fun b o' _ _ _ e _ => ⟨o'.slots, e⟩)
    (fun b o' hb _ n => by rw [upd_ne (by simpa using hb)]; exact n) (fun b o' _ e => ⟨o', e⟩) (fun b xs e => by rw [upd_ne (ne e)]; exact e) (fun b o' u e => by rw [upd_ne (ne e)]; exact e)
    (fun b ps e => ⟨#[], by rw [upd_ne (ne e), e]; simp⟩) (fun _ h => h) (HOk.laidN I.hok (fun _ _ e => e) hn new) I.bare
  exact this
theorem run_sortKey {pins : List (Addr × Obj)} {σ : L2.St} {H : Hp} {s : Shared} {Q : VK} {us : List Value} {vs : List V} {f : Addr} {fd : FuncData} {ps : List Str} (F : FnG X.prog X.w K.f mg X.base (L2.CX X.prog X.w) k f fd ps (spX K mg 1 m noGX)) (hr : RoomG (k + 1) X.A) (hb : Binds K.f fd ps []) (hmg : X.mg = mg) (hK : KOf X = K)
    (I : Inv X pins σ H s) (r : Vals vs us) (h : rSortKey K mg m vs H Q) : wpAny (model X.prog X.w) X.A (call (.builtin "sorted") us [(Str.ofString "key", .ref f)]) (EP X pins σ Q) X.xe s := by
  subst hK
  subst hmg
  obtain ⟨l, xs, rfl, hs, kr⟩ := h
  obtain rfl := Vals.ref1 r
  have hr2 : RoomG k X.A.in1.in1 := ⟨⟨hr.r.hd, by have := hr.r.dp; show X.A.depth + 3 * k + 5 < _; omega, by have := hr.r.un; show X.A.units + 1 + 1 + 16 * k + 200 < _; omega⟩, hr.g⟩
  have hun : X.A.in1.in1.units + 64 < cLine := by have := hr2.r.un; omega
  obtain ⟨T, its, hT, rv, hl, hz⟩ : ∃ (T : String) (its : List Value), (T = "list" ∨ T = "tuple") ∧ Vals xs its ∧ (∃ o, s.heap.get? l = some o ∧ o.cls = .type T ∧ ∃ n, o.data = .seq its.toArray n) ∧ xs.length ≤ sizeLine := by
    rcases hs with hs | hs
    · obtain ⟨its, rv, p1, z⟩ := I.list hs
      exact ⟨"list", its, .inl rfl, rv, p1.isList, z⟩
    · obtain ⟨its, rv, p1, z⟩ := I.tuple hs
      exact ⟨"tuple", its, .inr rfl, rv, p1, z⟩
  have hlen := rv.length
  refine sorted_J (b := false) (f := .ref f) (vs := its) (J := fun a kS us s' => ∃ H' ks, Inv X pins σ H' s' ∧ FpOk X pins H' a ∧ FpOk X pins H' kS ∧ Vals ks us ∧ KeyRun (KOf X) X.mg m (xs.drop us.length) ks H' fun ks H' => ∃ ps, EachIs (Dp (KOf X) H') ks ps ∧ okSort ps ∧ ∀ p, H' p = none → Q (.ref p) (upd H' p (.lst (sortV xs ps))))
    hT hl (by rw [← hlen]; exact hz) (PyProof.Rows.ksk_s1 _ _) (fun _ => PyProof.Rows.ksk_l1 _ _) (fun _ => rfl) ?_ ?_ ?_ ?_
  · intro h' tk a kS ha hk kp
    have I1 : Inv X pins σ H { s with heap := h', toks := tk } := I.kept kp
    exact ⟨H, [], I1, I.fpOk ha (I.hok.fresh ha), I.fpOk hk (I.hok.fresh hk), .nil, kr⟩
  · rintro a kS us s' h' tk ⟨H', ks, I1, f1, f2, rk, q⟩ hbut
    refine ⟨H', ks, I1.turnedL (ch := [a, kS]) (fun b o hb e => hbut b o (fun z => hb (by simp [z])) (fun z => hb (by simp [z])) e) (fun b hb => ?_), f1, f2, rk, q⟩
    simp only [List.mem_cons, List.not_mem_nil, or_false] at hb
    rcases hb with rfl | rfl
    · exact f1
    · exact f2
  · rintro a kS i v us s' hv hi ⟨H', ks, I1, f1, f2, rk, q⟩ ha hk
    have hix : i < xs.length := by rw [hlen]; exact (List.getElem?_eq_some_iff.mp hv).1
    have hd : xs.drop us.length = xs[i] :: xs.drop (us.length + 1) := by rw [hi]; exact List.drop_eq_getElem_cons hix
    rw [hd] at q
    obtain ⟨u', hu', ru'⟩ := rv.get (List.getElem?_eq_getElem hix)
    rw [hv] at hu'
    cases hu'
    have I2 := I1.pinned (fp := [a, kS]) (fun b hb => by
      simp only [List.mem_cons, List.not_mem_nil, or_false] at hb
      rcases hb with rfl | rfl
      · exact f1
      · exact f2) (fun b hb => by
      simp only [List.mem_cons, List.not_mem_nil, or_false] at hb
      rcases hb with rfl | rfl
      · exact ha
      · exact hk)
    refine wpAny_mono (run_fnG2 F hr2 hb I2 (.cons ru' .nil) q) (fun u s2 he => ?_) fun _ _ e => e
    obtain ⟨v2, H2, I3, r2, q2⟩ := he
    obtain ⟨oa, ea, _⟩ := ha
    obtain ⟨ok', ek, _⟩ := hk
    have pa := I3.pin (a, oa) (List.mem_append_right _ (List.mem_append_right _ (mem_pinsAt (by simp) ea)))
    have pk := I3.pin (kS, ok') (List.mem_append_right _ (List.mem_append_right _ (mem_pinsAt (by simp) ek)))
    refine ⟨⟨H2, ks ++ [v2], I3.unpinned, ⟨pa.2.1, f1.2⟩, ⟨pk.2.1, f2.2⟩, rk.append (.cons r2 .nil), ?_⟩, ?_, ?_⟩
    · rw [List.length_append, List.length_singleton]
      exact q2
    · rw [pk.1, ek]
    · rw [pa.1, ea]
  · rintro a kS us s' ⟨H', ks, I1, f1, f2, rk, q⟩ hus
    have hd : xs.drop us.length = [] := by rw [hus, ← hlen]; exact List.drop_length
    rw [hd] at q
    obtain ⟨ps, hps, hok, q⟩ := q
    have hpl : ps.length = xs.length := by
      have h1 := hps.length
      have h2 := rk.length
      omega
    refine ⟨ps, hok.1, hok.2.1, fun d hd => by have := hok.2.2 d hd; omega, ?_, fun h' tk out c hbut hout ko => ?_⟩
    · have : ∀ {ks : List V} {us : List Value} {ps : List PyData}, Vals ks us → EachIs (Dp (KOf X) H') ks ps → EachIs (fun v k => ∃ as, Reads s'.heap v k as) us ps := by
        intro ks us ps r
        induction r generalizing ps with
        | nil => intro e; cases e; exact .nil
        | cons r1 _ ih =>
          intro e
          cases e with
          | cons e1 er => exact .cons (Dp.reads I1 _ _ _ e1 r1) (ih er)
      exact this rk hps
    · have I4 : Inv X pins σ H' { s' with heap := h', toks := tk } := I1.turnedL (ch := [a, kS]) (fun b o hb e => hbut b o (fun z => hb (by simp [z])) (fun z => hb (by simp [z])) e) (fun b hb => by
        simp only [List.mem_cons, List.not_mem_nil, or_false] at hb
        rcases hb with rfl | rfl
        · exact f1
        · exact f2)
      have ez : ps = (xs.zip ps).map (·.2) := (zip_snd xs ps hpl).symm
      rw [ez] at ko
      have eo := keyedOut_each (R := fun u (p : V × PyData) => RelV p.1 u) (·.2) ko (each_zip (vals_each rv) hpl)
      have vo : Vals (sortV xs ps) out := each_vals (each_map (R := fun (u : Value) (x : V) => RelV x u) (fun p : V × PyData => p.1) eo)
      have hlo : (sortV xs ps).length ≤ sizeLine := by
        unfold sortV
        rw [List.length_map, List.length_mergeSort, List.length_zip]
        omega
      refine ⟨.ref a, _, Inv_adopt (o := .lst (sortV xs ps)) I4 f1 ⟨_, hout⟩ ⟨hlo, out, c, vo, hout⟩, rfl, q a f1.1⟩
end
end DL

/-! DM33: data compared by < and >; sorted(xs); sorted(xs, key=f); xs.remove(x). -/
namespace DL
open PySem PySem.W L2 PySem.Spec PyProof.Rows
/-! ### data compared -/
def ltPD : G2 := fun x y h => match datD h x, datD h y with
  | some p, some q => if okOrd p q = true then some (.bl (dataLt p q), h) else none
  | _, _ => none
def gtPD : G2 := fun x y h => match datD h x, datD h y with
  | some p, some q => if okOrd p q = true then some (.bl (dataLt q p), h) else none
  | _, _ => none
def rLtP (K : Kw) (sw : Bool) : R2 := fun x y H Q => ∃ p q, Dp K H x p ∧ Dp K H y q ∧ okOrd p q = true ∧ Q (.bl (if sw then dataLt q p else dataLt p q)) H
section
variable {K : Kw} {X : Cx}
theorem okOrd_al {p q : PyData} (h : okOrd p q = true) : alike p q = true ∧ p ≠ .none ∧ min p.depth q.depth ≤ 50 := by
  unfold okOrd at h
  simp only [Bool.and_eq_true, decide_eq_true_eq] at h
  obtain ⟨⟨⟨⟨⟨⟨⟨h1, h2⟩, h3⟩, h4⟩, h5⟩, h6⟩, h7⟩, h8⟩ := h
  exact ⟨h2, (fun z => by rw [z] at h5; cases h5), by omega⟩
theorem op_ltP (hu : X.A.units + 64 < cLine) (hK : KOf X = K := by rfl) : OpR X (compareOp .Lt) (rLtP K false) := by
  subst hK
  intro pins s σ H x y v u Q I r1 r2 h
  obtain ⟨p, q, hp, hq, ho, k⟩ := h
  obtain ⟨as, a1⟩ := Dp.reads I p x v hp r1
  obtain ⟨bs, a2⟩ := Dp.reads I q y u hq r2
  obtain ⟨o1, o2, o3⟩ := okOrd_al ho
  show wpAny _ _ (richCompare .Lt v u) _ _ _
  exact rcLt_alike p q X.A s v u as bs a1 a2 o1 o2 (by omega) _ _ _ _ ⟨.bl _, H, I, rfl, k⟩
theorem op_gtP (hu : X.A.units + 64 < cLine) (hK : KOf X = K := by rfl) : OpR X (compareOp .Gt) (rLtP K true) := by
  subst hK
  intro pins s σ H x y v u Q I r1 r2 h
  obtain ⟨p, q, hp, hq, ho, k⟩ := h
  obtain ⟨as, a1⟩ := Dp.reads I p x v hp r1
  obtain ⟨bs, a2⟩ := Dp.reads I q y u hq r2
  obtain ⟨o1, o2, o3⟩ := okOrd_al ho
  show wpAny _ _ (richCompare .Gt v u) _ _ _
  exact rcGt_alike p q X.A s v u as bs a1 a2 o1 o2 (by omega) _ _ _ _ ⟨.bl _, H, I, rfl, k⟩
theorem so_ltP : SO K (rLtP K false) ltPD := by
  intro Φ H μ h x y v w d h' S r1 r2 e Q k
  unfold ltPD at e
  split at e
  · rename_i p q e1 e2
    split at e
    · rename_i c
      cases e
      exact ⟨p, q, dat_of S r1 e1, dat_of S r2 e2, c, k _ H μ S Le.refl rp_bl⟩
    · cases e
  · cases e
theorem so_gtP : SO K (rLtP K true) gtPD := by
  intro Φ H μ h x y v w d h' S r1 r2 e Q k
  unfold gtPD at e
  split at e
  · rename_i p q e1 e2
    split at e
    · rename_i c
      cases e
      exact ⟨p, q, dat_of S r1 e1, dat_of S r2 e2, c, k _ H μ S Le.refl rp_bl⟩
    · cases e
  · cases e
end
/-! ### what can be sorted -/
def tupNE : PyData → Bool
  | .tuple (_ :: _) => true
  | _ => false
def nTup : PyData → Bool
  | .none => false
  | .tuple _ => false
  | _ => true
def okSortB (ps : List PyData) : Bool := (ps.all fun d => ps.all fun d' => alike d d') && (ps.all tupNE || ps.all nTup) && ps.all fun d => decide (d.depth ≤ 64)
theorem okSort_of {ps : List PyData} (h : okSortB ps = true) : okSort ps := by
  unfold okSortB at h
  simp only [Bool.and_eq_true, Bool.or_eq_true, List.all_eq_true, decide_eq_true_eq] at h
  obtain ⟨⟨h1, h2⟩, h3⟩ := h
  refine ⟨h1, ?_, h3⟩
  rcases h2 with h2 | h2
  · refine .inl fun d hd => ?_
    have := h2 d hd
    unfold tupNE at this
    split at this
    · exact ⟨_, _, rfl⟩
    · cases this
  · refine .inr fun d hd => ⟨fun z => ?_, fun xs z => ?_⟩
    · have := h2 d hd
      rw [z] at this
      cases this
    · have := h2 d hd
      rw [z] at this
      cases this
def datsD (h : Hd) : List D → Option (List PyData)
  | [] => some []
  | d :: ds => match datD h d, datsD h ds with
    | some p, some ps => some (p :: ps)
    | _, _ => none
theorem datsD_len {h : Hd} : ∀ {ds : List D} {ps : List PyData}, datsD h ds = some ps → ps.length = ds.length
  | [], ps, e => by cases e; rfl
  | d :: ds, ps, e => by
    unfold datsD at e
    split at e
    · rename_i p ps' e1 e2
      cases e
      simp [datsD_len e2]
    · cases e
def itemsD (h : Hd) : D → Option (List D)
  | .tup xs => some xs
  | .rol xs => some xs
  | .at n => match h[n]? with
    | some (.lst xs) => some xs
    | _ => none
  | _ => none
def keysM (m : GC) : List D → Hd → Option (List D × Hd)
  | [], h => some ([], h)
  | x :: xs, h => match m [x] h with
    | some (d, h1) => match keysM m xs h1 with
      | some (ds, h2) => some (d :: ds, h2)
      | none => none
    | none => none
def sortKM (m : GC) (a : MA) : ME := fun sg h => match a sg h with
  | some ([x], h1) => match itemsD h1 x with
    | some xs => match keysM m xs h1 with
      | some (ks, h2) => match datsD h2 ks with
        | some ps => if okSortB ps = true then some (.at h2.length, h2 ++ [.lst (sortV xs ps)]) else none
        | none => none
      | none => none
    | none => none
  | _ => none
section
variable {K : Kw} {X : Cx} {mg : Str → Option Value} {m : GC} {Φ : Hp}
theorem items_of {H : Hp} {μ : List Addr} {h : Hd} {d : D} {v : V} {xs : List D} (S : Sm Φ K H μ h) (r : Rp K H μ d v) (e : itemsD h d = some xs) : ∃ (a : Addr) (ws : List V), v = .ref a ∧ (SqL K H a ws ∨ SqT K H a ws) ∧ Rps K H μ xs ws := by
  unfold itemsD at e
  split at e
  · cases e
    obtain ⟨p, ws, rfl, b, c⟩ := rp_tup' r
    exact ⟨p, ws, rfl, .inr b, c⟩
  · cases e
    obtain ⟨p, ws, rfl, b, c⟩ := rp_rol' r
    exact ⟨p, ws, rfl, .inl b.l, c⟩
  · obtain ⟨p, ep, rfl⟩ := rp_at' r
    split at e
    · rename_i ys q
      cases e
      obtain ⟨ws, b, c⟩ := S.lst q ep
      exact ⟨p, ws, rfl, .inl (.of b), c⟩
    · cases e
  · cases e
theorem dats_of {H : Hp} {μ : List Addr} {h : Hd} (S : Sm Φ K H μ h) : ∀ {ds : List D} {vs : List V} {ps : List PyData}, Rps K H μ ds vs → datsD h ds = some ps → EachIs (Dp K H) vs ps
  | [], vs, ps, r, e => by
    rw [r.nil']
    cases e
    exact .nil
  | d :: ds, vs, ps, r, e => by
    obtain ⟨v, vs', rfl, r1, r2⟩ := r.cons'
    unfold datsD at e
    split at e
    · rename_i p ps' e1 e2
      cases e
      exact .cons (dat_of S r1 e1) (dats_of S r2 e2)
    · cases e
theorem keyRun_of : ∀ {xs : List D} {vs : List V} {ks0 : List V} {H : Hp} {μ : List Addr} {h : Hd} {ks : List D} {h2 : Hd} {R : List V → Hp → Prop}, Sm Φ K H μ h → Rps K H μ xs vs → keysM m xs h = some (ks, h2) →
    (∀ (us : List V) (H' : Hp) (μ' : List Addr), Sm Φ K H' μ' h2 → Le K H μ H' μ' → Rps K H' μ' ks us → R (ks0 ++ us) H') → KeyRun K mg m vs ks0 H R
  | [], vs, ks0, H, μ, h, ks, h2, R, S, r, e, k => by
    rw [r.nil']
    cases e
    have := k [] H μ S Le.refl Rps.nil
    rw [List.append_nil] at this
    exact this
  | x :: xs, vs, ks0, H, μ, h, ks, h2, R, S, r, e, k => by
    obtain ⟨v, vs', rfl, r1, r2⟩ := r.cons'
    unfold keysM at e
    split at e
    · rename_i d h1 e1
      split at e
      · rename_i ds h3 e2
        cases e
        refine ⟨Φ, μ, [x], h, S, .cons r1 .nil, rfl, .inl ⟨d, h1, e1, fun kv H1 μ1 S1 l1 rk => ?_⟩⟩
        refine keyRun_of S1 (Rps.mono l1 _ _ r2) e2 fun us H' μ' S' l' ru => ?_
        have := k (kv :: us) H' μ' S' (l1.trans l') (.cons (Rp.mono l' _ _ rk) ru)
        simpa using this
      · cases e
    · cases e
theorem sort_rps {H : Hp} {μ : List Addr} {xs : List D} {ws : List V} {ps : List PyData} (r : Rps K H μ xs ws) (hl : ps.length = xs.length) : Rps K H μ (sortV xs ps) (sortV ws ps) := by
  have hw := r.len
  let T : List ((D × V) × PyData) := (xs.zip ws).zip ps
  have e1 : T.map (fun t => (t.1.1, t.2)) = xs.zip ps := by
    have : ∀ (xs : List D) (ws : List V) (ps : List PyData), ws.length = xs.length → ((xs.zip ws).zip ps).map (fun t => (t.1.1, t.2)) = xs.zip ps := by
      intro xs
      induction xs with
      | nil => intro ws ps _; simp
      | cons x xs ih =>
        intro ws ps h
        cases ws with
        | nil => simp at h
        | cons w ws =>
          cases ps with
          | nil => simp
          | cons p ps => simp only [List.zip_cons_cons, List.map_cons]; rw [ih ws ps (by simpa using h)]
    exact this xs ws ps hw
  have e2 : T.map (fun t => (t.1.2, t.2)) = ws.zip ps := by
    have : ∀ (xs : List D) (ws : List V) (ps : List PyData), ws.length = xs.length → ((xs.zip ws).zip ps).map (fun t => (t.1.2, t.2)) = ws.zip ps := by
      intro xs
      induction xs with
      | nil => intro ws ps h; rw [List.length_nil, List.length_eq_zero_iff] at h; subst h; simp
      | cons x xs ih =>
        intro ws ps h
        cases ws with
        | nil => simp at h
        | cons w ws =>
          cases ps with
          | nil => simp
          | cons p ps => simp only [List.zip_cons_cons, List.map_cons]; rw [ih ws ps (by simpa using h)]
    exact this xs ws ps hw
  have m1 : sortV xs ps = (T.mergeSort fun a b => dataLe false (·.2) (a.1.1, a.2) (b.1.1, b.2)).map (fun t => t.1.1) := by
    unfold sortV
    rw [← e1, ← List.map_mergeSort (r := fun a b => dataLe false (·.2) (a.1.1, a.2) (b.1.1, b.2)) (fun a _ b _ => rfl), List.map_map]
    rfl
  have m2 : sortV ws ps = (T.mergeSort fun a b => dataLe false (·.2) (a.1.1, a.2) (b.1.1, b.2)).map (fun t => t.1.2) := by
    unfold sortV
    rw [← e2, ← List.map_mergeSort (r := fun a b => dataLe false (·.2) (a.1.1, a.2) (b.1.1, b.2)) (fun a _ b _ => rfl), List.map_map]
    rfl
  rw [m1, m2]
  have all : ∀ t ∈ T.mergeSort fun a b => dataLe false (·.2) (a.1.1, a.2) (b.1.1, b.2), Rp K H μ t.1.1 t.1.2 := by
    intro t ht
    rw [List.mem_mergeSort] at ht
    have hz : t.1 ∈ xs.zip ws := (List.of_mem_zip (show (t.1, t.2) ∈ (xs.zip ws).zip ps from ht)).1
    obtain ⟨i, hi⟩ := List.mem_iff_getElem?.mp hz
    rw [List.getElem?_zip_eq_some] at hi
    obtain ⟨v, q1, q2⟩ := r.get hi.1
    rw [hi.2] at q1
    cases q1
    exact q2
  have go : ∀ l : List ((D × V) × PyData), (∀ t ∈ l, Rp K H μ t.1.1 t.1.2) → Rps K H μ (l.map fun t => t.1.1) (l.map fun t => t.1.2) := by
    intro l
    induction l with
    | nil => intro _; exact .nil
    | cons t l ih => intro h; exact .cons (h t (by simp)) (ih fun x hx => h x (by simp [hx]))
  exact go _ all
end
section
variable {K : Kw} {X : Cx} {mg : Str → Option Value} {m : GC} {j k : Nat} {x : Str} {e : Expr} {ta : TA} {ma : MA} {p pos p2 kp : Pos}
def tSortK (K : Kw) (mg : Str → Option Value) (m : GC) (ta : TA) : TE := fun σ H Q => ta σ H fun vs H1 => rSortKey K mg m vs H1 Q
theorem de_sortK (c : CalM X.prog X.w K.f mg X.base j x 1 m noGX []) (hr : RoomG k X.A) (ha : DA K X [e] ta ma) (hs : X.mg "sorted" = none) (hj : j + 1 ≤ k) (hmg : X.mg = mg := by rfl) (hg : Gl X "sorted" := by rfl) (hgx : Gl X x := by rfl)
    (hdb : (x == ("__debug__" : Str)) = false := by decide) (hpl : (backTo pos (starEach [e] X.env)).any (·.1) = false := by rfl) (he : backTo pos (starEach [e] X.env) = (false, eval e X.env) :: backTo pos (starEach [] X.env) := by rfl)
    (hall : (backToKw pos (keywordEach [⟨some "key", .Name x p2, kp⟩] X.env)).all (·.1.isSome) = true := by rfl) (hnone : (backToKw pos (keywordEach [⟨some "key", .Name x p2, kp⟩] X.env)).any (·.1.isNone) = false := by rfl) (hks : (backToKw pos (keywordEach [⟨some "key", .Name x p2, kp⟩] X.env)).filterMap (·.1) = [Str.ofString "key"] := by rfl) :
    DE K X (.Call (.Name "sorted" p) [e] [⟨some "key", .Name x p2, kp⟩] pos) (tSortK K mg m ta) (sortKM m ma) := ⟨ha.k, by
  have hk := ha.k
  subst hk
  subst hmg
  obtain ⟨f, fd, ps, ds, dvs, F, h1, h2, h3, h4, h5⟩ := c.ex
  have hdv : dvs = [] := (h5 (fun _ => none) []).nil'
  subst hdv
  have hds : ds = [] := by cases h4; rfl
  subst hds
  refine ⟨fun pins s σ H Q I q => ?_⟩
  refine wpAny_Call_Name_kw (ld_blt I hg hs (by rfl) ?_ (by decide) (by decide))
  refine PyProof.Rows.callWith_kw (thn (ha.p.run pos pins s σ H _ I q) fun us s1 ⟨vs, H1, I1, r1, q1⟩ => thn ((pk_cons (pe_glob (v := .ref f) hgx h1 rfl hdb) pk_nil : PK X [⟨some "key", .Name x p2, kp⟩] _).run pos pins s1 σ H1 (fun zs H2 => zs = [.ref f] ∧ H2 = H1) I1 ⟨rfl, rfl⟩) fun ws s2 ⟨zs, H2, I2, r2, q2⟩ => ?_) he hpl hall hnone
  obtain ⟨rfl, rfl⟩ := q2
  obtain rfl := Vals.ref1 r2
  rw [hks]
  exact run_sortKey (K := KOf X) F (hr.mono hj) h3 rfl rfl I2 r1 q1, by
  intro Φ σ H μ sg h d h' S rs e Q kk
  unfold sortKM at e
  split at e
  · rename_i x1 h1 e1
    split at e
    · rename_i xs e2
      split at e
      · rename_i ks h2 e3
        split at e
        · rename_i ps e4
          split at e
          · rename_i hok
            cases e
            refine ha.s σ H μ sg h _ h1 S rs e1 _ fun vs H1 μ1 S1 l1 r1 => ?_
            obtain ⟨v, rfl, a1⟩ := rps1 r1
            obtain ⟨a, ws, rfl, hq, rw1⟩ := items_of S1 a1 e2
            refine ⟨a, ws, rfl, hq, keyRun_of S1 rw1 e3 fun us H2 μ2 S2 l2 ru => ⟨ps, ?_, okSort_of hok, ?_⟩⟩
            · rw [List.nil_append]
              exact dats_of S2 ru e4
            · have hl : ps.length = xs.length := by
                have h5 := datsD_len e4
                have h6 : ∀ {xs : List D} {h h2 : Hd} {ks : List D}, keysM m xs h = some (ks, h2) → ks.length = xs.length := by
                  intro xs
                  induction xs with
                  | nil => intro h h2 ks e; cases e; rfl
                  | cons x xs ih =>
                    intro h h2 ks e
                    unfold keysM at e
                    split at e
                    · split at e
                      · rename_i e7
                        cases e
                        simp [ih e7]
                      · cases e
                    · cases e
                rw [h5, h6 e3]
              exact fun p hp => kn_lst S2 (sort_rps (Rps.mono l2 _ _ rw1) hl) (fun v H3 μ3 S3 l3 r3 => kk v H3 μ3 S3 ((l1.trans l2).trans l3) r3) p hp
          · cases e
        · cases e
      · cases e
    · cases e
  · cases e⟩
end
end DL

/-! DM34: loops over zip of two lists, of two tuples; sorted(xs); xs.remove(x). -/
namespace DL
open PySem PySem.W L2 PySem.Spec PyProof.Rows
/-! ### zip -/
def zipD (xs ys : List D) : List D := (xs.zip ys).map fun p => .tup [p.1, p.2]
def zipI (a : MA) : MI := fun sg h => match a sg h with
  | some ([.at n, .at m], h1) => match h1[n]?, h1[m]? with
    | some (.lst _), some (.lst _) => some (.zip n m, h1)
    | _, _ => none
  | some ([.tup xs, .tup ys], h1) => some (.fix (zipD xs ys), h1)
  | _ => none
section
variable {K : Kw} {X : Cx} {e e2 : Expr} {ta : TA} {ma : MA} {p pos : Pos} {Φ : Hp}
theorem j_zipL {a b : Addr} {n m : Nat} {H0 : Hp} {μ0 : List Addr} (ea : μ0[n]? = some a) (eb : μ0[m]? = some b) : JOk Φ K (Itz K a b) (.zip n m) H0 μ0 := by
  intro i H μ h S l
  have ep := l.get ea
  have eq := l.get eb
  refine ⟨fun d q => ?_, fun q => ?_⟩
  · unfold Src.nxt at q
    simp only at q
    split at q
    · rename_i xs ys e1 e2
      obtain ⟨vs, b1, c1⟩ := S.lst e1 ep
      obtain ⟨ws, b2, c2⟩ := S.lst e2 eq
      cases q2 : (xs.zip ys)[i]? with
      | none => rw [q2] at q; cases q
      | some d' =>
        rw [q2] at q
        cases q
        rw [List.getElem?_zip_eq_some] at q2
        obtain ⟨v, v1, v2⟩ := c1.get q2.1
        obtain ⟨w, w1, w2⟩ := c2.get q2.2
        refine ⟨⟨vs, ws, v, w, .of b1, .of b2, v1, w1⟩, fun x H' y => ?_⟩
        obtain ⟨T, x', y', rfl, hT, rfl, z1, z2⟩ := y
        have z1 := z1 vs (.of b1)
        have z2 := z2 ws (.of b2)
        rw [v1] at z1
        rw [w1] at z2
        cases z1
        cases z2
        have l4 : Le K H μ (upd H T (.tup [v, w])) μ := le_new hT
        exact ⟨S.new hT, l4, rp_tup (SqT.of upd_same) (Rps.cons (Rp.mono l4 _ _ v2) (Rps.cons (Rp.mono l4 _ _ w2) Rps.nil))⟩
    · cases q
  · unfold Src.nxt at q
    simp only at q
    split at q
    · rename_i xs ys e1 e2
      obtain ⟨vs, b1, c1⟩ := S.lst e1 ep
      obtain ⟨ws, b2, c2⟩ := S.lst e2 eq
      refine ⟨vs, ws, .of b1, .of b2, ?_⟩
      rw [c1.len, c2.len]
      have := Option.some.inj q
      simp at this
      omega
    · cases q
theorem j_zipT {a b : Addr} {xs ys : List D} {vs ws : List V} {H0 : Hp} {μ0 : List Addr} (b1 : SqT K H0 a vs) (c1 : Rps K H0 μ0 xs vs) (b2 : SqT K H0 b ws) (c2 : Rps K H0 μ0 ys ws) : JOk Φ K (RZ.ItzT K a b) (.fix (zipD xs ys)) H0 μ0 := by
  intro i H μ h S l
  have b1 := l.tup _ _ b1
  have c1 := Rps.mono l _ _ c1
  have b2 := l.tup _ _ b2
  have c2 := Rps.mono l _ _ c2
  refine ⟨fun d q => ?_, fun q => ?_⟩
  · have q := Option.some.inj q
    unfold zipD at q
    rw [List.getElem?_map] at q
    cases q2 : (xs.zip ys)[i]? with
    | none => rw [q2] at q; cases q
    | some d' =>
      rw [q2] at q
      cases q
      rw [List.getElem?_zip_eq_some] at q2
      obtain ⟨v, v1, v2⟩ := c1.get q2.1
      obtain ⟨w, w1, w2⟩ := c2.get q2.2
      refine ⟨⟨vs, ws, v, w, b1, b2, v1, w1⟩, fun x H' y => ?_⟩
      obtain ⟨T, x', y', rfl, hT, rfl, z1, z2⟩ := y
      have z1 := z1 vs b1
      have z2 := z2 ws b2
      rw [v1] at z1
      rw [w1] at z2
      cases z1
      cases z2
      have l4 : Le K H μ (upd H T (.tup [v, w])) μ := le_new hT
      exact ⟨S.new hT, l4, rp_tup (SqT.of upd_same) (Rps.cons (Rp.mono l4 _ _ v2) (Rps.cons (Rp.mono l4 _ _ w2) Rps.nil))⟩
  · refine ⟨vs, ws, b1, b2, ?_⟩
    rw [c1.len, c2.len]
    have := Option.some.inj q
    unfold zipD at this
    simp at this
    omega
theorem di_zip {elts : List Expr} {kk : Nat} {tpos : Pos} (ha : DA K X [e, e2] ta ma) (hm : X.mg "zip" = none) (hg : Gl X "zip" := by rfl) (hs : starEach [e, e2] X.env = (false, eval e X.env) :: starEach [e2] X.env := by rfl) (hpl : (backTo pos (starEach [e2] X.env)).any (·.1) = false := by rfl) :
    DI K X (.Tuple elts kk tpos) (.Call (.Name "zip" p) [e, e2] [] pos) (RZ.iZipA K ta) (zipI ma) := ⟨ha.k, by
  have hk := ha.k
  subst hk
  exact RZ.pi_zipA hg hm ha.p hs hpl, by
  intro Φ σ H μ sg h s h' S rs e R k
  unfold zipI at e
  split at e
  · rename_i n m h1 e1
    split at e
    · rename_i xs ys q1 q2
      cases e
      refine ha.s σ H μ sg h _ _ S rs e1 _ fun vs H1 μ1 S1 l1 r1 => ?_
      obtain ⟨v, w, rfl, r2, r3⟩ := rps2 r1
      obtain ⟨a, ea, rfl⟩ := rp_at' r2
      obtain ⟨b, eb, rfl⟩ := rp_at' r3
      obtain ⟨ws, b1, c1⟩ := S1.lst q1 ea
      obtain ⟨us, b2, c2⟩ := S1.lst q2 eb
      exact ⟨a, b, ws, us, rfl, .inl ⟨.of b1, .of b2, k _ H1 μ1 S1 l1 (j_zipL ea eb)⟩⟩
    · cases e
  · rename_i xs ys h1 e1
    cases e
    refine ha.s σ H μ sg h _ _ S rs e1 _ fun vs H1 μ1 S1 l1 r1 => ?_
    obtain ⟨v, w, rfl, r2, r3⟩ := rps2 r1
    obtain ⟨a, ws, rfl, b1, c1⟩ := rp_tup' r2
    obtain ⟨b, us, rfl, b2, c2⟩ := rp_tup' r3
    exact ⟨a, b, ws, us, rfl, .inr ⟨b1, b2, k _ H1 μ1 S1 l1 (j_zipT b1 c1 b2 c2)⟩⟩
  · cases e⟩
end
/-! ### sorted(xs) of data -/
def sortedD : GC := fun xs h => match xs with
  | [.at n] => match h[n]? with
    | some (.lst ds) => match datsD h ds with
      | some ps => if okSortB ps = true then some (.at h.length, h ++ [.lst (sortV ds ps)]) else none
      | none => none
    | _ => none
  | _ => none
def rSorted (K : Kw) : List V → Hp → VK → Prop := fun vs H Q => ∃ (a : Addr) (xs : List V) (ps : List PyData), vs = [.ref a] ∧ SqL K H a xs ∧ EachIs (Dp K H) xs ps ∧ okSort ps ∧ ∀ p, H p = none → Q (.ref p) (upd H p (.lst (sortV xs ps)))
section
variable {K : Kw} {X : Cx}
theorem call_sortedP (hu : X.A.units + 128 < cLine) (hK : KOf X = K := by rfl) : CallR X (.builtin "sorted") (rSorted K) := by
  subst hK
  intro pins s σ H vs us Q I r h
  obtain ⟨a, xs, ps, rfl, hs, hp, hok, q⟩ := h
  obtain rfl := Vals.ref1 r
  obtain ⟨its, rv, p1, hz⟩ := I.list hs
  have hlen := rv.length
  have hpl : ps.length = xs.length := by
    have := hp.length
    omega
  have rd : EachIs (fun v (b : V × PyData) => ∃ as, Reads s.heap v b.2 as) its (xs.zip ps) := by
    have : ∀ {xs : List V} {its : List Value} {ps : List PyData}, Vals xs its → EachIs (Dp (KOf X) H) xs ps → EachIs (fun v (b : V × PyData) => ∃ as, Reads s.heap v b.2 as) its (xs.zip ps) := by
      intro xs its ps r
      induction r generalizing ps with
      | nil => intro e; cases e; exact .nil
      | cons r1 _ ih =>
        intro e
        cases e with
        | cons e1 er => exact .cons (Dp.reads I _ _ _ e1 r1) (ih er)
    exact this rv hp
  have ez : (xs.zip ps).map (·.2) = ps := zip_snd xs ps hpl
  refine sorted_data (enc := fun (b : V × PyData) => b.2) (R := fun u (b : V × PyData) => RelV b.1 u) p1.isList (each_zip (vals_each rv) hpl) rd (by rw [ez]; exact hok.1) (by rw [ez]; exact hok.2.1) (by rw [List.length_zip]; omega)
    (fun b hb => by
      have := hok.2.2 b.2 (List.of_mem_zip (show (b.1, b.2) ∈ xs.zip ps from hb)).2
      omega) fun out hl eo => ?_
  have vo : Vals (sortV xs ps) out := each_vals (each_map (R := fun (u : Value) (x : V) => RelV x u) (fun p : V × PyData => p.1) eo)
  have hlo : (sortV xs ps).length ≤ sizeLine := by
    unfold sortV
    rw [List.length_map, List.length_mergeSort, List.length_zip]
    omega
  obtain ⟨c, hc⟩ := PyProof.Rows.sortedAll_at s.heap its out.toArray
  exact ⟨.ref _, upd H (s.heap.objs.size + 1) (.lst (sortV xs ps)), I.laid (t' := s.toks) (fun _ _ => PyProof.Rows.sortedAll_old) (Nat.le_succ _) ⟨hlo, out, c, vo, hc⟩, rfl, q _ (I.hok.fresh (Nat.le_succ _))⟩
theorem sc_sortedP : SC K (rSorted K) sortedD := by
  intro Φ H μ h xs vs d h' S r e Q k
  unfold sortedD at e
  split at e
  · split at e
    · rename_i ds q
      split at e
      · rename_i ps q2
        split at e
        · rename_i hok
          cases e
          obtain ⟨v, rfl, a⟩ := rps1 r
          obtain ⟨p, ep, rfl⟩ := rp_at' a
          obtain ⟨ws, b, c⟩ := S.lst q ep
          exact ⟨p, ws, ps, rfl, .of b, dats_of S c q2, okSort_of hok, fun l hl => kn_lst S (sort_rps c (datsD_len q2)) k l hl⟩
        · cases e
      · cases e
    · cases e
  · cases e
end
/-! ### xs.remove(x) of data -/
def firstEq (q : PyData) : List PyData → Option Nat
  | [] => none
  | p :: ps => if PyData.eqv p q = true then some 0 else (firstEq q ps).map (· + 1)
def removeD : GM := fun x xs h => match x, xs with
  | .at n, [y] => match h[n]? with
    | some (.lst ds) => match datsD h ds, datD h y with
      | some ps, some q => if (ps.all fun p => p.canLay0 && decide (p.depth ≤ 60)) = true ∧ q.canLay0 = true then match firstEq q ps with
        | some j => some (.non, h.set n (.lst (ds.eraseIdx j)))
        | none => none else none
      | _, _ => none
    | _ => none
  | _, _ => none
theorem firstEq_at {q : PyData} : ∀ {ps : List PyData} {j : Nat}, firstEq q ps = some j → (∃ p, ps[j]? = some p ∧ PyData.eqv p q = true) ∧ ∀ i p, i < j → ps[i]? = some p → PyData.eqv p q = false
  | [], j, e => by cases e
  | p :: ps, j, e => by
    unfold firstEq at e
    split at e
    · rename_i c
      cases e
      exact ⟨⟨p, rfl, c⟩, fun i p' hi => by omega⟩
    · rename_i c
      obtain ⟨k, hk, rfl⟩ := Option.map_eq_some_iff.mp e
      obtain ⟨a, b⟩ := firstEq_at hk
      refine ⟨a, fun i p' hi e' => ?_⟩
      cases i with
      | zero => cases e'; simpa using c
      | succ i => exact b i p' (by omega) (by simpa using e')
def rRemove (K : Kw) : V → List V → Hp → VK → Prop := fun x vs H Q => ∃ (l : Addr) (xs : List V) (y : V) (ps : List PyData) (q : PyData) (j : Nat), x = .ref l ∧ vs = [y] ∧ H l = some (.lst xs) ∧ EachIs (Dp K H) xs ps ∧ Dp K H y q ∧
  (∀ p ∈ ps, p.canLay0 = true ∧ p.depth ≤ 60) ∧ q.canLay0 = true ∧ firstEq q ps = some j ∧ Q .non (upd H l (.lst (xs.eraseIdx j)))
section
variable {K : Kw} {X : Cx}
theorem each_at {α β : Type} {R : α → β → Prop} : ∀ {as : List α} {bs : List β}, EachIs R as bs → ∀ (i : Nat) (a : α), as[i]? = some a → ∃ b : β, bs[i]? = some b ∧ R a b
  | _, _, .nil, i, a, e => by cases e
  | _, _, .cons r t, 0, a, e => by cases e; exact ⟨_, rfl, r⟩
  | _, _, .cons r t, i + 1, a, e => each_at t i a (by simpa using e)
theorem vals_erase : ∀ {xs : List V} {us : List Value} (j : Nat), Vals xs us → Vals (xs.eraseIdx j) (us.eraseIdx j)
  | _, _, j, .nil => by simpa using Paired.nil
  | _, _, 0, .cons r t => by simpa using t
  | _, _, j + 1, .cons r t => by simpa using Paired.cons r (vals_erase j t)
theorem mt_remove (hu : X.A.units + 66 < cLine) (hK : KOf X = K := by rfl) : MtR X "list.remove" (rRemove K) := by
  subst hK
  intro pins s σ H x vs v us Q I rx rv h
  obtain ⟨l, xs, y, ps, q, j, rfl, rfl, hH, hp, hq, hc, hcq, hj, k⟩ := h
  cases rx
  obtain ⟨u, rfl, ru⟩ := rv.one
  obtain ⟨z, its, n, r, hl, e⟩ := I.lstM hH
  obtain ⟨bs, rq⟩ := Dp.reads I q y u hq ru
  have hlen := r.length
  have hpl := hp.length
  obtain ⟨⟨pj, ej, cj⟩, hbefore⟩ := firstEq_at hj
  have hjl : j < ps.length := (List.getElem?_eq_some_iff.mp ej).1
  let C : Value → PyData → Prop := fun y p => (∃ as, Reads s.heap y p as) ∧ p.canLay0 = true ∧ p.depth ≤ 60
  have one : ∀ i (hi : i < its.length), ∃ p, ps[i]? = some p ∧ C its[i] p := by
    intro i hi
    have hx : xs[i]? = some xs[i] := List.getElem?_eq_getElem (by omega)
    obtain ⟨p, ep, dp⟩ := each_at hp i _ hx
    obtain ⟨u', hu', ru'⟩ := r.get hx
    rw [List.getElem?_eq_getElem hi] at hu'
    cases hu'
    obtain ⟨as, rp⟩ := Dp.reads I p _ _ dp ru'
    obtain ⟨c1, c2⟩ := hc p (List.mem_of_getElem? ep)
    exact ⟨p, ep, ⟨as, rp⟩, c1, c2⟩
  have uni : ∀ {y : Value} {p p' : PyData}, C y p → C y p' → p = p' := by
    rintro y p p' ⟨⟨as, a1⟩, a2, a3⟩ ⟨⟨bs, b1⟩, b2, b3⟩
    exact SeqAt.Reads.unique p p' y as bs a2 a1 b1
  have eqs : ∀ {y : Value} {p : PyData}, C y p → SeqAt.EqAt X.A.in1 s y u (PyData.eqv p q) := by
    rintro y p ⟨⟨as, a1⟩, a2, a3⟩
    exact SeqAt.eqAt_reads p q X.A.in1 s y u as bs a1 rq a2 hcq (by show X.A.units + 1 + _ < _; omega)
  let ev : Value → Bool := fun y => @decide (∃ p, C y p ∧ PyData.eqv p q = true) (Classical.propDecidable _)
  have ev_of : ∀ {y : Value} {p : PyData}, C y p → ev y = PyData.eqv p q := by
    intro y p c
    cases e : PyData.eqv p q with
    | true => exact @decide_eq_true _ (Classical.propDecidable _) ⟨p, c, e⟩
    | false =>
      refine @decide_eq_false _ (Classical.propDecidable _) fun h => ?_
      obtain ⟨p', c', e'⟩ := h
      rw [uni c' c, e] at e'
      cases e'
  have hjs : j < its.toArray.size := by rw [List.size_toArray]; omega
  have hsz : its.toArray.size ≤ sizeLine := by rw [List.size_toArray]; omega
  have atj : ∀ i (hi : i < its.toArray.size), ∃ p, ps[i]? = some p ∧ C its.toArray[i] p := fun i hi => by
    obtain ⟨p, a, b⟩ := one i (by simpa using hi)
    exact ⟨p, a, by simpa using b⟩
  refine call_meets PySem.F.slot_list_remove ⟨_, e, rfl⟩ PySem.F.entry_list_remove (PySem.F.args_list_remove_2 _ _) (SeqAt.list_removeAt l _ n _ _ u ev j hjs ?_ (fun m hm hmj => ?_) hsz) ⟨e, ?_, ?_⟩
  · obtain ⟨p, a, b⟩ := atj j hjs
    rw [ev_of b]
    rw [ej] at a
    cases a
    exact cj
  · obtain ⟨p, a, b⟩ := atj m hm
    rw [ev_of b]
    exact hbefore m p hmj a
  · intro y hy
    obtain ⟨i, hi, rfl⟩ := Array.mem_iff_getElem.mp hy
    obtain ⟨p, a, b⟩ := atj i hi
    rw [ev_of b]
    exact eqs b
  · refine ⟨.non, _, I.lset (its' := its.eraseIdx j) hH e ?_ (vals_erase j r) ?_, rfl, k⟩
    · simp
    · have := List.length_eraseIdx_le xs j
      omega
theorem sm_remove : SM K (rRemove K) removeD := by
  intro Φ H μ h x v xs vs d h' S r1 r2 e Q k
  unfold removeD at e
  split at e
  · rename_i n y
    split at e
    · rename_i ds q
      split at e
      · rename_i ps p q1 q2
        split at e
        · rename_i c
          split at e
          · rename_i j q3
            cases e
            obtain ⟨l, el, rfl⟩ := rp_at' r1
            obtain ⟨w, rfl, a⟩ := rps1 r2
            obtain ⟨ws, b, c2⟩ := S.lst q el
            have hall := c.1
            rw [List.all_eq_true] at hall
            refine ⟨l, ws, w, ps, p, j, rfl, rfl, b, dats_of S c2 q1, dat_of S a q2, fun p' hp' => ?_, c.2, q3, ?_⟩
            · have := hall p' hp'
              rw [Bool.and_eq_true, decide_eq_true_eq] at this
              exact this
            · have hr : Rps K H μ (ds.eraseIdx j) (ws.eraseIdx j) := by
                have : ∀ {ds : List D} {ws : List V} (j : Nat), Rps K H μ ds ws → Rps K H μ (ds.eraseIdx j) (ws.eraseIdx j) := by
                  intro ds
                  induction ds with
                  | nil => intro ws j r; rw [r.nil']; simpa using Rps.nil
                  | cons d ds ih =>
                    intro ws j r
                    obtain ⟨w, ws', rfl, r1, r2⟩ := r.cons'
                    cases j with
                    | zero => simpa using r2
                    | succ j => simpa using Rps.cons r1 (ih j r2)
                exact this j c2
              exact kn_set (d := .non) (v := .non) S el hr rp_non k
          · cases e
        · cases e
      · cases e
    · cases e
  · cases e
end
theorem hu66 {A : Around} {k : Nat} (hr : RoomG k A) : A.units + 66 < cLine := by have := hr.r.un; omega
theorem hu128 {A : Around} {k : Nat} (hr : RoomG k A) : A.units + 128 < cLine := by have := hr.r.un; omega
/-! ### told from the end -/
section
variable {h : Hd} {Q : D → Hd → Prop} {sg : Sg}
theorem lf_ltP {x y : D} {p q : PyData} (e1 : datD h x = some p) (e2 : datD h y = some q) (e3 : okOrd p q = true) (k : Q (.bl (dataLt p q)) h) : Ev (ltPD x y h) Q := ⟨_, _, by simp only [ltPD, e1, e2, if_pos e3], k⟩
theorem lf_gtP {x y : D} {p q : PyData} (e1 : datD h x = some p) (e2 : datD h y = some q) (e3 : okOrd p q = true) (k : Q (.bl (dataLt q p)) h) : Ev (gtPD x y h) Q := ⟨_, _, by simp only [gtPD, e1, e2, if_pos e3], k⟩
theorem yl_zip {n m : Nat} {xs ys : List D} {h : Hd} (e1 : h[n]? = some (.lst xs)) (e2 : h[m]? = some (.lst ys)) : Yields (.zip n m) (zipD xs ys) h := fun i => by
  simp only [Src.nxt, e1, e2, zipD, List.getElem?_map]
theorem ev_zipT {a : MA} {Q : Src → Hd → Prop} (q : Ev (a sg h) fun xs h1 => ∃ us vs, xs = [.tup us, .tup vs] ∧ Q (.fix (zipD us vs)) h1) : Ev (zipI a sg h) Q := by
  obtain ⟨xs, h1, e, us, vs, rfl, q⟩ := q
  exact ⟨_, _, by simp only [zipI, e], q⟩
theorem ev_zipL {a : MA} {Q : Src → Hd → Prop} (q : Ev (a sg h) fun xs h1 => ∃ n m us vs, xs = [.at n, .at m] ∧ h1[n]? = some (.lst us) ∧ h1[m]? = some (.lst vs) ∧ Q (.zip n m) h1) : Ev (zipI a sg h) Q := by
  obtain ⟨xs, h1, e, n, m, us, vs, rfl, e1, e2, q⟩ := q
  exact ⟨_, _, by simp only [zipI, e, e1, e2], q⟩
theorem ev_sortK {m : GC} {a : MA} (q : Ev (a sg h) fun xs h1 => ∃ x ds ks h2 ps, xs = [x] ∧ itemsD h1 x = some ds ∧ keysM m ds h1 = some (ks, h2) ∧ datsD h2 ks = some ps ∧ okSortB ps = true ∧ Q (.at h2.length) (h2 ++ [.lst (sortV ds ps)])) : Ev (sortKM m a sg h) Q := by
  obtain ⟨xs, h1, e, x, ds, ks, h2, ps, rfl, e1, e2, e3, e4, q⟩ := q
  exact ⟨_, _, by simp only [sortKM, e, e1, e2, e3, if_pos e4], q⟩
theorem lf_sortedP {n : Nat} {ds : List D} {ps : List PyData} (e : h[n]? = some (.lst ds)) (e2 : datsD h ds = some ps) (c : okSortB ps = true) (q : Q (.at h.length) (h ++ [.lst (sortV ds ps)])) : Ev (sortedD [.at n] h) Q := ⟨_, _, by simp only [sortedD, e, e2, if_pos c], q⟩
theorem lf_remove {n j : Nat} {y : D} {ds : List D} {ps : List PyData} {p : PyData} (e : h[n]? = some (.lst ds)) (e2 : datsD h ds = some ps) (e3 : datD h y = some p) (c : (ps.all fun p => p.canLay0 && decide (p.depth ≤ 60)) = true ∧ p.canLay0 = true) (e4 : firstEq p ps = some j) (q : Q .non (h.set n (.lst (ds.eraseIdx j)))) : Ev (removeD (.at n) [y] h) Q := ⟨_, _, by simp only [removeD, e, e2, e3, if_pos c, e4], q⟩
end
end DL

namespace K03
open PySem L2 DL
def topS (i : Nat) : Stmt := PySem.Challenge.pw_hornhall_k03_whole_order_of_terms.main.body.getD i (.Pass ⟨0, 0, 0, 0⟩)
structure Zs (mg : Str → Option Value) : Prop where
  «abs» : mg "abs" = none
  «all» : mg "all" = none
  «bool» : mg "bool" = none
  «dict» : mg "dict" = none
  «enumerate» : mg "enumerate" = none
  «int» : mg "int" = none
  «isinstance» : mg "isinstance" = none
  «len» : mg "len" = none
  «list» : mg "list" = none
  «max» : mg "max" = none
  «min» : mg "min" = none
  «ord» : mg "ord" = none
  «range» : mg "range" = none
  «sorted» : mg "sorted" = none
  «str» : mg "str" = none
  «tuple» : mg "tuple" = none
  «zip» : mg "zip" = none
abbrev k_MOST_ARGUMENTS : D := .int 8
abbrev k_MOST_SIGNS : D := .int 40
abbrev k_TOO_GREAT : D := .int 1000000000000000000000000000000000000000000000000000000000000000000000000000000000000000000000000000000000000000000000000000000000000000000000000000000000000000000000000000000000000000000000000000000000000000000000000000000000000000000000000000000000000000000000000000000000000000000000000000000000000
structure Ys (K : Kw) (mg : Str → Option Value) : Prop where
  g_MOST_ARGUMENTS : Kst K mg "MOST_ARGUMENTS" k_MOST_ARGUMENTS
  g_MOST_SIGNS : Kst K mg "MOST_SIGNS" k_MOST_SIGNS
  g_TOO_GREAT : Kst K mg "TOO_GREAT" k_TOO_GREAT
/-! ### own exceptions -/
abbrev LX : List Str := ["BadTerm"]
abbrev TX : XTab := [("BadTerm", ["term"])]
def subX (a b : Str) : Bool := ([("BadTerm", "BadTerm"), ("BadTerm", "HornError")] : List (Str × Str)).contains (a, b)
abbrev si_BadTerm : Stmt := (clsBody (topS 2)).getD 0 (.Pass ⟨0, 0, 0, 0⟩)
theorem sci_BadTerm : FnScope ["self", "term"] ["self", "term"] (defScope si_BadTerm) := ⟨rfl, rfl, rfl, by decide +kernel, rfl, by decide +kernel, by decide +kernel⟩
theorem i_BadTerm {P : Program} {w : World} {K : PySem.W.Frag} {mg : Str → Option Value} {base : Heap} {C fI : Addr} {fd : FuncData} (b : BasC K mg "HornError") (T : OexC K C) (n0 : PySem.W.findIn K (.ref C) "term" = some none) (F : Fun K "__init__" "BadTerm.__init__" si_BadTerm fI fd) : FnOk P w K mg base (L2.CX P w) 1 fI fd ["self", "term"] (spI K C ["term"]) :=
  F.okX sci_BadTerm (fun vs H Q E h => spI_len h) fun cdv A outer s H vs Q E hr h => ⟨_, pss_cons (ps_expr (pe_binit b rfl (pa_cons (pv 0) pa_nil))) (pss_one (ps_ost (pv 0) (pv 1))), ini1 T n0 h⟩
structure Qs (K : PySem.W.Frag) (mg : Str → Option Value) : Prop where
  t_BadTerm : ExT K mg "BadTerm" ["term"]
  tab : ExTab K mg TX
abbrev s_is_int : Stmt := topS 7
abbrev N_is_int : List Str := ["thing"]
abbrev P_is_int : List Str := ["thing"]
theorem sc_is_int : FnScope N_is_int P_is_int (defScope s_is_int) := ⟨rfl, rfl, rfl, by decide +kernel, rfl, by decide +kernel, by decide +kernel⟩
abbrev s_is_variable : Stmt := topS 8
abbrev N_is_variable : List Str := ["thing"]
abbrev P_is_variable : List Str := ["thing"]
theorem sc_is_variable : FnScope N_is_variable P_is_variable (defScope s_is_variable) := ⟨rfl, rfl, rfl, by decide +kernel, rfl, by decide +kernel, by decide +kernel⟩
abbrev s_is_any_number : Stmt := topS 9
abbrev N_is_any_number : List Str := ["thing"]
abbrev P_is_any_number : List Str := ["thing"]
theorem sc_is_any_number : FnScope N_is_any_number P_is_any_number (defScope s_is_any_number) := ⟨rfl, rfl, rfl, by decide +kernel, rfl, by decide +kernel, by decide +kernel⟩
abbrev s_is_any_atom : Stmt := topS 10
abbrev N_is_any_atom : List Str := ["thing", "sign"]
abbrev P_is_any_atom : List Str := ["thing"]
theorem sc_is_any_atom : FnScope N_is_any_atom P_is_any_atom (defScope s_is_any_atom) := ⟨rfl, rfl, rfl, by decide +kernel, rfl, by decide +kernel, by decide +kernel⟩
abbrev s_is_compound : Stmt := topS 11
abbrev N_is_compound : List Str := ["term"]
abbrev P_is_compound : List Str := ["term"]
theorem sc_is_compound : FnScope N_is_compound P_is_compound (defScope s_is_compound) := ⟨rfl, rfl, rfl, by decide +kernel, rfl, by decide +kernel, by decide +kernel⟩
abbrev s_is_term : Stmt := topS 12
abbrev N_is_term : List Str := ["thing", "waiting", "part"]
abbrev P_is_term : List Str := ["thing"]
theorem sc_is_term : FnScope N_is_term P_is_term (defScope s_is_term) := ⟨rfl, rfl, rfl, by decide +kernel, rfl, by decide +kernel, by decide +kernel⟩
abbrev s_check_terms : Stmt := topS 13
abbrev N_check_terms : List Str := ["things", "thing"]
abbrev P_check_terms : List Str := ["things"]
theorem sc_check_terms : FnScope N_check_terms P_check_terms (defScope s_check_terms) := ⟨rfl, rfl, rfl, by decide +kernel, rfl, by decide +kernel, by decide +kernel⟩
abbrev s_parts_of : Stmt := topS 14
abbrev N_parts_of : List Str := ["term", "found", "waiting", "part"]
abbrev P_parts_of : List Str := ["term"]
theorem sc_parts_of : FnScope N_parts_of P_parts_of (defScope s_parts_of) := ⟨rfl, rfl, rfl, by decide +kernel, rfl, by decide +kernel, by decide +kernel⟩
abbrev s_order_key : Stmt := topS 16
abbrev N_order_key : List Str := ["term", "found", "part"]
abbrev P_order_key : List Str := ["term"]
theorem sc_order_key : FnScope N_order_key P_order_key (defScope s_order_key) := ⟨rfl, rfl, rfl, by decide +kernel, rfl, by decide +kernel, by decide +kernel⟩
abbrev s_compare_terms : Stmt := topS 17
abbrev N_compare_terms : List Str := ["one", "other", "here", "there"]
abbrev P_compare_terms : List Str := ["one", "other"]
theorem sc_compare_terms : FnScope N_compare_terms P_compare_terms (defScope s_compare_terms) := ⟨rfl, rfl, rfl, by decide +kernel, rfl, by decide +kernel, by decide +kernel⟩
abbrev s_sort_terms : Stmt := topS 18
abbrev N_sort_terms : List Str := ["terms"]
abbrev P_sort_terms : List Str := ["terms"]
theorem sc_sort_terms : FnScope N_sort_terms P_sort_terms (defScope s_sort_terms) := ⟨rfl, rfl, rfl, by decide +kernel, rfl, by decide +kernel, by decide +kernel⟩
abbrev s__law_cell_at : Stmt := topS 20
abbrev N__law_cell_at : List Str := ["script", "k"]
abbrev P__law_cell_at : List Str := ["script", "k"]
theorem sc__law_cell_at : FnScope N__law_cell_at P__law_cell_at (defScope s__law_cell_at) := ⟨rfl, rfl, rfl, by decide +kernel, rfl, by decide +kernel, by decide +kernel⟩
abbrev s__law_well : Stmt := topS 21
abbrev N__law_well : List Str := ["cell"]
abbrev P__law_well : List Str := ["cell"]
theorem sc__law_well : FnScope N__law_well P__law_well (defScope s__law_well) := ⟨rfl, rfl, rfl, by decide +kernel, rfl, by decide +kernel, by decide +kernel⟩
abbrev s__law_draw : Stmt := topS 22
abbrev N__law_draw : List Str := ["well", "many", "digit", "mixed"]
abbrev P__law_draw : List Str := ["well", "many"]
theorem sc__law_draw : FnScope N__law_draw P__law_draw (defScope s__law_draw) := ⟨rfl, rfl, rfl, by decide +kernel, rfl, by decide +kernel, by decide +kernel⟩
abbrev s__law_one : Stmt := topS 23
abbrev N__law_one : List Str := ["well", "some"]
abbrev P__law_one : List Str := ["well", "some"]
theorem sc__law_one : FnScope N__law_one P__law_one (defScope s__law_one) := ⟨rfl, rfl, rfl, by decide +kernel, rfl, by decide +kernel, by decide +kernel⟩
abbrev s__law_leaf : Stmt := topS 24
abbrev N__law_leaf : List Str := ["well", "many", "way", "great"]
abbrev P__law_leaf : List Str := ["well", "many"]
theorem sc__law_leaf : FnScope N__law_leaf P__law_leaf (defScope s__law_leaf) := ⟨rfl, rfl, rfl, by decide +kernel, rfl, by decide +kernel, by decide +kernel⟩
abbrev s__law_term : Stmt := topS 25
abbrev N__law_term : List Str := ["well", "deep", "many", "some", "name", "arity", "k"]
abbrev P__law_term : List Str := ["well", "deep", "many"]
theorem sc__law_term : FnScope N__law_term P__law_term (defScope s__law_term) := ⟨rfl, rfl, rfl, by decide +kernel, rfl, by decide +kernel, by decide +kernel⟩
abbrev s__law_is_variable : Stmt := topS 26
abbrev N__law_is_variable : List Str := ["term"]
abbrev P__law_is_variable : List Str := ["term"]
theorem sc__law_is_variable : FnScope N__law_is_variable P__law_is_variable (defScope s__law_is_variable) := ⟨rfl, rfl, rfl, by decide +kernel, rfl, by decide +kernel, by decide +kernel⟩
abbrev s__law_is_compound : Stmt := topS 27
abbrev N__law_is_compound : List Str := ["term"]
abbrev P__law_is_compound : List Str := ["term"]
theorem sc__law_is_compound : FnScope N__law_is_compound P__law_is_compound (defScope s__law_is_compound) := ⟨rfl, rfl, rfl, by decide +kernel, rfl, by decide +kernel, by decide +kernel⟩
abbrev s__law_parts : Stmt := topS 28
abbrev N__law_parts : List Str := ["term", "found", "part"]
abbrev P__law_parts : List Str := ["term"]
theorem sc__law_parts : FnScope N__law_parts P__law_parts (defScope s__law_parts) := ⟨rfl, rfl, rfl, by decide +kernel, rfl, by decide +kernel, by decide +kernel⟩
abbrev s__law_numbers : Stmt := topS 29
abbrev N__law_numbers : List Str := ["term", "found", "part"]
abbrev P__law_numbers : List Str := ["term"]
theorem sc__law_numbers : FnScope N__law_numbers P__law_numbers (defScope s__law_numbers) := ⟨rfl, rfl, rfl, by decide +kernel, rfl, by decide +kernel, by decide +kernel⟩
abbrev s__law_put : Stmt := topS 30
abbrev N__law_put : List Str := ["term", "table", "part"]
abbrev P__law_put : List Str := ["term", "table"]
theorem sc__law_put : FnScope N__law_put P__law_put (defScope s__law_put) := ⟨rfl, rfl, rfl, by decide +kernel, rfl, by decide +kernel, by decide +kernel⟩
abbrev s__law_anew : Stmt := topS 31
abbrev N__law_anew : List Str := ["term", "first", "at", "number"]
abbrev P__law_anew : List Str := ["term", "first"]
theorem sc__law_anew : FnScope N__law_anew P__law_anew (defScope s__law_anew) := ⟨rfl, rfl, rfl, by decide +kernel, rfl, by decide +kernel, by decide +kernel⟩
abbrev s__law_rank : Stmt := topS 32
abbrev N__law_rank : List Str := ["term"]
abbrev P__law_rank : List Str := ["term"]
theorem sc__law_rank : FnScope N__law_rank P__law_rank (defScope s__law_rank) := ⟨rfl, rfl, rfl, by decide +kernel, rfl, by decide +kernel, by decide +kernel⟩
abbrev s__law_order : Stmt := topS 33
abbrev N__law_order : List Str := ["one", "other", "ranks", "mine", "its", "found"]
abbrev P__law_order : List Str := ["one", "other"]
theorem sc__law_order : FnScope N__law_order P__law_order (defScope s__law_order) := ⟨rfl, rfl, rfl, by decide +kernel, rfl, by decide +kernel, by decide +kernel⟩
abbrev s__law_near : Stmt := topS 34
abbrev N__law_near : List Str := ["well", "term", "at"]
abbrev P__law_near : List Str := ["well", "term"]
theorem sc__law_near : FnScope N__law_near P__law_near (defScope s__law_near) := ⟨rfl, rfl, rfl, by decide +kernel, rfl, by decide +kernel, by decide +kernel⟩
abbrev s__law_right : Stmt := topS 35
abbrev N__law_right : List Str := ["well", "some", "turn", "one", "other", "found", "left", "back"]
abbrev P__law_right : List Str := ["well"]
theorem sc__law_right : FnScope N__law_right P__law_right (defScope s__law_right) := ⟨rfl, rfl, rfl, by decide +kernel, rfl, by decide +kernel, by decide +kernel⟩
abbrev s_law : Stmt := topS 36
abbrev N_law : List Str := ["script", "k"]
abbrev P_law : List Str := ["script"]
theorem sc_law : FnScope N_law P_law (defScope s_law) := ⟨rfl, rfl, rfl, by decide +kernel, rfl, by decide +kernel, by decide +kernel⟩
/-! ### the mirrors -/
section
def m_is_int (NF RD : Nat) : GC := bodyM 1 (retM (andM (cbM isiD (consM (varM 0) (consM (cM (.ty "int")) nilM))) (notM (cbM isiD (consM (varM 0) (consM (cM (.ty "bool")) nilM))))))
def m_is_variable (NF RD : Nat) : GC := bodyM 1 (retM (andM (cbM isiD (consM (varM 0) (consM (cM (.ty "tuple")) nilM))) (andM (opM eqD (cbM lenD (consM (varM 0) nilM)) (cM (.int 1))) (andM (callM 1 (m_is_int NF RD) [] (consM (opM subsD (varM 0) (cM (.int 0))) nilM)) (opM geD (opM subsD (varM 0) (cM (.int 0))) (cM (.int 0)))))))
def m_is_any_number (NF RD : Nat) : GC := bodyM 1 (retM (andM (callM 1 (m_is_int NF RD) [] (consM (varM 0) nilM)) (opM ltD (cbM absD (consM (varM 0) nilM)) (cM k_TOO_GREAT))))
def E_is_any_atom_0 (NF RD : Nat) : ME := (andM (chainM leD leD (cM (.str " ")) (varM 1) (cM (.str "~"))) (opM neD (cbM ordD (consM (varM 1) nilM)) (cM (.int 37))))
def m_is_any_atom (NF RD : Nat) : GC := bodyM 2 (seqM (ifSM (torM (tnotM (truM (cbM isiD (consM (varM 0) (consM (cM (.ty "str")) nilM))))) (testM (opM gtD (cbM lenD (consM (varM 0) nilM)) (cM k_MOST_SIGNS)))) (retM (cM (.bl false))) passM) (retM (cbM allD (consM (lcM (seqI (varM 0)) (nameG 1) yesM (E_is_any_atom_0 NF RD) [1] NF) nilM))))
def m_is_compound (NF RD : Nat) : GC := bodyM 1 (retM (andM (cbM isiD (consM (varM 0) (consM (cM (.ty "tuple")) nilM))) (opM gtD (cbM lenD (consM (varM 0) nilM)) (cM (.int 1)))))
def C_is_term_0 (NF RD : Nat) : MT := (testM (opM neD (varM 1) (lstM nilM)))
def B_is_term_1 (NF RD : Nat) : MS := (seqM (asgM (bmM "list" popD (varM 1) nilM) (nameG 2)) (ifSM (truM (callM 1 (m_is_compound NF RD) [] (consM (varM 2) nilM))) (seqM (ifSM (torM (testM (opM gtD (cbM lenD (consM (varM 2) nilM)) (opM addD (cM k_MOST_ARGUMENTS) (cM (.int 1))))) (tnotM (truM (callM 1 (m_is_any_atom NF RD) [] (consM (opM subsD (varM 2) (cM (.int 0))) nilM))))) (retM (cM (.bl false))) passM) (exprM (bmM "list" extendD (varM 1) (consM (slM (varM 2) (partM (cM (.int 1))) noM) nilM)))) (ifSM (tandM (tnotM (truM (callM 1 (m_is_variable NF RD) [] (consM (varM 2) nilM)))) (tandM (tnotM (truM (callM 1 (m_is_any_number NF RD) [] (consM (varM 2) nilM)))) (tnotM (truM (callM 1 (m_is_any_atom NF RD) [] (consM (varM 2) nilM)))))) (retM (cM (.bl false))) passM)))
def m_is_term (NF RD : Nat) : GC := bodyM 3 (seqM (asgM (lstM (consM (varM 0) nilM)) (nameG 1)) (seqM (whileM (C_is_term_0 NF RD) (B_is_term_1 NF RD) NF) (retM (cM (.bl true)))))
def B_check_terms_0 (NF RD : Nat) : MS := (ifSM (tnotM (truM (callM 1 (m_is_term NF RD) [] (consM (varM 1) nilM)))) neverM passM)
def X_check_terms_1 (NF RD : Nat) : MX := (ifX (tnotM (truM (callM 1 (m_is_term NF RD) [] (consM (varM 1) nilM)))) (raiseX "BadTerm" ["term"] (consM (varM 1) nilM)) noX)
def m_check_terms (NF RD : Nat) : GC := bodyM 2 (forSM (seqI (varM 0)) (nameG 1) (B_check_terms_0 NF RD) NF)
def C_parts_of_0 (NF RD : Nat) : MT := (testM (opM neD (varM 2) (lstM nilM)))
def B_parts_of_1 (NF RD : Nat) : MS := (seqM (asgM (bmM "list" popD (varM 2) nilM) (nameG 3)) (seqM (exprM (bmM "list" appendD (varM 1) (consM (varM 3) nilM))) (ifSM (truM (callM 1 (m_is_compound NF RD) [] (consM (varM 3) nilM))) (exprM (bmM "list" extendD (varM 2) (consM (backM (varM 3) (partM (cM (.int 0))) (partM (negM (cM (.int 1))))) nilM))) passM)))
def m_parts_of (NF RD : Nat) : GC := bodyM 4 (seqM (parM 1 2 (consM (lstM nilM) (consM (lstM (consM (varM 0) nilM)) nilM))) (seqM (whileM (C_parts_of_0 NF RD) (B_parts_of_1 NF RD) NF) (retM (varM 1))))
def B_order_key_0 (NF RD : Nat) : MS := (ifSM (truM (callM 1 (m_is_variable NF RD) [] (consM (varM 2) nilM))) (exprM (bmM "list" appendD (varM 1) (consM (tupM (consM (cM (.int 0)) (consM (opM subsD (varM 2) (cM (.int 0))) (consM (cM (.str "")) nilM)))) nilM))) (ifSM (truM (callM 1 (m_is_compound NF RD) [] (consM (varM 2) nilM))) (exprM (bmM "list" appendD (varM 1) (consM (tupM (consM (cM (.int 3)) (consM (opM subD (cbM lenD (consM (varM 2) nilM)) (cM (.int 1))) (consM (opM subsD (varM 2) (cM (.int 0))) nilM)))) nilM))) (ifSM (truM (cbM isiD (consM (varM 2) (consM (cM (.ty "str")) nilM)))) (exprM (bmM "list" appendD (varM 1) (consM (tupM (consM (cM (.int 2)) (consM (cM (.int 0)) (consM (varM 2) nilM)))) nilM))) (exprM (bmM "list" appendD (varM 1) (consM (tupM (consM (cM (.int 1)) (consM (varM 2) (consM (cM (.str "")) nilM)))) nilM))))))
def m_order_key (NF RD : Nat) : GC := bodyM 3 (seqM (asgM (lstM nilM) (nameG 1)) (seqM (forSM (seqI (callM 1 (m_parts_of NF RD) [] (consM (varM 0) nilM))) (nameG 2) (B_order_key_0 NF RD) NF) (retM (varM 1))))
def m_compare_terms (NF RD : Nat) : GC := bodyM 4 (seqM (exprM (callM 1 (m_check_terms NF RD) [] (consM (lstM (consM (varM 0) (consM (varM 1) nilM))) nilM))) (seqM (parM 2 3 (consM (callM 1 (m_order_key NF RD) [] (consM (varM 0) nilM)) (consM (callM 1 (m_order_key NF RD) [] (consM (varM 1) nilM)) nilM))) (retM (opM subD (cbM intD (consM (opM gtPD (varM 2) (varM 3)) nilM)) (cbM intD (consM (opM ltPD (varM 2) (varM 3)) nilM))))))
def m_sort_terms (NF RD : Nat) : GC := bodyM 1 (seqM (ifSM (tnotM (truM (cbM isi2D (consM (varM 0) (consM (tupM (consM (cM (.ty "list")) (consM (cM (.ty "tuple")) nilM))) nilM))))) neverM passM) (seqM (exprM (callM 1 (m_check_terms NF RD) [] (consM (varM 0) nilM))) (retM (sortKM (m_order_key NF RD) (consM (varM 0) nilM)))))
def m__law_cell_at (NF RD : Nat) : GC := bodyM 2 (retM (ifM (testM (opM ltD (varM 1) (cbM lenD (consM (varM 0) nilM)))) (opM subsD (varM 0) (varM 1)) (cM (.int 0))))
def m__law_well (NF RD : Nat) : GC := bodyM 1 (seqM (asgM (cbM absD (consM (varM 0) nilM)) (nameG 0)) (retM (lstM (consM (opM mulD (varM 0) (cbM intD (consM (opM geD (varM 0) (opM powD (cM (.int 10)) (cM (.int 18)))) nilM))) (consM (opM addD (opM modD (cbM intD (consM (varM 0) nilM)) (cM (.int 2147483647))) (cM (.int 1))) (consM (cM (.int 5)) nilM))))))
def m__law_draw (NF RD : Nat) : GC := bodyM 4 (seqM (ifSM (testM (opM gtD (opM subsD (varM 0) (cM (.int 0))) (cM (.int 0)))) (seqM (asgM (opM modZD (cbM intD (consM (opM subsD (varM 0) (cM (.int 0))) nilM)) (varM 1)) (nameG 2)) (seqM (setD (varM 0) (cM (.int 0)) (opM fdivZD (opM subsD (varM 0) (cM (.int 0))) (varM 1))) (retM (varM 2)))) passM) (seqM (setD (varM 0) (cM (.int 2)) (opM addD (opM subsD (varM 0) (cM (.int 2))) (cM (.int 1)))) (seqM (asgM (opM modD (cbM intD (consM (opM mulD (opM addD (opM subsD (varM 0) (cM (.int 1))) (opM mulD (cM (.int 7853)) (opM subsD (varM 0) (cM (.int 2))))) (cM (.int 48271))) nilM)) (cM (.int 2147483647))) (nameG 3)) (seqM (asgM (opM modD (cbM intD (consM (opM mulD (varM 3) (opM addD (opM addD (opM fdivD (varM 3) (cM (.int 1013))) (cM (.int 69621))) (opM subsD (varM 0) (cM (.int 2))))) nilM)) (cM (.int 2147483587))) (nameG 3)) (retM (opM modZD (cbM intD (consM (opM fdivD (opM modD (cbM intD (consM (opM mulD (varM 3) (opM addD (opM fdivD (varM 3) (cM (.int 2003))) (cM (.int 40692)))) nilM)) (cM (.int 2147483399))) (cM (.int 7))) nilM)) (varM 1)))))))
def m__law_one (NF RD : Nat) : GC := bodyM 2 (retM (opM subsD (varM 1) (callM 2 (m__law_draw NF RD) [] (consM (varM 0) (consM (cbM lenD (consM (varM 1) nilM)) nilM)))))
def m__law_leaf (NF RD : Nat) : GC := bodyM 4 (seqM (asgM (callM 2 (m__law_draw NF RD) [] (consM (varM 0) (consM (cM (.int 7)) nilM))) (nameG 2)) (seqM (ifSM (tandM (testM (opM ltD (varM 2) (cM (.int 4)))) (testM (opM gtD (varM 1) (cM (.int 0))))) (retM (tupM (consM (callM 2 (m__law_draw NF RD) [] (consM (varM 0) (consM (varM 1) nilM))) nilM))) passM) (seqM (ifSM (testM (opM eqD (varM 2) (cM (.int 4)))) (seqM (asgM (opM subD (opM mulD (opM powD (opM powD (cM (.int 10)) (cM (.int 60))) (cM (.int 4))) (opM powD (cM (.int 10)) (cM (.int 59)))) (cM (.int 1))) (nameG 3)) (retM (callM 2 (m__law_one NF RD) [] (consM (varM 0) (consM (lstM (consM (cM (.int 0)) (consM (cM (.int 1)) (consM (cM (.int 7)) (consM (negM (cM (.int 1))) (consM (varM 3) (consM (opM subD (callM 2 (m__law_draw NF RD) [] (consM (varM 0) (consM (opM powD (cM (.int 10)) (cM (.int 9))) nilM))) (opM mulD (cM (.int 5)) (opM powD (cM (.int 10)) (cM (.int 8))))) nilM))))))) nilM))))) passM) (retM (callM 2 (m__law_one NF RD) [] (consM (varM 0) (consM (lstM (consM (cM (.str "a")) (consM (cM (.str "b")) (consM (cM (.str "[]")) (consM (cM (.str "")) (consM (cM (.str "f")) (consM (cM (.str "Aa")) (consM (cM (.str "~ !")) (consM (opM mulD (cM (.str "a")) (cM (.int 40))) nilM))))))))) nilM)))))))
def E__law_term_0 (NF RD : Nat) (rec : GC) : ME := (callM 3 rec [] (consM (varM 0) (consM (opM subD (varM 1) (cM (.int 1))) (consM (varM 2) nilM))))
def m__law_term (NF RD : Nat) : Nat → GC
  | 0 => fun _ _ => none
  | k + 1 => bodyM 7 (seqM (ifSM (torM (testM (opM leD (varM 1) (cM (.int 1)))) (testM (opM eqD (callM 2 (m__law_draw NF RD) [] (consM (varM 0) (consM (cM (.int 4)) nilM))) (cM (.int 0))))) (retM (callM 2 (m__law_leaf NF RD) [] (consM (varM 0) (consM (varM 2) nilM)))) passM) (seqM (asgM (lstM (consM (tupM (consM (cM (.str "f")) (consM (cM (.int 1)) nilM))) (consM (tupM (consM (cM (.str "f")) (consM (cM (.int 2)) nilM))) (consM (tupM (consM (cM (.str "g")) (consM (cM (.int 2)) nilM))) (consM (tupM (consM (cM (.str ".")) (consM (cM (.int 2)) nilM))) (consM (tupM (consM (cM (.str "")) (consM (cM (.int 1)) nilM))) (consM (tupM (consM (cM (.str "f")) (consM (cM (.int 2)) nilM))) nilM))))))) (nameG 3)) (seqM (asgM (callM 2 (m__law_one NF RD) [] (consM (varM 0) (consM (opM addD (varM 3) (ifM (testM (opM eqD (varM 1) (cM (.int 2)))) (lstM (consM (tupM (consM (cM (.str "h")) (consM (cM (.int 3)) nilM))) (consM (tupM (consM (cM (.str "k")) (consM (cM (.int 8)) nilM))) nilM))) (lstM nilM))) nilM))) (uplG 2 (consG (nameG 4) (consG (nameG 5) nilG)))) (retM (opM addD (tupM (consM (varM 4) nilM)) (cbM tuplD (consM (lcM (rngI (consM (varM 5) nilM)) (nameG 6) yesM (E__law_term_0 NF RD (m__law_term NF RD k)) [6] NF) nilM)))))))
def m__law_is_variable (NF RD : Nat) : GC := bodyM 1 (retM (andM (cbM isiD (consM (varM 0) (consM (cM (.ty "tuple")) nilM))) (opM eqD (cbM lenD (consM (varM 0) nilM)) (cM (.int 1)))))
def m__law_is_compound (NF RD : Nat) : GC := bodyM 1 (retM (andM (cbM isiD (consM (varM 0) (consM (cM (.ty "tuple")) nilM))) (opM gtD (cbM lenD (consM (varM 0) nilM)) (cM (.int 1)))))
def B__law_parts_0 (NF RD : Nat) (rec : GC) : MS := (asgM (opM addD (varM 1) (callM 1 rec [] (consM (varM 2) nilM))) (nameG 1))
def m__law_parts (NF RD : Nat) : Nat → GC
  | 0 => fun _ _ => none
  | k + 1 => bodyM 3 (seqM (asgM (lstM (consM (varM 0) nilM)) (nameG 1)) (seqM (forSM (seqI (ifM (truM (callM 1 (m__law_is_compound NF RD) [] (consM (varM 0) nilM))) (slM (varM 0) (partM (cM (.int 1))) noM) (tupM nilM))) (nameG 2) (B__law_parts_0 NF RD (m__law_parts NF RD k)) NF) (retM (varM 1))))
def B__law_numbers_0 (NF RD : Nat) : MS := (ifSM (tandM (truM (callM 1 (m__law_is_variable NF RD) [] (consM (varM 2) nilM))) (testM (opM (inD true) (opM subsD (varM 2) (cM (.int 0))) (varM 1)))) (exprM (bmM "list" appendD (varM 1) (consM (opM subsD (varM 2) (cM (.int 0))) nilM))) passM)
def m__law_numbers (NF RD : Nat) : GC := bodyM 3 (seqM (asgM (lstM nilM) (nameG 1)) (seqM (forSM (seqI (callM 1 (m__law_parts NF RD RD) [] (consM (varM 0) nilM))) (nameG 2) (B__law_numbers_0 NF RD) NF) (retM (varM 1))))
def E__law_put_0 (NF RD : Nat) (rec : GC) : ME := (callM 2 rec [] (consM (varM 2) (consM (varM 1) nilM)))
def m__law_put (NF RD : Nat) : Nat → GC
  | 0 => fun _ _ => none
  | k + 1 => bodyM 3 (seqM (ifSM (truM (callM 1 (m__law_is_variable NF RD) [] (consM (varM 0) nilM))) (retM (getD2 (varM 1) (opM subsD (varM 0) (cM (.int 0))) (varM 0))) passM) (seqM (ifSM (tnotM (truM (callM 1 (m__law_is_compound NF RD) [] (consM (varM 0) nilM)))) (retM (varM 0)) passM) (retM (opM addD (tupM (consM (opM subsD (varM 0) (cM (.int 0))) nilM)) (cbM tuplD (consM (lcM (seqI (slM (varM 0) (partM (cM (.int 1))) noM)) (nameG 2) yesM (E__law_put_0 NF RD (m__law_put NF RD k)) [2] NF) nilM))))))
def E__law_anew_0 (NF RD : Nat) : ME := (tupM (consM (varM 3) (consM (tupM (consM (opM addD (varM 1) (varM 2)) nilM)) nilM)))
def m__law_anew (NF RD : Nat) : GC := bodyM 4 (retM (callM 2 (m__law_put NF RD RD) [] (consM (varM 0) (consM (cbM dictD (consM (lcM (enuI (consM (callM 1 (m__law_numbers NF RD) [] (consM (varM 0) nilM)) nilM)) (tupG 2 (consG (nameG 2) (consG (nameG 3) nilG))) yesM (E__law_anew_0 NF RD) [2, 3] NF) nilM)) nilM))))
def m__law_rank (NF RD : Nat) : GC := bodyM 1 (seqM (ifSM (truM (cbM isiD (consM (varM 0) (consM (cM (.ty "tuple")) nilM)))) (retM (ifM (testM (opM eqD (cbM lenD (consM (varM 0) nilM)) (cM (.int 1)))) (cM (.int 0)) (cM (.int 3)))) passM) (retM (ifM (truM (cbM isiD (consM (varM 0) (consM (cM (.ty "str")) nilM)))) (cM (.int 2)) (cM (.int 1)))))
def B__law_order_0 (NF RD : Nat) (rec : GC) : MS := (seqM (asgM (callM 2 rec [] (consM (varM 3) (consM (varM 4) nilM))) (nameG 5)) (ifSM (testM (opM neD (varM 5) (cM (.int 0)))) (retM (varM 5)) passM))
def B__law_order_1 (NF RD : Nat) (rec : GC) : MS := (ifSM (testM (opM neD (varM 3) (varM 4))) (retM (ifM (testM (opM ltPD (varM 3) (varM 4))) (negM (cM (.int 1))) (cM (.int 1)))) passM)
def m__law_order (NF RD : Nat) : Nat → GC
  | 0 => fun _ _ => none
  | k + 1 => bodyM 6 (seqM (asgM (tupM (consM (callM 1 (m__law_rank NF RD) [] (consM (varM 0) nilM)) (consM (callM 1 (m__law_rank NF RD) [] (consM (varM 1) nilM)) nilM))) (nameG 2)) (seqM (ifSM (testM (opM neD (opM subsD (varM 2) (cM (.int 0))) (opM subsD (varM 2) (cM (.int 1))))) (retM (ifM (testM (opM ltPD (opM subsD (varM 2) (cM (.int 0))) (opM subsD (varM 2) (cM (.int 1))))) (negM (cM (.int 1))) (cM (.int 1)))) passM) (seqM (ifSM (testM (opM ltPD (opM subsD (varM 2) (cM (.int 0))) (cM (.int 3)))) (retM (ifM (testM (opM eqD (varM 0) (varM 1))) (cM (.int 0)) (ifM (testM (opM ltPD (varM 0) (varM 1))) (negM (cM (.int 1))) (cM (.int 1))))) passM) (seqM (forSM (seqI (tupM (consM (tupM (consM (cbM lenD (consM (varM 0) nilM)) (consM (cbM lenD (consM (varM 1) nilM)) nilM))) (consM (tupM (consM (opM subsD (varM 0) (cM (.int 0))) (consM (opM subsD (varM 1) (cM (.int 0))) nilM))) nilM)))) (tupG 2 (consG (nameG 3) (consG (nameG 4) nilG))) (B__law_order_1 NF RD (m__law_order NF RD k)) NF) (seqM (forSM (zipI (consM (slM (varM 0) (partM (cM (.int 1))) noM) (consM (slM (varM 1) (partM (cM (.int 1))) noM) nilM))) (tupG 2 (consG (nameG 3) (consG (nameG 4) nilG))) (B__law_order_0 NF RD (m__law_order NF RD k)) NF) (retM (cM (.int 0))))))))
def m__law_near (NF RD : Nat) : Nat → GC
  | 0 => fun _ _ => none
  | k + 1 => bodyM 3 (seqM (ifSM (torM (tnotM (truM (callM 1 (m__law_is_compound NF RD) [] (consM (varM 1) nilM)))) (testM (opM eqD (callM 2 (m__law_draw NF RD) [] (consM (varM 0) (consM (cM (.int 4)) nilM))) (cM (.int 0))))) (retM (callM 3 (m__law_term NF RD RD) [] (consM (varM 0) (consM (cM (.int 2)) (consM (cM (.int 4)) nilM))))) passM) (seqM (asgM (callM 2 (m__law_draw NF RD) [] (consM (varM 0) (consM (cbM lenD (consM (varM 1) nilM)) nilM))) (nameG 2)) (seqM (ifSM (testM (opM eqD (varM 2) (cM (.int 0)))) (retM (opM addD (tupM (consM (callM 2 (m__law_one NF RD) [] (consM (varM 0) (consM (lstM (consM (cM (.str "f")) (consM (cM (.str "g")) (consM (cM (.str "")) (consM (cM (.str "~")) nilM))))) nilM))) nilM)) (slM (varM 1) (partM (cM (.int 1))) noM))) passM) (retM (opM addD (opM addD (slM (varM 1) noM (partM (varM 2))) (tupM (consM (callM 2 (m__law_near NF RD k) [] (consM (varM 0) (consM (opM subsD (varM 1) (varM 2)) nilM))) nilM))) (slM (varM 1) (partM (opM addD (varM 2) (cM (.int 1)))) noM))))))
def B__law_right_0 (NF RD : Nat) : MS := (seqM (ifSM (torM (testM (opM (inPD true) (varM 3) (varM 6))) (testM (opM gtD (callM 2 (m__law_order NF RD RD) [] (consM (varM 3) (consM (varM 4) nilM))) (cM (.int 0))))) (retM (cM (.bl false))) passM) (exprM (bmM "list" removeD (varM 6) (consM (varM 3) nilM))))
def B__law_right_1 (NF RD : Nat) : MS := (ifSM (torM (testM (opM neD (callM 2 (m_compare_terms NF RD) [] (consM (varM 3) (consM (varM 4) nilM))) (callM 2 (m__law_order NF RD RD) [] (consM (varM 3) (consM (varM 4) nilM))))) (testM (opM neD (opM eqD (callM 2 (m__law_order NF RD RD) [] (consM (varM 3) (consM (varM 4) nilM))) (cM (.int 0))) (opM eqD (varM 3) (varM 4))))) (retM (cM (.bl false))) passM)
def B__law_right_2 (NF RD : Nat) : MS := (forSM (seqI (varM 1)) (nameG 4) (B__law_right_1 NF RD) NF)
def B__law_right_3 (NF RD : Nat) : MS := (exprM (bmM "list" appendD (varM 1) (consM (ifM (testM (opM gtD (callM 2 (m__law_draw NF RD) [] (consM (varM 0) (consM (cM (.int 4)) nilM))) (cM (.int 0)))) (callM 2 (m__law_near NF RD RD) [] (consM (varM 0) (consM (callM 2 (m__law_one NF RD) [] (consM (varM 0) (consM (varM 1) nilM))) nilM))) (callM 3 (m__law_term NF RD RD) [] (consM (varM 0) (consM (cM (.int 4)) (consM (cM (.int 4)) nilM))))) nilM)))
def m__law_right (NF RD : Nat) : GC := bodyM 8 (seqM (asgM (lstM (consM (callM 3 (m__law_term NF RD RD) [] (consM (varM 0) (consM (cM (.int 4)) (consM (cM (.int 4)) nilM)))) nilM)) (nameG 1)) (seqM (forSM (rngI (consM (callM 2 (m__law_draw NF RD) [] (consM (varM 0) (consM (cM (.int 9)) nilM))) nilM)) (nameG 2) (B__law_right_3 NF RD) NF) (seqM (forSM (seqI (varM 1)) (nameG 3) (B__law_right_2 NF RD) NF) (seqM (asgM (callM 1 (m_sort_terms NF RD) [] (consM (varM 1) nilM)) (nameG 5)) (seqM (asgM (cbM listD (consM (varM 1) nilM)) (nameG 6)) (seqM (forSM (zipI (consM (varM 5) (consM (opM addD (slM (varM 5) (partM (cM (.int 1))) noM) (slM (varM 5) (partM (negM (cM (.int 1)))) noM)) nilM))) (tupG 2 (consG (nameG 3) (consG (nameG 4) nilG))) (B__law_right_0 NF RD) NF) (seqM (asgM (callM 1 (m_sort_terms NF RD) [] (consM (cbM tuplD (consM (backM (varM 1) noM (partM (negM (cM (.int 1))))) nilM)) nilM)) (nameG 7)) (seqM (exprM (bmM "list" appendD (varM 5) (consM (cM .non) nilM))) (retM (andM (opM eqD (varM 6) (lstM nilM)) (andM (opM eqD (varM 7) (slM (varM 5) noM (partM (negM (cM (.int 1)))))) (opM eqD (varM 7) (callM 1 (m_sort_terms NF RD) [] (consM (slM (varM 5) noM (partM (negM (cM (.int 1))))) nilM))))))))))))))
def B_law_0 (NF RD : Nat) : MS := (ifSM (tnotM (truM (callM 1 (m__law_right NF RD) [] (consM (callM 1 (m__law_well NF RD) [] (consM (callM 2 (m__law_cell_at NF RD) [] (consM (varM 0) (consM (varM 1) nilM))) nilM)) nilM)))) (retM (cM (.bl false))) passM)
def m_law (NF RD : Nat) : GC := bodyM 2 (seqM (ifSM (torM (testM (opM neD (opM addD (callM 1 (m_sort_terms NF RD) [] (consM (lstM nilM) nilM)) (callM 1 (m_sort_terms NF RD) [] (consM (tupM nilM) nilM))) (lstM nilM))) (testM (opM neD (callM 1 (m_sort_terms NF RD) [] (consM (lstM (consM (tupM (consM (cM (.int 2)) nilM)) nilM)) nilM)) (lstM (consM (tupM (consM (cM (.int 2)) nilM)) nilM))))) (retM (cM (.bl false))) passM) (seqM (forSM (rngI (consM (cbM maxD (consM (cM (.int 1)) (consM (cbM minD (consM (cM (.int 8)) (consM (cbM lenD (consM (varM 0) nilM)) nilM))) nilM))) nilM)) (nameG 1) (B_law_0 NF RD) NF) (retM (cM (.bl true)))))
end
/-! ### each def keeps its mirror -/
section
variable {P : Program} {w : World} {K : PySem.W.Frag} {mg : Str → Option Value} {base : Heap} (NF RD : Nat)
theorem c_is_int {L : Nat} (g : Got K mg "is_int" s_is_int P_is_int) (z : Zs mg) (y : Ys ⟨K, w⟩ mg) (q : Qs K mg) : CalM P w K mg base (L + 1) "is_int" 1 (m_is_int NF RD) noGX [] := by
  have nd := sc_is_int.nd
  refine Got.cal (ps := P_is_int) (N := N_is_int) (ms := (retM (andM (cbM isiD (consM (varM 0) (consM (cM (.ty "int")) nilM))) (notM (cbM isiD (consM (varM 0) (consM (cM (.ty "bool")) nilM))))))) (xs := noX) g sc_is_int fun f cdv A outer s H E hr => ?_
  exact ⟨_, (dssx_one (DS.x (ds_ret (de_and (de_callB sc_isi call_isiU z.«isinstance» (da_cons (de_var 0) (da_cons (de_ty z.«int») da_nil))) (de_one (de_not (de_callB sc_isi call_isiU z.«isinstance» (da_cons (de_var 0) (da_cons (de_ty z.«bool») da_nil)))))))))⟩
theorem c_is_variable {L : Nat} (g : Got K mg "is_variable" s_is_variable P_is_variable) (z : Zs mg) (y : Ys ⟨K, w⟩ mg) (q : Qs K mg) (c_is_int : CalM P w K mg base L "is_int" 1 (m_is_int NF RD) noGX []) : CalM P w K mg base (L + 1) "is_variable" 1 (m_is_variable NF RD) noGX [] := by
  have nd := sc_is_variable.nd
  refine Got.cal (ps := P_is_variable) (N := N_is_variable) (ms := (retM (andM (cbM isiD (consM (varM 0) (consM (cM (.ty "tuple")) nilM))) (andM (opM eqD (cbM lenD (consM (varM 0) nilM)) (cM (.int 1))) (andM (callM 1 (m_is_int NF RD) [] (consM (opM subsD (varM 0) (cM (.int 0))) nilM)) (opM geD (opM subsD (varM 0) (cM (.int 0))) (cM (.int 0)))))))) (xs := noX) g sc_is_variable fun f cdv A outer s H E hr => ?_
  exact ⟨_, (dssx_one (DS.x (ds_ret (de_and (de_callB sc_isi call_isiU z.«isinstance» (da_cons (de_var 0) (da_cons (de_ty z.«tuple») da_nil))) (de_and (de_cmp so_eq (op_eqU (hu64 hr)) (de_callB sc_len call_lenU z.«len» (da_cons (de_var 0) da_nil)) de_int) (de_and (de_call c_is_int hr (da_cons (de_sub (de_var 0) de_int (hu1 hr)) da_nil) (by omega)) (de_one (de_cmp so_ge op_geU (de_sub (de_var 0) de_int (hu1 hr)) de_int))))))))⟩
theorem c_is_any_number {L : Nat} (g : Got K mg "is_any_number" s_is_any_number P_is_any_number) (z : Zs mg) (y : Ys ⟨K, w⟩ mg) (q : Qs K mg) (c_is_int : CalM P w K mg base L "is_int" 1 (m_is_int NF RD) noGX []) : CalM P w K mg base (L + 1) "is_any_number" 1 (m_is_any_number NF RD) noGX [] := by
  have nd := sc_is_any_number.nd
  refine Got.cal (ps := P_is_any_number) (N := N_is_any_number) (ms := (retM (andM (callM 1 (m_is_int NF RD) [] (consM (varM 0) nilM)) (opM ltD (cbM absD (consM (varM 0) nilM)) (cM k_TOO_GREAT))))) (xs := noX) g sc_is_any_number fun f cdv A outer s H E hr => ?_
  exact ⟨_, (dssx_one (DS.x (ds_ret (de_and (de_call c_is_int hr (da_cons (de_var 0) da_nil) (by omega)) (de_one (de_cmp so_lt op_ltU (de_callB sc_abs call_abs z.«abs» (da_cons (de_var 0) da_nil)) y.g_TOO_GREAT.de))))))⟩
theorem c_is_any_atom {L : Nat} (g : Got K mg "is_any_atom" s_is_any_atom P_is_any_atom) (z : Zs mg) (y : Ys ⟨K, w⟩ mg) (q : Qs K mg) : CalM P w K mg base (L + 1) "is_any_atom" 1 (m_is_any_atom NF RD) noGX [] := by
  have nd := sc_is_any_atom.nd
  refine Got.cal (ps := P_is_any_atom) (N := N_is_any_atom) (ms := (seqM (ifSM (torM (tnotM (truM (cbM isiD (consM (varM 0) (consM (cM (.ty "str")) nilM))))) (testM (opM gtD (cbM lenD (consM (varM 0) nilM)) (cM k_MOST_SIGNS)))) (retM (cM (.bl false))) passM) (retM (cbM allD (consM (lcM (seqI (varM 0)) (nameG 1) yesM (E_is_any_atom_0 NF RD) [1] NF) nilM))))) (xs := noX) g sc_is_any_atom fun f cdv A outer s H E hr => ?_
  exact ⟨_, (dssx_cons0 (dsx_if0 (dt_w (dw_or (dt_not (dt_tru (de_callB sc_isi call_isiU z.«isinstance» (da_cons (de_var 0) (da_cons (de_ty z.«str») da_nil))))) (dw_or1 (dt_cmp so_gt op_gtU (de_callB sc_len call_lenU z.«len» (da_cons (de_var 0) da_nil)) y.g_MOST_SIGNS.de)))) (dssx_one (DS.x (ds_ret de_bl))) dssx_nil) (dssx_one (DS.x (ds_ret (de_callB sc_all call_allU z.«all» (da_cons (de_lc (own := [("sign", 1)]) NF nd (di_seq (de_var 0)) (blkOk_by (N := N_is_any_atom) (sc := (defScope s_is_any_atom)) (by decide +kernel)) (only_name (by decide)) (fun _ _ _ _ _ => (dg_name 1 nd)) (fun _ _ _ _ _ => dts_nil) (fun _ _ _ _ _ => (de_and (de_chain so_le op_leU so_le op_leU de_str (de_var 1) de_str) (de_one (de_cmp so_ne (op_neU (hu64 hr)) (de_callB sc_ord call_ord z.«ord» (da_cons (de_var 1) da_nil)) de_int))))) da_nil))))))⟩
theorem c_is_compound {L : Nat} (g : Got K mg "is_compound" s_is_compound P_is_compound) (z : Zs mg) (y : Ys ⟨K, w⟩ mg) (q : Qs K mg) : CalM P w K mg base (L + 1) "is_compound" 1 (m_is_compound NF RD) noGX [] := by
  have nd := sc_is_compound.nd
  refine Got.cal (ps := P_is_compound) (N := N_is_compound) (ms := (retM (andM (cbM isiD (consM (varM 0) (consM (cM (.ty "tuple")) nilM))) (opM gtD (cbM lenD (consM (varM 0) nilM)) (cM (.int 1)))))) (xs := noX) g sc_is_compound fun f cdv A outer s H E hr => ?_
  exact ⟨_, (dssx_one (DS.x (ds_ret (de_and (de_callB sc_isi call_isiU z.«isinstance» (da_cons (de_var 0) (da_cons (de_ty z.«tuple») da_nil))) (de_one (de_cmp so_gt op_gtU (de_callB sc_len call_lenU z.«len» (da_cons (de_var 0) da_nil)) de_int))))))⟩
theorem c_is_term {L : Nat} (g : Got K mg "is_term" s_is_term P_is_term) (z : Zs mg) (y : Ys ⟨K, w⟩ mg) (q : Qs K mg) (c_is_compound : CalM P w K mg base L "is_compound" 1 (m_is_compound NF RD) noGX []) (c_is_any_atom : CalM P w K mg base L "is_any_atom" 1 (m_is_any_atom NF RD) noGX []) (c_is_variable : CalM P w K mg base L "is_variable" 1 (m_is_variable NF RD) noGX []) (c_is_any_number : CalM P w K mg base L "is_any_number" 1 (m_is_any_number NF RD) noGX []) : CalM P w K mg base (L + 1) "is_term" 1 (m_is_term NF RD) noGX [] := by
  have nd := sc_is_term.nd
  refine Got.cal (ps := P_is_term) (N := N_is_term) (ms := (seqM (asgM (lstM (consM (varM 0) nilM)) (nameG 1)) (seqM (whileM (C_is_term_0 NF RD) (B_is_term_1 NF RD) NF) (retM (cM (.bl true)))))) (xs := noX) g sc_is_term fun f cdv A outer s H E hr => ?_
  exact ⟨_, (dssx_cons0 (DS.x (ds_set 1 (de_lst (da_cons (de_var 0) da_nil)) nd)) (dssx_cons0 (dsx_while0 NF (dt_cmp so_ne (op_neU (hu64 hr)) (de_var 1) (de_lst da_nil)) (dssx_cons0 (DS.x (ds_set 2 (de_bm0 sm_pop PySem.F.plainAttrs_list PySem.F.slot_list_pop PySem.F.type_list_pop mt_pop (de_var 1)) nd)) (dssx_one (dsx_if0 (dt_tru (de_call c_is_compound hr (da_cons (de_var 2) da_nil) (by omega))) (dssx_cons0 (dsx_if0 (dt_w (dw_or (dt_cmp so_gt op_gtU (de_callB sc_len call_lenU z.«len» (da_cons (de_var 2) da_nil)) (de_op so_add op_addU y.g_MOST_ARGUMENTS.de de_int)) (dw_or1 (dt_not (dt_tru (de_call c_is_any_atom hr (da_cons (de_sub (de_var 2) de_int (hu1 hr)) da_nil) (by omega))))))) (dssx_one (DS.x (ds_ret de_bl))) dssx_nil) (dssx_one (DS.x (ds_expr (de_bm sm_extend PySem.F.plainAttrs_list PySem.F.slot_list_extend PySem.F.type_list_extend mt_extU (de_var 1) (da_cons (de_slice (de_var 2) (do_some de_int) do_none) da_nil)))))) (dssx_one (dsx_if0 (dt_w (dw_and (dt_not (dt_tru (de_call c_is_variable hr (da_cons (de_var 2) da_nil) (by omega)))) (dw_and (dt_not (dt_tru (de_call c_is_any_number hr (da_cons (de_var 2) da_nil) (by omega)))) (dw_and1 (dt_not (dt_tru (de_call c_is_any_atom hr (da_cons (de_var 2) da_nil) (by omega)))))))) (dssx_one (DS.x (ds_ret de_bl))) dssx_nil)))))) (dssx_one (DS.x (ds_ret de_bl)))))⟩
theorem c_check_terms {L : Nat} (g : Got K mg "check_terms" s_check_terms P_check_terms) (z : Zs mg) (y : Ys ⟨K, w⟩ mg) (q : Qs K mg) (c_is_term : CalM P w K mg base (L + 2) "is_term" 1 (m_is_term NF RD) noGX []) : CalM P w K mg base ((L + 2) + 1) "check_terms" 1 (m_check_terms NF RD) noGX [] := by
  have nd := sc_check_terms.nd
  refine Got.cal (ps := P_check_terms) (N := N_check_terms) (ms := (forSM (seqI (varM 0)) (nameG 1) (B_check_terms_0 NF RD) NF)) (xs := noX) g sc_check_terms fun f cdv A outer s H E hr => ?_
  exact ⟨_, (DSsX.no (dssx_one (dsx_for NF (di_seq (de_var 0)) (dg_name 1 nd) (dssx_one (dsx_if (dt_not (dt_tru (de_call c_is_term hr (da_cons (de_var 1) da_nil) (by omega)))) (dssx_one (dsx_raise q.t_BadTerm hr (da_cons (de_var 1) da_nil))) dssx_nil)))))⟩
theorem c_parts_of {L : Nat} (g : Got K mg "parts_of" s_parts_of P_parts_of) (z : Zs mg) (y : Ys ⟨K, w⟩ mg) (q : Qs K mg) (c_is_compound : CalM P w K mg base L "is_compound" 1 (m_is_compound NF RD) noGX []) : CalM P w K mg base (L + 1) "parts_of" 1 (m_parts_of NF RD) noGX [] := by
  have nd := sc_parts_of.nd
  refine Got.cal (ps := P_parts_of) (N := N_parts_of) (ms := (seqM (parM 1 2 (consM (lstM nilM) (consM (lstM (consM (varM 0) nilM)) nilM))) (seqM (whileM (C_parts_of_0 NF RD) (B_parts_of_1 NF RD) NF) (retM (varM 1))))) (xs := noX) g sc_parts_of fun f cdv A outer s H E hr => ?_
  exact ⟨_, (dssx_cons0 (DS.x (ds_par 1 2 (da_cons (de_lst da_nil) (da_cons (de_lst (da_cons (de_var 0) da_nil)) da_nil)) nd)) (dssx_cons0 (dsx_while0 NF (dt_cmp so_ne (op_neU (hu64 hr)) (de_var 2) (de_lst da_nil)) (dssx_cons0 (DS.x (ds_set 3 (de_bm0 sm_pop PySem.F.plainAttrs_list PySem.F.slot_list_pop PySem.F.type_list_pop mt_pop (de_var 2)) nd)) (dssx_cons0 (DS.x (ds_expr (de_bm sm_append PySem.F.plainAttrs_list PySem.F.slot_list_append PySem.F.type_list_append mt_append (de_var 1) (da_cons (de_var 3) da_nil)))) (dssx_one (dsx_if0 (dt_tru (de_call c_is_compound hr (da_cons (de_var 3) da_nil) (by omega))) (dssx_one (DS.x (ds_expr (de_bm sm_extend PySem.F.plainAttrs_list PySem.F.slot_list_extend PySem.F.type_list_extend mt_extU (de_var 2) (da_cons (de_back (de_var 3) (do_some de_int) (do_some (de_neg de_int))) da_nil))))) dssx_nil))))) (dssx_one (DS.x (ds_ret (de_var 1))))))⟩
theorem c_order_key {L : Nat} (g : Got K mg "order_key" s_order_key P_order_key) (z : Zs mg) (y : Ys ⟨K, w⟩ mg) (q : Qs K mg) (c_parts_of : CalM P w K mg base L "parts_of" 1 (m_parts_of NF RD) noGX []) (c_is_variable : CalM P w K mg base L "is_variable" 1 (m_is_variable NF RD) noGX []) (c_is_compound : CalM P w K mg base L "is_compound" 1 (m_is_compound NF RD) noGX []) : CalM P w K mg base (L + 1) "order_key" 1 (m_order_key NF RD) noGX [] := by
  have nd := sc_order_key.nd
  refine Got.cal (ps := P_order_key) (N := N_order_key) (ms := (seqM (asgM (lstM nilM) (nameG 1)) (seqM (forSM (seqI (callM 1 (m_parts_of NF RD) [] (consM (varM 0) nilM))) (nameG 2) (B_order_key_0 NF RD) NF) (retM (varM 1))))) (xs := noX) g sc_order_key fun f cdv A outer s H E hr => ?_
  exact ⟨_, (dssx_cons0 (DS.x (ds_set 1 (de_lst da_nil) nd)) (dssx_cons0 (dsx_for0 NF (di_seq (de_call c_parts_of hr (da_cons (de_var 0) da_nil) (by omega))) (dg_name 2 nd) (dssx_one (dsx_if0 (dt_tru (de_call c_is_variable hr (da_cons (de_var 2) da_nil) (by omega))) (dssx_one (DS.x (ds_expr (de_bm sm_append PySem.F.plainAttrs_list PySem.F.slot_list_append PySem.F.type_list_append mt_append (de_var 1) (da_cons (de_tup (da_cons de_int (da_cons (de_sub (de_var 2) de_int (hu1 hr)) (da_cons de_str da_nil)))) da_nil))))) (dssx_one (dsx_if0 (dt_tru (de_call c_is_compound hr (da_cons (de_var 2) da_nil) (by omega))) (dssx_one (DS.x (ds_expr (de_bm sm_append PySem.F.plainAttrs_list PySem.F.slot_list_append PySem.F.type_list_append mt_append (de_var 1) (da_cons (de_tup (da_cons de_int (da_cons (de_op so_sub op_sub (de_callB sc_len call_lenU z.«len» (da_cons (de_var 2) da_nil)) de_int) (da_cons (de_sub (de_var 2) de_int (hu1 hr)) da_nil)))) da_nil))))) (dssx_one (dsx_if0 (dt_tru (de_callB sc_isi call_isiU z.«isinstance» (da_cons (de_var 2) (da_cons (de_ty z.«str») da_nil)))) (dssx_one (DS.x (ds_expr (de_bm sm_append PySem.F.plainAttrs_list PySem.F.slot_list_append PySem.F.type_list_append mt_append (de_var 1) (da_cons (de_tup (da_cons de_int (da_cons de_int (da_cons (de_var 2) da_nil)))) da_nil))))) (dssx_one (DS.x (ds_expr (de_bm sm_append PySem.F.plainAttrs_list PySem.F.slot_list_append PySem.F.type_list_append mt_append (de_var 1) (da_cons (de_tup (da_cons de_int (da_cons (de_var 2) (da_cons de_str da_nil)))) da_nil)))))))))))) (dssx_one (DS.x (ds_ret (de_var 1))))))⟩
theorem c_compare_terms {L : Nat} (g : Got K mg "compare_terms" s_compare_terms P_compare_terms) (z : Zs mg) (y : Ys ⟨K, w⟩ mg) (q : Qs K mg) (c_check_terms : CalM P w K mg base L "check_terms" 1 (m_check_terms NF RD) noGX []) (c_order_key : CalM P w K mg base L "order_key" 1 (m_order_key NF RD) noGX []) : CalM P w K mg base (L + 1) "compare_terms" 2 (m_compare_terms NF RD) noGX [] := by
  have nd := sc_compare_terms.nd
  refine Got.cal (ps := P_compare_terms) (N := N_compare_terms) (ms := (seqM (exprM (callM 1 (m_check_terms NF RD) [] (consM (lstM (consM (varM 0) (consM (varM 1) nilM))) nilM))) (seqM (parM 2 3 (consM (callM 1 (m_order_key NF RD) [] (consM (varM 0) nilM)) (consM (callM 1 (m_order_key NF RD) [] (consM (varM 1) nilM)) nilM))) (retM (opM subD (cbM intD (consM (opM gtPD (varM 2) (varM 3)) nilM)) (cbM intD (consM (opM ltPD (varM 2) (varM 3)) nilM))))))) (xs := noX) g sc_compare_terms fun f cdv A outer s H E hr => ?_
  exact ⟨_, (dssx_cons0 (DS.x (ds_expr (de_call c_check_terms hr (da_cons (de_lst (da_cons (de_var 0) (da_cons (de_var 1) da_nil))) da_nil) (by omega)))) (dssx_cons0 (DS.x (ds_par 2 3 (da_cons (de_call c_order_key hr (da_cons (de_var 0) da_nil) (by omega)) (da_cons (de_call c_order_key hr (da_cons (de_var 1) da_nil) (by omega)) da_nil)) nd)) (dssx_one (DS.x (ds_ret (de_op so_sub op_sub (de_callTy sc_int call_int1 z.«int» (da_cons (de_cmp so_gtP (op_gtP (hu64 hr)) (de_var 2) (de_var 3)) da_nil)) (de_callTy sc_int call_int1 z.«int» (da_cons (de_cmp so_ltP (op_ltP (hu64 hr)) (de_var 2) (de_var 3)) da_nil))))))))⟩
theorem c_sort_terms {L : Nat} (g : Got K mg "sort_terms" s_sort_terms P_sort_terms) (z : Zs mg) (y : Ys ⟨K, w⟩ mg) (q : Qs K mg) (c_check_terms : CalM P w K mg base (L + 2) "check_terms" 1 (m_check_terms NF RD) noGX []) (c_order_key : CalM P w K mg base (L + 1) "order_key" 1 (m_order_key NF RD) noGX []) : CalM P w K mg base ((L + 2) + 1) "sort_terms" 1 (m_sort_terms NF RD) noGX [] := by
  have nd := sc_sort_terms.nd
  refine Got.cal (ps := P_sort_terms) (N := N_sort_terms) (ms := (seqM (ifSM (tnotM (truM (cbM isi2D (consM (varM 0) (consM (tupM (consM (cM (.ty "list")) (consM (cM (.ty "tuple")) nilM))) nilM))))) neverM passM) (seqM (exprM (callM 1 (m_check_terms NF RD) [] (consM (varM 0) nilM))) (retM (sortKM (m_order_key NF RD) (consM (varM 0) nilM)))))) (xs := noX) g sc_sort_terms fun f cdv A outer s H E hr => ?_
  exact ⟨_, (DSsX.no (dssx_cons (dsx_if (dt_not (dt_tru (de_callB sc_isi2 call_isi2 z.«isinstance» (da_cons (de_var 0) (da_cons (de_tup (da_cons (de_ty z.«list») (da_cons (de_ty z.«tuple») da_nil))) da_nil))))) (dssx_one (dsx_raise q.t_BadTerm hr (da_cons (de_var 0) da_nil))) dssx_nil) (dssx_cons0 (DS.x (ds_expr (de_call c_check_terms hr (da_cons (de_var 0) da_nil) (by omega)))) (dssx_one (DS.x (ds_ret (de_sortK c_order_key hr (da_cons (de_var 0) da_nil) z.«sorted» (by omega))))))))⟩
theorem c__law_cell_at {L : Nat} (g : Got K mg "_law_cell_at" s__law_cell_at P__law_cell_at) (z : Zs mg) (y : Ys ⟨K, w⟩ mg) (q : Qs K mg) : CalM P w K mg base (L + 1) "_law_cell_at" 2 (m__law_cell_at NF RD) noGX [] := by
  have nd := sc__law_cell_at.nd
  refine Got.cal (ps := P__law_cell_at) (N := N__law_cell_at) (ms := (retM (ifM (testM (opM ltD (varM 1) (cbM lenD (consM (varM 0) nilM)))) (opM subsD (varM 0) (varM 1)) (cM (.int 0))))) (xs := noX) g sc__law_cell_at fun f cdv A outer s H E hr => ?_
  exact ⟨_, (dssx_one (DS.x (ds_ret (de_if (dt_cmp so_lt op_ltU (de_var 1) (de_callB sc_len call_lenU z.«len» (da_cons (de_var 0) da_nil))) (de_sub (de_var 0) (de_var 1) (hu1 hr)) de_int))))⟩
theorem c__law_well {L : Nat} (g : Got K mg "_law_well" s__law_well P__law_well) (z : Zs mg) (y : Ys ⟨K, w⟩ mg) (q : Qs K mg) : CalM P w K mg base (L + 1) "_law_well" 1 (m__law_well NF RD) noGX [] := by
  have nd := sc__law_well.nd
  refine Got.cal (ps := P__law_well) (N := N__law_well) (ms := (seqM (asgM (cbM absD (consM (varM 0) nilM)) (nameG 0)) (retM (lstM (consM (opM mulD (varM 0) (cbM intD (consM (opM geD (varM 0) (opM powD (cM (.int 10)) (cM (.int 18)))) nilM))) (consM (opM addD (opM modD (cbM intD (consM (varM 0) nilM)) (cM (.int 2147483647))) (cM (.int 1))) (consM (cM (.int 5)) nilM))))))) (xs := noX) g sc__law_well fun f cdv A outer s H E hr => ?_
  exact ⟨_, (dssx_cons0 (DS.x (ds_set 0 (de_callB sc_abs call_abs z.«abs» (da_cons (de_var 0) da_nil)) nd)) (dssx_one (DS.x (ds_ret (de_lst (da_cons (de_op so_mul op_mulU (de_var 0) (de_callTy sc_int call_int1 z.«int» (da_cons (de_cmp so_ge op_geU (de_var 0) (de_op so_pow op_powW de_int de_int)) da_nil))) (da_cons (de_op so_add op_addU (de_op so_mod op_mod (de_callTy sc_int call_int1 z.«int» (da_cons (de_var 0) da_nil)) de_int) de_int) (da_cons de_int da_nil))))))))⟩
theorem c__law_draw {L : Nat} (g : Got K mg "_law_draw" s__law_draw P__law_draw) (z : Zs mg) (y : Ys ⟨K, w⟩ mg) (q : Qs K mg) : CalM P w K mg base (L + 1) "_law_draw" 2 (m__law_draw NF RD) noGX [] := by
  have nd := sc__law_draw.nd
  refine Got.cal (ps := P__law_draw) (N := N__law_draw) (ms := (seqM (ifSM (testM (opM gtD (opM subsD (varM 0) (cM (.int 0))) (cM (.int 0)))) (seqM (asgM (opM modZD (cbM intD (consM (opM subsD (varM 0) (cM (.int 0))) nilM)) (varM 1)) (nameG 2)) (seqM (setD (varM 0) (cM (.int 0)) (opM fdivZD (opM subsD (varM 0) (cM (.int 0))) (varM 1))) (retM (varM 2)))) passM) (seqM (setD (varM 0) (cM (.int 2)) (opM addD (opM subsD (varM 0) (cM (.int 2))) (cM (.int 1)))) (seqM (asgM (opM modD (cbM intD (consM (opM mulD (opM addD (opM subsD (varM 0) (cM (.int 1))) (opM mulD (cM (.int 7853)) (opM subsD (varM 0) (cM (.int 2))))) (cM (.int 48271))) nilM)) (cM (.int 2147483647))) (nameG 3)) (seqM (asgM (opM modD (cbM intD (consM (opM mulD (varM 3) (opM addD (opM addD (opM fdivD (varM 3) (cM (.int 1013))) (cM (.int 69621))) (opM subsD (varM 0) (cM (.int 2))))) nilM)) (cM (.int 2147483587))) (nameG 3)) (retM (opM modZD (cbM intD (consM (opM fdivD (opM modD (cbM intD (consM (opM mulD (varM 3) (opM addD (opM fdivD (varM 3) (cM (.int 2003))) (cM (.int 40692)))) nilM)) (cM (.int 2147483399))) (cM (.int 7))) nilM)) (varM 1)))))))) (xs := noX) g sc__law_draw fun f cdv A outer s H E hr => ?_
  exact ⟨_, (dssx_cons0 (dsx_if0 (dt_cmp so_gt op_gtU (de_sub (de_var 0) de_int (hu1 hr)) de_int) (dssx_cons0 (DS.x (ds_set 2 (de_op so_modZ op_modN (de_callTy sc_int call_int1 z.«int» (da_cons (de_sub (de_var 0) de_int (hu1 hr)) da_nil)) (de_var 1)) nd)) (dssx_cons0 (DS.x (ds_put (de_var 0) de_int (de_op so_fdivZ op_fdivZ (de_sub (de_var 0) de_int (hu1 hr)) (de_var 1)) (hu1 hr))) (dssx_one (DS.x (ds_ret (de_var 2)))))) dssx_nil) (dssx_cons0 (DS.x (ds_put (de_var 0) de_int (de_op so_add op_addU (de_sub (de_var 0) de_int (hu1 hr)) de_int) (hu1 hr))) (dssx_cons0 (DS.x (ds_set 3 (de_op so_mod op_mod (de_callTy sc_int call_int1 z.«int» (da_cons (de_op so_mul op_mulU (de_op so_add op_addU (de_sub (de_var 0) de_int (hu1 hr)) (de_op so_mul op_mulU de_int (de_sub (de_var 0) de_int (hu1 hr)))) de_int) da_nil)) de_int) nd)) (dssx_cons0 (DS.x (ds_set 3 (de_op so_mod op_mod (de_callTy sc_int call_int1 z.«int» (da_cons (de_op so_mul op_mulU (de_var 3) (de_op so_add op_addU (de_op so_add op_addU (de_op so_fdiv op_fdivW (de_var 3) de_int) de_int) (de_sub (de_var 0) de_int (hu1 hr)))) da_nil)) de_int) nd)) (dssx_one (DS.x (ds_ret (de_op so_modZ op_modN (de_callTy sc_int call_int1 z.«int» (da_cons (de_op so_fdiv op_fdivW (de_op so_mod op_mod (de_callTy sc_int call_int1 z.«int» (da_cons (de_op so_mul op_mulU (de_var 3) (de_op so_add op_addU (de_op so_fdiv op_fdivW (de_var 3) de_int) de_int)) da_nil)) de_int) de_int) da_nil)) (de_var 1)))))))))⟩
theorem c__law_one {L : Nat} (g : Got K mg "_law_one" s__law_one P__law_one) (z : Zs mg) (y : Ys ⟨K, w⟩ mg) (q : Qs K mg) (c__law_draw : CalM P w K mg base L "_law_draw" 2 (m__law_draw NF RD) noGX []) : CalM P w K mg base (L + 1) "_law_one" 2 (m__law_one NF RD) noGX [] := by
  have nd := sc__law_one.nd
  refine Got.cal (ps := P__law_one) (N := N__law_one) (ms := (retM (opM subsD (varM 1) (callM 2 (m__law_draw NF RD) [] (consM (varM 0) (consM (cbM lenD (consM (varM 1) nilM)) nilM)))))) (xs := noX) g sc__law_one fun f cdv A outer s H E hr => ?_
  exact ⟨_, (dssx_one (DS.x (ds_ret (de_sub (de_var 1) (de_call c__law_draw hr (da_cons (de_var 0) (da_cons (de_callB sc_len call_lenU z.«len» (da_cons (de_var 1) da_nil)) da_nil)) (by omega)) (hu1 hr)))))⟩
theorem c__law_leaf {L : Nat} (g : Got K mg "_law_leaf" s__law_leaf P__law_leaf) (z : Zs mg) (y : Ys ⟨K, w⟩ mg) (q : Qs K mg) (c__law_draw : CalM P w K mg base L "_law_draw" 2 (m__law_draw NF RD) noGX []) (c__law_one : CalM P w K mg base L "_law_one" 2 (m__law_one NF RD) noGX []) : CalM P w K mg base (L + 1) "_law_leaf" 2 (m__law_leaf NF RD) noGX [] := by
  have nd := sc__law_leaf.nd
  refine Got.cal (ps := P__law_leaf) (N := N__law_leaf) (ms := (seqM (asgM (callM 2 (m__law_draw NF RD) [] (consM (varM 0) (consM (cM (.int 7)) nilM))) (nameG 2)) (seqM (ifSM (tandM (testM (opM ltD (varM 2) (cM (.int 4)))) (testM (opM gtD (varM 1) (cM (.int 0))))) (retM (tupM (consM (callM 2 (m__law_draw NF RD) [] (consM (varM 0) (consM (varM 1) nilM))) nilM))) passM) (seqM (ifSM (testM (opM eqD (varM 2) (cM (.int 4)))) (seqM (asgM (opM subD (opM mulD (opM powD (opM powD (cM (.int 10)) (cM (.int 60))) (cM (.int 4))) (opM powD (cM (.int 10)) (cM (.int 59)))) (cM (.int 1))) (nameG 3)) (retM (callM 2 (m__law_one NF RD) [] (consM (varM 0) (consM (lstM (consM (cM (.int 0)) (consM (cM (.int 1)) (consM (cM (.int 7)) (consM (negM (cM (.int 1))) (consM (varM 3) (consM (opM subD (callM 2 (m__law_draw NF RD) [] (consM (varM 0) (consM (opM powD (cM (.int 10)) (cM (.int 9))) nilM))) (opM mulD (cM (.int 5)) (opM powD (cM (.int 10)) (cM (.int 8))))) nilM))))))) nilM))))) passM) (retM (callM 2 (m__law_one NF RD) [] (consM (varM 0) (consM (lstM (consM (cM (.str "a")) (consM (cM (.str "b")) (consM (cM (.str "[]")) (consM (cM (.str "")) (consM (cM (.str "f")) (consM (cM (.str "Aa")) (consM (cM (.str "~ !")) (consM (opM mulD (cM (.str "a")) (cM (.int 40))) nilM))))))))) nilM)))))))) (xs := noX) g sc__law_leaf fun f cdv A outer s H E hr => ?_
  exact ⟨_, (dssx_cons0 (DS.x (ds_set 2 (de_call c__law_draw hr (da_cons (de_var 0) (da_cons de_int da_nil)) (by omega)) nd)) (dssx_cons0 (dsx_if0 (dt_w (dw_and (dt_cmp so_lt op_ltU (de_var 2) de_int) (dw_and1 (dt_cmp so_gt op_gtU (de_var 1) de_int)))) (dssx_one (DS.x (ds_ret (de_tup (da_cons (de_call c__law_draw hr (da_cons (de_var 0) (da_cons (de_var 1) da_nil)) (by omega)) da_nil))))) dssx_nil) (dssx_cons0 (dsx_if0 (dt_cmp so_eq (op_eqU (hu64 hr)) (de_var 2) de_int) (dssx_cons0 (DS.x (ds_set 3 (de_op so_sub op_sub (de_op so_mul op_mulU (de_op so_pow op_powW (de_op so_pow op_powW de_int de_int) de_int) (de_op so_pow op_powW de_int de_int)) de_int) nd)) (dssx_one (DS.x (ds_ret (de_call c__law_one hr (da_cons (de_var 0) (da_cons (de_lst (da_cons de_int (da_cons de_int (da_cons de_int (da_cons (de_neg de_int) (da_cons (de_var 3) (da_cons (de_op so_sub op_sub (de_call c__law_draw hr (da_cons (de_var 0) (da_cons (de_op so_pow op_powW de_int de_int) da_nil)) (by omega)) (de_op so_mul op_mulU de_int (de_op so_pow op_powW de_int de_int))) da_nil))))))) da_nil)) (by omega)))))) dssx_nil) (dssx_one (DS.x (ds_ret (de_call c__law_one hr (da_cons (de_var 0) (da_cons (de_lst (da_cons de_str (da_cons de_str (da_cons de_str (da_cons de_str (da_cons de_str (da_cons de_str (da_cons de_str (da_cons (de_op so_mul op_mulU de_str de_int) da_nil))))))))) da_nil)) (by omega))))))))⟩
theorem c__law_term {L : Nat} (g : Got K mg "_law_term" s__law_term P__law_term) (z : Zs mg) (y : Ys ⟨K, w⟩ mg) (q : Qs K mg) (c__law_one : CalM P w K mg base L "_law_one" 2 (m__law_one NF RD) noGX []) (c__law_leaf : CalM P w K mg base L "_law_leaf" 2 (m__law_leaf NF RD) noGX []) (c__law_draw : CalM P w K mg base L "_law_draw" 2 (m__law_draw NF RD) noGX []) : ∀ k : Nat, CalM P w K mg base (L + k) "_law_term" 3 (m__law_term NF RD k) noGX []
  | 0 => g.none
  | k + 1 => by
    have ih := c__law_term (L := L) g z y q c__law_one c__law_leaf c__law_draw k
    have nd := sc__law_term.nd
    refine Got.cal (k := L + k) (ps := P__law_term) (N := N__law_term) (ms := (seqM (ifSM (torM (testM (opM leD (varM 1) (cM (.int 1)))) (testM (opM eqD (callM 2 (m__law_draw NF RD) [] (consM (varM 0) (consM (cM (.int 4)) nilM))) (cM (.int 0))))) (retM (callM 2 (m__law_leaf NF RD) [] (consM (varM 0) (consM (varM 2) nilM)))) passM) (seqM (asgM (lstM (consM (tupM (consM (cM (.str "f")) (consM (cM (.int 1)) nilM))) (consM (tupM (consM (cM (.str "f")) (consM (cM (.int 2)) nilM))) (consM (tupM (consM (cM (.str "g")) (consM (cM (.int 2)) nilM))) (consM (tupM (consM (cM (.str ".")) (consM (cM (.int 2)) nilM))) (consM (tupM (consM (cM (.str "")) (consM (cM (.int 1)) nilM))) (consM (tupM (consM (cM (.str "f")) (consM (cM (.int 2)) nilM))) nilM))))))) (nameG 3)) (seqM (asgM (callM 2 (m__law_one NF RD) [] (consM (varM 0) (consM (opM addD (varM 3) (ifM (testM (opM eqD (varM 1) (cM (.int 2)))) (lstM (consM (tupM (consM (cM (.str "h")) (consM (cM (.int 3)) nilM))) (consM (tupM (consM (cM (.str "k")) (consM (cM (.int 8)) nilM))) nilM))) (lstM nilM))) nilM))) (uplG 2 (consG (nameG 4) (consG (nameG 5) nilG)))) (retM (opM addD (tupM (consM (varM 4) nilM)) (cbM tuplD (consM (lcM (rngI (consM (varM 5) nilM)) (nameG 6) yesM (E__law_term_0 NF RD (m__law_term NF RD k)) [6] NF) nilM)))))))) (xs := noX) g sc__law_term fun f cdv A outer s H E hr => ?_
    exact ⟨_, (dssx_cons0 (dsx_if0 (dt_w (dw_or (dt_cmp so_le op_leU (de_var 1) de_int) (dw_or1 (dt_cmp so_eq (op_eqU (hu64 hr)) (de_call c__law_draw hr (da_cons (de_var 0) (da_cons de_int da_nil)) (by omega)) de_int)))) (dssx_one (DS.x (ds_ret (de_call c__law_leaf hr (da_cons (de_var 0) (da_cons (de_var 2) da_nil)) (by omega))))) dssx_nil) (dssx_cons0 (DS.x (ds_set 3 (de_lst (da_cons (de_tup (da_cons de_str (da_cons de_int da_nil))) (da_cons (de_tup (da_cons de_str (da_cons de_int da_nil))) (da_cons (de_tup (da_cons de_str (da_cons de_int da_nil))) (da_cons (de_tup (da_cons de_str (da_cons de_int da_nil))) (da_cons (de_tup (da_cons de_str (da_cons de_int da_nil))) (da_cons (de_tup (da_cons de_str (da_cons de_int da_nil))) da_nil))))))) nd)) (dssx_cons0 (DS.x (ds_asg (de_call c__law_one hr (da_cons (de_var 0) (da_cons (de_op so_add op_addU (de_var 3) (de_if (dt_cmp so_eq (op_eqU (hu64 hr)) (de_var 1) de_int) (de_lst (da_cons (de_tup (da_cons de_str (da_cons de_int da_nil))) (da_cons (de_tup (da_cons de_str (da_cons de_int da_nil))) da_nil))) (de_lst da_nil))) da_nil)) (by omega)) (dg_upl (n := 2) (dgs_cons (dg_name 4 nd) (dgs_cons (dg_name 5 nd) dgs_nil))))) (dssx_one (DS.x (ds_ret (de_op so_add op_addU (de_tup (da_cons (de_var 4) da_nil)) (de_callTy sc_tupl call_tuplU z.«tuple» (da_cons (de_lc (own := [("k", 6)]) NF nd (di_range1 (da_cons (de_var 5) da_nil) z.«range») (blkOk_by (N := N__law_term) (sc := (defScope s__law_term)) (by decide +kernel)) (only_name (by decide)) (fun _ _ _ _ _ => (dg_name 6 nd)) (fun _ _ _ _ _ => dts_nil) (fun _ _ _ _ _ => (de_call ih hr (da_cons (de_var 0) (da_cons (de_op so_sub op_sub (de_var 1) de_int) (da_cons (de_var 2) da_nil))) (Nat.le_refl _)))) da_nil)))))))))⟩
theorem c__law_is_variable {L : Nat} (g : Got K mg "_law_is_variable" s__law_is_variable P__law_is_variable) (z : Zs mg) (y : Ys ⟨K, w⟩ mg) (q : Qs K mg) : CalM P w K mg base (L + 1) "_law_is_variable" 1 (m__law_is_variable NF RD) noGX [] := by
  have nd := sc__law_is_variable.nd
  refine Got.cal (ps := P__law_is_variable) (N := N__law_is_variable) (ms := (retM (andM (cbM isiD (consM (varM 0) (consM (cM (.ty "tuple")) nilM))) (opM eqD (cbM lenD (consM (varM 0) nilM)) (cM (.int 1)))))) (xs := noX) g sc__law_is_variable fun f cdv A outer s H E hr => ?_
  exact ⟨_, (dssx_one (DS.x (ds_ret (de_and (de_callB sc_isi call_isiU z.«isinstance» (da_cons (de_var 0) (da_cons (de_ty z.«tuple») da_nil))) (de_one (de_cmp so_eq (op_eqU (hu64 hr)) (de_callB sc_len call_lenU z.«len» (da_cons (de_var 0) da_nil)) de_int))))))⟩
theorem c__law_is_compound {L : Nat} (g : Got K mg "_law_is_compound" s__law_is_compound P__law_is_compound) (z : Zs mg) (y : Ys ⟨K, w⟩ mg) (q : Qs K mg) : CalM P w K mg base (L + 1) "_law_is_compound" 1 (m__law_is_compound NF RD) noGX [] := by
  have nd := sc__law_is_compound.nd
  refine Got.cal (ps := P__law_is_compound) (N := N__law_is_compound) (ms := (retM (andM (cbM isiD (consM (varM 0) (consM (cM (.ty "tuple")) nilM))) (opM gtD (cbM lenD (consM (varM 0) nilM)) (cM (.int 1)))))) (xs := noX) g sc__law_is_compound fun f cdv A outer s H E hr => ?_
  exact ⟨_, (dssx_one (DS.x (ds_ret (de_and (de_callB sc_isi call_isiU z.«isinstance» (da_cons (de_var 0) (da_cons (de_ty z.«tuple») da_nil))) (de_one (de_cmp so_gt op_gtU (de_callB sc_len call_lenU z.«len» (da_cons (de_var 0) da_nil)) de_int))))))⟩
theorem c__law_parts {L : Nat} (g : Got K mg "_law_parts" s__law_parts P__law_parts) (z : Zs mg) (y : Ys ⟨K, w⟩ mg) (q : Qs K mg) (c__law_is_compound : CalM P w K mg base L "_law_is_compound" 1 (m__law_is_compound NF RD) noGX []) : ∀ k : Nat, CalM P w K mg base (L + k) "_law_parts" 1 (m__law_parts NF RD k) noGX []
  | 0 => g.none
  | k + 1 => by
    have ih := c__law_parts (L := L) g z y q c__law_is_compound k
    have nd := sc__law_parts.nd
    refine Got.cal (k := L + k) (ps := P__law_parts) (N := N__law_parts) (ms := (seqM (asgM (lstM (consM (varM 0) nilM)) (nameG 1)) (seqM (forSM (seqI (ifM (truM (callM 1 (m__law_is_compound NF RD) [] (consM (varM 0) nilM))) (slM (varM 0) (partM (cM (.int 1))) noM) (tupM nilM))) (nameG 2) (B__law_parts_0 NF RD (m__law_parts NF RD k)) NF) (retM (varM 1))))) (xs := noX) g sc__law_parts fun f cdv A outer s H E hr => ?_
    exact ⟨_, (dssx_cons0 (DS.x (ds_set 1 (de_lst (da_cons (de_var 0) da_nil)) nd)) (dssx_cons0 (dsx_for0 NF (di_seq (de_if (dt_tru (de_call c__law_is_compound hr (da_cons (de_var 0) da_nil) (by omega))) (de_slice (de_var 0) (do_some de_int) do_none) (de_tup da_nil))) (dg_name 2 nd) (dssx_one (DS.x (ds_set 1 (de_op so_add op_addU (de_var 1) (de_call ih hr (da_cons (de_var 2) da_nil) (Nat.le_refl _))) nd)))) (dssx_one (DS.x (ds_ret (de_var 1))))))⟩
theorem c__law_numbers {L : Nat} (g : Got K mg "_law_numbers" s__law_numbers P__law_numbers) (z : Zs mg) (y : Ys ⟨K, w⟩ mg) (q : Qs K mg) (c__law_parts : CalM P w K mg base L "_law_parts" 1 (m__law_parts NF RD RD) noGX []) (c__law_is_variable : CalM P w K mg base L "_law_is_variable" 1 (m__law_is_variable NF RD) noGX []) : CalM P w K mg base (L + 1) "_law_numbers" 1 (m__law_numbers NF RD) noGX [] := by
  have nd := sc__law_numbers.nd
  refine Got.cal (ps := P__law_numbers) (N := N__law_numbers) (ms := (seqM (asgM (lstM nilM) (nameG 1)) (seqM (forSM (seqI (callM 1 (m__law_parts NF RD RD) [] (consM (varM 0) nilM))) (nameG 2) (B__law_numbers_0 NF RD) NF) (retM (varM 1))))) (xs := noX) g sc__law_numbers fun f cdv A outer s H E hr => ?_
  exact ⟨_, (dssx_cons0 (DS.x (ds_set 1 (de_lst da_nil) nd)) (dssx_cons0 (dsx_for0 NF (di_seq (de_call c__law_parts hr (da_cons (de_var 0) da_nil) (by omega))) (dg_name 2 nd) (dssx_one (dsx_if0 (dt_w (dw_and (dt_tru (de_call c__law_is_variable hr (da_cons (de_var 2) da_nil) (by omega))) (dw_and1 (dt_cmp (so_in true) op_niU (de_sub (de_var 2) de_int (hu1 hr)) (de_var 1))))) (dssx_one (DS.x (ds_expr (de_bm sm_append PySem.F.plainAttrs_list PySem.F.slot_list_append PySem.F.type_list_append mt_append (de_var 1) (da_cons (de_sub (de_var 2) de_int (hu1 hr)) da_nil))))) dssx_nil))) (dssx_one (DS.x (ds_ret (de_var 1))))))⟩
theorem c__law_put {L : Nat} (g : Got K mg "_law_put" s__law_put P__law_put) (z : Zs mg) (y : Ys ⟨K, w⟩ mg) (q : Qs K mg) (c__law_is_variable : CalM P w K mg base L "_law_is_variable" 1 (m__law_is_variable NF RD) noGX []) (c__law_is_compound : CalM P w K mg base L "_law_is_compound" 1 (m__law_is_compound NF RD) noGX []) : ∀ k : Nat, CalM P w K mg base (L + k) "_law_put" 2 (m__law_put NF RD k) noGX []
  | 0 => g.none
  | k + 1 => by
    have ih := c__law_put (L := L) g z y q c__law_is_variable c__law_is_compound k
    have nd := sc__law_put.nd
    refine Got.cal (k := L + k) (ps := P__law_put) (N := N__law_put) (ms := (seqM (ifSM (truM (callM 1 (m__law_is_variable NF RD) [] (consM (varM 0) nilM))) (retM (getD2 (varM 1) (opM subsD (varM 0) (cM (.int 0))) (varM 0))) passM) (seqM (ifSM (tnotM (truM (callM 1 (m__law_is_compound NF RD) [] (consM (varM 0) nilM)))) (retM (varM 0)) passM) (retM (opM addD (tupM (consM (opM subsD (varM 0) (cM (.int 0))) nilM)) (cbM tuplD (consM (lcM (seqI (slM (varM 0) (partM (cM (.int 1))) noM)) (nameG 2) yesM (E__law_put_0 NF RD (m__law_put NF RD k)) [2] NF) nilM))))))) (xs := noX) g sc__law_put fun f cdv A outer s H E hr => ?_
    exact ⟨_, (dssx_cons0 (dsx_if0 (dt_tru (de_call c__law_is_variable hr (da_cons (de_var 0) da_nil) (by omega))) (dssx_one (DS.x (ds_ret (de_get2 (hu1 hr) (de_var 1) (de_sub (de_var 0) de_int (hu1 hr)) (de_var 0))))) dssx_nil) (dssx_cons0 (dsx_if0 (dt_not (dt_tru (de_call c__law_is_compound hr (da_cons (de_var 0) da_nil) (by omega)))) (dssx_one (DS.x (ds_ret (de_var 0)))) dssx_nil) (dssx_one (DS.x (ds_ret (de_op so_add op_addU (de_tup (da_cons (de_sub (de_var 0) de_int (hu1 hr)) da_nil)) (de_callTy sc_tupl call_tuplU z.«tuple» (da_cons (de_lc (own := [("part", 2)]) NF nd (di_seq (de_slice (de_var 0) (do_some de_int) do_none)) (blkOk_by (N := N__law_put) (sc := (defScope s__law_put)) (by decide +kernel)) (only_name (by decide)) (fun _ _ _ _ _ => (dg_name 2 nd)) (fun _ _ _ _ _ => dts_nil) (fun _ _ _ _ _ => (de_call ih hr (da_cons (de_var 2) (da_cons (de_var 1) da_nil)) (Nat.le_refl _)))) da_nil))))))))⟩
theorem c__law_anew {L : Nat} {dvs : List V} (g : GotD K mg "_law_anew" s__law_anew P__law_anew dvs) (z : Zs mg) (y : Ys ⟨K, w⟩ mg) (q : Qs K mg) (c__law_put : CalM P w K mg base L "_law_put" 2 (m__law_put NF RD RD) noGX []) (c__law_numbers : CalM P w K mg base L "_law_numbers" 1 (m__law_numbers NF RD) noGX []) : CalM P w K mg base (L + 1) "_law_anew" 2 (m__law_anew NF RD) noGX [] := by
  have nd := sc__law_anew.nd
  refine GotD.cal (ps := P__law_anew) (N := N__law_anew) (ms := (retM (callM 2 (m__law_put NF RD RD) [] (consM (varM 0) (consM (cbM dictD (consM (lcM (enuI (consM (callM 1 (m__law_numbers NF RD) [] (consM (varM 0) nilM)) nilM)) (tupG 2 (consG (nameG 2) (consG (nameG 3) nilG))) yesM (E__law_anew_0 NF RD) [2, 3] NF) nilM)) nilM))))) (xs := noX) g sc__law_anew fun f cdv A outer s H E hr => ?_
  exact ⟨_, (dssx_one (DS.x (ds_ret (de_call c__law_put hr (da_cons (de_var 0) (da_cons (de_callTy sc_dict call_dictU z.«dict» (da_cons (de_lc (own := [("at", 2), ("number", 3)]) NF nd (di_enum (da_cons (de_call c__law_numbers hr (da_cons (de_var 0) da_nil) (by omega)) da_nil) z.«enumerate») (blkOk_by (N := N__law_anew) (sc := (defScope s__law_anew)) (by decide +kernel)) (only_tup (onlys_cons (only_name (by decide)) (onlys_cons (only_name (by decide)) onlys_nil mono_name) mono_name)) (fun _ _ _ _ _ => (dg_tup (n := 2) (dgs_cons (dg_name 2 nd) (dgs_cons (dg_name 3 nd) dgs_nil)))) (fun _ _ _ _ _ => dts_nil) (fun _ _ _ _ _ => (de_tup (da_cons (de_var 3) (da_cons (de_tup (da_cons (de_op so_add op_addU (de_var 1) (de_var 2)) da_nil)) da_nil))))) da_nil)) da_nil)) (by omega)))))⟩
theorem cd__law_anew {L : Nat} {dvs : List V} (hd : ∀ H μ, Rps ⟨K, w⟩ H μ [.int 0] dvs) (g : GotD K mg "_law_anew" s__law_anew P__law_anew dvs) (z : Zs mg) (y : Ys ⟨K, w⟩ mg) (q : Qs K mg) (c__law_put : CalM P w K mg base L "_law_put" 2 (m__law_put NF RD RD) noGX []) (c__law_numbers : CalM P w K mg base L "_law_numbers" 1 (m__law_numbers NF RD) noGX []) : CalM P w K mg base (L + 1) "_law_anew" 2 (m__law_anew NF RD) noGX [.int 0] := by
  have nd := sc__law_anew.nd
  refine GotD.cald (ps := P__law_anew) (N := N__law_anew) (ms := (retM (callM 2 (m__law_put NF RD RD) [] (consM (varM 0) (consM (cbM dictD (consM (lcM (enuI (consM (callM 1 (m__law_numbers NF RD) [] (consM (varM 0) nilM)) nilM)) (tupG 2 (consG (nameG 2) (consG (nameG 3) nilG))) yesM (E__law_anew_0 NF RD) [2, 3] NF) nilM)) nilM))))) (xs := noX) g hd sc__law_anew fun f cdv A outer s H E hr => ?_
  exact ⟨_, (dssx_one (DS.x (ds_ret (de_call c__law_put hr (da_cons (de_var 0) (da_cons (de_callTy sc_dict call_dictU z.«dict» (da_cons (de_lc (own := [("at", 2), ("number", 3)]) NF nd (di_enum (da_cons (de_call c__law_numbers hr (da_cons (de_var 0) da_nil) (by omega)) da_nil) z.«enumerate») (blkOk_by (N := N__law_anew) (sc := (defScope s__law_anew)) (by decide +kernel)) (only_tup (onlys_cons (only_name (by decide)) (onlys_cons (only_name (by decide)) onlys_nil mono_name) mono_name)) (fun _ _ _ _ _ => (dg_tup (n := 2) (dgs_cons (dg_name 2 nd) (dgs_cons (dg_name 3 nd) dgs_nil)))) (fun _ _ _ _ _ => dts_nil) (fun _ _ _ _ _ => (de_tup (da_cons (de_var 3) (da_cons (de_tup (da_cons (de_op so_add op_addU (de_var 1) (de_var 2)) da_nil)) da_nil))))) da_nil)) da_nil)) (by omega)))))⟩
theorem c__law_rank {L : Nat} (g : Got K mg "_law_rank" s__law_rank P__law_rank) (z : Zs mg) (y : Ys ⟨K, w⟩ mg) (q : Qs K mg) : CalM P w K mg base (L + 1) "_law_rank" 1 (m__law_rank NF RD) noGX [] := by
  have nd := sc__law_rank.nd
  refine Got.cal (ps := P__law_rank) (N := N__law_rank) (ms := (seqM (ifSM (truM (cbM isiD (consM (varM 0) (consM (cM (.ty "tuple")) nilM)))) (retM (ifM (testM (opM eqD (cbM lenD (consM (varM 0) nilM)) (cM (.int 1)))) (cM (.int 0)) (cM (.int 3)))) passM) (retM (ifM (truM (cbM isiD (consM (varM 0) (consM (cM (.ty "str")) nilM)))) (cM (.int 2)) (cM (.int 1)))))) (xs := noX) g sc__law_rank fun f cdv A outer s H E hr => ?_
  exact ⟨_, (dssx_cons0 (dsx_if0 (dt_tru (de_callB sc_isi call_isiU z.«isinstance» (da_cons (de_var 0) (da_cons (de_ty z.«tuple») da_nil)))) (dssx_one (DS.x (ds_ret (de_if (dt_cmp so_eq (op_eqU (hu64 hr)) (de_callB sc_len call_lenU z.«len» (da_cons (de_var 0) da_nil)) de_int) de_int de_int)))) dssx_nil) (dssx_one (DS.x (ds_ret (de_if (dt_tru (de_callB sc_isi call_isiU z.«isinstance» (da_cons (de_var 0) (da_cons (de_ty z.«str») da_nil)))) de_int de_int)))))⟩
theorem c__law_order {L : Nat} (g : Got K mg "_law_order" s__law_order P__law_order) (z : Zs mg) (y : Ys ⟨K, w⟩ mg) (q : Qs K mg) (c__law_rank : CalM P w K mg base L "_law_rank" 1 (m__law_rank NF RD) noGX []) : ∀ k : Nat, CalM P w K mg base (L + k) "_law_order" 2 (m__law_order NF RD k) noGX []
  | 0 => g.none
  | k + 1 => by
    have ih := c__law_order (L := L) g z y q c__law_rank k
    have nd := sc__law_order.nd
    refine Got.cal (k := L + k) (ps := P__law_order) (N := N__law_order) (ms := (seqM (asgM (tupM (consM (callM 1 (m__law_rank NF RD) [] (consM (varM 0) nilM)) (consM (callM 1 (m__law_rank NF RD) [] (consM (varM 1) nilM)) nilM))) (nameG 2)) (seqM (ifSM (testM (opM neD (opM subsD (varM 2) (cM (.int 0))) (opM subsD (varM 2) (cM (.int 1))))) (retM (ifM (testM (opM ltPD (opM subsD (varM 2) (cM (.int 0))) (opM subsD (varM 2) (cM (.int 1))))) (negM (cM (.int 1))) (cM (.int 1)))) passM) (seqM (ifSM (testM (opM ltPD (opM subsD (varM 2) (cM (.int 0))) (cM (.int 3)))) (retM (ifM (testM (opM eqD (varM 0) (varM 1))) (cM (.int 0)) (ifM (testM (opM ltPD (varM 0) (varM 1))) (negM (cM (.int 1))) (cM (.int 1))))) passM) (seqM (forSM (seqI (tupM (consM (tupM (consM (cbM lenD (consM (varM 0) nilM)) (consM (cbM lenD (consM (varM 1) nilM)) nilM))) (consM (tupM (consM (opM subsD (varM 0) (cM (.int 0))) (consM (opM subsD (varM 1) (cM (.int 0))) nilM))) nilM)))) (tupG 2 (consG (nameG 3) (consG (nameG 4) nilG))) (B__law_order_1 NF RD (m__law_order NF RD k)) NF) (seqM (forSM (zipI (consM (slM (varM 0) (partM (cM (.int 1))) noM) (consM (slM (varM 1) (partM (cM (.int 1))) noM) nilM))) (tupG 2 (consG (nameG 3) (consG (nameG 4) nilG))) (B__law_order_0 NF RD (m__law_order NF RD k)) NF) (retM (cM (.int 0))))))))) (xs := noX) g sc__law_order fun f cdv A outer s H E hr => ?_
    exact ⟨_, (dssx_cons0 (DS.x (ds_set 2 (de_tup (da_cons (de_call c__law_rank hr (da_cons (de_var 0) da_nil) (by omega)) (da_cons (de_call c__law_rank hr (da_cons (de_var 1) da_nil) (by omega)) da_nil))) nd)) (dssx_cons0 (dsx_if0 (dt_cmp so_ne (op_neU (hu64 hr)) (de_sub (de_var 2) de_int (hu1 hr)) (de_sub (de_var 2) de_int (hu1 hr))) (dssx_one (DS.x (ds_ret (de_if (dt_cmp so_ltP (op_ltP (hu64 hr)) (de_sub (de_var 2) de_int (hu1 hr)) (de_sub (de_var 2) de_int (hu1 hr))) (de_neg de_int) de_int)))) dssx_nil) (dssx_cons0 (dsx_if0 (dt_cmp so_ltP (op_ltP (hu64 hr)) (de_sub (de_var 2) de_int (hu1 hr)) de_int) (dssx_one (DS.x (ds_ret (de_if (dt_cmp so_eq (op_eqU (hu64 hr)) (de_var 0) (de_var 1)) de_int (de_if (dt_cmp so_ltP (op_ltP (hu64 hr)) (de_var 0) (de_var 1)) (de_neg de_int) de_int))))) dssx_nil) (dssx_cons0 (dsx_for0 NF (di_seq (de_tup (da_cons (de_tup (da_cons (de_callB sc_len call_lenU z.«len» (da_cons (de_var 0) da_nil)) (da_cons (de_callB sc_len call_lenU z.«len» (da_cons (de_var 1) da_nil)) da_nil))) (da_cons (de_tup (da_cons (de_sub (de_var 0) de_int (hu1 hr)) (da_cons (de_sub (de_var 1) de_int (hu1 hr)) da_nil))) da_nil)))) (dg_tup (n := 2) (dgs_cons (dg_name 3 nd) (dgs_cons (dg_name 4 nd) dgs_nil))) (dssx_one (dsx_if0 (dt_cmp so_ne (op_neU (hu64 hr)) (de_var 3) (de_var 4)) (dssx_one (DS.x (ds_ret (de_if (dt_cmp so_ltP (op_ltP (hu64 hr)) (de_var 3) (de_var 4)) (de_neg de_int) de_int)))) dssx_nil))) (dssx_cons0 (dsx_for0 NF (di_zip (da_cons (de_slice (de_var 0) (do_some de_int) do_none) (da_cons (de_slice (de_var 1) (do_some de_int) do_none) da_nil)) z.«zip») (dg_tup (n := 2) (dgs_cons (dg_name 3 nd) (dgs_cons (dg_name 4 nd) dgs_nil))) (dssx_cons0 (DS.x (ds_set 5 (de_call ih hr (da_cons (de_var 3) (da_cons (de_var 4) da_nil)) (Nat.le_refl _)) nd)) (dssx_one (dsx_if0 (dt_cmp so_ne (op_neU (hu64 hr)) (de_var 5) de_int) (dssx_one (DS.x (ds_ret (de_var 5)))) dssx_nil)))) (dssx_one (DS.x (ds_ret de_int))))))))⟩
theorem c__law_near {L : Nat} (g : Got K mg "_law_near" s__law_near P__law_near) (z : Zs mg) (y : Ys ⟨K, w⟩ mg) (q : Qs K mg) (c__law_draw : CalM P w K mg base L "_law_draw" 2 (m__law_draw NF RD) noGX []) (c__law_term : CalM P w K mg base L "_law_term" 3 (m__law_term NF RD RD) noGX []) (c__law_is_compound : CalM P w K mg base L "_law_is_compound" 1 (m__law_is_compound NF RD) noGX []) (c__law_one : CalM P w K mg base L "_law_one" 2 (m__law_one NF RD) noGX []) : ∀ k : Nat, CalM P w K mg base (L + k) "_law_near" 2 (m__law_near NF RD k) noGX []
  | 0 => g.none
  | k + 1 => by
    have ih := c__law_near (L := L) g z y q c__law_draw c__law_term c__law_is_compound c__law_one k
    have nd := sc__law_near.nd
    refine Got.cal (k := L + k) (ps := P__law_near) (N := N__law_near) (ms := (seqM (ifSM (torM (tnotM (truM (callM 1 (m__law_is_compound NF RD) [] (consM (varM 1) nilM)))) (testM (opM eqD (callM 2 (m__law_draw NF RD) [] (consM (varM 0) (consM (cM (.int 4)) nilM))) (cM (.int 0))))) (retM (callM 3 (m__law_term NF RD RD) [] (consM (varM 0) (consM (cM (.int 2)) (consM (cM (.int 4)) nilM))))) passM) (seqM (asgM (callM 2 (m__law_draw NF RD) [] (consM (varM 0) (consM (cbM lenD (consM (varM 1) nilM)) nilM))) (nameG 2)) (seqM (ifSM (testM (opM eqD (varM 2) (cM (.int 0)))) (retM (opM addD (tupM (consM (callM 2 (m__law_one NF RD) [] (consM (varM 0) (consM (lstM (consM (cM (.str "f")) (consM (cM (.str "g")) (consM (cM (.str "")) (consM (cM (.str "~")) nilM))))) nilM))) nilM)) (slM (varM 1) (partM (cM (.int 1))) noM))) passM) (retM (opM addD (opM addD (slM (varM 1) noM (partM (varM 2))) (tupM (consM (callM 2 (m__law_near NF RD k) [] (consM (varM 0) (consM (opM subsD (varM 1) (varM 2)) nilM))) nilM))) (slM (varM 1) (partM (opM addD (varM 2) (cM (.int 1)))) noM))))))) (xs := noX) g sc__law_near fun f cdv A outer s H E hr => ?_
    exact ⟨_, (dssx_cons0 (dsx_if0 (dt_w (dw_or (dt_not (dt_tru (de_call c__law_is_compound hr (da_cons (de_var 1) da_nil) (by omega)))) (dw_or1 (dt_cmp so_eq (op_eqU (hu64 hr)) (de_call c__law_draw hr (da_cons (de_var 0) (da_cons de_int da_nil)) (by omega)) de_int)))) (dssx_one (DS.x (ds_ret (de_call c__law_term hr (da_cons (de_var 0) (da_cons de_int (da_cons de_int da_nil))) (by omega))))) dssx_nil) (dssx_cons0 (DS.x (ds_set 2 (de_call c__law_draw hr (da_cons (de_var 0) (da_cons (de_callB sc_len call_lenU z.«len» (da_cons (de_var 1) da_nil)) da_nil)) (by omega)) nd)) (dssx_cons0 (dsx_if0 (dt_cmp so_eq (op_eqU (hu64 hr)) (de_var 2) de_int) (dssx_one (DS.x (ds_ret (de_op so_add op_addU (de_tup (da_cons (de_call c__law_one hr (da_cons (de_var 0) (da_cons (de_lst (da_cons de_str (da_cons de_str (da_cons de_str (da_cons de_str da_nil))))) da_nil)) (by omega)) da_nil)) (de_slice (de_var 1) (do_some de_int) do_none))))) dssx_nil) (dssx_one (DS.x (ds_ret (de_op so_add op_addU (de_op so_add op_addU (de_slice (de_var 1) do_none (do_some (de_var 2))) (de_tup (da_cons (de_call ih hr (da_cons (de_var 0) (da_cons (de_sub (de_var 1) (de_var 2) (hu1 hr)) da_nil)) (Nat.le_refl _)) da_nil))) (de_slice (de_var 1) (do_some (de_op so_add op_addU (de_var 2) de_int)) do_none))))))))⟩
theorem c__law_right {L : Nat} (g : Got K mg "_law_right" s__law_right P__law_right) (z : Zs mg) (y : Ys ⟨K, w⟩ mg) (q : Qs K mg) (c_sort_terms : CalM P w K mg base L "sort_terms" 1 (m_sort_terms NF RD) noGX []) (c__law_term : CalM P w K mg base L "_law_term" 3 (m__law_term NF RD RD) noGX []) (c__law_draw : CalM P w K mg base L "_law_draw" 2 (m__law_draw NF RD) noGX []) (c__law_near : CalM P w K mg base L "_law_near" 2 (m__law_near NF RD RD) noGX []) (c__law_order : CalM P w K mg base L "_law_order" 2 (m__law_order NF RD RD) noGX []) (c__law_one : CalM P w K mg base L "_law_one" 2 (m__law_one NF RD) noGX []) (c_compare_terms : CalM P w K mg base L "compare_terms" 2 (m_compare_terms NF RD) noGX []) : CalM P w K mg base (L + 1) "_law_right" 1 (m__law_right NF RD) noGX [] := by
  have nd := sc__law_right.nd
  refine Got.cal (ps := P__law_right) (N := N__law_right) (ms := (seqM (asgM (lstM (consM (callM 3 (m__law_term NF RD RD) [] (consM (varM 0) (consM (cM (.int 4)) (consM (cM (.int 4)) nilM)))) nilM)) (nameG 1)) (seqM (forSM (rngI (consM (callM 2 (m__law_draw NF RD) [] (consM (varM 0) (consM (cM (.int 9)) nilM))) nilM)) (nameG 2) (B__law_right_3 NF RD) NF) (seqM (forSM (seqI (varM 1)) (nameG 3) (B__law_right_2 NF RD) NF) (seqM (asgM (callM 1 (m_sort_terms NF RD) [] (consM (varM 1) nilM)) (nameG 5)) (seqM (asgM (cbM listD (consM (varM 1) nilM)) (nameG 6)) (seqM (forSM (zipI (consM (varM 5) (consM (opM addD (slM (varM 5) (partM (cM (.int 1))) noM) (slM (varM 5) (partM (negM (cM (.int 1)))) noM)) nilM))) (tupG 2 (consG (nameG 3) (consG (nameG 4) nilG))) (B__law_right_0 NF RD) NF) (seqM (asgM (callM 1 (m_sort_terms NF RD) [] (consM (cbM tuplD (consM (backM (varM 1) noM (partM (negM (cM (.int 1))))) nilM)) nilM)) (nameG 7)) (seqM (exprM (bmM "list" appendD (varM 5) (consM (cM .non) nilM))) (retM (andM (opM eqD (varM 6) (lstM nilM)) (andM (opM eqD (varM 7) (slM (varM 5) noM (partM (negM (cM (.int 1)))))) (opM eqD (varM 7) (callM 1 (m_sort_terms NF RD) [] (consM (slM (varM 5) noM (partM (negM (cM (.int 1))))) nilM))))))))))))))) (xs := noX) g sc__law_right fun f cdv A outer s H E hr => ?_
  exact ⟨_, (dssx_cons0 (DS.x (ds_set 1 (de_lst (da_cons (de_call c__law_term hr (da_cons (de_var 0) (da_cons de_int (da_cons de_int da_nil))) (by omega)) da_nil)) nd)) (dssx_cons0 (dsx_for0 NF (di_range1 (da_cons (de_call c__law_draw hr (da_cons (de_var 0) (da_cons de_int da_nil)) (by omega)) da_nil) z.«range») (dg_name 2 nd) (dssx_one (DS.x (ds_expr (de_bm sm_append PySem.F.plainAttrs_list PySem.F.slot_list_append PySem.F.type_list_append mt_append (de_var 1) (da_cons (de_if (dt_cmp so_gt op_gtU (de_call c__law_draw hr (da_cons (de_var 0) (da_cons de_int da_nil)) (by omega)) de_int) (de_call c__law_near hr (da_cons (de_var 0) (da_cons (de_call c__law_one hr (da_cons (de_var 0) (da_cons (de_var 1) da_nil)) (by omega)) da_nil)) (by omega)) (de_call c__law_term hr (da_cons (de_var 0) (da_cons de_int (da_cons de_int da_nil))) (by omega))) da_nil)))))) (dssx_cons0 (dsx_for0 NF (di_seq (de_var 1)) (dg_name 3 nd) (dssx_one (dsx_for0 NF (di_seq (de_var 1)) (dg_name 4 nd) (dssx_one (dsx_if0 (dt_w (dw_or (dt_cmp so_ne (op_neU (hu64 hr)) (de_call c_compare_terms hr (da_cons (de_var 3) (da_cons (de_var 4) da_nil)) (by omega)) (de_call c__law_order hr (da_cons (de_var 3) (da_cons (de_var 4) da_nil)) (by omega))) (dw_or1 (dt_cmp so_ne (op_neU (hu64 hr)) (de_cmp so_eq (op_eqU (hu64 hr)) (de_call c__law_order hr (da_cons (de_var 3) (da_cons (de_var 4) da_nil)) (by omega)) de_int) (de_cmp so_eq (op_eqU (hu64 hr)) (de_var 3) (de_var 4)))))) (dssx_one (DS.x (ds_ret de_bl))) dssx_nil))))) (dssx_cons0 (DS.x (ds_set 5 (de_call c_sort_terms hr (da_cons (de_var 1) da_nil) (by omega)) nd)) (dssx_cons0 (DS.x (ds_set 6 (de_callTy sc_list call_listU z.«list» (da_cons (de_var 1) da_nil)) nd)) (dssx_cons0 (dsx_for0 NF (di_zip (da_cons (de_var 5) (da_cons (de_op so_add op_addU (de_slice (de_var 5) (do_some de_int) do_none) (de_slice (de_var 5) (do_some (de_neg de_int)) do_none)) da_nil)) z.«zip») (dg_tup (n := 2) (dgs_cons (dg_name 3 nd) (dgs_cons (dg_name 4 nd) dgs_nil))) (dssx_cons0 (dsx_if0 (dt_w (dw_or (dt_cmp (so_inP true) (op_niP (hu64 hr)) (de_var 3) (de_var 6)) (dw_or1 (dt_cmp so_gt op_gtU (de_call c__law_order hr (da_cons (de_var 3) (da_cons (de_var 4) da_nil)) (by omega)) de_int)))) (dssx_one (DS.x (ds_ret de_bl))) dssx_nil) (dssx_one (DS.x (ds_expr (de_bm sm_remove PySem.F.plainAttrs_list PySem.F.slot_list_remove PySem.F.type_list_remove (mt_remove (hu66 hr)) (de_var 6) (da_cons (de_var 3) da_nil))))))) (dssx_cons0 (DS.x (ds_set 7 (de_call c_sort_terms hr (da_cons (de_callTy sc_tupl call_tuplU z.«tuple» (da_cons (de_back (de_var 1) do_none (do_some (de_neg de_int))) da_nil)) da_nil) (by omega)) nd)) (dssx_cons0 (DS.x (ds_expr (de_bm sm_append PySem.F.plainAttrs_list PySem.F.slot_list_append PySem.F.type_list_append mt_append (de_var 5) (da_cons de_non da_nil)))) (dssx_one (DS.x (ds_ret (de_and (de_cmp so_eq (op_eqU (hu64 hr)) (de_var 6) (de_lst da_nil)) (de_and (de_cmp so_eq (op_eqU (hu64 hr)) (de_var 7) (de_slice (de_var 5) do_none (do_some (de_neg de_int)))) (de_one (de_cmp so_eq (op_eqU (hu64 hr)) (de_var 7) (de_call c_sort_terms hr (da_cons (de_slice (de_var 5) do_none (do_some (de_neg de_int))) da_nil) (by omega)))))))))))))))))⟩
theorem ok_law {L : Nat} {f : Addr} {fd : FuncData} (F : Fun K "law" "law" s_law f fd) (z : Zs mg) (y : Ys ⟨K, w⟩ mg) (q : Qs K mg) (c_sort_terms : CalM P w K mg base L "sort_terms" 1 (m_sort_terms NF RD) noGX []) (c__law_right : CalM P w K mg base L "_law_right" 1 (m__law_right NF RD) noGX []) (c__law_well : CalM P w K mg base L "_law_well" 1 (m__law_well NF RD) noGX []) (c__law_cell_at : CalM P w K mg base L "_law_cell_at" 2 (m__law_cell_at NF RD) noGX []) : FnG P w K mg base (L2.CX P w) (L + 1) f fd ["script"] (spX ⟨K, w⟩ mg 1 (m_law NF RD) noGX) := by
  have nd := sc_law.nd
  refine fn_M (ps := P_law) (N := N_law) (ms := (seqM (ifSM (torM (testM (opM neD (opM addD (callM 1 (m_sort_terms NF RD) [] (consM (lstM nilM) nilM)) (callM 1 (m_sort_terms NF RD) [] (consM (tupM nilM) nilM))) (lstM nilM))) (testM (opM neD (callM 1 (m_sort_terms NF RD) [] (consM (lstM (consM (tupM (consM (cM (.int 2)) nilM)) nilM)) nilM)) (lstM (consM (tupM (consM (cM (.int 2)) nilM)) nilM))))) (retM (cM (.bl false))) passM) (seqM (forSM (rngI (consM (cbM maxD (consM (cM (.int 1)) (consM (cbM minD (consM (cM (.int 8)) (consM (cbM lenD (consM (varM 0) nilM)) nilM))) nilM))) nilM)) (nameG 1) (B_law_0 NF RD) NF) (retM (cM (.bl true)))))) (xs := noX) F sc_law fun cdv A outer s H E hr => ?_
  exact ⟨_, (dssx_cons0 (dsx_if0 (dt_w (dw_or (dt_cmp so_ne (op_neU (hu64 hr)) (de_op so_add op_addU (de_call c_sort_terms hr (da_cons (de_lst da_nil) da_nil) (by omega)) (de_call c_sort_terms hr (da_cons (de_tup da_nil) da_nil) (by omega))) (de_lst da_nil)) (dw_or1 (dt_cmp so_ne (op_neU (hu64 hr)) (de_call c_sort_terms hr (da_cons (de_lst (da_cons (de_tup (da_cons de_int da_nil)) da_nil)) da_nil) (by omega)) (de_lst (da_cons (de_tup (da_cons de_int da_nil)) da_nil)))))) (dssx_one (DS.x (ds_ret de_bl))) dssx_nil) (dssx_cons0 (dsx_for0 NF (di_range1 (da_cons (de_callB sc_max call_maxU z.«max» (da_cons de_int (da_cons (de_callB sc_min (call_min2 rfl) z.«min» (da_cons de_int (da_cons (de_callB sc_len call_lenU z.«len» (da_cons (de_var 0) da_nil)) da_nil))) da_nil))) da_nil) z.«range») (dg_name 1 nd) (dssx_one (dsx_if0 (dt_not (dt_tru (de_call c__law_right hr (da_cons (de_call c__law_well hr (da_cons (de_call c__law_cell_at hr (da_cons (de_var 0) (da_cons (de_var 1) da_nil)) (by omega)) da_nil) (by omega)) da_nil) (by omega)))) (dssx_one (DS.x (ds_ret de_bl))) dssx_nil))) (dssx_one (DS.x (ds_ret de_bl)))))⟩
end


/-! ### objects: what a call leaves -/
/-- all stays as it was, new objects may stand behind -/
def Pre (h h' : Hd) : Prop := ∃ g, h' = h ++ g
theorem Pre.refl (h : Hd) : Pre h h := ⟨[], by simp⟩
theorem Pre.trans {a b c : Hd} (x : Pre a b) (y : Pre b c) : Pre a c := by
  obtain ⟨g, rfl⟩ := x
  obtain ⟨g', rfl⟩ := y
  exact ⟨g ++ g', by simp⟩
theorem Pre.app (h g : Hd) : Pre h (h ++ g) := ⟨g, rfl⟩
theorem Pre.app' {h h' : Hd} (x : Pre h h') (g : Hd) : Pre h (h' ++ g) := x.trans (Pre.app _ _)
theorem Pre.set {h h' : Hd} (x : Pre h h') {i : Nat} (hi : h.length ≤ i) (o : O) : Pre h (h'.set i o) := by
  obtain ⟨g, rfl⟩ := x
  exact ⟨g.set (i - h.length) o, by rw [List.set_append_right _ _ hi]⟩
theorem Pre.get {h h' : Hd} (x : Pre h h') {i : Nat} {o : O} (e : h[i]? = some o) : h'[i]? = some o := by
  obtain ⟨g, rfl⟩ := x
  rw [List.getElem?_append_left (List.getElem?_eq_some_iff.mp e).1]
  exact e
theorem Pre.len {h h' : Hd} (x : Pre h h') : h.length ≤ h'.length := by
  obtain ⟨g, rfl⟩ := x
  simp
theorem get_new (h : Hd) (o : O) : (h ++ [o])[h.length]? = some o := by simp
theorem get_set {h : Hd} {i : Nat} {o p : O} (e : h[i]? = some o) : (h.set i p)[i]? = some p := by
  rw [List.getElem?_set_self (List.getElem?_eq_some_iff.mp e).1]
theorem get_ne {h : Hd} {i j : Nat} {p : O} (e : i ≠ j) : (h.set i p)[j]? = h[j]? := List.getElem?_set_ne e
theorem lt_of {h : Hd} {i : Nat} {o : O} (e : h[i]? = some o) : i < h.length := (List.getElem?_eq_some_iff.mp e).1
/-- all but the object w stays as it was -/
structure Fw (w : Nat) (h h' : Hd) : Prop where
  len : h.length ≤ h'.length
  at' : ∀ i, i < h.length → i ≠ w → h'[i]? = h[i]?
theorem Fw.refl (w : Nat) (h : Hd) : Fw w h h := ⟨Nat.le_refl _, fun _ _ _ => rfl⟩
theorem Fw.trans {w : Nat} {a b c : Hd} (x : Fw w a b) (y : Fw w b c) : Fw w a c := ⟨Nat.le_trans x.len y.len, fun i hi hn => (y.at' i (Nat.lt_of_lt_of_le hi x.len) hn).trans (x.at' i hi hn)⟩
theorem Fw.pre {w : Nat} {h h' : Hd} (x : Pre h h') : Fw w h h' := by
  obtain ⟨g, rfl⟩ := x
  exact ⟨by simp, fun i hi _ => List.getElem?_append_left hi⟩
theorem Fw.set {w : Nat} {h : Hd} (o : O) : Fw w h (h.set w o) := ⟨by simp, fun i _ hn => List.getElem?_set_ne (fun z => hn z.symm)⟩
theorem Fw.get {w : Nat} {h h' : Hd} (x : Fw w h h') {i : Nat} {o : O} (e : h[i]? = some o) (hn : i ≠ w) : h'[i]? = some o := (x.at' i (lt_of e) hn).trans e

/-! ### terms -/
def BIG : Int := 1000000000000000000000000000000000000000000000000000000000000000000000000000000000000000000000000000000000000000000000000000000000000000000000000000000000000000000000000000000000000000000000000000000000000000000000000000000000000000000000000000000000000000000000000000000000000000000000000000000000000
def signOk (c : Nat) : Bool := decide (32 ≤ c) && decide (c ≤ 126) && decide (c ≠ 37)
def atomOk (s : Str) : Bool := decide (s.length ≤ 40) && s.cps.toList.all signOk
inductive T : D → Prop where
  | var (n : Int) : 0 ≤ n → T (.tup [.int n])
  | int (i : Int) : (if i < 0 then -i else i) < BIG → T (.int i)
  | str (s : Str) : atomOk s = true → T (.str s)
  | cmp (f : Str) (a : D) (as : List D) : atomOk f = true → as.length < 8 → (∀ x ∈ a :: as, T x) → T (.tup (.str f :: a :: as))
mutual
/-- the parts, from the left, each ahead of its arguments -/
def parts : D → List D
  | .tup xs => .tup xs :: partsT xs
  | .int i => [.int i]
  | .str s => [.str s]
  | .bl b => [.bl b]
  | .non => [.non]
  | .ty s => [.ty s]
  | .rol xs => [.rol xs]
  | .at n => [.at n]
  | .ad n => [.ad n]
def partsT : List D → List D
  | [] => []
  | _ :: ds => partss ds
def partss : List D → List D
  | [] => []
  | d :: ds => parts d ++ partss ds
end
theorem partss_app : ∀ as bs : List D, partss (as ++ bs) = partss as ++ partss bs
  | [], bs => by simp [partss]
  | a :: as, bs => by simp [partss, partss_app as bs]
theorem parts_pos (d : D) : 1 ≤ (parts d).length := by cases d <;> simp [parts]
theorem len_partss : ∀ ds : List D, ds.length ≤ (partss ds).length
  | [] => by simp [partss]
  | d :: ds => by
    have h1 := parts_pos d
    have h2 := len_partss ds
    simp only [partss, List.length_append, List.length_cons]
    omega
def flat : D → Bool
  | .int _ => true
  | .str _ => true
  | .tup _ => true
  | .bl _ => true
  | _ => false
theorem T.flat {d : D} (t : T d) : flat d = true := by cases t <;> rfl
def isInt : D → Bool
  | .int _ => true
  | _ => false
def isCmp : D → Bool
  | .tup xs => decide (1 < (xs.length : Int))
  | _ => false
def isVar : D → Bool
  | .tup [.int n] => decide (0 ≤ n)
  | _ => false
/-! the data of a term -/
mutual
def pd : D → PyData
  | .tup xs => .tuple (pds xs)
  | .int i => .int i
  | .str s => .str s
  | .bl b => .bool b
  | .non => .none
  | .ty s => .none
  | .rol xs => .list (pds xs)
  | .at n => .none
  | .ad n => .none
def pds : List D → List PyData
  | [] => []
  | d :: ds => pd d :: pds ds
end
theorem atom_strOk {s : Str} (h : atomOk s = true) : PyData.strOk s = true := by
  unfold atomOk at h
  unfold PyData.strOk
  have h2 := (Bool.and_eq_true_iff.mp h).2
  rw [Array.all_eq_true_iff_forall_mem]
  intro c hc
  have := List.all_eq_true.mp h2 c (by simpa using hc)
  unfold signOk at this
  simp only [Bool.and_eq_true, decide_eq_true_eq] at this
  exact decide_eq_true (by omega)
theorem toPs_of {r : Nat → Option PyData} : ∀ {ds : List D}, (∀ d ∈ ds, toP r d = some (pd d) ∧ (pd d).canLay0 = true) → toPs r ds = some (pds ds) ∧ PyData.canLayAll0 (pds ds) = true
  | [], _ => ⟨by simp [toPs, pds], by simp [pds, PyData.canLayAll0]⟩
  | d :: ds, h => by
    obtain ⟨h1, h2⟩ := h d List.mem_cons_self
    obtain ⟨h3, h4⟩ := toPs_of (r := r) (ds := ds) fun x hx => h x (List.mem_cons_of_mem _ hx)
    refine ⟨?_, ?_⟩
    · simp only [toPs, h1, h3, pds]
    · simp only [pds, PyData.canLayAll0, h2, h4, Bool.and_self]
theorem T.dat {r : Nat → Option PyData} {d : D} (t : T d) : toP r d = some (pd d) ∧ (pd d).canLay0 = true := by
  induction t with
  | var n h => simp [toP, toPs, pd, pds, PyData.canLay0, PyData.canLayAll0]
  | int i h => simp [toP, pd, PyData.canLay0]
  | str s h => simp [toP, pd, PyData.canLay0, atom_strOk h]
  | cmp f a as hf hl _ ih =>
    obtain ⟨h1, h2⟩ := toPs_of (r := r) ih
    constructor
    · rw [toP, toPs]
      simp only [toP, h1, pd, pds]
    · rw [pd, pds, PyData.canLay0, PyData.canLayAll0]
      simp only [pd, PyData.canLay0, atom_strOk hf, h2, Bool.and_self]
/-- waiting != [] -/
theorem ne_nil {h : Hd} {n m : Nat} {ws : List D} (e : h[n]? = some (.lst ws)) (e2 : h[m]? = some (.lst [])) (ht : ∀ d ∈ ws, toP (rP 2 h) d = some (pd d) ∧ (pd d).canLay0 = true) : neD (.at n) (.at m) h = some (.bl (!ws.isEmpty), h) := by
  obtain ⟨h1, h2⟩ := toPs_of ht
  unfold neD datD
  have a1 : toP (rP 3 h) (.at n) = some (.list (pds ws)) := by
    rw [toP, rP, e]
    simp only [h1]
  have a2 : toP (rP 3 h) (.at m) = some (.list []) := by
    rw [toP, rP, e2]
    simp only [toPs]
  rw [a1, a2]
  simp only
  rw [if_pos ⟨by rw [PyData.canLay0]; exact h2, by simp [PyData.canLay0, PyData.canLayAll0], by
    have : (PyData.list []).depth = 1 := by simp [PyData.depth, PyData.depthAll]
    rw [this]
    omega⟩]
  cases ws with
  | nil => simp [pds, PyData.eqv, PyData.eqvAll]
  | cons d ds => simp [pds, PyData.eqv, PyData.eqvAll]
theorem T.datL {h : Hd} {ws : List D} (ht : ∀ d ∈ ws, T d) : ∀ d ∈ ws, toP (rP 2 h) d = some (pd d) ∧ (pd d).canLay0 = true := fun d hd => (ht d hd).dat
local macro_rules | `(tactic| walk_at "ev") => `(tactic| simp only [bodyM, startD, varM, cM, opM, testM, chainM, nilM, consM, tupM, lstM, DL.andM, DL.orM, DL.notM, truM, tandM, torM, tnotM, ifM, negM,
  addD, subD, mulD, fdivD, modD, powD, ltD, leD, gtD, geD, subsD, seqD, keyD, noM, partM, sliceD, slM, cbM, lenD, absD, intD, isiD, kdD, kb1, kb2, kb3, kb4, kb5, kb6, kb7, kb8, kb9, kb10, kb11, kb12, kb13, kb14, kb15, kb16, eq_ii, ne_ii,
  bmM, isDct, dnewM, nameG, nilG, consG, tupG, passM, brkM, cntM, exprM, retM, asgM, seqM, ifSM, neverM, augM, addID, parM, par3M, callM, truD, k_MOST_SIGNS, k_TOO_GREAT, seqI, backM, backD, tuplD,
  List.map_cons, List.map_nil, List.length_cons, List.length_nil, List.cons_append, List.nil_append, List.append_nil, List.getElem?_cons_zero, List.getElem?_cons_succ, List.getElem?_nil, List.replicate, List.set_cons_zero, List.set_cons_succ,
  if_true, if_false, ↓reduceIte, Bool.false_eq_true, Bool.not_true, Bool.not_false, decide_true, decide_false, Nat.reduceSub, Nat.reduceAdd, Nat.reduceLeDiff, Nat.reduceEqDiff, Int.reduceLT, Int.reduceLE, Nat.zero_le, String.reduceBEq, beq_self_eq_true])
section
variable (NF RD : Nat)
theorem r_is_int (d : D) (h : Hd) (hd : flat d = true) : m_is_int NF RD [d] h = some (.bl (isInt d), h) := by
  unfold m_is_int
  cases d <;> first | (cases hd; done) | (walk_at "ev"; rfl)
theorem r_is_any_number (d : D) (h : Hd) (hd : flat d = true) : m_is_any_number NF RD [d] h = some (.bl (match d with | .int i => decide ((if i < 0 then -i else i) < BIG) | _ => false), h) := by
  have hi := r_is_int NF RD d h hd
  unfold m_is_any_number
  cases d with
  | int i => walk_at "ev"; simp only [hi, isInt]; rfl
  | str s => walk_at "ev"; simp only [hi, isInt]
  | tup s => walk_at "ev"; simp only [hi, isInt]
  | bl s => walk_at "ev"; simp only [hi, isInt]
  | _ => cases hd
/-- a comprehension over items that are known, whose element changes nothing -/
theorem lc_pure {xs : List D} {i : Nat} {a : ME} {D0 : Nat} {sg0 : Sg} {f : D → D} (ha : ∀ x ∈ xs, ∀ h, a (sg0.set i (some x)) h = some (f x, h)) : ∀ (N k : Nat) (acc : List D) (h : Hd), xs.length - k + 1 ≤ N → acc.length + (xs.length - k) ≤ LN → h[D0]? = some (.lst acc) →
    lcM' (.fix xs) (nameG i) yesM a D0 sg0 N k h = some (h.set D0 (.lst (acc ++ (xs.drop k).map f)))
  | 0, k, acc, h, h1, _, _ => by omega
  | N + 1, k, acc, h, h1, h2, h3 => by
    unfold lcM'
    simp only [Src.nxt]
    cases q : xs[k]? with
    | none =>
      have hk := List.getElem?_eq_none_iff.mp q
      simp only [List.drop_eq_nil_of_le hk, List.map_nil, List.append_nil]
      congr 1
      exact (List.set_getElem_self' h3).symm
    | some x =>
      have hk := (List.getElem?_eq_some_iff.mp q).1
      have hx : x ∈ xs := List.mem_of_getElem? q
      simp only [nameG, yesM, ha x hx, h3]
      rw [if_pos (by omega)]
      rw [lc_pure ha N (k + 1) (acc ++ [f x]) _ (by omega) (by simp; omega) (get_set h3)]
      rw [List.set_set]
      have : xs.drop k = x :: xs.drop (k + 1) := by
        rw [List.drop_eq_getElem_cons hk]
        congr 1
        exact (List.getElem?_eq_some_iff.mp q).2
      rw [this, List.map_cons, List.append_assoc]
      rfl
where
  List.set_getElem_self' {h : Hd} {i : Nat} {o : O} (e : h[i]? = some o) : h.set i o = h := by
    obtain ⟨hi, e⟩ := List.getElem?_eq_some_iff.mp e
    rw [← e]
    exact List.set_getElem_self hi
end
section
variable (NF RD : Nat)
/-! ### atoms -/
def sgD (c : Nat) : D := .str ⟨⟨[c]⟩⟩
theorem ord_sg (c : Nat) (h : Hd) : ordD [sgD c] h = some (.int c, h) := rfl
theorem lt_sg (a c : Nat) : ltS ⟨⟨[a]⟩⟩ ⟨⟨[c]⟩⟩ = decide (a < c) := by
  unfold ltS
  simp only [List.cons_lt_cons_iff, List.not_lt_nil, and_false, or_false]
theorem s_blank : (PySem.Str.ofString " ") = ⟨⟨[32]⟩⟩ := by decide +kernel
theorem s_tilde : (PySem.Str.ofString "~") = ⟨⟨[126]⟩⟩ := by decide +kernel
theorem el_atom (c : Nat) (x : Option D) (h : Hd) : E_is_any_atom_0 NF RD [x, some (sgD c)] h = some (.bl (signOk c), h) := by
  unfold E_is_any_atom_0 sgD
  walk_at "ev"
  rw [s_blank, s_tilde, lt_sg, lt_sg]
  by_cases q : c < 32
  · have q' : ¬ (32 ≤ c) := by omega
    simp [truD, signOk, q, q']
  · have q' : 32 ≤ c := by omega
    by_cases q2 : 126 < c
    · have q2' : ¬ (c ≤ 126) := by omega
      simp [truD, signOk, q, q', q2, q2']
    · have q2' : c ≤ 126 := by omega
      by_cases q3 : c = 37
      · subst q3
        simp [truD, signOk, ordD, ne_ii]
        try rfl
      · have q3' : ¬ ((c : Int) = 37) := by omega
        simp [truD, signOk, q, q', q2, q2', q3, ordD, ne_ii, q3']
theorem bls_all : ∀ l : List Nat, blsD (l.map fun c => D.bl (signOk c)) = some (l.map signOk)
  | [] => rfl
  | c :: l => by
    rw [List.map_cons, blsD, bls_all l]
    rfl
theorem r_is_any_atom (s : Str) (h : Hd) (hN : 50 ≤ NF) (hz : s.length ≤ LN) : ∃ h', m_is_any_atom NF RD [.str s] h = some (.bl (atomOk s), h') ∧ Pre h h' := by
  unfold m_is_any_atom
  · walk_at "ev"
    rw [if_pos hz]
    simp only [Int.ofNat_eq_natCast]
    by_cases hl : s.length ≤ 40
    · have h40 : decide ((40 : Int) < (s.length : Int)) = false := decide_eq_false (by omega)
      simp only [h40]
      unfold lcM
      walk_at "ev"
      have ha : ∀ x ∈ (s.cps.toList.map sgD), ∀ h, E_is_any_atom_0 NF RD ((wipeD [some (D.str s), none] [1]).set 1 (some x)) h = some ((match x with | .str ⟨⟨[c]⟩⟩ => .bl (signOk c) | _ => .non), h) := by
        intro x hx h
        obtain ⟨c, _, rfl⟩ := List.mem_map.mp hx
        exact el_atom NF RD c _ h
      have hlen : s.cps.toList.length = s.length := by simp [Str.length]
      have key := lc_pure ha NF 0 [] (h ++ [O.lst []]) (D0 := h.length) (by rw [List.length_map, hlen]; omega) (by rw [List.length_map, hlen]; simp; omega) (get_new _ _)
      have e0 : (s.cps.toList.map fun c => D.str ⟨⟨[c]⟩⟩) = s.cps.toList.map sgD := rfl
      rw [e0, key]
      simp only [allD, List.drop_zero, List.nil_append, List.map_map]
      rw [get_set (get_new _ _)]
      have e1 : (s.cps.toList.map ((fun x => match x with | .str ⟨⟨[c]⟩⟩ => D.bl (signOk c) | _ => .non) ∘ sgD)) = s.cps.toList.map fun c => D.bl (signOk c) := rfl
      simp only [e1, bls_all]
      refine ⟨_, congrArg some (Prod.ext (congrArg D.bl ?_) rfl), (Pre.app h [.lst []]).set (Nat.le_refl _) _⟩
      unfold atomOk
      rw [decide_eq_true hl, Bool.true_and, List.all_map]
      rfl
    · have h40 : decide ((40 : Int) < (s.length : Int)) = true := decide_eq_true (by omega)
      simp only [h40]
      refine ⟨h, ?_, Pre.refl h⟩
      unfold atomOk
      rw [decide_eq_false hl]
      rfl
end
theorem LN_eq : LN = 16777216 := rfl
/-! ### texts -/
section
variable {h : Hd} {Q : D → Hd → Prop} {a b : Str} {x : D} {xs : List D} {neg : Bool}
theorem eq_ss (ha : PyData.strOk a = true) (hb : PyData.strOk b = true) : eqD (.str a) (.str b) h = some (.bl (decide (a = b)), h) := by
  unfold eqD datD
  simp only [toP, PyData.canLay0, ha, hb, PyData.depth, PyData.eqv, true_and, Nat.min_self, Nat.zero_le, if_true]
  rw [Bool.beq_eq_decide_eq]
theorem lf_eqT (e : (PyData.strOk a && PyData.strOk b && decide (a = b)) = true) (q : Q (.bl true) h) : Ev (eqD (.str a) (.str b) h) Q := by
  simp only [Bool.and_eq_true] at e
  exact ⟨_, _, eq_ss e.1.1 e.1.2, by rw [e.2]; exact q⟩
theorem lf_eqF (e : (PyData.strOk a && PyData.strOk b && !decide (a = b)) = true) (q : Q (.bl false) h) : Ev (eqD (.str a) (.str b) h) Q := by
  simp only [Bool.and_eq_true, Bool.not_eq_true'] at e
  exact ⟨_, _, eq_ss e.1.1 e.1.2, by rw [e.2]; exact q⟩
def inC (neg : Bool) (x : D) (xs : List D) : Option Bool := match flD x, flDs xs with
  | some v, some vs => some (neg ^^ inV v vs)
  | _, _ => none
theorem lf_inC {b : Bool} (e : inC neg x xs = some b) (q : Q (.bl b) h) : Ev (inD neg x (.tup xs) h) Q := by
  unfold inC at e
  refine ⟨_, _, ?_, q⟩
  unfold inD
  try simp only [seqD]
  split at e
  · rename_i v vs e1 e2
    try simp only [e1, e2]
    cases e
    rfl
  · cases e
theorem lf_inT (e : inC neg x xs = some true) (q : Q (.bl true) h) : Ev (inD neg x (.tup xs) h) Q := lf_inC e q
theorem lf_inF (e : inC neg x xs = some false) (q : Q (.bl false) h) : Ev (inD neg x (.tup xs) h) Q := lf_inC e q
theorem lf_isT (e : isNonD x = true) (q : Q (.bl true) h) : Ev (isD x .non h) Q := ⟨_, _, by simp only [isD, e], q⟩
theorem lf_isF (e : isNonD x = false) (q : Q (.bl false) h) : Ev (isD x .non h) Q := ⟨_, _, by simp only [isD, e], q⟩
theorem lf_isntT (e : isNonD x = false) (q : Q (.bl true) h) : Ev (isntD x .non h) Q := ⟨_, _, by simp only [isntD, e]; rfl, q⟩
theorem lf_isntF (e : isNonD x = true) (q : Q (.bl false) h) : Ev (isntD x .non h) Q := ⟨_, _, by simp only [isntD, e]; rfl, q⟩
theorem at1 {α : Type} (x y : α) (xs : List α) : L2.atI (x :: y :: xs) 1 = some y := by
  unfold L2.atI L2.ixN
  have : (1 : Int) < ((x :: y :: xs).length : Int) := by simp only [List.length_cons]; omega
  rw [if_pos (by decide), if_pos this]
  rfl
theorem at2 {α : Type} (x y z : α) (xs : List α) : L2.atI (x :: y :: z :: xs) 2 = some z := by
  unfold L2.atI L2.ixN
  have : (2 : Int) < ((x :: y :: z :: xs).length : Int) := by simp only [List.length_cons]; omega
  rw [if_pos (by decide), if_pos this]
  rfl
end

local macro_rules | `(tactic| walk_at "hp") => `(tactic| first | assumption | exact get_set (by assumption) | exact get_new _ _ | exact (Pre.app _ _).get (by assumption) | exact (Pre.app _ _).get (get_new _ _) | exact get_set (get_new _ _))
local macro_rules | `(tactic| walk_at "w1") => `(tactic| (with_reducible refine sq_str ?_))
local macro_rules | `(tactic| walk_at "w1") => `(tactic| (((with_reducible apply sq_obj); · walk_at "hp")))
local macro_rules | `(tactic| walk_at "w1") => `(tactic| (with_reducible refine sq_rol ?_))
local macro_rules | `(tactic| walk_at "w1") => `(tactic| (with_reducible refine sq_fix ?_))
local macro_rules | `(tactic| walk_at "w1") => `(tactic| (((with_reducible apply lf_listL); · walk_at "hp")))
local macro_rules | `(tactic| walk_at "w1") => `(tactic| (with_reducible refine lf_backT0 ?_))
local macro_rules | `(tactic| walk_at "w1") => `(tactic| (with_reducible refine lf_slT ?_))
local macro_rules | `(tactic| walk_at "w1") => `(tactic| (((with_reducible apply lf_ix); · exact at2 _ _ _ _)))
local macro_rules | `(tactic| walk_at "w1") => `(tactic| (((with_reducible apply lf_ix); · exact at1 _ _ _)))
local macro_rules | `(tactic| walk_at "w1") => `(tactic| (((with_reducible apply lf_ix); · exact at0 _ _)))
local macro_rules | `(tactic| walk_at "w1") => `(tactic| (((with_reducible refine lf_isntF ?_ ?_); · exact rfl)))
local macro_rules | `(tactic| walk_at "w1") => `(tactic| (((with_reducible refine lf_isntT ?_ ?_); · exact rfl)))
local macro_rules | `(tactic| walk_at "w1") => `(tactic| (((with_reducible refine lf_isF ?_ ?_); · exact rfl)))
local macro_rules | `(tactic| walk_at "w1") => `(tactic| (((with_reducible refine lf_isT ?_ ?_); · exact rfl)))
local macro_rules | `(tactic| walk_at "w1") => `(tactic| (with_reducible refine ky_str ?_))
local macro_rules | `(tactic| walk_at "w1") => `(tactic| (with_reducible refine ky_int ?_))
local macro_rules | `(tactic| walk_at "w1") => `(tactic| (with_reducible refine ev_pnil ?_))
local macro_rules | `(tactic| walk_at "w1") => `(tactic| (with_reducible refine ev_pcons ?_))
local macro_rules | `(tactic| walk_at "w1") => `(tactic| (with_reducible refine ev_disp ?_))
local macro_rules | `(tactic| walk_at "w1") => `(tactic| (with_reducible refine rv_tup ?_))
local macro_rules | `(tactic| walk_at "w1") => `(tactic| (with_reducible refine ev_revI ?_))
local macro_rules | `(tactic| walk_at "w1") => `(tactic| (with_reducible refine ev_bits ?_))
local macro_rules | `(tactic| walk_at "w1") => `(tactic| (((with_reducible refine lf_fdivZp ?_ ?_); · assumption)))
local macro_rules | `(tactic| walk_at "w1") => `(tactic| (((with_reducible refine lf_modZp ?_ ?_); · assumption)))
local macro_rules | `(tactic| walk_at "w1") => `(tactic| (with_reducible refine lf_bit ?_))
local macro_rules | `(tactic| walk_at "w1") => `(tactic| (((with_reducible refine lf_inF ?_ ?_); · decide +kernel)))
local macro_rules | `(tactic| walk_at "w1") => `(tactic| (((with_reducible refine lf_inT ?_ ?_); · decide +kernel)))
local macro_rules | `(tactic| walk_at "w1") => `(tactic| (((with_reducible refine lf_eqF ?_ ?_); · decide +kernel)))
local macro_rules | `(tactic| walk_at "w1") => `(tactic| (((with_reducible refine lf_eqT ?_ ?_); · decide +kernel)))
local macro_rules | `(tactic| walk_at "w1") => `(tactic| (((with_reducible refine lf_mulI ?_ ?_); · first | assumption | exact .inr (.inl ⟨by decide, by decide⟩) | exact .inl ⟨by decide, by decide⟩)))
local macro_rules | `(tactic| walk_at "w1") => `(tactic| (((with_reducible refine lf_pow ?_ ?_); · first | assumption | decide +kernel)))
local macro_rules | `(tactic| walk_at "w1") => `(tactic| (((with_reducible refine lf_fdiv ?_ ?_); · first | assumption | decide +kernel)))
local macro_rules | `(tactic| walk_at "w1") => `(tactic| (((with_reducible refine lf_mod ?_ ?_); · first | assumption | decide)))
local macro_rules | `(tactic| walk_at "w1") => `(tactic| (((with_reducible apply lf_tuplL); · walk_at "hp")))
local macro_rules | `(tactic| walk_at "w1") => `(tactic| (with_reducible refine lf_tuplT ?_))
local macro_rules | `(tactic| walk_at "w1") => `(tactic| (with_reducible refine lf_min ?_))
local macro_rules | `(tactic| walk_at "w1") => `(tactic| (with_reducible refine lf_max ?_))
local macro_rules | `(tactic| walk_at "w1") => `(tactic| (with_reducible refine lf_intB ?_))
local macro_rules | `(tactic| walk_at "w1") => `(tactic| (with_reducible refine lf_intI ?_))
local macro_rules | `(tactic| walk_at "w1") => `(tactic| (with_reducible refine lf_abs ?_))
local macro_rules | `(tactic| walk_at "w1") => `(tactic| (((with_reducible refine lf_lenS ?_ ?_); · assumption)))
local macro_rules | `(tactic| walk_at "w1") => `(tactic| (((with_reducible apply lf_lenL); · walk_at "hp")))
local macro_rules | `(tactic| walk_at "w1") => `(tactic| (with_reducible refine lf_lenR ?_))
local macro_rules | `(tactic| walk_at "w1") => `(tactic| (with_reducible refine lf_lenT ?_))
local macro_rules | `(tactic| walk_at "w1") => `(tactic| (with_reducible refine lf_neI ?_))
local macro_rules | `(tactic| walk_at "w1") => `(tactic| (with_reducible refine lf_eqI ?_))
local macro_rules | `(tactic| walk_at "w1") => `(tactic| (with_reducible refine lf_ge ?_))
local macro_rules | `(tactic| walk_at "w1") => `(tactic| (with_reducible refine lf_gt ?_))
local macro_rules | `(tactic| walk_at "w1") => `(tactic| (with_reducible refine lf_le ?_))
local macro_rules | `(tactic| walk_at "w1") => `(tactic| (with_reducible refine lf_lt ?_))
local macro_rules | `(tactic| walk_at "w1") => `(tactic| (with_reducible refine lf_subI ?_))
local macro_rules | `(tactic| walk_at "w1") => `(tactic| (with_reducible refine lf_addI ?_))
local macro_rules | `(tactic| walk_at "w1") => `(tactic| (with_reducible refine lf_addIDI ?_))
local macro_rules | `(tactic| walk_at "w1") => `(tactic| (((with_reducible apply ev_aug); · exact rfl)))
local macro_rules | `(tactic| walk_at "w1") => `(tactic| (((with_reducible apply lf_isi); (· exact rfl); · first | exact kb1 | exact kb2 | exact kb3 | exact kb4 | exact kb5 | exact kb6 | exact kb7 | exact kb8 | exact kb9 | exact kb10 | exact kb11 | exact kb12 | exact kb13 | exact kb14 | exact kb15 | exact kb16)))
local macro_rules | `(tactic| walk_at "w1") => `(tactic| (refine br_ff ?_))
local macro_rules | `(tactic| walk_at "w1") => `(tactic| (refine br_tt ?_))
local macro_rules | `(tactic| walk_at "w1") => `(tactic| (((with_reducible refine br_f ?_ ?_); · assumption)))
local macro_rules | `(tactic| walk_at "w1") => `(tactic| (((with_reducible refine br_t ?_ ?_); · assumption)))
local macro_rules | `(tactic| walk_at "w1") => `(tactic| (with_reducible refine br_ff ?_))
local macro_rules | `(tactic| walk_at "w1") => `(tactic| (with_reducible refine br_tt ?_))
local macro_rules | `(tactic| walk_at "w1") => `(tactic| (((with_reducible refine cl_k ?_ ?_); · exact rfl)))
local macro_rules | `(tactic| walk_at "w1") => `(tactic| (((with_reducible refine ln_k ?_ ?_); · first | assumption | exact Nat.le_of_ble_eq_true rfl)))
local macro_rules | `(tactic| walk_at "w1") => `(tactic| (((with_reducible apply kd_lst); · walk_at "hp")))
local macro_rules | `(tactic| walk_at "w1") => `(tactic| (refine m1k ?_))
local macro_rules | `(tactic| walk_at "w1") => `(tactic| (with_reducible refine p3k ?_))
local macro_rules | `(tactic| walk_at "w1") => `(tactic| (with_reducible refine p2k ?_))
local macro_rules | `(tactic| walk_at "w1") => `(tactic| (with_reducible refine itk ?_))
local macro_rules | `(tactic| walk_at "w1") => `(tactic| (with_reducible refine blk ?_))
local macro_rules | `(tactic| walk_at "w1") => `(tactic| (with_reducible refine tr_non ?_))
local macro_rules | `(tactic| walk_at "w1") => `(tactic| (with_reducible refine tr_tup ?_))
local macro_rules | `(tactic| walk_at "w1") => `(tactic| (with_reducible refine tr_int ?_))
local macro_rules | `(tactic| walk_at "w1") => `(tactic| (with_reducible refine tr_bl ?_))
local macro_rules | `(tactic| walk_at "w1") => `(tactic| (with_reducible refine lp_rt ?_))
local macro_rules | `(tactic| walk_at "w1") => `(tactic| (with_reducible refine lp_bk ?_))
local macro_rules | `(tactic| walk_at "w1") => `(tactic| (with_reducible refine lp_ct ?_))
local macro_rules | `(tactic| walk_at "w1") => `(tactic| (with_reducible refine lp_nx ?_))
local macro_rules | `(tactic| walk_at "w1") => `(tactic| (with_reducible refine bd_rt ?_))
local macro_rules | `(tactic| walk_at "w1") => `(tactic| (with_reducible refine bd_nx ?_))
local macro_rules | `(tactic| walk_at "w1") => `(tactic| (with_reducible refine sq_ct ?_))
local macro_rules | `(tactic| walk_at "w1") => `(tactic| (with_reducible refine sq_bk ?_))
local macro_rules | `(tactic| walk_at "w1") => `(tactic| (with_reducible refine sq_rt ?_))
local macro_rules | `(tactic| walk_at "w1") => `(tactic| (with_reducible refine ev_forS ?_))
local macro_rules | `(tactic| walk_at "w1") => `(tactic| (with_reducible refine ev_enuI ?_))
local macro_rules | `(tactic| walk_at "w1") => `(tactic| (with_reducible refine ev_rngI ?_))
local macro_rules | `(tactic| walk_at "w1") => `(tactic| (with_reducible refine ev_seqI ?_))
local macro_rules | `(tactic| walk_at "w1") => `(tactic| (with_reducible refine ev_body ?_))
local macro_rules | `(tactic| walk_at "w1") => `(tactic| (((with_reducible refine ev_uplT ?_ ?_); · exact rfl)))
local macro_rules | `(tactic| walk_at "w1") => `(tactic| (((with_reducible refine ev_tupG ?_ ?_); · exact rfl)))
local macro_rules | `(tactic| walk_at "w1") => `(tactic| (with_reducible refine ev_consG ?_))
local macro_rules | `(tactic| walk_at "w1") => `(tactic| (with_reducible refine ev_nilG ?_))
local macro_rules | `(tactic| walk_at "w1") => `(tactic| (with_reducible refine ev_name ?_))
local macro_rules | `(tactic| walk_at "w1") => `(tactic| (with_reducible refine ev_par3 ?_))
local macro_rules | `(tactic| walk_at "w1") => `(tactic| (with_reducible refine ev_par ?_))
local macro_rules | `(tactic| walk_at "w1") => `(tactic| (with_reducible refine ev_call ?_))
local macro_rules | `(tactic| walk_at "w1") => `(tactic| (with_reducible refine ev_back ?_))
local macro_rules | `(tactic| walk_at "w1") => `(tactic| (with_reducible refine ev_sl ?_))
local macro_rules | `(tactic| walk_at "w1") => `(tactic| (with_reducible refine ev_part ?_))
local macro_rules | `(tactic| walk_at "w1") => `(tactic| (with_reducible refine ev_no ?_))
local macro_rules | `(tactic| walk_at "w1") => `(tactic| (with_reducible refine ev_bm ?_))
local macro_rules | `(tactic| walk_at "w1") => `(tactic| (with_reducible refine ev_cb ?_))
local macro_rules | `(tactic| walk_at "w1") => `(tactic| (with_reducible refine ev_dnew ?_))
local macro_rules | `(tactic| walk_at "w1") => `(tactic| (with_reducible refine ev_lst ?_))
local macro_rules | `(tactic| walk_at "w1") => `(tactic| (with_reducible refine ev_tup ?_))
local macro_rules | `(tactic| walk_at "w1") => `(tactic| (with_reducible refine ev_cons ?_))
local macro_rules | `(tactic| walk_at "w1") => `(tactic| (with_reducible refine ev_nil ?_))
local macro_rules | `(tactic| walk_at "w1") => `(tactic| (with_reducible refine ev_yes ?_))
local macro_rules | `(tactic| walk_at "w1") => `(tactic| (with_reducible refine ev_tnot ?_))
local macro_rules | `(tactic| walk_at "w1") => `(tactic| (with_reducible refine ev_tor ?_))
local macro_rules | `(tactic| walk_at "w1") => `(tactic| (with_reducible refine ev_tand ?_))
local macro_rules | `(tactic| walk_at "w1") => `(tactic| (with_reducible refine ev_tru ?_))
local macro_rules | `(tactic| walk_at "w1") => `(tactic| (with_reducible refine ev_test ?_))
local macro_rules | `(tactic| walk_at "w1") => `(tactic| (with_reducible refine ev_ifE ?_))
local macro_rules | `(tactic| walk_at "w1") => `(tactic| (with_reducible refine ev_not ?_))
local macro_rules | `(tactic| walk_at "w1") => `(tactic| (with_reducible refine ev_or ?_))
local macro_rules | `(tactic| walk_at "w1") => `(tactic| (with_reducible refine ev_and ?_))
local macro_rules | `(tactic| walk_at "w1") => `(tactic| (with_reducible refine ev_neg ?_))
local macro_rules | `(tactic| walk_at "w1") => `(tactic| (with_reducible refine ev_chain ?_))
local macro_rules | `(tactic| walk_at "w1") => `(tactic| (with_reducible refine ev_op ?_))
local macro_rules | `(tactic| walk_at "w1") => `(tactic| (with_reducible refine ev_c ?_))
local macro_rules | `(tactic| walk_at "w1") => `(tactic| (((with_reducible apply ev_var); · exact rfl)))
local macro_rules | `(tactic| walk_at "w1") => `(tactic| (with_reducible refine ev_brk ?_))
local macro_rules | `(tactic| walk_at "w1") => `(tactic| (with_reducible refine ev_cnt ?_))
local macro_rules | `(tactic| walk_at "w1") => `(tactic| (with_reducible refine ev_pass ?_))
local macro_rules | `(tactic| walk_at "w1") => `(tactic| (with_reducible refine ev_ifS ?_))
local macro_rules | `(tactic| walk_at "w1") => `(tactic| (with_reducible refine ev_expr ?_))
local macro_rules | `(tactic| walk_at "w1") => `(tactic| (with_reducible refine ev_asg ?_))
local macro_rules | `(tactic| walk_at "w1") => `(tactic| (with_reducible refine ev_ret ?_))
local macro_rules | `(tactic| walk_at "w1") => `(tactic| (with_reducible refine ev_seq ?_))
local macro_rules | `(tactic| walk_at "w1") => `(tactic| (((with_reducible apply fld_k); (· walk_at "hp"); (· exact List.mem_cons_self); (· exact rfl))))
local macro_rules | `(tactic| walk_at "w1") => `(tactic| (((with_reducible apply sfld_k); (· walk_at "hp"); (· exact List.mem_cons_self); (· exact Nat.le_of_ble_eq_true rfl))))
local macro_rules | `(tactic| walk_at "w1") => `(tactic| (((with_reducible apply mt_k); (· walk_at "hp"); (· exact rfl))))
local macro_rules | `(tactic| walk_at "w1") => `(tactic| (with_reducible refine non_k ?_))
local macro_rules | `(tactic| walk_at "w1") => `(tactic| (with_reducible refine lf_isB ?_))
local macro_rules | `(tactic| walk_at "w1") => `(tactic| (with_reducible refine lf_isntB ?_))
local macro_rules | `(tactic| walk_at "w1") => `(tactic| (with_reducible refine ev_rng3I ?_))
local macro_rules | `(tactic| walk_at "w1") => `(tactic| (with_reducible refine ev_rng2I ?_))
local macro_rules | `(tactic| walk_at "w1") => `(tactic| (with_reducible refine ev_dnewN ?_))
local macro_rules | `(tactic| walk_at "w1") => `(tactic| (with_reducible refine ev_make ?_))
local macro_rules | `(tactic| walk_at "w1") => `(tactic| (with_reducible refine ev_meth ?_))
local macro_rules | `(tactic| walk_at "w1") => `(tactic| (with_reducible refine ev_setFld ?_))
local macro_rules | `(tactic| walk_at "w1") => `(tactic| (with_reducible refine ev_fld ?_))
local macro_rules | `(tactic| walk_at "wq") => `(tactic| repeat' (first | walk_at "w1" | fail))
local macro_rules | `(tactic| walk_at "wp") => `(tactic| repeat' (first | walk_at "w1" | with_reducible refine sq_nx ?_ | fail))
/-! ### data without lists: == is equality -/
mutual
def plD : D → Bool
  | .int _ => true
  | .str s => PyData.strOk s
  | .tup xs => plDs xs
  | .non => false
  | .bl _ => false
  | .ty _ => false
  | .rol _ => false
  | .at _ => false
  | .ad _ => false
def plDs : List D → Bool
  | [] => true
  | d :: ds => plD d && plDs ds
end
mutual
theorem eqv_pl : ∀ x y : D, plD x = true → plD y = true → (PyData.eqv (pd x) (pd y) = true ↔ x = y)
  | .int i, .int j, _, _ => by simp [pd, PyData.eqv]
  | .int i, .str s, _, _ => by simp [pd, PyData.eqv]
  | .int i, .tup xs, _, _ => by simp [pd, PyData.eqv]
  | .str s, .int j, _, _ => by simp [pd, PyData.eqv]
  | .str s, .str z, _, _ => by simp [pd, PyData.eqv]
  | .str s, .tup xs, _, _ => by simp [pd, PyData.eqv]
  | .tup xs, .int j, _, _ => by simp [pd, PyData.eqv]
  | .tup xs, .str z, _, _ => by simp [pd, PyData.eqv]
  | .tup xs, .tup ys, h1, h2 => by
    simp only [plD] at h1 h2
    simp only [pd, PyData.eqv]
    rw [eqv_pls xs ys h1 h2]
    simp
  | .non, _, h, _ => by simp [plD] at h
  | .bl _, _, h, _ => by simp [plD] at h
  | .ty _, _, h, _ => by simp [plD] at h
  | .rol _, _, h, _ => by simp [plD] at h
  | .at _, _, h, _ => by simp [plD] at h
  | .ad _, _, h, _ => by simp [plD] at h
  | _, .non, _, h => by simp [plD] at h
  | _, .bl _, _, h => by simp [plD] at h
  | _, .ty _, _, h => by simp [plD] at h
  | _, .rol _, _, h => by simp [plD] at h
  | _, .at _, _, h => by simp [plD] at h
  | _, .ad _, _, h => by simp [plD] at h
theorem eqv_pls : ∀ xs ys : List D, plDs xs = true → plDs ys = true → (PyData.eqvAll (pds xs) (pds ys) = true ↔ xs = ys)
  | [], [], _, _ => by simp [pds, PyData.eqvAll]
  | [], _ :: _, _, _ => by simp [pds, PyData.eqvAll]
  | _ :: _, [], _, _ => by simp [pds, PyData.eqvAll]
  | x :: xs, y :: ys, h1, h2 => by
    simp only [plDs, Bool.and_eq_true] at h1 h2
    simp only [pds, PyData.eqvAll, Bool.and_eq_true]
    rw [eqv_pl x y h1.1 h2.1, eqv_pls xs ys h1.2 h2.2]
    simp
end
mutual
theorem dat_pl {r : Nat → Option PyData} : ∀ d : D, plD d = true → toP r d = some (pd d) ∧ (pd d).canLay0 = true
  | .int i, _ => ⟨by simp [toP, pd], by simp [pd, PyData.canLay0]⟩
  | .str s, h => ⟨by simp [toP, pd], by simpa [pd, PyData.canLay0, plD] using h⟩
  | .tup xs, h => by
    obtain ⟨a, b⟩ := dats_pl (r := r) xs (by simpa only [plD] using h)
    exact ⟨by simp [toP, pd, a], by simpa [pd, PyData.canLay0] using b⟩
  | .non, h => by simp [plD] at h
  | .bl _, h => by simp [plD] at h
  | .ty _, h => by simp [plD] at h
  | .rol _, h => by simp [plD] at h
  | .at _, h => by simp [plD] at h
  | .ad _, h => by simp [plD] at h
theorem dats_pl {r : Nat → Option PyData} : ∀ ds : List D, plDs ds = true → toPs r ds = some (pds ds) ∧ PyData.canLayAll0 (pds ds) = true
  | [], _ => ⟨by simp [toPs, pds], by simp [pds, PyData.canLayAll0]⟩
  | d :: ds, h => by
    simp only [plDs, Bool.and_eq_true] at h
    obtain ⟨a, b⟩ := dat_pl (r := r) d h.1
    obtain ⟨c, e⟩ := dats_pl (r := r) ds h.2
    exact ⟨by simp [toPs, pds, a, c], by simp [pds, PyData.canLayAll0, b, e]⟩
end
theorem datD_pl {h : Hd} {d : D} (p : plD d = true) : datD h d = some (pd d) := (dat_pl d p).1
structure Pl (d : D) : Prop where
  p : plD d = true
  d : (pd d).depth ≤ 40
theorem eq_pl {x y : D} {h : Hd} (hx : Pl x) (hy : Pl y) [Decidable (x = y)] : eqD x y h = some (.bl (decide (x = y)), h) := by
  unfold eqD
  rw [datD_pl hx.p, datD_pl hy.p]
  simp only
  rw [if_pos ⟨(dat_pl (r := fun _ => none) x hx.p).2, (dat_pl (r := fun _ => none) y hy.p).2, by have := hx.d; omega⟩]
  congr 3
  rw [Bool.eq_iff_iff, eqv_pl x y hx.p hy.p, decide_eq_true_eq]
theorem ne_pl {x y : D} {h : Hd} (hx : Pl x) (hy : Pl y) [Decidable (x = y)] : neD x y h = some (.bl (!decide (x = y)), h) := by
  unfold neD
  rw [datD_pl hx.p, datD_pl hy.p]
  simp only
  rw [if_pos ⟨(dat_pl (r := fun _ => none) x hx.p).2, (dat_pl (r := fun _ => none) y hy.p).2, by have := hx.d; omega⟩]
  congr 4
  rw [Bool.eq_iff_iff, eqv_pl x y hx.p hy.p, decide_eq_true_eq]
/-! ### addresses and cells -/
theorem eq_ss' {a b : Str} {h : Hd} {Q : D → Hd → Prop} (ha : PyData.strOk a = true) (hb : PyData.strOk b = true) (q : Q (.bl (decide (a = b))) h) : Ev (eqD (.str a) (.str b) h) Q := ⟨_, _, eq_ss ha hb, q⟩
theorem ne_ss' {a b : Str} {h : Hd} {Q : D → Hd → Prop} (ha : PyData.strOk a = true) (hb : PyData.strOk b = true) (q : Q (.bl (!decide (a = b))) h) : Ev (neD (.str a) (.str b) h) Q := by
  refine ⟨_, _, ?_, q⟩
  unfold neD datD
  simp only [toP, PyData.canLay0, ha, hb, PyData.depth, PyData.eqv, true_and, Nat.min_self, Nat.zero_le, if_true]
  rw [Bool.beq_eq_decide_eq]
theorem ev_is {α : Type} {r : Option (α × Hd)} {d : α} {h : Hd} (e : Ev r fun d' h' => d' = d ∧ h' = h) : r = some (d, h) := by
  obtain ⟨d', h', e, rfl, rfl⟩ := e
  exact e
/-- all but the objects of S stays as it was -/
def Fx (S : List Nat) (h h' : Hd) : Prop := h.length ≤ h'.length ∧ ∀ i, i < h.length → i ∉ S → h'[i]? = h[i]?
theorem Fx.refl (S : List Nat) (h : Hd) : Fx S h h := ⟨Nat.le_refl _, fun _ _ _ => rfl⟩
theorem Fx.trans {S : List Nat} {a b c : Hd} (x : Fx S a b) (y : Fx S b c) : Fx S a c := ⟨Nat.le_trans x.1 y.1, fun i hi hn => (y.2 i (Nat.lt_of_lt_of_le hi x.1) hn).trans (x.2 i hi hn)⟩
theorem Fx.mono {S T : List Nat} {a b : Hd} (x : Fx S a b) (h : ∀ i ∈ S, i ∈ T) : Fx T a b := ⟨x.1, fun i hi hn => x.2 i hi fun z => hn (h i z)⟩
theorem Fx.pre {S : List Nat} {h h' : Hd} (x : Pre h h') : Fx S h h' := by
  obtain ⟨g, rfl⟩ := x
  exact ⟨by simp, fun i hi _ => List.getElem?_append_left hi⟩
theorem Fx.set {S : List Nat} {h : Hd} {i : Nat} (hi : i ∈ S) (o : O) : Fx S h (h.set i o) := ⟨by simp, fun j _ hn => List.getElem?_set_ne (fun z : i = j => hn (z ▸ hi))⟩
theorem Fx.get {S : List Nat} {h h' : Hd} (x : Fx S h h') {i : Nat} {o : O} (e : h[i]? = some o) (hn : i ∉ S) : h'[i]? = some o := (x.2 i (lt_of e) hn).trans e
theorem Fx.app {S : List Nat} {h h' : Hd} (x : Fx S h h') (g : Hd) : Fx S h (h' ++ g) := x.trans (Fx.pre (Pre.app _ _))
/-- what was added behind does not matter -/
theorem Fx.drop {S : List Nat} {h h' : Hd} {n : Nat} (x : Fx (n :: S) h h') (hn : h.length ≤ n) : Fx S h h' := ⟨x.1, fun i hi hs => x.2 i hi fun z => by
  rcases List.mem_cons.mp z with rfl | z
  · omega
  · exact hs z⟩
/-! ### the store -/
theorem atI_n {α : Type} {xs : List α} {n : Nat} {x : α} (e : xs[n]? = some x) : atI xs (n : Int) = some x := by
  have hl := (List.getElem?_eq_some_iff.mp e).1
  unfold atI ixN
  rw [if_pos (by omega), if_pos (by omega)]
  simpa using e


local macro_rules | `(tactic| walk_at "ev") => `(tactic| simp only [bodyM, startD, varM, cM, opM, testM, chainM, nilM, consM, tupM, lstM, DL.andM, DL.orM, DL.notM, truM, tandM, torM, tnotM, ifM, negM,
  addD, subD, mulD, fdivD, modD, powD, ltD, leD, gtD, geD, subsD, seqD, keyD, noM, partM, sliceD, slM, cbM, lenD, absD, intD, isiD, kdD, kb1, kb2, kb3, kb4, kb5, kb6, kb7, kb8, kb9, kb10, kb11, kb12, kb13, kb14, kb15, kb16, eq_ii, ne_ii,
  bmM, isDct, dnewM, nameG, nilG, consG, tupG, passM, brkM, cntM, exprM, retM, asgM, seqM, ifSM, neverM, augM, addID, parM, par3M, callM, truD, k_MOST_ARGUMENTS, k_MOST_SIGNS, k_TOO_GREAT, seqI, backM, backD, tuplD,
  List.map_cons, List.map_nil, List.length_cons, List.length_nil, List.cons_append, List.nil_append, List.append_nil, List.getElem?_cons_zero, List.getElem?_cons_succ, List.getElem?_nil, List.replicate, List.set_cons_zero, List.set_cons_succ,
  if_true, if_false, ↓reduceIte, Bool.false_eq_true, Bool.not_true, Bool.not_false, decide_true, decide_false, Nat.reduceSub, Nat.reduceAdd, Nat.reduceLeDiff, Nat.reduceEqDiff, Int.reduceLT, Int.reduceLE, Nat.zero_le, String.reduceBEq, beq_self_eq_true])
section
variable (NF RD : Nat)
theorem r_is_compound (d : D) (h : Hd) (hd : flat d = true) : m_is_compound NF RD [d] h = some (.bl (isCmp d), h) := by
  unfold m_is_compound
  cases d <;> first | (cases hd; done) | (walk_at "ev"; rfl)
theorem r_is_variable {d : D} (h : Hd) (t : T d) : m_is_variable NF RD [d] h = some (.bl (isVar d), h) := by
  unfold m_is_variable
  cases t with
  | var n hn =>
    have hi := r_is_int NF RD (.int n) h rfl
    walk_at "ev"
    simp only [at0, hi, isInt, Int.cast_ofNat_Int, decide_true, isVar, Nat.zero_add]
    rfl
  | int i _ => walk_at "ev"; rfl
  | str s _ => walk_at "ev"; rfl
  | cmp f a as _ _ _ =>
    walk_at "ev"
    have : ¬ (((as.length + 1 + 1 : Nat) : Int) = 1) := by omega
    simp only [this, decide_false]
    rfl
end
/-! ### lists that grow and shrink -/
theorem c_wait {i : Nat} {sg : Sg} {h : Hd} {w : Nat} {ws : List D} (e : sg[i]? = some (some (.at w))) (eh : h[w]? = some (.lst ws)) (ht : ∀ d ∈ ws, toP (rP 2 (h ++ [.lst []])) d = some (pd d) ∧ (pd d).canLay0 = true) :
    testM (opM neD (varM i) (lstM nilM)) sg h = some (!ws.isEmpty, h ++ [.lst []]) := by
  have h1 := ne_nil ((Pre.app h [.lst []]).get eh) (get_new h (.lst [])) ht
  unfold testM opM varM lstM nilM
  simp only [e, List.length_nil, Nat.zero_le, if_true, h1]
theorem while_nx {c : MT} {b : MS} {sg sg2 : Sg} {h h1 h2 : Hd} {k : Nat} (hc : c sg h = some (true, h1)) (hb : b sg h1 = some (.nx sg2, h2)) : whileM c b (k + 1) sg h = whileM c b k sg2 h2 := by
  rw [whileM]
  simp only [hc, hb]
theorem while_end {c : MT} {b : MS} {sg : Sg} {h h1 : Hd} {k : Nat} (hc : c sg h = some (false, h1)) : whileM c b (k + 1) sg h = some (.nx sg, h1) := by
  rw [whileM]
  simp only [hc]
theorem snoc_of {α : Type} {ws : List α} (h : ws ≠ []) : ∃ i d, ws = i ++ [d] := ⟨ws.dropLast, ws.getLast h, (List.dropLast_concat_getLast h).symm⟩
/-! ### arguments -/
def args : D → List D
  | .tup (_ :: as) => as
  | _ => []
theorem parts_args {d : D} (t : T d) : parts d = d :: partss (args d) := by
  cases t <;> simp [parts, partsT, args, partss]
theorem T.args {d : D} (t : T d) : ∀ a ∈ args d, T a := by
  cases t with
  | var n h => intro a ha; cases ha
  | int i h => intro a ha; cases ha
  | str s h => intro a ha; cases ha
  | cmp f a as hf hl ht => exact ht
theorem args_few {d : D} (t : T d) : (args d).length ≤ 8 := by
  cases t with
  | var n h => simp [K03.args]
  | int i h => simp [K03.args]
  | str s h => simp [K03.args]
  | cmp f a as hf hl ht => simp [K03.args]; omega
theorem atom_len {s : Str} (h : atomOk s = true) : s.length ≤ 40 := by
  unfold atomOk at h
  simpa using (Bool.and_eq_true_iff.mp h).1
theorem isCmp_cmp (f a : D) (as : List D) : isCmp (.tup (f :: a :: as)) = true := by
  simp only [isCmp, List.length_cons, decide_eq_true_eq]
  omega
theorem cut1 (f : D) (as : List D) : cutD (f :: as) (some 1) none = as := by
  have h1 : HT.sIx (f :: as).length 0 (some 1) = 1 := by
    unfold HT.sIx
    simp
  have h2 : HT.sIx (f :: as).length (f :: as).length none = as.length + 1 := by
    unfold HT.sIx
    simp
  unfold cutD
  rw [h1, h2]
  simp
section
variable (NF RD : Nat)
theorem b_is_term {x : D} {w : Nat} {p : Option D} {h : Hd} {ws : List D} {d : D} (hN : 50 ≤ NF) (e : h[w]? = some (.lst (ws ++ [d]))) (t : T d) (hl : ws.length + 8 ≤ LN) :
    Rt (B_is_term_1 NF RD [some x, some (.at w), p] h) (.nx [some x, some (.at w), some d]) (Pre (h.set w (.lst (ws ++ args d)))) := by
  refine rt_of ?_
  have e2 := get_set (p := .lst ws) e
  unfold B_is_term_1
  walk_at "wp"
  refine lf_pop e ?_
  walk_at "wp"
  refine ev_eq (r_is_compound NF RD d _ t.flat) ?_
  cases t with
  | var n hn =>
    walk_at "wp"
    refine ev_eq (r_is_variable NF RD _ (T.var n hn)) ?_
    walk_at "wp"
    refine br_f (by simp [isVar, hn]) ?_
    walk_at "wp"
    exact ⟨rfl, by simp [args]; exact Pre.refl _⟩
  | int i hi =>
    walk_at "wp"
    refine ev_eq (r_is_variable NF RD _ (T.int i hi)) ?_
    walk_at "wp"
    refine ev_eq (r_is_any_number NF RD _ _ rfl) ?_
    walk_at "wp"
    refine br_f (by simp [hi]) ?_
    walk_at "wp"
    exact ⟨rfl, by simp [args]; exact Pre.refl _⟩
  | str s hs =>
    walk_at "wp"
    refine ev_eq (r_is_variable NF RD _ (T.str s hs)) ?_
    walk_at "wp"
    refine ev_eq (r_is_any_number NF RD _ _ rfl) ?_
    walk_at "wp"
    refine ev_of (r_is_any_atom NF RD s _ hN (Nat.le_trans (atom_len hs) (by decide))) fun h' p => ?_
    walk_at "wp"
    refine br_f (by simp [hs]) ?_
    walk_at "wp"
    exact ⟨rfl, by simp [args]; exact p⟩
  | cmp f a as hf hn ht =>
    refine tr_bl (br_t (isCmp_cmp _ _ _) ?_)
    walk_at "wp"
    refine br_f (by simp only [List.length_cons, decide_eq_false_iff_not]; omega) ?_
    walk_at "wp"
    refine ev_of (r_is_any_atom NF RD f _ hN (Nat.le_trans (atom_len hf) (by decide))) fun h' p => ?_
    walk_at "wp"
    refine br_f (by simp [hf]) ?_
    have e3 := p.get e2
    walk_at "wp"
    refine lf_extendT e3 ?_ ?_
    · rw [cut1]; simp only [List.length_cons]; omega
    rw [cut1]
    refine ⟨rfl, ?_⟩
    obtain ⟨g, rfl⟩ := p
    rw [List.set_append_left _ _ (by simpa using lt_of e), List.set_set]
    exact Pre.app _ _
theorem r_is_term {d : D} {h : Hd} (t : T d) (hN : 50 ≤ NF) (hl : (parts d).length < NF) (hl2 : (parts d).length + 16 ≤ LN) : Rt (m_is_term NF RD [d] h) (.bl true) (Pre h) := by
  refine rt_of ?_
  unfold m_is_term
  walk_at "wp"
  refine ev_while (fun n sg h1 => ∃ ws p, sg = [some d, some (.at h.length), p] ∧ n = (partss ws).length ∧ (∀ x ∈ ws, T x) ∧ h1[h.length]? = some (.lst ws) ∧ Pre h h1 ∧ n ≤ (parts d).length) ?_ NF (parts d).length _ _ ⟨[d], none, rfl, by simp [partss], by simpa using t, get_new _ _, Pre.app _ _, Nat.le_refl _⟩ hl
  rintro n sg h1 ⟨ws, p, rfl, rfl, ht, e, hp, hn⟩
  unfold C_is_term_0
  refine ev_eq (c_wait rfl e (T.datL ht)) ?_
  cases hw : ws.isEmpty with
  | true =>
    walk_at "wp"
    exact ⟨rfl, hp.app' _⟩
  | false =>
    obtain ⟨i, y, rfl⟩ := snoc_of (ws := ws) (by rintro rfl; cases hw)
    have e2 := (Pre.app h1 [.lst []]).get e
    have hl3 := len_partss (i ++ [y])
    have ty := ht y (by simp)
    refine br_tt ?_
    refine ev_of (b_is_term NF RD hN e2 ty (by simp at hl3; omega)) fun h' p' => ?_
    refine lp_nx ⟨_, ?_, i ++ args y, _, rfl, rfl, ?_, p'.get (get_set e2), ((hp.app' _).set (Nat.le_refl _) _).trans p', ?_⟩
    · rw [partss_app, partss_app]
      simp only [partss, parts_args ty, List.length_append, List.length_cons, List.append_nil]
      omega
    · intro z hz
      rcases List.mem_append.mp hz with q | q
      · exact ht z (by simp [q])
      · exact ty.args z q
    · rw [partss_app] at hn ⊢
      simp only [partss, parts_args ty, List.length_append, List.length_cons, List.append_nil] at hn
      simp only [List.length_append]
      omega
end


theorem Rt.ev {α : Type} {r : Option (α × Hd)} {d : α} {P : Hd → Prop} (a : Rt r d P) : Ev r fun d' h' => d' = d ∧ P h' := by
  obtain ⟨h', e, p⟩ := a
  exact ⟨d, h', e, rfl, p⟩
/-- what a term must be for the loops to end -/
structure Sz (NF : Nat) (d : D) : Prop where
  t : T d
  f : (parts d).length < NF
  l : (parts d).length + 16 ≤ LN
section
variable {NF RD : Nat}
theorem r_check {d : D} {h : Hd} {n : Nat} (z : Sz NF d) (hN : 50 ≤ NF) (e : h[n]? = some (.lst [d])) : Rt (m_check_terms NF RD [.at n] h) .non (Pre h) := by
  refine rt_of ?_
  unfold m_check_terms
  walk_at "wp"
  refine ev_for (xs := [d]) (fun _ sg h1 => Pre h h1 ∧ ∃ p, sg = [some (.at n), p]) ⟨Pre.refl h, none, rfl⟩ (by simp; omega) (fun as sg h1 i => yl_obj (i.1.get e)) ?_ ?_
  · rintro as x bs sg h1 e2 ⟨hp, p, rfl⟩
    have hx : x = d := by
      have : x ∈ [d] := by rw [e2]; simp
      simpa using this
    subst hx
    unfold B_check_terms_0
    walk_at "wp"
    refine ev_of (r_is_term NF RD z.t hN z.f z.l) fun h2 p2 => ?_
    walk_at "wp"
    exact ⟨hp.trans p2, _, rfl⟩
  · rintro sg h1 ⟨hp, p, rfl⟩
    exact ⟨rfl, hp⟩
theorem backs1 (f : D) (as : List D) : backs (f :: as) (some 0) = as.reverse := rfl
theorem isCmp_args {d : D} (t : T d) (e : isCmp d = true) : ∃ f a as, d = .tup (.str f :: a :: as) := by
  cases t with
  | var n hn => simp [isCmp] at e
  | int i hi => simp [isCmp] at e
  | str s hs => simp [isCmp] at e
  | cmp f a as _ _ _ => exact ⟨f, a, as, rfl⟩
theorem noCmp_args {d : D} (t : T d) (e : isCmp d = false) : args d = [] := by
  cases t with
  | var n hn => rfl
  | int i hi => rfl
  | str s hs => rfl
  | cmp f a as _ _ _ => rw [isCmp_cmp] at e; cases e
theorem r_parts {d : D} {h : Hd} (z : Sz NF d) : Rt (m_parts_of NF RD [d] h) (.at h.length) (fun h' => Pre h h' ∧ h'[h.length]? = some (.lst (parts d))) := by
  refine rt_of ?_
  unfold m_parts_of
  walk_at "wp"
  have hl1 : (h ++ [O.lst []]).length = h.length + 1 := by simp
  rw [hl1]
  refine ev_while (fun n sg h1 => ∃ fs ws p, sg = [some d, some (.at h.length), some (.at (h.length + 1)), p] ∧ n = (partss ws).length ∧ (∀ x ∈ ws, T x) ∧ h1[h.length]? = some (.lst fs) ∧ h1[h.length + 1]? = some (.lst ws) ∧ Pre h h1 ∧ fs ++ partss ws.reverse = parts d) ?_ NF (parts d).length _ _ ⟨[], [d], none, rfl, by simp [partss], by simpa using z.t, by simp, by simp, by simp [Pre], by simp [partss]⟩ z.f
  rintro n sg h1 ⟨fs, ws, p, rfl, rfl, ht, e1, e2, hp, hn⟩
  unfold C_parts_of_0
  refine ev_eq (c_wait rfl e2 (T.datL ht)) ?_
  cases hw : ws.isEmpty with
  | true =>
    have : ws = [] := by simpa using hw
    subst this
    simp only [List.reverse_nil, partss, List.append_nil] at hn
    subst hn
    walk_at "wp"
    exact ⟨rfl, hp.app' _, (Pre.app _ _).get e1⟩
  | false =>
    obtain ⟨i, y, rfl⟩ := snoc_of (ws := ws) (by rintro rfl; cases hw)
    have a1 := (Pre.app h1 [.lst []]).get e1
    have a2 := (Pre.app h1 [.lst []]).get e2
    have hp1 := hp.app' [.lst []]
    have ty := ht y (by simp)
    have hlen : fs.length + (1 + (partss (args y)).length + (partss i.reverse).length) = (parts d).length := by
      rw [← hn]
      simp only [List.reverse_append, List.reverse_cons, List.reverse_nil, List.nil_append, List.cons_append, List.length_append, partss, parts_args ty, List.length_cons]
      omega
    have hz := z.l
    have hai := len_partss i.reverse
    have hay := len_partss (args y)
    rw [List.length_reverse] at hai
    generalize hg : h1 ++ [O.lst []] = g at a1 a2 hp1
    have hne : h.length ≠ h.length + 1 := by omega
    have b1 : (g.set (h.length + 1) (.lst i))[h.length]? = some (.lst fs) := by rw [get_ne (by omega)]; exact a1
    have b2 := get_set (p := .lst i) a2
    have c1 := get_set (p := .lst (fs ++ [y])) b1
    have c2 : ((g.set (h.length + 1) (.lst i)).set h.length (.lst (fs ++ [y])))[h.length + 1]? = some (.lst i) := by rw [get_ne (by omega)]; exact b2
    have pc : Pre h ((g.set (h.length + 1) (.lst i)).set h.length (.lst (fs ++ [y]))) := (hp1.set (by omega) _).set (by omega) _
    unfold B_parts_of_1
    walk_at "wp"
    refine lf_pop a2 ?_
    walk_at "wp"
    refine lf_append b1 (by omega) ?_
    walk_at "wp"
    refine ev_eq (r_is_compound NF RD y _ ty.flat) ?_
    have hm : (partss (i ++ (args y).reverse)).length < (partss (i ++ [y])).length := by
      have h1 : (partss (args y).reverse).length = (partss (args y)).length := len_rev _
      simp only [partss_app, partss, parts_args ty, List.length_append, List.length_cons, List.append_nil, h1]
      omega
    have hf : (fs ++ [y]) ++ partss (i ++ (args y).reverse).reverse = parts d := by
      rw [← hn]
      simp only [List.reverse_append, List.reverse_reverse, partss_app, List.reverse_cons, List.reverse_nil, List.nil_append, List.cons_append, partss, parts_args ty, List.append_assoc]
    have htt : ∀ x ∈ i ++ (args y).reverse, T x := by
      intro x hx
      rcases List.mem_append.mp hx with q | q
      · exact ht x (by simp [q])
      · exact ty.args x (by simpa using q)
    refine tr_bl (br (fun c => ?_) fun c => ?_)
    · obtain ⟨f, a, as, rfl⟩ := isCmp_args ty c
      walk_at "wp"
      refine lf_extendT c2 ?_ ?_
      · rw [backs1, List.length_reverse]
        simp only [args] at hay hlen
        omega
      rw [backs1]
      exact ⟨_, hm, _, _, _, rfl, rfl, htt, by rw [get_ne (by omega)]; exact c1, get_set c2, pc.set (by omega) _, hf⟩
    · walk_at "wp"
      have hna := noCmp_args ty c
      rw [hna] at hm hf htt
      simp only [List.reverse_nil, List.append_nil] at hm hf htt
      exact ⟨_, hm, _, _, _, rfl, rfl, htt, c1, c2, pc, hf⟩
where
  len_rev : ∀ l : List D, (partss l.reverse).length = (partss l).length
    | [] => rfl
    | a :: l => by
      rw [List.reverse_cons, partss_app]
      simp only [partss, List.length_append, len_rev l, List.append_nil]
      omega
end


mutual
def dep : D → Nat
  | .tup xs => 1 + depT xs
  | _ => 1
def depT : List D → Nat
  | [] => 0
  | _ :: ds => deps ds
def deps : List D → Nat
  | [] => 0
  | d :: ds => max (dep d) (deps ds)
end
theorem dep_args (d : D) : dep d = 1 + deps (args d) := by
  unfold dep
  cases d with
  | tup xs => cases xs <;> simp [args, depT, deps]
  | _ => simp [args, deps]
theorem deps_app : ∀ as bs : List D, deps (as ++ bs) = max (deps as) (deps bs)
  | [], bs => by simp [deps]
  | a :: as, bs => by
    rw [List.cons_append, deps, deps, deps_app as bs]
    omega
theorem deps_flat : ∀ ws : List D, deps ws = (if ws = [] then 0 else 1) + deps (ws.flatMap args)
  | [] => by simp [deps]
  | w :: ws => by
    have ih := deps_flat ws
    rw [List.flatMap_cons, deps_app, deps, dep_args, if_neg (by simp)]
    cases ws with
    | nil => simp [deps]; 
    | cons v vs =>
      rw [if_neg (by simp)] at ih
      omega
theorem partss_flat : ∀ {ws : List D}, (∀ x ∈ ws, T x) → (partss ws).length = ws.length + (partss (ws.flatMap args)).length
  | [], _ => by simp [partss]
  | w :: ws, ht => by
    have ih := partss_flat (ws := ws) fun x hx => ht x (List.mem_cons_of_mem _ hx)
    rw [List.flatMap_cons, partss_app]
    simp only [partss, parts_args (ht w List.mem_cons_self), List.length_append, List.length_cons]
    omega
/-! ### the numbers of the variables -/
def addN (ns : List Int) (n : Int) : List Int := if n ∈ ns then ns else ns ++ [n]
def stepN (ns : List Int) : D → List Int
  | .tup [.int n] => addN ns n
  | _ => ns
def nums (ds : List D) : List Int := ds.foldl stepN []
def kvT (ns : List Int) : List (Key × D) := ns.map fun n => (.inl n, .bl true)
theorem kvT_put (ns : List Int) (n : Int) : putD (kvT ns) (.inl n) (.bl true) = kvT (addN ns n) := by
  unfold putD addN kvT
  by_cases hm : n ∈ ns
  · rw [if_pos (by rw [List.any_eq_true]; exact ⟨(.inl n, .bl true), List.mem_map.mpr ⟨n, hm, rfl⟩, by simp⟩), if_pos hm, List.map_map]
    apply List.map_congr_left
    intro a _
    simp only [Function.comp_apply]
    split
    · rename_i e
      cases e
      rfl
    · rfl
  · rw [if_neg ?_, if_neg hm, List.map_append]
    · rfl
    · rw [List.any_eq_true]
      rintro ⟨x, hx, e⟩
      obtain ⟨m, hm2, rfl⟩ := List.mem_map.mp hx
      have : m = n := by simpa using e
      exact hm (this ▸ hm2)
theorem addN_len (ns : List Int) (n : Int) : (addN ns n).length ≤ ns.length + 1 := by
  unfold addN
  split <;> simp
theorem T.step {d : D} (t : T d) (ns : List Int) : (isVar d = true ∧ ∃ n, d = .tup [.int n] ∧ stepN ns d = addN ns n) ∨ (isVar d = false ∧ stepN ns d = ns) := by
  cases t with
  | var n hn => exact .inl ⟨by simp [isVar, hn], n, rfl, rfl⟩
  | int i hi => exact .inr ⟨rfl, rfl⟩
  | str s hs => exact .inr ⟨rfl, rfl⟩
  | cmp f a as _ _ _ => exact .inr ⟨rfl, rfl⟩
theorem foldN_len : ∀ (ds : List D) (ns : List Int), (∀ d ∈ ds, T d) → (ds.foldl stepN ns).length ≤ ns.length + ds.length
  | [], ns, _ => by simp
  | d :: ds, ns, ht => by
    have ih := foldN_len ds (stepN ns d) fun x hx => ht x (List.mem_cons_of_mem _ hx)
    rw [List.foldl_cons]
    rcases (ht d List.mem_cons_self).step ns with ⟨_, n, _, e⟩ | ⟨_, e⟩
    · rw [e] at ih ⊢
      have := addN_len ns n
      simp only [List.length_cons]
      omega
    · rw [e] at ih ⊢
      simp only [List.length_cons]
      omega
theorem parts_T {d : D} (t : T d) : ∀ x ∈ parts d, T x := by
  induction t with
  | var n h => intro x hx; simp [parts, partsT, partss] at hx; subst hx; exact .var n h
  | int i h => intro x hx; simp [parts] at hx; subst hx; exact .int i h
  | str s h => intro x hx; simp [parts] at hx; subst hx; exact .str s h
  | cmp f a as hf hl ht ih =>
    intro x hx
    rw [parts_args (.cmp f a as hf hl ht)] at hx
    rcases List.mem_cons.mp hx with rfl | hx
    · exact .cmp f a as hf hl ht
    · exact go _ ih x hx
where
  go : ∀ ds : List D, (∀ y ∈ ds, ∀ x ∈ parts y, T x) → ∀ x ∈ partss ds, T x
    | [], _, x, hx => by simp [partss] at hx
    | d :: ds, h, x, hx => by
      rw [partss] at hx
      rcases List.mem_append.mp hx with q | q
      · exact h d List.mem_cons_self x q
      · exact go ds (fun y hy => h y (List.mem_cons_of_mem _ hy)) x q


/-! ### the well -/
theorem Fw.set' {w : Nat} {h h' : Hd} (x : Fw w h h') {i : Nat} (hi : h.length ≤ i) (o : O) : Fw w h (h'.set i o) := ⟨by simpa using x.len, fun j hj hn => by rw [get_ne (by omega)]; exact x.at' j hj hn⟩
theorem Fw.setw {w : Nat} {h h' : Hd} (x : Fw w h h') (o : O) : Fw w h (h'.set w o) := ⟨by simpa using x.len, fun j hj hn => by rw [get_ne (by omega)]; exact x.at' j hj hn⟩
theorem Fw.app {w : Nat} {h h' : Hd} (x : Fw w h h') (g : Hd) : Fw w h (h' ++ g) := x.trans (Fw.pre (Pre.app _ _))
def Wl (w : Nat) (h : Hd) : Prop := ∃ a b c : Int, h[w]? = some (.lst [.int a, .int b, .int c])
theorem Wl.pre {w : Nat} {h h' : Hd} (x : Wl w h) (p : Pre h h') : Wl w h' := by
  obtain ⟨a, b, c, e⟩ := x
  exact ⟨a, b, c, p.get e⟩
theorem Wl.lt {w : Nat} {h : Hd} (x : Wl w h) : w < h.length := by
  obtain ⟨a, b, c, e⟩ := x
  exact lt_of e
theorem Wl.ne {w i : Nat} {h : Hd} (x : Wl w h) (hi : i ≠ w) (o : O) : Wl w (h.set i o) := by
  obtain ⟨a, b, c, e⟩ := x
  exact ⟨a, b, c, by rw [get_ne hi]; exact e⟩
theorem at_nat {α : Type} {xs : List α} {i : Int} (h0 : 0 ≤ i) (h1 : i < xs.length) : ∃ x ∈ xs, atI xs i = some x := by
  have hl : i.toNat < xs.length := by omega
  refine ⟨xs[i.toNat], List.getElem_mem hl, ?_⟩
  unfold atI ixN
  rw [if_pos h0, if_pos h1]
  simp [hl]
section
variable {NF RD : Nat}
theorem r_draw {w : Nat} {many : Int} {h : Hd} (hw : Wl w h) (hm : 0 < many) (hm2 : many.natAbs.log2 < 9000) : Ev (m__law_draw NF RD [.at w, .int many] h) fun r h' => ∃ i, r = .int i ∧ 0 ≤ i ∧ i < many ∧ Fw w h h' ∧ Wl w h' := by
  obtain ⟨a, b, c, e⟩ := hw
  have hmm : 0 < many ∧ many.natAbs.log2 < 9000 := ⟨hm, hm2⟩
  unfold m__law_draw
  walk_at "wp"
  refine lf_ixL e rfl ?_
  walk_at "wp"
  refine br (fun c1 => ?_) fun c1 => ?_
  · walk_at "wp"
    refine lf_ixL e rfl ?_
    walk_at "wp"
    refine ev_setL ?_
    walk_at "wp"
    refine lf_ixL e rfl ?_
    walk_at "wp"
    refine ⟨w, _, 0, 0, rfl, e, rfl, rfl, ?_⟩
    walk_at "wp"
    exact ⟨_, rfl, Int.emod_nonneg _ (by omega), Int.emod_lt_of_pos _ hm, Fw.set _, _, _, _, get_set e⟩
  · walk_at "wp"
    refine ev_setL ?_
    walk_at "wp"
    refine lf_ixL e rfl ?_
    walk_at "wp"
    refine ⟨w, _, 2, 2, rfl, e, rfl, rfl, ?_⟩
    have e2 := get_set (p := .lst ([D.int a, D.int b, D.int c].set 2 (D.int (c + 1)))) e
    walk_at "wp"
    refine lf_ixL e2 rfl ?_
    walk_at "wp"
    refine lf_ixL e2 rfl ?_
    walk_at "wp"
    generalize hx : (b + 7853 * (c + 1)) * 48271 % 2147483647 = x
    have hx0 : 0 ≤ x ∧ x < 2147483647 := by rw [← hx]; exact ⟨Int.emod_nonneg _ (by decide), Int.emod_lt_of_pos _ (by decide)⟩
    refine lf_ixL e2 rfl ?_
    walk_at "wp"
    refine lf_mulI (.inl ⟨by omega, by omega⟩) ?_
    walk_at "wp"
    generalize hy : x * (x / 1013 + 69621 + (c + 1)) % 2147483587 = y
    have hy0 : 0 ≤ y ∧ y < 2147483587 := by rw [← hy]; exact ⟨Int.emod_nonneg _ (by decide), Int.emod_lt_of_pos _ (by decide)⟩
    refine lf_mulI (.inl ⟨by omega, by omega⟩) ?_
    walk_at "wp"
    exact ⟨_, rfl, Int.emod_nonneg _ (by omega), Int.emod_lt_of_pos _ hm, Fw.set _, _, _, _, e2⟩
theorem r_one {w l : Nat} {xs : List D} {h : Hd} (hw : Wl w h) (e : h[l]? = some (.lst xs)) (hn : l ≠ w) (hx : 0 < xs.length) (hx2 : xs.length < 1000) : Ev (m__law_one NF RD [.at w, .at l] h) fun r h' => r ∈ xs ∧ Fw w h h' ∧ Wl w h' := by
  unfold m__law_one
  walk_at "wp"
  refine (r_draw hw (by omega) ?_).mono ?_
  · have := Nat.log2_le_self (xs.length : Int).natAbs
    omega
  rintro r h' ⟨i, rfl, h0, h1, hf, hw'⟩
  obtain ⟨x, hx, ex⟩ := at_nat h0 h1
  refine lf_ixL (hf.get e hn) ex ?_
  walk_at "wp"
  exact ⟨hx, hf, hw'⟩
theorem r_leaf {w : Nat} {many : Int} {h : Hd} (hw : Wl w h) (hm2 : many.natAbs.log2 < 9000) : Ev (m__law_leaf NF RD [.at w, .int many] h) fun r h' => T r ∧ args r = [] ∧ Fw w h h' ∧ Wl w h' := by
  unfold m__law_leaf
  walk_at "wp"
  refine (r_draw hw (by decide) (by decide +kernel)).mono ?_
  rintro r h1 ⟨i, rfl, h0, h1, hf, hw1⟩
  walk_at "wp"
  have two : ∀ h2, Fw w h h2 → Wl w h2 → Ev (ifSM (testM (opM eqD (varM 2) (cM (.int 4)))) (seqM (asgM (opM subD (opM mulD (opM powD (opM powD (cM (.int 10)) (cM (.int 60))) (cM (.int 4))) (opM powD (cM (.int 10)) (cM (.int 59)))) (cM (.int 1))) (nameG 3)) (retM (callM 2 (m__law_one NF RD) [] (consM (varM 0) (consM (lstM (consM (cM (.int 0)) (consM (cM (.int 1)) (consM (cM (.int 7)) (consM (negM (cM (.int 1))) (consM (varM 3) (consM (opM subD (callM 2 (m__law_draw NF RD) [] (consM (varM 0) (consM (opM powD (cM (.int 10)) (cM (.int 9))) nilM))) (opM mulD (cM (.int 5)) (opM powD (cM (.int 10)) (cM (.int 8))))) nilM))))))) nilM))))) passM [some (.at w), some (.int many), some (.int i), none] h2) fun f h1 => SqK (retM (callM 2 (m__law_one NF RD) [] (consM (varM 0) (consM (lstM (consM (cM (.str "a")) (consM (cM (.str "b")) (consM (cM (.str "[]")) (consM (cM (.str "")) (consM (cM (.str "f")) (consM (cM (.str "Aa")) (consM (cM (.str "~ !")) (consM (opM mulD (cM (.str "a")) (cM (.int 40))) nilM))))))))) nilM)))) (BdK fun r h' => T r ∧ args r = [] ∧ Fw w h h' ∧ Wl w h') f h1 := by
    intro h2 hf2 hw2
    walk_at "wp"
    refine br (fun c => ?_) fun c => ?_
    · walk_at "wp"
      refine lf_mulI (.inr (.inr (by decide +kernel))) ?_
      walk_at "wp"
      refine (r_draw hw2 (by decide) (by decide +kernel)).mono ?_
      rintro r h3 ⟨j, rfl, j0, j1, hf3, hw3⟩
      walk_at "wp"
      refine (r_one (hw3.pre (Pre.app _ _)) (get_new _ _) (by have := hw3.lt; omega) (by simp) (by simp)).mono ?_
      rintro r h4 ⟨hr, hf4, hw4⟩
      walk_at "wp"
      have hj : j < 1000000000 := by
        have e : (10 : Int) ^ (9 : Int).toNat = 1000000000 := by decide +kernel
        omega
      have hI : ∀ i : Int, (if i < 0 then -i else i) < BIG → T (.int i) ∧ args (.int i) = [] := fun i hi => ⟨.int i hi, rfl⟩
      have hT : T r ∧ args r = [] := by
        simp only [List.mem_cons, List.not_mem_nil, or_false] at hr
        rcases hr with rfl | rfl | rfl | rfl | rfl | rfl
        · exact hI _ (by decide +kernel)
        · exact hI _ (by decide +kernel)
        · exact hI _ (by decide +kernel)
        · exact hI _ (by decide +kernel)
        · exact hI _ (by decide +kernel)
        · refine hI _ ?_
          have e : (5 : Int) * (10 : Int) ^ (8 : Int).toNat = 500000000 := by decide +kernel
          rw [e]
          have eB : (1000000000 : Int) < BIG := by decide +kernel
          split <;> omega
      exact ⟨hT.1, hT.2, hf2.trans ((hf3.app _).trans hf4), hw4⟩
    · walk_at "wp"
      refine lf_mulS ⟨by decide, by decide, by decide +kernel⟩ ?_
      walk_at "wp"
      refine (r_one (hw2.pre (Pre.app _ _)) (get_new _ _) (by have := hw2.lt; omega) (by simp) (by simp)).mono ?_
      rintro r h4 ⟨hr, hf4, hw4⟩
      walk_at "wp"
      have hI : ∀ s : Str, atomOk s = true → T (.str s) ∧ args (.str s) = [] := fun i hi => ⟨.str i hi, rfl⟩
      have hT : T r ∧ args r = [] := by
        simp only [List.mem_cons, List.not_mem_nil, or_false] at hr
        rcases hr with rfl | rfl | rfl | rfl | rfl | rfl | rfl | rfl
        all_goals exact hI _ (by decide +kernel)
      exact ⟨hT.1, hT.2, (hf2.app _).trans hf4, hw4⟩
  refine br (fun c => ?_) fun c => ?_
  · walk_at "wp"
    refine br (fun c2 => ?_) fun c2 => ?_
    · walk_at "wp"
      refine (r_draw hw1 (by simpa using c2) hm2).mono ?_
      rintro r h2 ⟨j, rfl, j0, _, hf2, hw2⟩
      walk_at "wp"
      exact ⟨.var j j0, rfl, hf.trans hf2, hw2⟩
    · refine ev_pass (sq_nx ?_)
      exact ev_seq (two _ hf hw1)
  · refine br_ff (ev_pass (sq_nx ?_))
    exact ev_seq (two _ hf hw1)
def bnd : Nat → Nat
  | 0 => 1
  | 1 => 1
  | n + 2 => 1 + 8 * bnd (n + 1)
theorem bnd_pos (n : Nat) : 1 ≤ bnd n := by
  unfold bnd
  split <;> omega
theorem bnd_up : ∀ n, bnd n ≤ bnd (n + 1)
  | 0 => by simp [bnd]
  | n + 1 => by
    have := bnd_up n
    rw [show bnd (n + 1 + 1) = 1 + 8 * bnd (n + 1) from rfl]
    omega
theorem leaf_parts {d : D} (t : T d) (e : args d = []) : (parts d).length = 1 ∧ dep d = 1 := by
  rw [parts_args t, dep_args, e]
  simp [partss, deps]
theorem partss_le {n : Nat} : ∀ {ds : List D}, (∀ d ∈ ds, (parts d).length ≤ n) → (partss ds).length ≤ ds.length * n
  | [], _ => by simp [partss]
  | d :: ds, h => by
    have h1 := h d List.mem_cons_self
    have h2 := partss_le (ds := ds) fun x hx => h x (List.mem_cons_of_mem _ hx)
    rw [partss, List.length_append, List.length_cons, Nat.add_mul]
    omega
theorem deps_le {n : Nat} : ∀ {ds : List D}, (∀ d ∈ ds, dep d ≤ n) → deps ds ≤ n
  | [], _ => by simp [deps]
  | d :: ds, h => by
    have h1 := h d List.mem_cons_self
    have h2 := deps_le (ds := ds) fun x hx => h x (List.mem_cons_of_mem _ hx)
    rw [deps]
    omega
def Form (r : D) : Prop := ∃ (s : Str) (a : Nat), r = .tup [.str s, .int a] ∧ atomOk s = true ∧ 1 ≤ a ∧ a ≤ 8
theorem r_term (many : Int) (hm2 : many.natAbs.log2 < 9000) (hN : 50 ≤ NF) : ∀ (n k : Nat) (w : Nat) (h : Hd), Wl w h → 1 ≤ n → n ≤ k → Ev (m__law_term NF RD k [.at w, .int n, .int many] h) fun r h' => T r ∧ (parts r).length ≤ bnd n ∧ dep r ≤ n ∧ Fw w h h' ∧ Wl w h'
  | 0, k, w, h, hw, h1, h2 => by omega
  | n + 1, 0, w, h, hw, h1, h2 => by omega
  | n + 1, k + 1, w, h, hw, h1, h2 => by
    have leaf : ∀ h2, Fw w h h2 → Wl w h2 → Ev (m__law_leaf NF RD [.at w, .int many] h2) fun r h' => T r ∧ (parts r).length ≤ bnd (n + 1) ∧ dep r ≤ n + 1 ∧ Fw w h h' ∧ Wl w h' := by
      intro h2 hf2 hw2
      refine (r_leaf hw2 hm2).mono ?_
      rintro r h3 ⟨t, ea, hf3, hw3⟩
      obtain ⟨e1, e2⟩ := leaf_parts t ea
      have := bnd_pos (n + 1)
      exact ⟨t, by omega, by omega, hf2.trans hf3, hw3⟩
    have deep : ∀ h2, Fw w h h2 → Wl w h2 → 1 ≤ n → Ev ((seqM (asgM (lstM (consM (tupM (consM (cM (.str "f")) (consM (cM (.int 1)) nilM))) (consM (tupM (consM (cM (.str "f")) (consM (cM (.int 2)) nilM))) (consM (tupM (consM (cM (.str "g")) (consM (cM (.int 2)) nilM))) (consM (tupM (consM (cM (.str ".")) (consM (cM (.int 2)) nilM))) (consM (tupM (consM (cM (.str "")) (consM (cM (.int 1)) nilM))) (consM (tupM (consM (cM (.str "f")) (consM (cM (.int 2)) nilM))) nilM))))))) (nameG 3)) (seqM (asgM (callM 2 (m__law_one NF RD) [] (consM (varM 0) (consM (opM addD (varM 3) (ifM (testM (opM eqD (varM 1) (cM (.int 2)))) (lstM (consM (tupM (consM (cM (.str "h")) (consM (cM (.int 3)) nilM))) (consM (tupM (consM (cM (.str "k")) (consM (cM (.int 8)) nilM))) nilM))) (lstM nilM))) nilM))) (uplG 2 (consG (nameG 4) (consG (nameG 5) nilG)))) (retM (opM addD (tupM (consM (varM 4) nilM)) (cbM tuplD (consM (lcM (rngI (consM (varM 5) nilM)) (nameG 6) yesM (E__law_term_0 NF RD (m__law_term NF RD k)) [6] NF) nilM)))))) [some (.at w), some (.int (n + 1 : Nat)), some (.int many), none, none, none, none] h2) (BdK fun r h' => T r ∧ (parts r).length ≤ bnd (n + 1) ∧ dep r ≤ n + 1 ∧ Fw w h h' ∧ Wl w h') := by
      intro h2 hf2 hw2 hn1
      walk_at "wp"
      have l2 := hw2.lt
      have go : ∀ (l : Nat) (xs : List D) (h3 : Hd), l ≠ w → Fw w h h3 → Wl w h3 → h3[l]? = some (.lst xs) → 0 < xs.length → xs.length < 1000 → (∀ x ∈ xs, Form x) →
          Ev (m__law_one NF RD [.at w, .at l] h3) fun d h1 => Ev (uplG 2 (consG (nameG 4) (consG (nameG 5) nilG)) d [some (.at w), some (.int (n + 1 : Nat)), some (.int many), some (.at h2.length), none, none, none] h1) fun sg' h2_1 => SqK (retM (opM addD (tupM (consM (varM 4) nilM)) (cbM tuplD (consM (lcM (rngI (consM (varM 5) nilM)) (nameG 6) yesM (E__law_term_0 NF RD (m__law_term NF RD k)) [6] NF) nilM)))) (BdK fun r h' => T r ∧ (parts r).length ≤ bnd (n + 1) ∧ dep r ≤ n + 1 ∧ Fw w h h' ∧ Wl w h') (.nx sg') h2_1 := by
        intro l xs h3 hl hf3 hw3 e3 hx hx2 hform
        refine (r_one hw3 e3 hl hx hx2).mono ?_
        rintro r h4 ⟨hr, hf4, hw4⟩
        obtain ⟨s, a, rfl, hs, ha1, ha8⟩ := hform r hr
        have hf5 := hf3.trans hf4
        walk_at "wp"
        refine ev_lc ?_
        walk_at "wp"
        refine ⟨a, rfl, by omega, ?_⟩
        have l4 := hw4.lt
        have hnn : ((n + 1 : Nat) : Int) - 1 = (n : Nat) := by omega
        refine ⟨_, fun as ys h6 => Wl w h6 ∧ Fw w h h6 ∧ h4.length < h6.length ∧ ys.length = as.length ∧ ∀ y ∈ ys, T y ∧ (parts y).length ≤ bnd n ∧ dep y ≤ n, ?_, ?_, ⟨hw4.pre (Pre.app _ _), hf5.app _, by simp, rfl, by simp⟩, fun _ _ _ _ _ => yl_fix, ?_, ?_⟩
        · simp; omega
        · have := LN_eq; simp; omega
        · rintro as x bs ys h6 _ ⟨hw6, hf6, hl6, hlen, hys⟩ e6
          unfold E__law_term_0
          walk_at "wp"
          rw [hnn]
          refine (r_term many hm2 hN n k w h6 hw6 hn1 (by omega)).mono ?_
          rintro r h7 ⟨t7, p7, d7, hf7, hw7⟩
          refine ⟨hf7.get e6 (by omega), hw7.ne (by omega) _, (hf6.trans hf7).set' (by have := hf5.len; omega) _, by have := hf7.len; simp; omega, by simp [hlen], ?_⟩
          intro y hy
          rcases List.mem_append.mp hy with q | q
          · exact hys y q
          · have : y = r := by simpa using q
            exact this ▸ ⟨t7, p7, d7⟩
        · rintro zs h6 e6 ⟨hw6, hf6, hl6, hlen, hys⟩
          walk_at "wp"
          have hza : zs.length = a := by simpa using hlen
          refine lf_addT ?_ ?_
          · have := LN_eq; simp only [List.length_cons, List.length_nil]; omega
          walk_at "wp"
          cases zs with
          | nil => simp at hza; omega
          | cons z zs =>
            have tt : T (.tup (.str s :: z :: zs)) := .cmp s z zs hs (by simp at hza; omega) fun y hy => (hys y hy).1
            refine ⟨tt, ?_, ?_, hf6, hw6⟩
            · show (parts (.tup (.str s :: z :: zs))).length ≤ _
              rw [parts_args tt]
              have := partss_le (ds := z :: zs) (n := bnd n) fun y hy => (hys y hy).2.1
              have hb : bnd (n + 1) = 1 + 8 * bnd n := by
                cases n with
                | zero => omega
                | succ n => rfl
              rw [hb, List.length_cons]
              have : (z :: zs).length * bnd n ≤ 8 * bnd n := Nat.mul_le_mul_right _ (by omega)
              simp only [args]
              omega
            · show dep (.tup (.str s :: z :: zs)) ≤ _
              rw [dep_args]
              have := deps_le (ds := z :: zs) (n := n) fun y hy => (hys y hy).2.2
              simp only [args]
              omega
      refine br (fun c => ?_) fun c => ?_
      · walk_at "wp"
        refine lf_addL ((Pre.app _ _).get (get_new _ _)) (get_new _ _) (by have := LN_eq; simp; try omega) ?_
        walk_at "wp"
        refine go _ _ _ ?_ (((hf2.app _).app _).app _) (((hw2.pre (Pre.app _ _)).pre (Pre.app _ _)).pre (Pre.app _ _)) (get_new _ _) (by simp) (by simp) ?_
        · simp; omega
        · intro x hx
          simp only [List.cons_append, List.nil_append, List.mem_cons, List.not_mem_nil, or_false] at hx
          rcases hx with rfl | rfl | rfl | rfl | rfl | rfl | rfl | rfl
          · exact ⟨_, 1, rfl, by decide +kernel, by decide, by decide⟩
          · exact ⟨_, 2, rfl, by decide +kernel, by decide, by decide⟩
          · exact ⟨_, 2, rfl, by decide +kernel, by decide, by decide⟩
          · exact ⟨_, 2, rfl, by decide +kernel, by decide, by decide⟩
          · exact ⟨_, 1, rfl, by decide +kernel, by decide, by decide⟩
          · exact ⟨_, 2, rfl, by decide +kernel, by decide, by decide⟩
          · exact ⟨_, 3, rfl, by decide +kernel, by decide, by decide⟩
          · exact ⟨_, 8, rfl, by decide +kernel, by decide, by decide⟩
      · walk_at "wp"
        refine lf_addL ((Pre.app _ _).get (get_new _ _)) (get_new _ _) (by have := LN_eq; simp; try omega) ?_
        walk_at "wp"
        refine go _ _ _ ?_ (((hf2.app _).app _).app _) (((hw2.pre (Pre.app _ _)).pre (Pre.app _ _)).pre (Pre.app _ _)) (get_new _ _) (by simp) (by simp) ?_
        · simp; omega
        · intro x hx
          simp only [List.cons_append, List.nil_append, List.append_nil, List.mem_cons, List.not_mem_nil, or_false] at hx
          rcases hx with rfl | rfl | rfl | rfl | rfl | rfl
          · exact ⟨_, 1, rfl, by decide +kernel, by decide, by decide⟩
          · exact ⟨_, 2, rfl, by decide +kernel, by decide, by decide⟩
          · exact ⟨_, 2, rfl, by decide +kernel, by decide, by decide⟩
          · exact ⟨_, 2, rfl, by decide +kernel, by decide, by decide⟩
          · exact ⟨_, 1, rfl, by decide +kernel, by decide, by decide⟩
          · exact ⟨_, 2, rfl, by decide +kernel, by decide, by decide⟩
    unfold m__law_term
    walk_at "wp"
    refine br (fun c => ?_) fun c => ?_
    · walk_at "wp"
      exact leaf h (Fw.refl _ _) hw
    · walk_at "wp"
      refine (r_draw hw (by decide) (by decide +kernel)).mono ?_
      rintro r h2 ⟨i, rfl, _, _, hf2, hw2⟩
      walk_at "wp"
      refine br (fun c2 => ?_) fun c2 => ?_
      · walk_at "wp"
        exact leaf h2 hf2 hw2
      · refine ev_pass ?_
        refine sq_nx ?_
        exact deep h2 hf2 hw2 (by simp at c; omega)
end


/-! ### like things are equal -/
theorem same_ne {x y : D} {h : Hd} {p : PyData} (e1 : datD h x = some p) (e2 : datD h y = some p) (l : p.canLay0 = true) (dp : p.depth ≤ 64) : neD x y h = some (.bl false, h) := by
  unfold neD
  rw [e1, e2]
  simp only
  rw [if_pos ⟨l, l, by omega⟩, PySem.SeqAt.eqv_refl _ l]
  rfl
mutual
def depD : D → Nat
  | .tup xs => depDs xs + 1
  | .rol xs => depDs xs + 1
  | .int _ => 0
  | .str _ => 0
  | .bl _ => 0
  | .non => 0
  | .ty _ => 0
  | .at _ => 0
  | .ad _ => 0
def depDs : List D → Nat
  | [] => 0
  | d :: ds => max (depD d) (depDs ds)
end
mutual
theorem pd_depth : ∀ d : D, (pd d).depth ≤ depD d
  | .tup xs => by
    have := pds_depth xs
    simp only [pd, PyData.depth, depD]
    omega
  | .rol xs => by
    have := pds_depth xs
    simp only [pd, PyData.depth, depD]
    omega
  | .int i => by simp [pd, PyData.depth]
  | .str i => by simp [pd, PyData.depth]
  | .bl i => by simp [pd, PyData.depth]
  | .non => by simp [pd, PyData.depth]
  | .ty i => by simp [pd, PyData.depth]
  | .at i => by simp [pd, PyData.depth]
  | .ad i => by simp [pd, PyData.depth]
theorem pds_depth : ∀ ds : List D, PyData.depthAll (pds ds) ≤ depDs ds
  | [] => by simp [pds, PyData.depthAll]
  | d :: ds => by
    have h1 := pd_depth d
    have h2 := pds_depth ds
    simp only [pds, PyData.depthAll, depDs]
    omega
end
theorem T.depD {d : D} (t : T d) : depD d ≤ dep d := by
  induction t with
  | var n h => simp [K03.depD, depDs, dep, depT, deps]
  | int i h => simp [K03.depD]
  | str s h => simp [K03.depD]
  | cmp f a as hf hl ht ih =>
    have go : ∀ ds : List D, (∀ x ∈ ds, K03.depD x ≤ dep x) → depDs ds ≤ deps ds := by
      intro ds
      induction ds with
      | nil => intro _; simp [depDs]
      | cons d ds ih2 =>
        intro h
        have h1 := h d List.mem_cons_self
        have h2 := ih2 fun x hx => h x (List.mem_cons_of_mem _ hx)
        rw [depDs, deps]
        omega
    have := go _ ih
    rw [dep_args]
    simp only [K03.depD, K03.args]
    rw [depDs, show K03.depD (.str f) = 0 by simp [K03.depD]]
    omega
theorem T.same {d : D} (t : T d) (hd : dep d ≤ 64) (h : Hd) : neD d d h = some (.bl false, h) := by
  obtain ⟨e, l⟩ := t.dat (r := rP 3 h)
  exact same_ne e e l (by have := pd_depth d; have := t.depD; omega)
theorem dep_pos (d : D) : 1 ≤ dep d := by rw [dep_args]; omega
theorem dep_mem {ds : List D} {x : D} (h : x ∈ ds) : dep x ≤ deps ds := by
  induction ds with
  | nil => cases h
  | cons d ds ih =>
    rw [deps]
    rcases List.mem_cons.mp h with rfl | h
    · omega
    · have := ih h
      omega
section
variable {NF RD : Nat}
theorem r_law_cmp (d : D) (h : Hd) (hd : flat d = true) : m__law_is_compound NF RD [d] h = some (.bl (isCmp d), h) := r_is_compound NF RD d h hd
end


open PySem.W PyProof.Rows
/-! ### the keys by which terms are put in order -/
abbrev KT := Int × Int × Str
def kt : D → KT
  | .tup [.int n] => (0, n, "")
  | .tup (.str f :: as) => (3, (as.length : Nat), f)
  | .str s => (2, 0, s)
  | .int i => (1, i, "")
  | _ => (4, 0, "")
def kD (k : KT) : D := .tup [.int k.1, .int k.2.1, .str k.2.2]
def ks (d : D) : List KT := (parts d).map kt
def kss (ds : List D) : List KT := (partss ds).map kt
def ordI (a b : Int) : Int := if a = b then 0 else if a < b then -1 else 1
def ordS (a b : Str) : Int := if a = b then 0 else if dataLt (.str a) (.str b) = true then -1 else 1
def cmpK (x y : KT) : Int := if x.1 ≠ y.1 then ordI x.1 y.1 else if x.2.1 ≠ y.2.1 then ordI x.2.1 y.2.1 else ordS x.2.2 y.2.2
def cmpL : List KT → List KT → Int
  | [], [] => 0
  | [], _ :: _ => -1
  | _ :: _, [] => 1
  | x :: xs, y :: ys => if x = y then cmpL xs ys else cmpK x y
theorem ordI_sw (a b : Int) : ordI b a = - ordI a b := by unfold ordI; repeat' split <;> omega
theorem ordI_0 {a b : Int} : ordI a b = 0 ↔ a = b := by unfold ordI; repeat' split <;> omega
theorem ordI_lt {a b : Int} : ordI a b < 0 ↔ a < b := by unfold ordI; repeat' split <;> omega
theorem tok_str {a b : Str} (h : keyToks (.str a) = keyToks (.str b)) : a = b := by
  simp only [keyToks, List.cons.injEq, Sum.inr.injEq, and_true] at h
  exact str_of_cps h
theorem ltS_as {a b : Str} (h : dataLt (.str a) (.str b) = true) : dataLt (.str b) (.str a) = false := by
  cases e : dataLt (.str b) (.str a) with
  | false => rfl
  | true =>
    have z : lexLt itemOrd (keyToks (.str a)) (keyToks (.str a)) = true := (listOrd itemOrd).trans (keyToks (.str a)) (keyToks (.str b)) (keyToks (.str a)) h e
    rw [lex_irrefl] at z
    cases z
theorem ltS_tot {a b : Str} (hne : a ≠ b) (h : dataLt (.str a) (.str b) = false) : dataLt (.str b) (.str a) = true := by
  cases e : dataLt (.str b) (.str a) with
  | true => rfl
  | false => exact absurd (tok_str ((listOrd itemOrd).total (keyToks (.str a)) (keyToks (.str b)) h e)) hne
theorem ordS_sw (a b : Str) : ordS b a = - ordS a b := by
  unfold ordS
  by_cases e : a = b
  · subst e; simp
  · rw [if_neg e, if_neg fun z => e z.symm]
    cases h : dataLt (.str a) (.str b) with
    | true => rw [ltS_as h]; simp
    | false => rw [ltS_tot e h]; simp
theorem ordS_0 {a b : Str} : ordS a b = 0 ↔ a = b := by
  unfold ordS
  by_cases e : a = b
  · simp [e]
  · rw [if_neg e]
    constructor
    · intro h; split at h <;> omega
    · intro h; exact absurd h e
theorem ordS_lt {a b : Str} (e : a ≠ b) : dataLt (.str a) (.str b) = decide (ordS a b < 0) := by
  unfold ordS
  rw [if_neg e]
  cases h : dataLt (.str a) (.str b) <;> simp
theorem cmpK_sw (x y : KT) : cmpK y x = - cmpK x y := by
  unfold cmpK
  by_cases h1 : x.1 = y.1
  · by_cases h2 : x.2.1 = y.2.1
    · simp only [h1, h2, ne_eq, not_true_eq_false, if_false]; exact ordS_sw _ _
    · have h2' : ¬ y.2.1 = x.2.1 := fun z => h2 z.symm
      simp only [h1, h2, h2', ne_eq, not_true_eq_false, if_false, not_false_eq_true, if_true]; exact ordI_sw _ _
  · have h1' : ¬ y.1 = x.1 := fun z => h1 z.symm
    simp only [h1, h1', ne_eq, not_false_eq_true, if_true]; exact ordI_sw _ _
theorem cmpK_0 {x y : KT} : cmpK x y = 0 ↔ x = y := by
  obtain ⟨x1, x2, x3⟩ := x
  obtain ⟨y1, y2, y3⟩ := y
  unfold cmpK
  simp only [Prod.mk.injEq]
  by_cases h1 : x1 = y1
  · by_cases h2 : x2 = y2
    · simp only [h1, h2, ne_eq, not_true_eq_false, if_false, true_and]; exact ordS_0
    · simp only [h1, h2, ne_eq, not_true_eq_false, if_false, not_false_eq_true, if_true, true_and, false_and, iff_false]
      exact fun z => h2 (ordI_0.mp z)
  · simp only [h1, ne_eq, not_false_eq_true, if_true, false_and, iff_false]
    exact fun z => h1 (ordI_0.mp z)
theorem cmpL_sw : ∀ xs ys : List KT, cmpL ys xs = - cmpL xs ys
  | [], [] => rfl
  | [], _ :: _ => rfl
  | _ :: _, [] => rfl
  | x :: xs, y :: ys => by
    unfold cmpL
    by_cases e : x = y
    · rw [if_pos e, if_pos e.symm]; exact cmpL_sw xs ys
    · rw [if_neg e, if_neg fun z => e z.symm]; exact cmpK_sw x y
theorem cmpL_0 : ∀ {xs ys : List KT}, cmpL xs ys = 0 ↔ xs = ys
  | [], [] => by simp [cmpL]
  | [], _ :: _ => by simp [cmpL]
  | _ :: _, [] => by simp [cmpL]
  | x :: xs, y :: ys => by
    unfold cmpL
    by_cases e : x = y
    · rw [if_pos e, cmpL_0]; simp [e]
    · rw [if_neg e, cmpK_0]; simp [e]
theorem lex_ne {p q : Int ⊕ List Nat} (hne : p ≠ q) (l m : List (Int ⊕ List Nat)) : lexLt itemOrd (p :: l) (q :: m) = itemLt p q := lex_diff (O := itemOrd) hne
theorem itemS {a b : Str} : itemLt (.inr a.cps.toList) (.inr b.cps.toList) = dataLt (.str a) (.str b) := by
  show _ = lexLt itemOrd [_] [_]
  by_cases e : a = b
  · subst e
    rw [lex_irrefl]
    exact itemOrd.irrefl (.inr a.cps.toList)
  · rw [lex_ne (fun z => e (tok_str (by simpa [keyToks] using z)))]
theorem pd_kD (k : KT) : pd (kD k) = .tuple [.int k.1, .int k.2.1, .str k.2.2] := by simp [kD, pd, pds]
theorem toks_K (k : KT) : keyToks (pd (kD k)) = [.inl 1, .inl k.1, .inl 1, .inl k.2.1, .inl 1, .inr k.2.2.cps.toList, .inl 0] := by
  rw [pd_kD]
  simp [keyToks, keyToksAll]
theorem lex_K (x y : KT) (R S : List (Int ⊕ List Nat)) : lexLt itemOrd (keyToks (pd (kD x)) ++ R) (keyToks (pd (kD y)) ++ S) = if x = y then lexLt itemOrd R S else decide (cmpK x y < 0) := by
  rw [toks_K, toks_K]
  by_cases e : x = y
  · subst e
    rw [if_pos rfl]
    exact lex_pre _ _ _
  · rw [if_neg e]
    obtain ⟨x1, x2, x3⟩ := x
    obtain ⟨y1, y2, y3⟩ := y
    simp only [List.cons_append, List.nil_append]
    rw [lex_self (O := itemOrd)]
    unfold cmpK
    simp only
    by_cases h1 : x1 = y1
    · subst h1
      rw [lex_self (O := itemOrd), lex_self (O := itemOrd)]
      by_cases h2 : x2 = y2
      · subst h2
        rw [lex_self (O := itemOrd), lex_self (O := itemOrd)]
        have h3 : x3 ≠ y3 := fun z => e (by rw [z])
        rw [lex_ne (fun z => h3 (tok_str (by simpa [keyToks] using z))), itemS, ordS_lt h3]
        simp
      · rw [lex_ne (fun z => h2 (by simpa using z))]
        show decide (x2 < y2) = _
        simp only [ne_eq, not_true_eq_false, if_false, h2, not_false_eq_true, if_true]
        exact decide_eq_decide.mpr ordI_lt.symm
    · rw [lex_ne (fun z => h1 (by simpa using z))]
      show decide (x1 < y1) = _
      simp only [ne_eq, h1, not_false_eq_true, if_true]
      exact decide_eq_decide.mpr ordI_lt.symm
theorem lt_L : ∀ xs ys : List KT, dataLt (.list (xs.map fun k => pd (kD k))) (.list (ys.map fun k => pd (kD k))) = decide (cmpL xs ys < 0)
  | [], [] => by rw [show cmpL [] [] = 0 from rfl]; exact lex_irrefl (O := itemOrd) _
  | [], y :: ys => by
    show lexLt itemOrd [.inl 0] (.inl 1 :: _) = _
    rw [lex_ne (by simp)]
    rfl
  | x :: xs, [] => by
    show lexLt itemOrd (.inl 1 :: _) [.inl 0] = _
    rw [lex_ne (by simp)]
    rfl
  | x :: xs, y :: ys => by
    show lexLt itemOrd (.inl 1 :: (keyToks (pd (kD x)) ++ keyToksAll (xs.map fun k => pd (kD k)))) (.inl 1 :: (keyToks (pd (kD y)) ++ keyToksAll (ys.map fun k => pd (kD k)))) = _
    rw [lex_self (O := itemOrd), lex_K]
    unfold cmpL
    by_cases e : x = y
    · rw [if_pos e, if_pos e]
      exact lt_L xs ys
    · rw [if_neg e, if_neg e]


theorem plDs_of : ∀ {ds : List D}, (∀ d ∈ ds, plD d = true) → plDs ds = true
  | [], _ => rfl
  | d :: ds, h => by simp only [plDs, h d (by simp), plDs_of (ds := ds) fun x hx => h x (by simp [hx]), Bool.and_self]
theorem T.pl {d : D} (t : T d) : plD d = true := by
  induction t with
  | var n h => simp [plD, plDs]
  | int i h => rfl
  | str s h => exact atom_strOk h
  | cmp f a as hf h8 _ ih =>
    simp only [plD]
    rw [plDs]
    simp only [plD, atom_strOk hf, Bool.true_and]
    exact plDs_of ih
theorem ks_eq {d : D} (t : T d) : ks d = kt d :: kss (args d) := by unfold ks kss; rw [parts_args t]; rfl
theorem kss_cons (d : D) (ds : List D) : kss (d :: ds) = ks d ++ kss ds := by unfold kss ks; rw [partss, List.map_append]
theorem same_kt {d e : D} (td : T d) (te : T e) (h : kt d = kt e) : (args d).length = (args e).length ∧ (args d = args e → d = e) := by
  cases td <;> cases te <;> simp only [kt, Prod.mk.injEq] at h <;> simp only [args] <;> simp_all <;> omega
theorem cmpL_pre (R S : List KT) : ∀ l : List KT, cmpL (l ++ R) (l ++ S) = cmpL R S
  | [] => rfl
  | x :: l => by
    simp only [List.cons_append]
    rw [cmpL, if_pos rfl]
    exact cmpL_pre R S l
def PC (d : D) : Prop := ∀ e, T e → d ≠ e → ∀ R S, cmpL (ks d ++ R) (ks e ++ S) = cmpL (ks d) (ks e) ∧ cmpL (ks d) (ks e) ≠ 0
theorem pcs : ∀ (as bs : List D), (∀ a ∈ as, PC a) → (∀ b ∈ bs, T b) → as.length = bs.length → as ≠ bs → ∀ R S, cmpL (kss as ++ R) (kss bs ++ S) = cmpL (kss as) (kss bs) ∧ cmpL (kss as) (kss bs) ≠ 0
  | [], [], _, _, _, hne, _, _ => absurd rfl hne
  | [], _ :: _, _, _, h, _, _, _ => by simp at h
  | _ :: _, [], _, _, h, _, _, _ => by simp at h
  | a :: as, b :: bs, pa, tb, hl, hne, R, S => by
    rw [kss_cons, kss_cons, List.append_assoc, List.append_assoc]
    by_cases e : a = b
    · subst e
      rw [cmpL_pre, cmpL_pre]
      exact pcs as bs (fun x hx => pa x (by simp [hx])) (fun x hx => tb x (by simp [hx])) (by simpa using hl) (fun z => hne (by rw [z])) R S
    · obtain ⟨h1, h2⟩ := pa a (by simp) b (tb b (by simp)) e (kss as ++ R) (kss bs ++ S)
      obtain ⟨h3, _⟩ := pa a (by simp) b (tb b (by simp)) e (kss as) (kss bs)
      rw [h1, h3]
      exact ⟨rfl, h2⟩
theorem pc {d : D} (t : T d) : PC d := by
  have main : ∀ d : D, T d → (∀ a ∈ args d, PC a) → PC d := by
    intro d td ih e te hne R S
    rw [ks_eq td, ks_eq te]
    simp only [List.cons_append, cmpL]
    by_cases hk : kt d = kt e
    · obtain ⟨hl, hd⟩ := same_kt td te hk
      rw [if_pos hk, if_pos hk]
      exact pcs _ _ ih te.args hl (fun z => hne (hd z)) R S
    · rw [if_neg hk, if_neg hk]
      exact ⟨rfl, fun z => hk (cmpK_0.mp z)⟩
  induction t with
  | var n h => exact main _ (.var n h) (by simp [args])
  | int i h => exact main _ (.int i h) (by simp [args])
  | str s h => exact main _ (.str s h) (by simp [args])
  | cmp f a as h1 h2 h3 ih => exact main _ (.cmp f a as h1 h2 h3) (by simpa [args] using ih)
theorem ord_0 {d e : D} (td : T d) (te : T e) : cmpL (ks d) (ks e) = 0 ↔ d = e := by
  constructor
  · intro h
    by_cases q : d = e
    · exact q
    · exact absurd h (pc td e te q [] []).2
  · rintro rfl
    exact cmpL_0.mpr rfl
/-- the first two that differ decide -/
theorem ord_cons {a b : D} {as bs : List D} (ta : T a) (tb : T b) : cmpL (kss (a :: as)) (kss (b :: bs)) = if cmpL (ks a) (ks b) = 0 then cmpL (kss as) (kss bs) else cmpL (ks a) (ks b) := by
  rw [kss_cons, kss_cons]
  by_cases e : a = b
  · subst e
    rw [cmpL_pre, if_pos (cmpL_0.mpr rfl)]
  · obtain ⟨h1, h2⟩ := pc ta b tb e (kss as) (kss bs)
    rw [h1, if_neg h2]


open PySem.W PyProof.Rows
theorem T.Pl {d : D} (t : T d) (h : dep d ≤ 40) : Pl d := ⟨t.pl, by have := pd_depth d; have := t.depD; omega⟩
theorem T.dt {d : D} (t : T d) (h : Hd) : datD h d = some (pd d) := t.dat.1
theorem lt_ii (a b : Int) : dataLt (.int a) (.int b) = decide (a < b) := by
  by_cases e : a = b
  · subst e
    have : dataLt (.int a) (.int a) = false := lex_irrefl (O := itemOrd) _
    rw [this]
    simp
  · show lexLt itemOrd [.inl a] [.inl b] = _
    rw [lex_ne (by simpa using e)]
    rfl
theorem lt_vv (a b : Int) : dataLt (.tuple [.int a]) (.tuple [.int b]) = decide (a < b) := by
  by_cases e : a = b
  · subst e
    have : dataLt (.tuple [.int a]) (.tuple [.int a]) = false := lex_irrefl (O := itemOrd) _
    rw [this]
    simp
  · show lexLt itemOrd (.inl 1 :: .inl a :: _) (.inl 1 :: .inl b :: _) = _
    rw [lex_self (O := itemOrd), lex_ne (by simpa using e)]
    rfl
theorem cl_len {n m : Int} {f g : Str} (R S : List KT) (h : n ≠ m) : cmpL ((3, n, f) :: R) ((3, m, g) :: S) = if n < m then -1 else 1 := by
  rw [cmpL, if_neg (fun z => h (by simpa using congrArg (fun k : KT => k.2.1) z))]
  unfold cmpK ordI
  simp [h]
theorem cl_nm {n : Int} {f g : Str} (R S : List KT) (h : f ≠ g) : cmpL ((3, n, f) :: R) ((3, n, g) :: S) = if dataLt (.str f) (.str g) = true then -1 else 1 := by
  rw [cmpL, if_neg (fun z => h (by simpa using congrArg (fun k : KT => k.2.2) z))]
  unfold cmpK ordS
  simp [h]
theorem cl_sm {n : Int} {f : Str} (R S : List KT) : cmpL ((3, n, f) :: R) ((3, n, f) :: S) = cmpL R S := by rw [cmpL, if_pos rfl]
section
variable {NF RD : Nat} {h : Hd} {Q : D → Hd → Prop}
theorem lf_ltPi {a b : Int} (q : Q (.bl (decide (a < b))) h) : Ev (ltPD (.int a) (.int b) h) Q := lf_ltP (p := .int a) (q := .int b) (by unfold datD; rw [toP]) (by unfold datD; rw [toP]) (by simp [okOrd, alike, PyData.depth]) (by rw [lt_ii]; exact q)
theorem lf_ltPs {a b : Str} (q : Q (.bl (dataLt (.str a) (.str b))) h) : Ev (ltPD (.str a) (.str b) h) Q := lf_ltP (p := .str a) (q := .str b) (by unfold datD; rw [toP]) (by unfold datD; rw [toP]) (by simp [okOrd, alike, PyData.depth]) q
theorem lf_ltPv {a b : Int} (q : Q (.bl (decide (a < b))) h) : Ev (ltPD (.tup [.int a]) (.tup [.int b]) h) Q := lf_ltP (p := .tuple [.int a]) (q := .tuple [.int b]) (by unfold datD; simp [toP, toPs]) (by unfold datD; simp [toP, toPs]) (by simp [okOrd, alike, alikeAll, PyData.depth, PyData.depthAll]) (by rw [lt_vv]; exact q)
theorem r_rank {d : D} (t : T d) (h : Hd) : m__law_rank NF RD [d] h = some (.int (kt d).1, h) := by
  refine ev_is ?_
  unfold m__law_rank
  cases t with
  | var n hn =>
    walk_at "wp"
    exact ⟨rfl, rfl⟩
  | int i hi =>
    walk_at "wp"
    exact ⟨rfl, rfl⟩
  | str s hs =>
    walk_at "wp"
    exact ⟨rfl, rfl⟩
  | cmp f a as h1 h2 h3 =>
    have d1 : decide ((((D.str f :: a :: as).length : Nat) : Int) = 1) = false := decide_eq_false (by simp only [List.length_cons]; omega)
    walk_at "wp"
    exact ⟨rfl, rfl⟩
theorem pn_rank {d : D} (t : T d) : (kt d).1 < 3 ↔ isCmp d = false := by cases t <;> simp [kt, isCmp] <;> omega
theorem r_order (hN : 50 ≤ NF) : ∀ (k : Nat) (d e : D) (h : Hd), T d → T e → dep d ≤ k → dep d ≤ 40 → dep e ≤ 40 → Ev (m__law_order NF RD k [d, e] h) fun r h' => r = .int (cmpL (ks d) (ks e)) ∧ Pre h h'
  | 0, d, e, h, td, te, hk, _, _ => by have := dep_pos d; omega
  | k + 1, d, e, h, td, te, hk, hd4, he4 => by
    have hLN := LN_eq
    unfold m__law_order
    walk_at "wp"
    refine ev_eq (r_rank td h) ?_
    walk_at "wp"
    refine ev_eq (r_rank te h) ?_
    walk_at "wp"
    rw [ks_eq td, ks_eq te]
    by_cases hr : (kt d).1 = (kt e).1
    · rw [decide_eq_true hr]
      walk_at "wp"
      refine lf_ltPi ?_
      by_cases hc : isCmp d = false
      · rw [decide_eq_true ((pn_rank td).mpr hc)]
        have hce : isCmp e = false := (pn_rank te).mp (by rw [← hr]; exact (pn_rank td).mpr hc)
        rw [noCmp_args td hc, noCmp_args te hce]
        have hkk : cmpL (kt d :: kss []) (kt e :: kss []) = cmpK (kt d) (kt e) := by
          show (if _ then _ else _) = _
          by_cases q : kt d = kt e
          · rw [if_pos q, q, cmpK_0.mpr rfl]; rfl
          · rw [if_neg q]
        rw [hkk]
        walk_at "wp"
        haveI : Decidable (d = e) := Classical.propDecidable _
        refine ev_eq (eq_pl (td.Pl hd4) (te.Pl he4)) ?_
        by_cases hde : d = e
        · rw [decide_eq_true hde, hde, cmpK_0.mpr rfl]
          walk_at "wp"
          exact ⟨rfl, Pre.refl _⟩
        · rw [decide_eq_false hde]
          walk_at "wp"
          cases td with
          | var n hn =>
            cases te with
            | var m hm =>
              refine lf_ltPv ?_
              have hne : n ≠ m := fun z => hde (by rw [z])
              have e1 : cmpK (kt (.tup [.int n])) (kt (.tup [.int m])) = if n < m then -1 else 1 := by
                simp only [kt, cmpK, ordI, ne_eq, not_true_eq_false, if_false, hne, not_false_eq_true, if_true]
                try rfl
              rw [e1]
              walk_at "wp"
              refine br (fun c => ?_) fun c => ?_
              · walk_at "wp"
                rw [if_pos (by simpa using c)]
                exact ⟨rfl, Pre.refl _⟩
              · walk_at "wp"
                rw [if_neg (by simpa using c)]
                exact ⟨rfl, Pre.refl _⟩
            | _ => simp [kt] at hr
          | int n hn =>
            cases te with
            | int m hm =>
              refine lf_ltPi ?_
              have hne : n ≠ m := fun z => hde (by rw [z])
              have e1 : cmpK (kt (.int n)) (kt (.int m)) = if n < m then -1 else 1 := by
                simp only [kt, cmpK, ordI, ne_eq, not_true_eq_false, if_false, hne, not_false_eq_true, if_true]
                try rfl
              rw [e1]
              walk_at "wp"
              refine br (fun c => ?_) fun c => ?_
              · walk_at "wp"
                rw [if_pos (by simpa using c)]
                exact ⟨rfl, Pre.refl _⟩
              · walk_at "wp"
                rw [if_neg (by simpa using c)]
                exact ⟨rfl, Pre.refl _⟩
            | _ => simp [kt] at hr
          | str n hn =>
            cases te with
            | str m hm =>
              refine lf_ltPs ?_
              have hne : n ≠ m := fun z => hde (by rw [z])
              have e1 : cmpK (kt (.str n)) (kt (.str m)) = if dataLt (.str n) (.str m) = true then -1 else 1 := by
                simp only [kt, cmpK, ordS, ne_eq, not_true_eq_false, if_false, hne]
                try rfl
              rw [e1]
              walk_at "wp"
              refine br (fun c => ?_) fun c => ?_
              · walk_at "wp"
                rw [if_pos c]
                exact ⟨rfl, Pre.refl _⟩
              · walk_at "wp"
                rw [if_neg (by rw [c]; exact Bool.false_ne_true)]
                exact ⟨rfl, Pre.refl _⟩
            | _ => simp [kt] at hr
          | cmp f a as _ _ _ => rw [isCmp_cmp] at hc; cases hc
      · have hc' : isCmp d = true := by simpa using hc
        rw [decide_eq_false (fun z => hc ((pn_rank td).mp z))]
        have hce : isCmp e = true := by
          cases q : isCmp e with
          | true => rfl
          | false => exact absurd ((pn_rank td).mp (by rw [hr]; exact (pn_rank te).mpr q)) hc
        obtain ⟨f, a, as, rfl⟩ := isCmp_args td hc'
        obtain ⟨g, b, bs, rfl⟩ := isCmp_args te hce
        have V1 : ¬ as.length = bs.length → cmpL (kt (.tup (.str f :: a :: as)) :: kss (args (.tup (.str f :: a :: as)))) (kt (.tup (.str g :: b :: bs)) :: kss (args (.tup (.str g :: b :: bs)))) = if ((D.str f :: a :: as).length : Int) < ((D.str g :: b :: bs).length : Int) then -1 else 1 := by
          intro hne
          refine (cl_len (f := f) (g := g) (n := ((a :: as).length : Nat)) (m := ((b :: bs).length : Nat)) _ _ (by simp only [List.length_cons]; omega)).trans ?_
          simp only [List.length_cons]
          by_cases q : as.length < bs.length
          · rw [if_pos (by omega), if_pos (by omega)]
          · rw [if_neg (by omega), if_neg (by omega)]
        have V2 : as.length = bs.length → ¬ f = g → cmpL (kt (.tup (.str f :: a :: as)) :: kss (args (.tup (.str f :: a :: as)))) (kt (.tup (.str g :: b :: bs)) :: kss (args (.tup (.str g :: b :: bs)))) = if dataLt (.str f) (.str g) = true then -1 else 1 := by
          intro he hne
          have e2 : kt (.tup (.str g :: b :: bs)) = (((3 : Int), (((a :: as).length : Nat) : Int), g) : KT) := by simp [kt, he]
          rw [e2]
          exact cl_nm (n := ((a :: as).length : Nat)) _ _ hne
        have V3 : as.length = bs.length → f = g → cmpL (kt (.tup (.str f :: a :: as)) :: kss (args (.tup (.str f :: a :: as)))) (kt (.tup (.str g :: b :: bs)) :: kss (args (.tup (.str g :: b :: bs)))) = cmpL (kss (a :: as)) (kss (b :: bs)) := by
          intro he hfg
          have e2 : kt (.tup (.str g :: b :: bs)) = (((3 : Int), (((a :: as).length : Nat) : Int), f) : KT) := by simp [kt, he, hfg]
          rw [e2]
          exact cl_sm (n := ((a :: as).length : Nat)) _ _
        obtain ⟨V, hV⟩ : ∃ V, V = cmpL (kt (.tup (.str f :: a :: as)) :: kss (args (.tup (.str f :: a :: as)))) (kt (.tup (.str g :: b :: bs)) :: kss (args (.tup (.str g :: b :: bs)))) := ⟨_, rfl⟩
        rw [← hV] at V1 V2 V3 ⊢
        have tta : ∀ x ∈ a :: as, T x := td.args
        have ttb : ∀ x ∈ b :: bs, T x := te.args
        have hda : ∀ x ∈ a :: as, dep x ≤ k := fun x hx => by
          have h1 := dep_mem hx
          have h2 := dep_args (.tup (.str f :: a :: as))
          simp only [args] at h2
          omega
        have hda4 : ∀ x ∈ a :: as, dep x ≤ 40 := fun x hx => by
          have h1 := dep_mem hx
          have h2 := dep_args (.tup (.str f :: a :: as))
          simp only [args] at h2
          omega
        have hdb4 : ∀ x ∈ b :: bs, dep x ≤ 40 := fun x hx => by
          have h1 := dep_mem hx
          have h2 := dep_args (.tup (.str g :: b :: bs))
          simp only [args] at h2
          omega
        have len8 : as.length < 8 ∧ bs.length < 8 ∧ atomOk f = true ∧ atomOk g = true := by
          cases td
          cases te
          exact ⟨by assumption, by assumption, by assumption, by assumption⟩
        walk_at "wp"
        refine ev_for (xs := [D.tup [.int ((D.str f :: a :: as).length : Nat), .int ((D.str g :: b :: bs).length : Nat)], .tup [.str f, .str g]]) (fun done sg hh => (∃ p2 p3 p4 p5, sg = [some (.tup (.str f :: a :: as)), some (.tup (.str g :: b :: bs)), p2, p3, p4, p5]) ∧ hh = h ∧ (1 ≤ done.length → as.length = bs.length) ∧ (2 ≤ done.length → f = g)) ⟨⟨_, _, _, _, rfl⟩, rfl, by simp, by simp⟩ (by simp; omega) (fun _ _ _ _ => yl_fix) ?_ ?_
        · rintro done z rest sg hh ez ⟨⟨p2, p3, p4, p5, rfl⟩, rfl, i1, i2⟩
          match done, ez with
          | [], ez =>
            simp only [List.nil_append, List.cons.injEq] at ez
            obtain ⟨rfl, _⟩ := ez
            walk_at "wp"
            unfold B__law_order_1
            walk_at "wp"
            by_cases q : as.length = bs.length
            · rw [decide_eq_true (by simp only [List.length_cons]; omega)]
              walk_at "wp"
              exact ⟨⟨_, _, _, _, rfl⟩, rfl, fun _ => q, by simp⟩
            · rw [decide_eq_false (by simp only [List.length_cons]; omega)]
              walk_at "wp"
              refine lf_ltPi ?_
              walk_at "wp"
              rw [V1 q]
              refine br (fun c => ?_) fun c => ?_
              · walk_at "wp"
                rw [if_pos (by simpa using c)]
                exact ⟨rfl, Pre.refl _⟩
              · walk_at "wp"
                rw [if_neg (by simpa using c)]
                exact ⟨rfl, Pre.refl _⟩
          | [_], ez =>
            simp only [List.cons_append, List.nil_append, List.cons.injEq] at ez
            obtain ⟨_, rfl, _⟩ := ez
            have q := i1 (by simp)
            walk_at "wp"
            unfold B__law_order_1
            walk_at "wp"
            refine ne_ss' (atom_strOk len8.2.2.1) (atom_strOk len8.2.2.2) ?_
            by_cases q2 : f = g
            · rw [decide_eq_true q2]
              walk_at "wp"
              exact ⟨⟨_, _, _, _, rfl⟩, rfl, fun _ => q, fun _ => q2⟩
            · rw [decide_eq_false q2]
              walk_at "wp"
              refine lf_ltPs ?_
              walk_at "wp"
              rw [V2 q q2]
              refine br (fun c => ?_) fun c => ?_
              · walk_at "wp"
                rw [if_pos c]
                exact ⟨rfl, Pre.refl _⟩
              · walk_at "wp"
                rw [if_neg (by rw [c]; exact Bool.false_ne_true)]
                exact ⟨rfl, Pre.refl _⟩
          | _ :: _ :: _, ez => simp at ez
        · rintro sg hh ⟨⟨p2, p3, p4, p5, rfl⟩, rfl, i1, i2⟩
          have q := i1 (by simp)
          have q2 := i2 (by simp)
          refine sq_nx ?_
          walk_at "wp"
          refine ev_zipT ?_
          walk_at "wp"
          rw [cut1, cut1]
          refine ⟨_, _, rfl, ?_⟩
          have hz : ∀ i : Nat, (zipD (a :: as) (b :: bs))[i]? = (match (a :: as)[i]?, (b :: bs)[i]? with | some x, some y => some (D.tup [x, y]) | _, _ => none) := by
            intro i
            unfold zipD
            rw [List.getElem?_map]
            cases e1 : (a :: as)[i]? with
            | none =>
              have : ((a :: as).zip (b :: bs))[i]? = none := by
                rw [List.getElem?_eq_none_iff] at e1 ⊢
                rw [List.length_zip]
                omega
              rw [this]; rfl
            | some x =>
              cases e2 : (b :: bs)[i]? with
              | none =>
                have : ((a :: as).zip (b :: bs))[i]? = none := by
                  rw [List.getElem?_eq_none_iff] at e2 ⊢
                  rw [List.length_zip]
                  omega
                rw [this]; rfl
              | some y =>
                have : ((a :: as).zip (b :: bs))[i]? = some (x, y) := List.getElem?_zip_eq_some.mpr ⟨e1, e2⟩
                rw [this]; rfl
          have hzl : (zipD (a :: as) (b :: bs)).length = as.length + 1 := by
            unfold zipD
            simp only [List.length_map, List.length_zip, List.length_cons]
            omega
          refine ev_for (xs := zipD (a :: as) (b :: bs)) (fun done sg h2 => (∃ p2 p3 p4 p5, sg = [some (.tup (.str f :: a :: as)), some (.tup (.str g :: b :: bs)), p2, p3, p4, p5]) ∧ Pre hh h2 ∧ V = cmpL (kss ((a :: as).drop done.length)) (kss ((b :: bs).drop done.length))) ⟨⟨_, _, _, _, rfl⟩, Pre.refl _, by simpa using V3 q q2⟩ (by rw [hzl]; omega) (fun _ _ _ _ => yl_fix) ?_ ?_
          · rintro done z rest sg h2 ez ⟨⟨p2, p3, p4, p5, rfl⟩, pr, hv⟩
            have hlt : done.length < as.length + 1 := by
              have := congrArg List.length ez
              rw [hzl] at this
              simp at this
              omega
            have e0 := hz done.length
            rw [ez] at e0
            simp only [List.getElem?_append_right (Nat.le_refl _), Nat.sub_self, List.getElem?_cons_zero] at e0
            have hla : done.length < (a :: as).length := by simp only [List.length_cons]; omega
            have hlb : done.length < (b :: bs).length := by simp only [List.length_cons]; omega
            have ex : (a :: as)[done.length]? = some (a :: as)[done.length] := List.getElem?_eq_getElem hla
            have ey : (b :: bs)[done.length]? = some (b :: bs)[done.length] := List.getElem?_eq_getElem hlb
            have dx := List.drop_eq_getElem_cons (l := a :: as) (i := done.length) hla
            have dy := List.drop_eq_getElem_cons (l := b :: bs) (i := done.length) hlb
            have mx : (a :: as)[done.length] ∈ a :: as := List.getElem_mem _
            have my : (b :: bs)[done.length] ∈ b :: bs := List.getElem_mem _
            rw [ex, ey] at e0
            simp only [Option.some.injEq] at e0
            generalize (a :: as)[done.length] = x at *
            generalize (b :: bs)[done.length] = y at *
            subst e0
            rw [dx, dy, ord_cons (tta x mx) (ttb y my)] at hv
            walk_at "wp"
            unfold B__law_order_0
            walk_at "wp"
            refine (r_order hN k x y h2 (tta x mx) (ttb y my) (hda x mx) (hda4 x mx) (hdb4 y my)).mono ?_
            rintro _ h3 ⟨rfl, p3'⟩
            walk_at "wp"
            by_cases q3 : cmpL (ks x) (ks y) = 0
            · rw [decide_eq_true q3]
              rw [if_pos q3] at hv
              walk_at "wp"
              exact ⟨⟨_, _, _, _, rfl⟩, pr.trans p3', by rw [List.length_append, List.length_singleton]; exact hv⟩
            · rw [decide_eq_false q3]
              rw [if_neg q3] at hv
              walk_at "wp"
              exact ⟨by rw [hv], pr.trans p3'⟩
          · rintro sg h2 ⟨⟨p2, p3, p4, p5, rfl⟩, pr, hv⟩
            refine sq_nx ?_
            walk_at "wp"
            rw [hzl, List.drop_of_length_le (by simp), List.drop_of_length_le (by simp; omega)] at hv
            exact ⟨by rw [hv]; rfl, pr⟩
    · rw [decide_eq_false hr]
      walk_at "wp"
      refine lf_ltPi ?_
      have hkk : cmpL (kt d :: kss (args d)) (kt e :: kss (args e)) = if (kt d).1 < (kt e).1 then -1 else 1 := by
        rw [cmpL, if_neg (fun z => hr (by rw [z]))]
        unfold cmpK ordI
        rw [if_pos hr, if_neg hr]
      rw [hkk]
      walk_at "wp"
      refine br (fun c => ?_) fun c => ?_
      · walk_at "wp"
        rw [if_pos (by simpa using c)]
        exact ⟨rfl, Pre.refl _⟩
      · walk_at "wp"
        rw [if_neg (by simpa using c)]
        exact ⟨rfl, Pre.refl _⟩
end


open PySem.W PyProof.Rows
/-! ### the sorted list -/
def kp (d : D) : PyData := .list ((ks d).map fun k => pd (kD k))
def leT (a b : D) : Bool := !dataLt (kp b) (kp a)
theorem leT_iff {a b : D} : leT a b = true ↔ cmpL (ks a) (ks b) ≤ 0 := by
  unfold leT kp
  rw [lt_L, cmpL_sw]
  simp
theorem leT_tot : TotalLe leT := by
  have h := sortLe_total (listOrd itemOrd) false (fun d : D => keyToks (kp d))
  exact ⟨fun a b c h1 h2 => h.trans a b c h1 h2, fun a b => h.total a b⟩
def SD (ds : List D) : List D := ds.mergeSort leT
theorem sortV_SD (ds : List D) : sortV ds (ds.map kp) = SD ds := by
  unfold sortV SD
  have e : ds.zip (ds.map kp) = ds.map fun d => (d, kp d) := by
    induction ds with
    | nil => rfl
    | cons d ds ih => simp only [List.map_cons, List.zip_cons_cons]; rw [ih]
  rw [e, ← List.map_mergeSort (r := leT) (s := dataLe false (·.2)) (f := fun d : D => (d, kp d)) (fun a _ b _ => rfl), List.map_map]
  exact (List.map_id' _)
theorem SD_perm (ds : List D) : (SD ds).Perm ds := List.mergeSort_perm ds leT
theorem SD_sorted (ds : List D) : (SD ds).Pairwise fun a b => leT a b = true := sort_pairwise leT_tot ds
theorem sorted_uniq : ∀ {l m : List D}, l.Perm m → l.Pairwise (fun a b => leT a b = true) → m.Pairwise (fun a b => leT a b = true) → (∀ x ∈ l, T x) → l = m
  | [], m, p, _, _, _ => p.nil_eq
  | a :: l, [], p, _, _, _ => by have := p.length_eq; simp at this
  | a :: l, b :: m, p, h1, h2, ht => by
    have hab : a = b := by
      by_cases e : a = b
      · exact e
      · have m1 : a ∈ b :: m := p.mem_iff.mp (by simp)
        have m2 : b ∈ a :: l := p.mem_iff.mpr (by simp)
        have m1 : a ∈ m := by simpa [e] using m1
        have m2 : b ∈ l := by
          rcases List.mem_cons.mp m2 with z | z
          · exact absurd z.symm e
          · exact z
        have l1 := leT_iff.mp ((List.pairwise_cons.mp h1).1 b m2)
        have l2 := leT_iff.mp ((List.pairwise_cons.mp h2).1 a m1)
        have sw := cmpL_sw (ks a) (ks b)
        exact (ord_0 (ht a (by simp)) (ht b (by simp [m2]))).mp (by omega)
    subst hab
    rw [sorted_uniq (List.perm_cons a |>.mp p) (List.pairwise_cons.mp h1).2 (List.pairwise_cons.mp h2).2 fun x hx => ht x (by simp [hx])]
theorem SD_eq {ds es : List D} (p : ds.Perm es) (ht : ∀ x ∈ ds, T x) : SD ds = SD es :=
  sorted_uniq ((SD_perm ds).trans (p.trans (SD_perm es).symm)) (SD_sorted ds) (SD_sorted es) fun x hx => ht x ((SD_perm ds).mem_iff.mp hx)
theorem cmpL_3 : ∀ xs ys : List KT, cmpL xs ys = 0 ∨ cmpL xs ys = 1 ∨ cmpL xs ys = -1
  | [], [] => .inl rfl
  | [], _ :: _ => .inr (.inr rfl)
  | _ :: _, [] => .inr (.inl rfl)
  | x :: xs, y :: ys => by
    unfold cmpL
    split
    · exact cmpL_3 xs ys
    · unfold cmpK ordI ordS
      repeat' split
      all_goals simp
/-! ### the keys walked -/
theorem kt_ok {d : D} (t : T d) : PyData.strOk (kt d).2.2 = true := by
  cases t with
  | var n h => simp only [kt]; decide +kernel
  | int n h => simp only [kt]; decide +kernel
  | str n h => exact atom_strOk h
  | cmp f a as h _ _ => exact atom_strOk h
theorem kD_dat {d : D} (t : T d) {r : Nat → Option PyData} : toP r (kD (kt d)) = some (pd (kD (kt d))) ∧ (pd (kD (kt d))).canLay0 = true := by
  refine dat_pl _ ?_
  unfold kD
  simp only [plD, plDs, kt_ok t, Bool.and_self]
theorem kDs_dat {r : Nat → Option PyData} : ∀ {ds : List D}, (∀ d ∈ ds, T d) → toPs r (ds.map fun d => kD (kt d)) = some (ds.map fun d => pd (kD (kt d)))
  | [], _ => rfl
  | d :: ds, h => by
    simp only [List.map_cons, toPs, (kD_dat (h d (by simp))).1, kDs_dat (ds := ds) fun x hx => h x (by simp [hx])]
theorem key_dat {d : D} {h : Hd} {m : Nat} (t : T d) (e : h[m]? = some (.lst ((parts d).map fun p => kD (kt p)))) : datD h (.at m) = some (kp d) := by
  unfold datD
  rw [toP, rP, e]
  simp only [kDs_dat (r := rP 2 h) (parts_T t)]
  simp [kp, ks, List.map_map, Function.comp_def]
theorem alike_kD (x y : KT) : alike (pd (kD x)) (pd (kD y)) = true := by
  rw [pd_kD, pd_kD]
  simp [alike, alikeAll]
theorem alike_kDs : ∀ xs ys : List KT, alikeAll (xs.map fun k => pd (kD k)) (ys.map fun k => pd (kD k)) = true
  | [], _ => by simp [alikeAll]
  | _ :: _, [] => by simp [alikeAll]
  | x :: xs, y :: ys => by simp only [List.map_cons, alikeAll, alike_kD, alike_kDs xs ys, Bool.and_self]
theorem alike_kp (d e : D) : alike (kp d) (kp e) = true := by
  unfold kp
  rw [alike]
  exact alike_kDs _ _
theorem dep_kDs : ∀ xs : List KT, PyData.depthAll (xs.map fun k => pd (kD k)) ≤ 1
  | [] => by simp [PyData.depthAll]
  | x :: xs => by
    have := dep_kDs xs
    have e : (pd (kD x)).depth ≤ 1 := by rw [pd_kD]; simp [PyData.depth, PyData.depthAll]
    simp only [List.map_cons, PyData.depthAll]
    omega
theorem dep_kp (d : D) : (kp d).depth ≤ 2 := by
  have := dep_kDs (ks d)
  unfold kp
  simp only [PyData.depth]
  omega
theorem ok_kp (d e : D) : okOrd (kp d) (kp e) = true := by
  have h1 := dep_kp d
  have h2 := dep_kp e
  unfold okOrd
  simp only [alike_kp, Bool.true_and, Bool.and_eq_true, decide_eq_true_eq]
  exact ⟨⟨⟨rfl, rfl⟩, by omega⟩, by omega⟩
theorem okS_kp (ds : List D) : okSortB (ds.map kp) = true := by
  unfold okSortB
  simp only [Bool.and_eq_true, Bool.or_eq_true, List.all_eq_true, List.mem_map, forall_exists_index, and_imp, forall_apply_eq_imp_iff₂, alike_kp, implies_true, decide_eq_true_eq, true_and]
  exact ⟨.inr fun a _ => rfl, fun a _ => by have := dep_kp a; omega⟩
section
variable {NF RD : Nat} {h : Hd}
theorem b_key {x0 : D} {m : Nat} {d : D} {ws : List D} {h' : Hd} (t : T d) (e : h'[m]? = some (.lst ws)) (hl : ws.length < LN) :
    Ev (B_order_key_0 NF RD [some x0, some (.at m), some d] h') fun f h2 => f = .nx [some x0, some (.at m), some d] ∧ h2 = h'.set m (.lst (ws ++ [kD (kt d)])) := by
  have hLN := LN_eq
  unfold B_order_key_0
  walk_at "wp"
  refine ev_eq (r_is_variable NF RD h' t) ?_
  cases t with
  | var n hn =>
    rw [show isVar (.tup [.int n]) = true by simp [isVar, hn]]
    walk_at "wp"
    refine lf_append e hl ?_
    walk_at "wp"
    exact ⟨rfl, rfl⟩
  | int n hn =>
    rw [show isVar (.int n) = false from rfl]
    walk_at "wp"
    refine ev_eq (r_is_compound NF RD _ h' rfl) ?_
    walk_at "wp"
    refine lf_append e hl ?_
    walk_at "wp"
    exact ⟨rfl, rfl⟩
  | str n hn =>
    rw [show isVar (.str n) = false from rfl]
    walk_at "wp"
    refine ev_eq (r_is_compound NF RD _ h' rfl) ?_
    walk_at "wp"
    refine lf_append e hl ?_
    walk_at "wp"
    exact ⟨rfl, rfl⟩
  | cmp f a as h1 h2 h3 =>
    have hv : isVar (.tup (.str f :: a :: as)) = false := rfl
    have hc := isCmp_cmp (.str f) a as
    rw [hv]
    walk_at "wp"
    refine ev_eq (r_is_compound NF RD _ h' rfl) ?_
    rw [hc]
    walk_at "wp"
    refine lf_append e hl ?_
    walk_at "wp"
    have e1 : (((D.str f :: a :: as).length : Nat) : Int) - 1 = ((a :: as).length : Nat) := by simp only [List.length_cons]; omega
    rw [e1]
    exact ⟨rfl, rfl⟩
theorem r_key {d : D} {h : Hd} (z : Sz NF d) : Ev (m_order_key NF RD [d] h) fun r h' => ∃ m, r = .at m ∧ h.length ≤ m ∧ Pre h h' ∧ h'[m]? = some (.lst ((parts d).map fun p => kD (kt p))) := by
  have hLN := LN_eq
  have hf := z.f
  have hl := z.l
  unfold m_order_key
  walk_at "wp"
  have el := get_new h (O.lst [])
  have p0 : Pre h (h ++ [O.lst []]) := Pre.app _ _
  have hlen : (h ++ [O.lst []]).length = h.length + 1 := by simp
  generalize h ++ [O.lst []] = h1 at el p0 hlen
  refine ev_of (r_parts z) fun h2 ⟨p2, e2⟩ => ?_
  walk_at "wp"
  refine ev_for (xs := parts d) (fun done sg h3 => (∃ p, sg = [some d, some (.at h.length), p]) ∧ Pre h h3 ∧ h1.length < h3.length ∧ h3[h1.length]? = some (.lst (parts d)) ∧ h3[h.length]? = some (.lst (done.map fun p => kD (kt p)))) ⟨⟨_, rfl⟩, p0.trans p2, lt_of e2, e2, p2.get el⟩ hf (fun _ _ _ i => yl_obj i.2.2.2.1) ?_ ?_
  · rintro done x rest sg h3 ez ⟨⟨p, rfl⟩, p3, l3, e3, f3⟩
    have hx : x ∈ parts d := by rw [ez]; simp
    have hdl : done.length < (parts d).length := by rw [ez]; simp
    walk_at "wp"
    refine (b_key (parts_T z.t x hx) f3 (by simp; omega)).mono ?_
    rintro _ h4 ⟨rfl, rfl⟩
    walk_at "wp"
    refine ⟨⟨_, rfl⟩, p3.set (Nat.le_refl _) _, by simpa using l3, ?_, ?_⟩
    · rw [get_ne (by omega)]; exact e3
    · rw [get_set f3, List.map_append]; rfl
  · rintro sg h3 ⟨⟨p, rfl⟩, p3, l3, e3, f3⟩
    refine sq_nx ?_
    walk_at "wp"
    exact ⟨h.length, rfl, Nat.le_refl _, p3, f3⟩
theorem keys_run (hN : 50 ≤ NF) : ∀ (ds : List D) (h : Hd), (∀ d ∈ ds, Sz NF d) → ∃ us h2, keysM (m_order_key NF RD) ds h = some (us, h2) ∧ Pre h h2 ∧ datsD h2 us = some (ds.map kp)
  | [], h, _ => ⟨[], h, rfl, Pre.refl _, rfl⟩
  | d :: ds, h, hz => by
    obtain ⟨_, h1, e1, m, rfl, hm, p1, em⟩ := r_key (RD := RD) (h := h) (hz d (by simp))
    obtain ⟨us, h2, e2, p2, q2⟩ := keys_run hN ds h1 fun x hx => hz x (by simp [hx])
    refine ⟨.at m :: us, h2, by simp only [keysM, e1, e2], p1.trans p2, ?_⟩
    simp only [datsD, key_dat (hz d (by simp)).t (p2.get em), q2, List.map_cons]
theorem r_checkL {ds : List D} {x : D} (hN : 50 ≤ NF) (hl : ds.length < NF) (hz : ∀ d ∈ ds, Sz NF d) (hx : x = .tup ds ∨ ∃ n, x = .at n ∧ h[n]? = some (.lst ds)) : Rt (m_check_terms NF RD [x] h) .non (Pre h) := by
  refine rt_of ?_
  unfold m_check_terms
  have step : ∀ done y bs sg h1, ds = done ++ y :: bs → (Pre h h1 ∧ ∃ p, sg = [some x, p]) → Ev (nameG 1 y sg h1) fun sg1 h1 => Ev (B_check_terms_0 NF RD sg1 h1) (LpK (SqK passM (BdK fun d h' => d = .non ∧ Pre h h')) (fun sg h1 => Pre h h1 ∧ ∃ p, sg = [some x, p])) := by
    rintro done y bs sg h1 e2 ⟨hp, p, rfl⟩
    have hy : y ∈ ds := by rw [e2]; simp
    walk_at "wp"
    unfold B_check_terms_0
    walk_at "wp"
    refine ev_of (r_is_term NF RD (hz y hy).t hN (hz y hy).f (hz y hy).l) fun h2 p2 => ?_
    walk_at "wp"
    exact ⟨hp.trans p2, _, rfl⟩
  rcases hx with rfl | ⟨n, rfl, e⟩
  · walk_at "wp"
    refine ev_for (xs := ds) (fun _ sg h1 => Pre h h1 ∧ ∃ p, sg = [some (.tup ds), p]) ⟨Pre.refl h, none, rfl⟩ hl (fun _ _ _ _ => yl_fix) ?_ ?_
    · rintro done y bs sg h1 e2 ⟨hp, p, rfl⟩
      have hy : y ∈ ds := by rw [e2]; simp
      walk_at "wp"
      unfold B_check_terms_0
      walk_at "wp"
      refine ev_of (r_is_term NF RD (hz y hy).t hN (hz y hy).f (hz y hy).l) fun h2 p2 => ?_
      walk_at "wp"
      exact ⟨hp.trans p2, _, rfl⟩
    · rintro sg h1 ⟨hp, p, rfl⟩
      exact ⟨rfl, hp⟩
  · walk_at "wp"
    refine ev_for (xs := ds) (fun _ sg h1 => Pre h h1 ∧ ∃ p, sg = [some (.at n), p]) ⟨Pre.refl h, none, rfl⟩ hl (fun _ _ _ i => yl_obj (i.1.get e)) ?_ ?_
    · rintro done y bs sg h1 e2 ⟨hp, p, rfl⟩
      have hy : y ∈ ds := by rw [e2]; simp
      walk_at "wp"
      unfold B_check_terms_0
      walk_at "wp"
      refine ev_of (r_is_term NF RD (hz y hy).t hN (hz y hy).f (hz y hy).l) fun h2 p2 => ?_
      walk_at "wp"
      exact ⟨hp.trans p2, _, rfl⟩
    · rintro sg h1 ⟨hp, p, rfl⟩
      exact ⟨rfl, hp⟩
theorem r_compare {d e : D} (hN : 50 ≤ NF) (zd : Sz NF d) (ze : Sz NF e) : Rt (m_compare_terms NF RD [d, e] h) (.int (cmpL (ks d) (ks e))) (Pre h) := by
  refine rt_of ?_
  unfold m_compare_terms
  walk_at "wp"
  refine ev_of (r_checkL (ds := [d, e]) (h := h ++ [.lst [d, e]]) hN (by simp; omega) (fun x hx => by
    simp only [List.mem_cons, List.not_mem_nil, or_false] at hx
    rcases hx with rfl | rfl
    · exact zd
    · exact ze) (.inr ⟨_, rfl, get_new _ _⟩)) fun h1 p1 => ?_
  walk_at "wp"
  refine (r_key zd).mono ?_
  rintro _ h2 ⟨m, rfl, hm, p2, em⟩
  walk_at "wp"
  refine (r_key ze).mono ?_
  rintro _ h3 ⟨n, rfl, hn, p3, en⟩
  have kd := key_dat zd.t (p3.get em)
  have ke := key_dat ze.t en
  walk_at "wp"
  refine lf_gtP kd ke (ok_kp d e) ?_
  walk_at "wp"
  refine lf_ltP kd ke (ok_kp d e) ?_
  walk_at "wp"
  have q1 : dataLt (kp e) (kp d) = decide (cmpL (ks e) (ks d) < 0) := lt_L _ _
  have q2 : dataLt (kp d) (kp e) = decide (cmpL (ks d) (ks e) < 0) := lt_L _ _
  rw [q1, q2, cmpL_sw]
  refine ⟨?_, (((Pre.app _ _).trans p1).trans p2).trans p3⟩
  rcases cmpL_3 (ks d) (ks e) with z | z | z <;> rw [z] <;> rfl
theorem r_sort {ds : List D} {x : D} (hN : 50 ≤ NF) (hl : ds.length < NF) (hz : ∀ d ∈ ds, Sz NF d) (hx : x = .tup ds ∨ ∃ n, x = .at n ∧ h[n]? = some (.lst ds)) : Ev (m_sort_terms NF RD [x] h) fun r h' => ∃ m, r = .at m ∧ h.length ≤ m ∧ Pre h h' ∧ h'[m]? = some (.lst (SD ds)) := by
  have kdx : ∃ k, kdD h x = some k ∧ (k = "list" ∨ k = "tuple") := by
    rcases hx with rfl | ⟨n, rfl, e⟩
    · exact ⟨"tuple", rfl, .inr rfl⟩
    · exact ⟨"list", by unfold kdD; simp only [e], .inl rfl⟩
  obtain ⟨k, hk, hk2⟩ := kdx
  unfold m_sort_terms
  walk_at "wp"
  obtain ⟨a, b, ha, hb, hab⟩ : ∃ a b, kitB k "list" = some a ∧ kitB k "tuple" = some b ∧ (a || b) = true := by
    rcases hk2 with rfl | rfl
    · exact ⟨true, false, by decide +kernel, by decide +kernel, rfl⟩
    · exact ⟨false, true, by decide +kernel, by decide +kernel, rfl⟩
  refine lf_isi2 hk ha hb ?_
  rw [hab]
  walk_at "wp"
  refine ev_of (r_checkL hN hl hz hx) fun h1 p1 => ?_
  walk_at "wp"
  refine ev_sortK ?_
  walk_at "wp"
  obtain ⟨us, h2, e2, p2, q2⟩ := keys_run (RD := RD) hN ds h1 hz
  refine ⟨x, ds, us, h2, ds.map kp, rfl, ?_, e2, q2, okS_kp ds, ?_⟩
  · rcases hx with rfl | ⟨n, rfl, e⟩
    · rfl
    · simp only [itemsD, p1.get e]
  rw [sortV_SD]
  walk_at "wp"
  exact ⟨h2.length, rfl, (p1.trans p2).len, (p1.trans p2).app' _, get_new _ _⟩
end


theorem drop_cut (xs : List D) (n : Nat) : cutD xs (some (n : Int)) none = xs.drop n := by
  unfold DL.cutD
  have h1 : HT.sIx xs.length 0 (some (n : Int)) = min n xs.length := by
    simp only [HT.sIx]
    rw [if_neg (by omega)]
    simp
  have h2 : HT.sIx xs.length xs.length none = xs.length := rfl
  rw [h1, h2]
  by_cases q : n ≤ xs.length
  · rw [Nat.min_eq_left q, List.take_of_length_le (by simp)]
  · rw [Nat.min_eq_right (by omega), List.drop_of_length_le (Nat.le_refl _), List.drop_of_length_le (by omega)]
    simp
theorem take_cut (xs : List D) (n : Nat) : cutD xs none (some (n : Int)) = xs.take n := by
  unfold DL.cutD
  have h1 : HT.sIx xs.length xs.length (some (n : Int)) = min n xs.length := by
    simp only [HT.sIx]
    rw [if_neg (by omega)]
    simp
  have h2 : HT.sIx xs.length 0 none = 0 := rfl
  rw [h1, h2, List.drop_zero, Nat.sub_zero]
  by_cases q : n ≤ xs.length
  · rw [Nat.min_eq_left q]
  · rw [Nat.min_eq_right (by omega), List.take_of_length_le (Nat.le_refl _), List.take_of_length_le (by omega)]
theorem partss_set : ∀ (as : List D) (i : Nat) (x y : D), as[i]? = some x → (partss (as.set i y)).length + (parts x).length = (partss as).length + (parts y).length
  | [], i, x, y, e => by cases e
  | a :: as, 0, x, y, e => by cases e; simp only [List.set_cons_zero, partss, List.length_append]; omega
  | a :: as, i + 1, x, y, e => by
    have := partss_set as i x y (by simpa using e)
    simp only [List.set_cons_succ, partss, List.length_append]
    omega
theorem deps_set : ∀ (as : List D) (i : Nat) (y : D), deps (as.set i y) ≤ max (deps as) (dep y)
  | [], i, y => by simp [deps]
  | a :: as, 0, y => by simp only [List.set_cons_zero, deps]; omega
  | a :: as, i + 1, y => by
    have := deps_set as i y
    simp only [List.set_cons_succ, deps]
    omega
section
variable {NF RD : Nat}
theorem r_near (hN : 50 ≤ NF) (hR : 4 ≤ RD) : ∀ (k : Nat) (w : Nat) (t : D) (h : Hd), Wl w h → T t → dep t ≤ k → Ev (m__law_near NF RD k [.at w, t] h) fun r h' => T r ∧ (parts r).length ≤ (parts t).length + 8 ∧ dep r ≤ dep t + 1 ∧ Fw w h h' ∧ Wl w h'
  | 0, w, t, h, hw, tt, hk => by have := dep_pos t; omega
  | k + 1, w, t, h, hw, tt, hk => by
    have hLN := LN_eq
    have hpt := parts_pos t
    have hdt := dep_pos t
    have leaf : ∀ h2, Fw w h h2 → Wl w h2 → Ev (m__law_term NF RD RD [.at w, .int 2, .int 4] h2) fun r h' => T r ∧ (parts r).length ≤ (parts t).length + 8 ∧ dep r ≤ dep t + 1 ∧ Fw w h h' ∧ Wl w h' := by
      intro h2 hf2 hw2
      refine (r_term 4 (by decide) hN 2 RD w h2 hw2 (by omega) (by omega)).mono ?_
      rintro r h3 ⟨t3, p3, d3, f3, w3⟩
      have : bnd 2 = 9 := rfl
      exact ⟨t3, by omega, by omega, hf2.trans f3, w3⟩
    unfold m__law_near
    walk_at "wp"
    refine ev_eq (r_law_cmp t h tt.flat) ?_
    by_cases hc : isCmp t = true
    · rw [hc]
      walk_at "wp"
      refine (r_draw hw (by decide) (by decide)).mono ?_
      rintro _ h2 ⟨i, rfl, _, _, f2, w2⟩
      walk_at "wp"
      refine br (fun c => ?_) fun c => ?_
      · walk_at "wp"
        refine (leaf h2 f2 w2).mono ?_
        rintro r h3 q
        walk_at "wp"
        exact q
      · obtain ⟨f, a, as, rfl⟩ := isCmp_args tt hc
        obtain ⟨hf, h8, hta⟩ : atomOk f = true ∧ as.length < 8 ∧ ∀ x ∈ a :: as, T x := by
          cases tt
          exact ⟨by assumption, by assumption, by assumption⟩
        have hpa := parts_args tt
        have hda := dep_args (.tup (.str f :: a :: as))
        simp only [args] at hpa hda
        walk_at "wp"
        refine (r_draw w2 (by simp only [List.length_cons]; omega) ?_).mono ?_
        · have := Nat.log2_le_self ((((D.str f :: a :: as).length : Nat) : Int).natAbs)
          simp only [List.length_cons] at *
          omega
        rintro _ h3 ⟨j, rfl, j0, j1, f3, w3⟩
        obtain ⟨j, rfl⟩ : ∃ j' : Nat, j = j' := ⟨j.toNat, by omega⟩
        have j1 : j < as.length + 2 := by simp only [List.length_cons] at j1; omega
        walk_at "wp"
        by_cases hj : j = 0
        · subst hj
          walk_at "wp"
          have l3 := w3.lt
          have pre : Pre h3 (h3 ++ [O.lst [D.str "f", .str "g", .str "", .str "~"]]) := Pre.app _ _
          refine (r_one (w3.pre pre) (get_new _ _) (by omega) (by decide) (by decide)).mono ?_
          rintro r h4 ⟨hr, f4, w4⟩
          obtain ⟨s, rfl, hs⟩ : ∃ s, r = .str s ∧ atomOk s = true := by
            simp only [List.mem_cons, List.not_mem_nil, or_false] at hr
            rcases hr with rfl | rfl | rfl | rfl <;> exact ⟨_, rfl, by decide +kernel⟩
          walk_at "wp"
          rw [cut1]
          refine lf_addT (by simp only [List.length_cons, List.length_nil]; omega) ?_
          walk_at "wp"
          have tn : T (.tup (.str s :: a :: as)) := .cmp s a as hs h8 hta
          have h5 := parts_args tn
          have h6 := dep_args (.tup (.str s :: a :: as))
          simp only [args] at h5 h6
          refine ⟨tn, ?_, ?_, ((f2.trans f3).trans (Fw.pre pre)).trans f4, w4⟩
          · show (parts (.tup (.str s :: a :: as))).length ≤ _
            rw [h5, hpa]
            simp only [List.length_cons]
            omega
          · show dep (.tup (.str s :: a :: as)) ≤ _
            omega
        · obtain ⟨i, rfl⟩ : ∃ i, j = i + 1 := ⟨j - 1, by omega⟩
          have hi : i < (a :: as).length := by simp only [List.length_cons]; omega
          have hd0 : decide (((i + 1 : Nat) : Int) = 0) = false := decide_eq_false (by omega)
          rw [hd0]
          walk_at "wp"
          rw [take_cut]
          have hx : (a :: as)[i]? = some (a :: as)[i] := List.getElem?_eq_getElem hi
          have mx : (a :: as)[i] ∈ a :: as := List.getElem_mem _
          generalize (a :: as)[i] = x at hx mx
          have dx := dep_mem mx
          walk_at "wp"
          refine lf_ix (atI_n (by simpa using hx)) ?_
          walk_at "wp"
          refine (r_near hN hR k w x h3 w3 (hta x mx) (by omega)).mono ?_
          rintro y h4 ⟨ty, py, dy, f4, w4⟩
          walk_at "wp"
          refine lf_addT (by simp only [List.length_take, List.length_cons, List.length_nil]; omega) ?_
          walk_at "wp"
          rw [show ((i + 1 : Nat) : Int) + 1 = ((i + 2 : Nat) : Int) by omega, drop_cut]
          refine lf_addT (by simp only [List.length_append, List.length_take, List.length_drop, List.length_cons, List.length_nil]; omega) ?_
          walk_at "wp"
          have es : (D.str f :: a :: as).take (i + 1) ++ [y] ++ (D.str f :: a :: as).drop (i + 2) = .str f :: (a :: as).set i y := by
            rw [List.take_succ_cons, List.drop_succ_cons, List.set_eq_take_append_cons_drop, if_pos hi]
            simp
          rw [es]
          have hps := partss_set (a :: as) i x y hx
          have hds := deps_set (a :: as) i y
          have hset : ∀ z ∈ (a :: as).set i y, T z := fun z hz => by
            rcases List.mem_or_eq_of_mem_set hz with q | q
            · exact hta z q
            · rw [q]; exact ty
          have hlen : ((a :: as).set i y).length = as.length + 1 := by simp
          generalize (a :: as).set i y = bs at hps hds hset hlen
          cases bs with
          | nil => simp at hlen
          | cons b bs =>
            have tn : T (.tup (.str f :: b :: bs)) := .cmp f b bs hf (by simp at hlen; omega) hset
            have h5 := parts_args tn
            have h6 := dep_args (.tup (.str f :: b :: bs))
            simp only [args] at h5 h6
            refine ⟨tn, ?_, ?_, (f2.trans f3).trans f4, w4⟩
            · show (parts (.tup (.str f :: b :: bs))).length ≤ _
              rw [h5, hpa]
              simp only [List.length_cons]
              omega
            · show dep (.tup (.str f :: b :: bs)) ≤ _
              omega
    · have hc' : isCmp t = false := by simpa using hc
      rw [hc']
      walk_at "wp"
      refine (leaf h (Fw.refl _ _) hw).mono ?_
      rintro r h3 q
      walk_at "wp"
      exact q
end


theorem pds_all {n : Nat} : ∀ {ds : List D}, (∀ d ∈ ds, PyData.depth (pd d) ≤ n) → PyData.depthAll (pds ds) ≤ n
  | [], _ => by simp [pds, PyData.depthAll]
  | d :: ds, h => by
    have h1 := h d (by simp)
    have h2 := pds_all (n := n) (ds := ds) fun x hx => h x (by simp [hx])
    simp only [pds, PyData.depthAll]
    omega
theorem dat_LP {h : Hd} {n : Nat} {ws : List D} (e : h[n]? = some (.lst ws)) (p : plDs ws = true) : datD h (.at n) = some (.list (pds ws)) := by
  unfold datD
  rw [toP, rP, e]
  simp only [(dats_pl (r := rP 2 h) ws p).1]
theorem lf_neB {a b : Bool} {h : Hd} {Q : D → Hd → Prop} (q : Q (.bl (!decide (a = b))) h) : Ev (neD (.bl a) (.bl b) h) Q := by
  refine ⟨_, _, ?_, q⟩
  unfold neD datD
  simp only [toP]
  rw [if_pos ⟨by simp [PyData.canLay0], by simp [PyData.canLay0], by simp [PyData.depth]⟩]
  cases a <;> cases b <;> simp [PyData.eqv]
theorem ne_same {h : Hd} {n m : Nat} {ws : List D} {Q : D → Hd → Prop} (e1 : h[n]? = some (.lst ws)) (e2 : h[m]? = some (.lst ws)) (p : plDs ws = true) (dd : PyData.depthAll (pds ws) ≤ 60) (q : Q (.bl false) h) : Ev (neD (.at n) (.at m) h) Q := by
  refine ⟨_, _, ?_, q⟩
  unfold neD
  rw [dat_LP e1 p, dat_LP e2 p]
  simp only
  rw [if_pos ⟨by rw [PyData.canLay0]; exact (dats_pl (r := fun _ => none) _ p).2, by rw [PyData.canLay0]; exact (dats_pl (r := fun _ => none) _ p).2, by
    simp only [PyData.depth]
    omega⟩]
  have : (PyData.list (pds ws)).eqv (.list (pds ws)) = true := by
    rw [PyData.eqv]
    exact (eqv_pls ws ws p p).mpr rfl
  rw [this]
  rfl
theorem eq_same {h : Hd} {n m : Nat} {ws : List D} {Q : D → Hd → Prop} (e1 : h[n]? = some (.lst ws)) (e2 : h[m]? = some (.lst ws)) (p : plDs ws = true) (dd : PyData.depthAll (pds ws) ≤ 60) (q : Q (.bl true) h) : Ev (eqD (.at n) (.at m) h) Q := by
  refine ⟨_, _, ?_, q⟩
  unfold eqD
  rw [dat_LP e1 p, dat_LP e2 p]
  simp only
  rw [if_pos ⟨by rw [PyData.canLay0]; exact (dats_pl (r := fun _ => none) _ p).2, by rw [PyData.canLay0]; exact (dats_pl (r := fun _ => none) _ p).2, by
    simp only [PyData.depth]
    omega⟩]
  have : (PyData.list (pds ws)).eqv (.list (pds ws)) = true := by
    rw [PyData.eqv]
    exact (eqv_pls ws ws p p).mpr rfl
  rw [this]
theorem lf_backLn {h : Hd} {n : Nat} {xs : List D} {Q : D → Hd → Prop} (e : h[n]? = some (.lst xs)) (q : Q (.at h.length) (h ++ [.lst xs.reverse])) : Ev (backD (.at n) none h) Q := ⟨_, _, by simp only [backD, e], q⟩
/-- what stands in the law's lists -/
structure G3 (n : Nat) (d : D) : Prop where
  t : T d
  p : (parts d).length ≤ 600 + 8 * n
  d : dep d ≤ 4 + n
theorem G3.mono {n m : Nat} {d : D} (g : G3 n d) (h : n ≤ m) : G3 m d := ⟨g.t, by have := g.p; omega, by have := g.d; omega⟩
theorem G3.z {n : Nat} {d : D} {NF : Nat} (g : G3 n d) (hn : n ≤ 10) (hN : 1000 ≤ NF) : Sz NF d := ⟨g.t, by have := g.p; omega, by have := g.p; have := LN_eq; omega⟩
theorem G3.pds {n : Nat} (hn : n ≤ 10) {ds : List D} (g : ∀ d ∈ ds, G3 n d) : plDs ds = true ∧ PyData.depthAll (pds ds) ≤ 40 := ⟨plDs_of fun d hd => (g d hd).t.pl, pds_all fun d hd => by
  have h1 := pd_depth d
  have h2 := (g d hd).t.depD
  have h3 := (g d hd).d
  omega⟩
theorem mem_dat {h : Hd} {l : Nat} {L : List D} {x : D} {Q : D → Hd → Prop} (e : h[l]? = some (.lst L)) (hL : ∀ d ∈ L, G3 10 d) (hx : x ∈ L) (q : Q (.bl false) h) : Ev (inPD true x (.at l) h) Q := by
  have gx := hL x hx
  obtain ⟨p1, p2⟩ := G3.pds (by omega) hL
  have pl := (dats_pl (r := fun _ => none) _ p1).2
  have hd : (pd x).depth ≤ 40 := by have := pd_depth x; have := gx.t.depD; have := gx.d; omega
  refine lf_inP (gx.t.dt h) (dat_LP e p1) ⟨gx.t.dat (r := fun _ => none) |>.2, pl, by omega⟩ ?_
  have : ((K03.pds L).any fun z => PyData.eqv z (pd x)) = true := by
    clear p1 p2 pl e q
    induction L with
    | nil => cases hx
    | cons y L ih =>
      simp only [K03.pds, List.any_cons, Bool.or_eq_true]
      rcases List.mem_cons.mp hx with z | z
      · exact .inl ((eqv_pl y x (hL y (by simp)).t.pl gx.t.pl).mpr z.symm)
      · exact .inr (ih (fun d hd => hL d (by simp [hd])) z)
  rw [this]
  exact q
theorem datsD_map {h : Hd} : ∀ {L : List D}, (∀ d ∈ L, T d) → datsD h L = some (L.map pd)
  | [], _ => rfl
  | d :: L, ht => by simp only [datsD, (ht d (by simp)).dt h, datsD_map (L := L) fun x hx => ht x (by simp [hx]), List.map_cons]
theorem firstEq_mem {x : D} (tx : T x) : ∀ {L : List D}, (∀ d ∈ L, T d) → x ∈ L → ∃ j, firstEq (pd x) (L.map pd) = some j ∧ L[j]? = some x
  | [], _, h => by cases h
  | y :: L, ht, h => by
    by_cases e : y = x
    · refine ⟨0, ?_, by simp [e]⟩
      rw [List.map_cons, firstEq, if_pos ((eqv_pl y x (ht y (by simp)).pl tx.pl).mpr e)]
    · have hm : x ∈ L := by
        rcases List.mem_cons.mp h with z | z
        · exact absurd z.symm e
        · exact z
      obtain ⟨j, h1, h2⟩ := firstEq_mem tx (L := L) (fun d hd => ht d (by simp [hd])) hm
      refine ⟨j + 1, ?_, by simpa using h2⟩
      rw [List.map_cons, firstEq, if_neg (fun z => e ((eqv_pl y x (ht y (by simp)).pl tx.pl).mp z)), h1]
      rfl
theorem erase_perm : ∀ {L : List D} {j : Nat} {x : D}, L[j]? = some x → L.Perm (x :: L.eraseIdx j)
  | [], j, x, e => by cases e
  | y :: L, 0, x, e => by cases e; simp
  | y :: L, j + 1, x, e => by
    rw [List.eraseIdx_cons_succ]
    exact ((erase_perm (by simpa using e)).cons y).trans (List.Perm.swap _ _ _)
/-- xs.remove(x) where x is there -/
theorem lf_rem {h : Hd} {l : Nat} {L M : List D} {x : D} {Q : D → Hd → Prop} (e : h[l]? = some (.lst L)) (hL : ∀ d ∈ L, G3 10 d) (p : L.Perm (x :: M)) (q : ∀ L', L'.Perm M → Q .non (h.set l (.lst L'))) : Ev (removeD (.at l) [x] h) Q := by
  have hx : x ∈ L := p.mem_iff.mpr (by simp)
  have gx := hL x hx
  obtain ⟨j, h1, h2⟩ := firstEq_mem gx.t (fun d hd => (hL d hd).t) hx
  refine lf_remove e (datsD_map fun d hd => (hL d hd).t) (gx.t.dt h) ⟨?_, (gx.t.dat (r := fun _ => none)).2⟩ h1 (q _ ?_)
  · rw [List.all_eq_true]
    intro p hp
    obtain ⟨d, hd, rfl⟩ := List.mem_map.mp hp
    have g := hL d hd
    have := pd_depth d
    have := g.t.depD
    have := g.d
    rw [Bool.and_eq_true, decide_eq_true_eq]
    exact ⟨(g.t.dat (r := fun _ => none)).2, by omega⟩
  · exact (List.perm_cons x).mp ((erase_perm h2).symm.trans p)


theorem cut_last {xs : List D} {m : Nat} (hm : 0 < m) : cutD xs (some (-(m : Int))) none = xs.drop (xs.length - m) := by
  have h1 : HT.sIx xs.length 0 (some (-(m : Int))) = xs.length - m := by
    show (if -(m : Int) < 0 then (-(m : Int) + (xs.length : Int)).toNat else _) = _
    rw [if_pos (by omega)]
    omega
  unfold DL.cutD
  rw [h1, HT.sIx_none]
  rw [List.take_of_length_le (by simp)]
theorem cut_rest {xs : List D} {m : Nat} (hm : 0 < m) : cutD xs none (some (-(m : Int))) = xs.take (xs.length - m) := by
  have h1 : HT.sIx xs.length xs.length (some (-(m : Int))) = xs.length - m := by
    show (if -(m : Int) < 0 then (-(m : Int) + (xs.length : Int)).toNat else _) = _
    rw [if_pos (by omega)]
    omega
  unfold DL.cutD
  rw [h1, HT.sIx_none]
  simp
theorem nat_lt {x : Nat} : (x : Int) < x + 1 := by omega
section
variable {NF RD : Nat}
theorem b_pair {w so : Nat} {x y : D} {p2 p5 p6 p7 : Option D} {h : Hd} (hN : 1000 ≤ NF) (hR : 40 ≤ RD) (gx : G3 10 x) (gy : G3 10 y) :
    Ev (B__law_right_1 NF RD [some (.at w), some (.at so), p2, some x, some y, p5, p6, p7] h) fun fl h' => fl = .nx [some (.at w), some (.at so), p2, some x, some y, p5, p6, p7] ∧ Pre h h' := by
  have zx : Sz NF x := gx.z (by omega) hN
  have zy : Sz NF y := gy.z (by omega) hN
  have dx := gx.d
  have dy := gy.d
  unfold B__law_right_1
  walk_at "wp"
  refine ev_of (r_compare (by omega) zx zy) fun h1 p1 => ?_
  walk_at "wp"
  refine (r_order (by omega) RD x y h1 gx.t gy.t (by omega) (by omega) (by omega)).mono ?_
  rintro _ h2 ⟨rfl, p2'⟩
  walk_at "wp"
  rw [decide_eq_true rfl]
  walk_at "wp"
  refine (r_order (by omega) RD x y h2 gx.t gy.t (by omega) (by omega) (by omega)).mono ?_
  rintro _ h3 ⟨rfl, p3⟩
  walk_at "wp"
  haveI : Decidable (x = y) := Classical.propDecidable _
  refine ev_eq (eq_pl (gx.t.Pl (by omega)) (gy.t.Pl (by omega))) ?_
  have hdd : decide (cmpL (ks x) (ks y) = 0) = decide (x = y) := by
    rw [decide_eq_decide]
    exact ord_0 gx.t gy.t
  rw [hdd]
  walk_at "wp"
  refine lf_neB ?_
  rw [decide_eq_true rfl]
  walk_at "wp"
  exact ⟨rfl, (p1.trans p2').trans p3⟩
theorem b_take {w so f l : Nat} {x y : D} {L M : List D} {p2 p7 : Option D} {h : Hd} (hN : 1000 ≤ NF) (hR : 40 ≤ RD) (e : h[l]? = some (.lst L)) (hL : ∀ d ∈ L, G3 10 d) (p : L.Perm (x :: M)) (gy : G3 10 y) (hle : cmpL (ks x) (ks y) ≤ 0) :
    Ev (B__law_right_0 NF RD [some (.at w), some (.at so), p2, some x, some y, some (.at f), some (.at l), p7] h) fun fl h' => fl = .nx [some (.at w), some (.at so), p2, some x, some y, some (.at f), some (.at l), p7] ∧ ∃ L', L'.Perm M ∧ h'[l]? = some (.lst L') ∧ (∀ i, i < h.length → i ≠ l → h'[i]? = h[i]?) ∧ h.length ≤ h'.length := by
  have hx : x ∈ L := p.mem_iff.mpr (by simp)
  have gx := hL x hx
  have dx := gx.d
  have dy := gy.d
  unfold B__law_right_0
  walk_at "wp"
  refine mem_dat e hL hx ?_
  walk_at "wp"
  refine (r_order (by omega) RD x y h gx.t gy.t (by omega) (by omega) (by omega)).mono ?_
  rintro _ h2 ⟨rfl, p2'⟩
  walk_at "wp"
  rw [decide_eq_false (by omega)]
  have er := p2'.get e
  walk_at "wp"
  refine lf_rem er hL p fun L' hp => ?_
  walk_at "wp"
  refine ⟨rfl, L', hp, get_set (p2'.get e), fun i hi hne => ?_, ?_⟩
  · rw [get_ne (by omega)]
    obtain ⟨g, rfl⟩ := p2'
    exact List.getElem?_append_left hi
  · have := p2'.len
    simpa using this
theorem r_right {w : Nat} {h : Hd} (hw : Wl w h) (hN : 1000 ≤ NF) (hR : 40 ≤ RD) : Ev (m__law_right NF RD [.at w] h) fun r h' => r = .bl true := by
  have hLN := LN_eq
  unfold m__law_right
  walk_at "wp"
  refine (r_term 4 (by decide) (by omega) 4 RD w h hw (by omega) (by omega)).mono ?_
  rintro t0 h1 ⟨t1, p1, d1, f1, w1⟩
  have g0 : G3 0 t0 := ⟨t1, by have : bnd 4 = 585 := rfl; omega, by omega⟩
  walk_at "wp"
  have es := get_new h1 (O.lst [t0])
  have w2 := w1.pre (Pre.app h1 [O.lst [t0]])
  have hlt1 := w1.lt
  generalize hso : h1.length = so at *
  generalize h1 ++ [O.lst [t0]] = h2 at es w2
  have hws : w ≠ so := by omega
  walk_at "wp"
  refine (r_draw w2 (by decide) (by decide)).mono ?_
  rintro _ h3 ⟨v, rfl, v0, v1, f3, w3⟩
  obtain ⟨v, rfl⟩ : ∃ v' : Nat, v = v' := ⟨v.toNat, by omega⟩
  have es3 := f3.get es (by omega)
  walk_at "wp"
  refine ⟨_, rfl, ⟨by omega, by omega⟩, ?_⟩
  rw [show ((v : Nat) : Int).toNat = v by omega]
  unfold rngD
  refine ev_for (xs := (List.range v).map fun (i : Nat) => D.int (0 + (i : Nat))) (fun as sg h4 => (∃ p2, sg = [some (.at w), some (.at so), p2, none, none, none, none, none]) ∧ Wl w h4 ∧ ∃ ss, h4[so]? = some (.lst ss) ∧ ss.length = as.length + 1 ∧ ∀ d ∈ ss, G3 as.length d) ⟨⟨_, rfl⟩, w3, [t0], es3, rfl, fun d hd => by rw [List.mem_singleton.mp hd]; exact g0⟩ (by simp; omega) (fun _ _ _ _ => yl_fix) ?_ ?_
  · rintro as z bs sg h4 ez ⟨⟨p2, rfl⟩, w4, ss, e4, l4, g4⟩
    have hlz : as.length < v := by
      have := congrArg List.length ez
      simp at this
      omega
    walk_at "wp"
    unfold B__law_right_3
    walk_at "wp"
    refine (r_draw w4 (by decide) (by decide)).mono ?_
    rintro _ h5 ⟨u, rfl, u0, u1, f5, w5⟩
    have e5 := f5.get e4 (by omega)
    walk_at "wp"
    refine br (fun c => ?_) fun c => ?_
    · walk_at "wp"
      refine (r_one w5 e5 (by omega) (by omega) (by omega)).mono ?_
      rintro t h6 ⟨ht, f6, w6⟩
      have gt := g4 t ht
      have dt := gt.d
      walk_at "wp"
      refine (r_near (by omega) (by omega) RD w t h6 w6 gt.t (by omega)).mono ?_
      rintro x h7 ⟨tx, px, dx, f7, w7⟩
      have e7 := f7.get (f6.get e5 (by omega)) (by omega)
      have pt := gt.p
      walk_at "wp"
      refine lf_append e7 (by omega) ?_
      walk_at "wp"
      refine ⟨⟨_, rfl⟩, w7.ne (by omega) _, ss ++ [x], get_set e7, by simp [l4], fun d hd => ?_⟩
      rw [List.length_append, List.length_singleton]
      rcases List.mem_append.mp hd with q | q
      · exact (g4 d q).mono (by omega)
      · rw [List.mem_singleton.mp q]
        exact ⟨tx, by omega, by omega⟩
    · walk_at "wp"
      refine (r_term 4 (by decide) (by omega) 4 RD w h5 w5 (by omega) (by omega)).mono ?_
      rintro x h7 ⟨tx, px, dx, f7, w7⟩
      have e7 := f7.get e5 (by omega)
      have : bnd 4 = 585 := rfl
      walk_at "wp"
      refine lf_append e7 (by omega) ?_
      walk_at "wp"
      refine ⟨⟨_, rfl⟩, w7.ne (by omega) _, ss ++ [x], get_set e7, by simp [l4], fun d hd => ?_⟩
      rw [List.length_append, List.length_singleton]
      rcases List.mem_append.mp hd with q | q
      · exact (g4 d q).mono (by omega)
      · rw [List.mem_singleton.mp q]
        exact ⟨tx, by omega, by omega⟩
  · rintro sg h4 ⟨⟨p2, rfl⟩, w4, ss, e4, l4, g4⟩
    simp only [List.length_map, List.length_range] at l4 g4
    have g : ∀ d ∈ ss, G3 10 d := fun d hd => (g4 d hd).mono (by omega)
    have hne : 0 < ss.length := by omega
    have h10 : ss.length ≤ 10 := by omega
    clear g4 l4 es es3 w3 w2 f3
    refine sq_nx ?_
    walk_at "wp"
    -- each with each
    refine ev_for (xs := ss) (fun _ sg h5 => (∃ p2 p3 p4, sg = [some (.at w), some (.at so), p2, p3, p4, none, none, none]) ∧ Pre h4 h5) ⟨⟨_, _, _, rfl⟩, Pre.refl _⟩ (by omega) (fun _ _ _ i => yl_obj (i.2.get e4)) ?_ ?_
    · rintro as x bs sg h5 ez ⟨⟨p2, p3, p4, rfl⟩, pr⟩
      have hx : x ∈ ss := by rw [ez]; simp
      have e50 := pr.get e4
      walk_at "wp"
      unfold B__law_right_2
      walk_at "wp"
      refine ev_for (N := NF) (xs := ss) (fun _ sg h6 => (∃ p4, sg = [some (.at w), some (.at so), p2, some x, p4, none, none, none]) ∧ Pre h5 h6) ⟨⟨_, rfl⟩, Pre.refl _⟩ (by omega) (fun _ _ _ i => yl_obj (i.2.get (pr.get e4))) ?_ ?_
      · rintro as2 y bs2 sg h6 ez2 ⟨⟨p4, rfl⟩, pr2⟩
        have hy : y ∈ ss := by rw [ez2]; simp
        walk_at "wp"
        refine (b_pair hN hR (g x hx) (g y hy)).mono ?_
        rintro _ h7 ⟨rfl, p7⟩
        exact ⟨⟨_, rfl⟩, pr2.trans p7⟩
      · rintro sg h6 ⟨⟨p4, rfl⟩, pr2⟩
        exact ⟨⟨_, _, _, rfl⟩, pr.trans pr2⟩
    · rintro sg h5 ⟨⟨p2, p3, p4, rfl⟩, pr⟩
      have e5 := pr.get e4
      have zz : ∀ d ∈ ss, Sz NF d := fun d hd => (g d hd).z (by omega) hN
      refine sq_nx ?_
      walk_at "wp"
      refine (r_sort (by omega) (by omega) zz (.inr ⟨so, rfl, e5⟩)).mono ?_
      rintro _ h6 ⟨f, rfl, hf, p6, e6⟩
      have perm := SD_perm ss
      have srt := SD_sorted ss
      have hFl : (SD ss).length = ss.length := perm.length_eq
      have gF : ∀ d ∈ SD ss, G3 10 d := fun d hd => g d (perm.mem_iff.mp hd)
      have uniq1 : SD ss.reverse = SD ss := SD_eq (List.reverse_perm ss) fun d hd => (g d (List.mem_reverse.mp hd)).t
      have uniq2 : SD (SD ss) = SD ss := SD_eq perm fun d hd => (gF d hd).t
      obtain ⟨F, hF⟩ : ∃ F, F = SD ss := ⟨_, rfl⟩
      rw [← hF] at e6 perm srt hFl gF uniq2
      walk_at "wp"
      refine lf_listL (p6.get e5) ?_
      have el := get_new h6 (O.lst ss)
      have p7 : Pre h6 (h6 ++ [O.lst ss]) := Pre.app _ _
      have hfl := lt_of e6
      generalize hll : h6.length = l at *
      generalize h6 ++ [O.lst ss] = h7 at el p7
      have e7 := p7.get e6
      have so7 := p7.get (p6.get e5)
      walk_at "wp"
      refine ev_zipL ?_
      walk_at "wp"
      refine lf_slL e7 ?_
      have q1 := get_new h7 (O.lst (cutD F (some 1) none))
      have pq1 : Pre h7 (h7 ++ [O.lst (cutD F (some 1) none)]) := Pre.app _ _
      generalize h7 ++ [O.lst (cutD F (some 1) none)] = h8 at q1 pq1
      walk_at "wp"
      refine lf_slL (pq1.get e7) ?_
      have q2 := get_new h8 (O.lst (cutD F (some (-1)) none))
      have pq2 : Pre h8 (h8 ++ [O.lst (cutD F (some (-1)) none)]) := Pre.app _ _
      generalize h8 ++ [O.lst (cutD F (some (-1)) none)] = h9 at q2 pq2
      have c1 : cutD F (some 1) none = F.drop 1 := drop_cut F 1
      have c2 : cutD F (some (-1)) none = F.drop (F.length - 1) := by
        have := cut_last (xs := F) (m := 1) (by omega)
        simpa using this
      refine lf_addL (pq2.get q1) q2 (by rw [c1, c2]; simp; omega) ?_
      rw [c1, c2] at *
      have q3 := get_new h9 (O.lst (F.drop 1 ++ F.drop (F.length - 1)))
      have pq3 : Pre h9 (h9 ++ [O.lst (F.drop 1 ++ F.drop (F.length - 1))]) := Pre.app _ _
      generalize hzz : h9.length = zz2 at q3
      generalize h9 ++ [O.lst (F.drop 1 ++ F.drop (F.length - 1))] = h10' at q3 pq3
      have hl7 := lt_of el
      have h97 := (pq1.trans pq2).len
      walk_at "wp"
      have e10 := ((pq1.trans pq2).trans pq3).get e7
      have el10 := ((pq1.trans pq2).trans pq3).get el
      have so10 := ((pq1.trans pq2).trans pq3).get so7
      refine ⟨f, zz2, F, F.drop 1 ++ F.drop (F.length - 1), rfl, e10, q3, ?_⟩
      have hzl : (zipD F (F.drop 1 ++ F.drop (F.length - 1))).length = F.length := by
        unfold zipD
        simp only [List.length_map, List.length_zip, List.length_append, List.length_drop]
        omega
      have hsl := lt_of e4
      have hp5 := pr.len
      refine ev_for (xs := zipD F (F.drop 1 ++ F.drop (F.length - 1))) (fun done sg ha => (∃ p3 p4, sg = [some (.at w), some (.at so), p2, p3, p4, some (.at f), some (.at l), none]) ∧ ha[f]? = some (.lst F) ∧ ha[zz2]? = some (.lst (F.drop 1 ++ F.drop (F.length - 1))) ∧ ha[so]? = some (.lst ss) ∧ ∃ L, ha[l]? = some (.lst L) ∧ L.Perm (F.drop done.length)) ⟨⟨_, _, rfl⟩, e10, q3, so10, ss, el10, by simpa using perm.symm⟩ (by omega) (fun _ _ _ i => yl_zip i.2.1 i.2.2.1) ?_ ?_
      · rintro done z rest sg ha ez ⟨⟨p3, p4, rfl⟩, a1, a2, a3, L, a4, a5⟩
        have hlt : done.length < F.length := by
          have := congrArg List.length ez
          rw [hzl] at this
          simp at this
          omega
        have ex : F[done.length]? = some F[done.length] := List.getElem?_eq_getElem hlt
        obtain ⟨y, ey, gy, hle⟩ : ∃ y, (F.drop 1 ++ F.drop (F.length - 1))[done.length]? = some y ∧ y ∈ F ∧ cmpL (ks F[done.length]) (ks y) ≤ 0 := by
          by_cases q : done.length + 1 < F.length
          · refine ⟨F[done.length + 1], ?_, List.getElem_mem _, ?_⟩
            · rw [List.getElem?_append_left (by simp; omega), List.getElem?_drop, Nat.add_comm]
              exact List.getElem?_eq_getElem q
            · exact leT_iff.mp (List.pairwise_iff_getElem.mp srt _ _ hlt q (by omega))
          · refine ⟨F[done.length], ?_, List.getElem_mem _, ?_⟩
            · rw [List.getElem?_append_right (by simp; omega), List.getElem?_drop]
              have : F.length - 1 + (done.length - (List.drop 1 F).length) = done.length := by simp; omega
              rw [this]
              exact ex
            · rw [cmpL_0.mpr rfl]
              decide
        have mz : z = .tup [F[done.length], y] := by
          have hh : (zipD F (F.drop 1 ++ F.drop (F.length - 1)))[done.length]? = some z := by rw [ez]; simp
          unfold zipD at hh
          have hz2 : (F.zip (F.drop 1 ++ F.drop (F.length - 1)))[done.length]? = some (F[done.length], y) := List.getElem?_zip_eq_some.mpr ⟨ex, ey⟩
          rw [List.getElem?_map, hz2] at hh
          exact (Option.some.inj hh).symm
        have dF := List.drop_eq_getElem_cons hlt
        generalize F[done.length] = x at *
        subst mz
        rw [dF] at a5
        have gL : ∀ d ∈ L, G3 10 d := fun d hd => gF d (by
          have := a5.mem_iff.mp hd
          rw [← dF] at this
          exact List.mem_of_mem_drop this)
        walk_at "wp"
        refine (b_take (f := f) (p7 := none) hN hR a4 gL a5 (gF y gy) hle).mono ?_
        rintro _ hb ⟨rfl, L', b1, b2, b3, b4⟩
        refine ⟨⟨_, _, rfl⟩, ?_, ?_, ?_, L', b2, by rw [List.length_append, List.length_singleton]; exact b1⟩
        · rw [b3 f (lt_of a1) (by omega)]; exact a1
        · rw [b3 zz2 (lt_of a2) (by omega)]; exact a2
        · rw [b3 so (lt_of a3) (by have := p6.len; omega)]; exact a3
      · rintro sg ha ⟨⟨p3, p4, rfl⟩, a1, a2, a3, L, a4, a5⟩
        rw [hzl, List.drop_length] at a5
        obtain rfl : L = [] := a5.eq_nil
        refine sq_nx ?_
        walk_at "wp"
        refine lf_backLn a3 ?_
        walk_at "wp"
        have zr : ∀ d ∈ ss.reverse, Sz NF d := fun d hd => zz d (List.mem_reverse.mp hd)
        have pb : Pre ha (ha ++ [O.lst ss.reverse]) := Pre.app _ _
        refine (r_sort (h := ha ++ [O.lst ss.reverse]) (by omega) (by simp; omega) zr (.inl rfl)).mono ?_
        rintro _ hb ⟨bk, rfl, hbk, pb2, eb⟩
        rw [uniq1, ← hF] at eb
        have fb := (pb.trans pb2).get a1
        have lb := (pb.trans pb2).get a4
        have hfl2 := lt_of a1
        have hll2 := lt_of a4
        simp only [List.length_append, List.length_singleton] at hbk
        walk_at "wp"
        refine lf_append fb (by omega) ?_
        have fc := get_set (p := O.lst (F ++ [D.non])) fb
        have lc : (hb.set f (.lst (F ++ [D.non])))[l]? = some (.lst []) := by rw [get_ne (by omega)]; exact lb
        have bc : (hb.set f (.lst (F ++ [D.non])))[bk]? = some (.lst F) := by rw [get_ne (by omega)]; exact eb
        generalize hb.set f (.lst (F ++ [D.non])) = hc at fc lc bc
        walk_at "wp"
        have lc2 := get_new hc (O.lst [])
        have pc1 : Pre hc (hc ++ [O.lst []]) := Pre.app _ _
        generalize hc ++ [O.lst []] = hd at lc2 pc1
        refine eq_same (pc1.get lc) lc2 rfl (by decide) ?_
        walk_at "wp"
        refine lf_slL (pc1.get fc) ?_
        have cr : cutD (F ++ [D.non]) none (some (-1)) = F := by
          have := cut_rest (xs := F ++ [D.non]) (m := 1) (by omega)
          simpa using this
        rw [cr]
        have e3 := get_new hd (O.lst F)
        have pd1 : Pre hd (hd ++ [O.lst F]) := Pre.app _ _
        generalize hd ++ [O.lst F] = he at e3 pd1
        obtain ⟨k1, k2⟩ := G3.pds (by omega) gF
        refine eq_same ((pc1.trans pd1).get bc) e3 k1 (by omega) ?_
        walk_at "wp"
        refine lf_slL ((pc1.trans pd1).get fc) ?_
        rw [cr]
        have e4' := get_new he (O.lst F)
        have pe1 : Pre he (he ++ [O.lst F]) := Pre.app _ _
        generalize he ++ [O.lst F] = hg at e4' pe1
        walk_at "wp"
        refine (r_sort (h := hg) (by omega) (by omega) (fun d hd => (gF d hd).z (by omega) hN) (.inr ⟨_, rfl, e4'⟩)).mono ?_
        rintro _ hi ⟨m, rfl, hm, pi, ei⟩
        rw [uniq2] at ei
        refine eq_same (((pc1.trans pd1).trans (pe1.trans pi)).get bc) ei k1 (by omega) ?_
        walk_at "wp"
        rfl
end


section
variable {NF RD : Nat}
theorem law_true_n (ns : List Int) (hl : ns.length ≤ 63) (hN : 1000 ≤ NF) (hR : 40 ≤ RD) : ∃ h', m_law NF RD [.rol (ns.map D.int)] [] = some (.bl true, h') := by
  have main : Ev (m_law NF RD [.rol (ns.map D.int)] []) fun r h' => r = .bl true := by
    have hLN := LN_eq
    unfold m_law
    walk_at "wp"
    refine (r_sort (ds := []) (by omega) (by simp; omega) (fun d hd => by cases hd) (.inr ⟨_, rfl, get_new _ _⟩)).mono ?_
    rintro _ h1 ⟨m, rfl, hm, p1, e1⟩
    rw [show SD [] = [] from by simp [SD]] at e1
    walk_at "wp"
    refine (r_sort (ds := []) (by omega) (by simp; omega) (fun d hd => by cases hd) (.inl rfl)).mono ?_
    rintro _ h2 ⟨n, rfl, hn, p2, e2⟩
    rw [show SD [] = [] from by simp [SD]] at e2
    walk_at "wp"
    refine lf_addL (p2.get e1) e2 (by simp) ?_
    have e3 := get_new h2 (O.lst ([] ++ []))
    generalize h2 ++ [O.lst ([] ++ [])] = h3 at e3
    walk_at "wp"
    refine ne_same (ws := []) ((Pre.app _ _).get e3) (get_new _ _) rfl (by decide) ?_
    walk_at "wp"
    have t2 : T (.tup [.int 2]) := .var 2 (by decide)
    refine (r_sort (ds := [.tup [.int 2]]) (by omega) (by simp; omega) (fun d hd => by
      rw [List.mem_singleton.mp hd]
      exact ⟨t2, by simp [parts, partsT, partss]; omega, by simp [parts, partsT, partss]; omega⟩) (.inr ⟨_, rfl, get_new _ _⟩)).mono ?_
    rintro _ h4 ⟨m2, rfl, hm2, p4, e4⟩
    rw [show SD [.tup [.int 2]] = [.tup [.int 2]] from by simp [SD]] at e4
    walk_at "wp"
    refine ne_same ((Pre.app _ _).get e4) (get_new _ _) (by simp [plDs, plD]) (by simp [pds, pd, PyData.depthAll, PyData.depth]) ?_
    walk_at "wp"
    refine ⟨_, rfl, ?_, ?_⟩
    · rw [List.length_map]; constructor <;> (repeat' split) <;> omega
    generalize hk : (if (if ((ns.map D.int).length : Int) < 8 then ((ns.map D.int).length : Int) else 8) > 1 then (if ((ns.map D.int).length : Int) < 8 then ((ns.map D.int).length : Int) else 8) else 1) = k
    have hk8 : k ≤ 8 := by rw [← hk]; (repeat' split) <;> omega
    refine ev_for (xs := (List.range k.toNat).map fun i => D.int (0 + (i : Nat))) (fun as sg h1 => ∃ p, sg = [some (.rol (ns.map D.int)), p]) ⟨none, rfl⟩ (by simp; omega) (fun _ _ _ _ => yl_fix) ?_ ?_
    · rintro as x bs sg h1 ex ⟨p, rfl⟩
      obtain ⟨i, rfl⟩ : ∃ i : Nat, x = D.int (0 + (i : Nat)) := by
        have : x ∈ (List.range k.toNat).map fun i => D.int (0 + (i : Nat)) := by rw [ex]; simp
        obtain ⟨i, h, rfl⟩ := List.mem_map.mp this
        exact ⟨_, rfl⟩
      have cell : ∀ h, Ev (m__law_cell_at NF RD [.rol (ns.map D.int), .int (0 + (i : Nat))] h) fun r h' => ∃ c, r = .int c := by
        intro h
        unfold m__law_cell_at
        walk_at "wp"
        refine br (fun c => ?_) fun c => ?_
        · walk_at "wp"
          obtain ⟨z, hz, ez⟩ := at_nat (xs := ns.map D.int) (i := 0 + (i : Nat)) (by omega) (by simpa using c)
          obtain ⟨n, _, rfl⟩ := List.mem_map.mp hz
          refine lf_ixR ez ?_
          walk_at "wp"
          exact ⟨_, rfl⟩
        · walk_at "wp"
          exact ⟨_, rfl⟩
      have well : ∀ (c : Int) (h : Hd), Ev (m__law_well NF RD [.int c] h) fun r h' => ∃ w, r = .at w ∧ Wl w h' := by
        intro c h
        unfold m__law_well
        walk_at "wp"
        refine lf_mulI (.inr (.inl ?_)) ?_
        · exact (show ∀ b : Bool, -(2 ^ 64 : Int) < (if b = true then 1 else 0) ∧ (if b = true then (1 : Int) else 0) < 2 ^ 64 by decide) _
        walk_at "wp"
        exact ⟨_, rfl, _, _, _, get_new _ _⟩
      unfold B_law_0
      walk_at "wp"
      refine (cell _).mono ?_
      rintro r h2 ⟨c, rfl⟩
      walk_at "wp"
      refine (well _ _).mono ?_
      rintro r h3 ⟨w, rfl, hw⟩
      walk_at "wp"
      refine (r_right hw hN hR).mono ?_
      rintro r h4 rfl
      walk_at "wp"
      exact ⟨_, rfl⟩
    · rintro sg h1 ⟨p, rfl⟩
      walk_at "wp"
      rfl
  obtain ⟨r, h', e, rfl⟩ := main
  exact ⟨h', e⟩
end
theorem law_true (ns : List Int) (hl : ns.length ≤ 63) : ∃ h', m_law 100000 60 [.rol (ns.map D.int)] [] = some (.bl true, h') := law_true_n ns hl (by decide) (by decide)

end K03
namespace K03
open PySem L2 DL
section
theorem all_mk {l : PySem.W.OpenLaw} {w : World} {K : PySem.W.Frag} {h : Heap} {mg : Str → Option Value} {fa : Addr} (X : K.In h) (G : h.Ns mainGlobals mg) (hfa : mg "law" = some (.ref fa))
    {f0 f1 f2 f3 f4 f5 f6 f7 f8 f9 f10 f11 f12 f13 f14 f15 f16 f17 f18 f19 f20 f21 f22 : Addr}
    {od0 an0 od1 an1 od2 an2 od3 an3 od4 an4 od5 an5 od6 an6 od7 an7 od8 an8 od9 an9 od10 an10 od11 an11 od12 an12 od13 an13 od14 an14 od15 an15 od16 an16 od17 an17 od18 an18 od19 an19 od20 an20 od21 an21 od22 an22 : Option Addr} {sl0 sl1 sl2 sl3 sl4 sl5 sl6 sl7 sl8 sl9 sl10 sl11 sl12 sl13 sl14 sl15 sl16 sl17 sl18 sl19 sl20 sl21 sl22 : Array (Option Value)} {oc0 kV0 dc0 pm0 cd0 ct0 oc1 kV1 dc1 pm1 cd1 ct1 oc2 kV2 dc2 pm2 cd2 ct2 oc3 kV3 dc3 pm3 cd3 ct3 oc4 kV4 dc4 pm4 cd4 ct4 oc5 kV5 dc5 pm5 cd5 ct5 oc6 kV6 dc6 pm6 cd6 ct6 oc7 kV7 dc7 pm7 cd7 ct7 oc8 kV8 dc8 pm8 cd8 ct8 oc9 kV9 dc9 pm9 cd9 ct9 oc10 kV10 dc10 pm10 cd10 ct10 oc11 kV11 dc11 pm11 cd11 ct11 oc12 kV12 dc12 pm12 cd12 ct12 oc13 kV13 dc13 pm13 cd13 ct13 oc14 kV14 dc14 pm14 cd14 ct14 oc15 kV15 dc15 pm15 cd15 ct15 oc16 kV16 dc16 pm16 cd16 ct16 oc17 kV17 dc17 pm17 cd17 ct17 oc18 kV18 dc18 pm18 cd18 ct18 oc19 kV19 dc19 pm19 cd19 ct19 oc20 kV20 dc20 pm20 cd20 ct20 oc21 kV21 dc21 pm21 cd21 ct21 oc22 kV22 dc22 pm22 cd22 ct22 : Value}
    (a0 : PySem.W.nsIn K mainGlobals "is_int" = some (some (.ref f0))) (l0 : K.lookup f0 = some ⟨oc0, od0, .func (PySem.W.fnOf "is_int" "is_int" (defArgs s_is_int) (defBody s_is_int) (defScope s_is_int) .none kV0 dc0 pm0 an0 cd0 ct0), sl0⟩) (c0 : PySem.W.codeIn K cd0 "is_int" = true) (k0 : PySem.W.keepIn K (.ref f0) = true)
    (a1 : PySem.W.nsIn K mainGlobals "is_variable" = some (some (.ref f1))) (l1 : K.lookup f1 = some ⟨oc1, od1, .func (PySem.W.fnOf "is_variable" "is_variable" (defArgs s_is_variable) (defBody s_is_variable) (defScope s_is_variable) .none kV1 dc1 pm1 an1 cd1 ct1), sl1⟩) (c1 : PySem.W.codeIn K cd1 "is_variable" = true) (k1 : PySem.W.keepIn K (.ref f1) = true)
    (a2 : PySem.W.nsIn K mainGlobals "is_any_number" = some (some (.ref f2))) (l2 : K.lookup f2 = some ⟨oc2, od2, .func (PySem.W.fnOf "is_any_number" "is_any_number" (defArgs s_is_any_number) (defBody s_is_any_number) (defScope s_is_any_number) .none kV2 dc2 pm2 an2 cd2 ct2), sl2⟩) (c2 : PySem.W.codeIn K cd2 "is_any_number" = true) (k2 : PySem.W.keepIn K (.ref f2) = true)
    (a3 : PySem.W.nsIn K mainGlobals "is_any_atom" = some (some (.ref f3))) (l3 : K.lookup f3 = some ⟨oc3, od3, .func (PySem.W.fnOf "is_any_atom" "is_any_atom" (defArgs s_is_any_atom) (defBody s_is_any_atom) (defScope s_is_any_atom) .none kV3 dc3 pm3 an3 cd3 ct3), sl3⟩) (c3 : PySem.W.codeIn K cd3 "is_any_atom" = true) (k3 : PySem.W.keepIn K (.ref f3) = true)
    (a4 : PySem.W.nsIn K mainGlobals "is_compound" = some (some (.ref f4))) (l4 : K.lookup f4 = some ⟨oc4, od4, .func (PySem.W.fnOf "is_compound" "is_compound" (defArgs s_is_compound) (defBody s_is_compound) (defScope s_is_compound) .none kV4 dc4 pm4 an4 cd4 ct4), sl4⟩) (c4 : PySem.W.codeIn K cd4 "is_compound" = true) (k4 : PySem.W.keepIn K (.ref f4) = true)
    (a5 : PySem.W.nsIn K mainGlobals "is_term" = some (some (.ref f5))) (l5 : K.lookup f5 = some ⟨oc5, od5, .func (PySem.W.fnOf "is_term" "is_term" (defArgs s_is_term) (defBody s_is_term) (defScope s_is_term) .none kV5 dc5 pm5 an5 cd5 ct5), sl5⟩) (c5 : PySem.W.codeIn K cd5 "is_term" = true) (k5 : PySem.W.keepIn K (.ref f5) = true)
    (a6 : PySem.W.nsIn K mainGlobals "check_terms" = some (some (.ref f6))) (l6 : K.lookup f6 = some ⟨oc6, od6, .func (PySem.W.fnOf "check_terms" "check_terms" (defArgs s_check_terms) (defBody s_check_terms) (defScope s_check_terms) .none kV6 dc6 pm6 an6 cd6 ct6), sl6⟩) (c6 : PySem.W.codeIn K cd6 "check_terms" = true) (k6 : PySem.W.keepIn K (.ref f6) = true)
    (a7 : PySem.W.nsIn K mainGlobals "parts_of" = some (some (.ref f7))) (l7 : K.lookup f7 = some ⟨oc7, od7, .func (PySem.W.fnOf "parts_of" "parts_of" (defArgs s_parts_of) (defBody s_parts_of) (defScope s_parts_of) .none kV7 dc7 pm7 an7 cd7 ct7), sl7⟩) (c7 : PySem.W.codeIn K cd7 "parts_of" = true) (k7 : PySem.W.keepIn K (.ref f7) = true)
    (a8 : PySem.W.nsIn K mainGlobals "order_key" = some (some (.ref f8))) (l8 : K.lookup f8 = some ⟨oc8, od8, .func (PySem.W.fnOf "order_key" "order_key" (defArgs s_order_key) (defBody s_order_key) (defScope s_order_key) .none kV8 dc8 pm8 an8 cd8 ct8), sl8⟩) (c8 : PySem.W.codeIn K cd8 "order_key" = true) (k8 : PySem.W.keepIn K (.ref f8) = true)
    (a9 : PySem.W.nsIn K mainGlobals "compare_terms" = some (some (.ref f9))) (l9 : K.lookup f9 = some ⟨oc9, od9, .func (PySem.W.fnOf "compare_terms" "compare_terms" (defArgs s_compare_terms) (defBody s_compare_terms) (defScope s_compare_terms) .none kV9 dc9 pm9 an9 cd9 ct9), sl9⟩) (c9 : PySem.W.codeIn K cd9 "compare_terms" = true) (k9 : PySem.W.keepIn K (.ref f9) = true)
    (a10 : PySem.W.nsIn K mainGlobals "sort_terms" = some (some (.ref f10))) (l10 : K.lookup f10 = some ⟨oc10, od10, .func (PySem.W.fnOf "sort_terms" "sort_terms" (defArgs s_sort_terms) (defBody s_sort_terms) (defScope s_sort_terms) .none kV10 dc10 pm10 an10 cd10 ct10), sl10⟩) (c10 : PySem.W.codeIn K cd10 "sort_terms" = true) (k10 : PySem.W.keepIn K (.ref f10) = true)
    (a11 : PySem.W.nsIn K mainGlobals "_law_cell_at" = some (some (.ref f11))) (l11 : K.lookup f11 = some ⟨oc11, od11, .func (PySem.W.fnOf "_law_cell_at" "_law_cell_at" (defArgs s__law_cell_at) (defBody s__law_cell_at) (defScope s__law_cell_at) .none kV11 dc11 pm11 an11 cd11 ct11), sl11⟩) (c11 : PySem.W.codeIn K cd11 "_law_cell_at" = true) (k11 : PySem.W.keepIn K (.ref f11) = true)
    (a12 : PySem.W.nsIn K mainGlobals "_law_well" = some (some (.ref f12))) (l12 : K.lookup f12 = some ⟨oc12, od12, .func (PySem.W.fnOf "_law_well" "_law_well" (defArgs s__law_well) (defBody s__law_well) (defScope s__law_well) .none kV12 dc12 pm12 an12 cd12 ct12), sl12⟩) (c12 : PySem.W.codeIn K cd12 "_law_well" = true) (k12 : PySem.W.keepIn K (.ref f12) = true)
    (a13 : PySem.W.nsIn K mainGlobals "_law_draw" = some (some (.ref f13))) (l13 : K.lookup f13 = some ⟨oc13, od13, .func (PySem.W.fnOf "_law_draw" "_law_draw" (defArgs s__law_draw) (defBody s__law_draw) (defScope s__law_draw) .none kV13 dc13 pm13 an13 cd13 ct13), sl13⟩) (c13 : PySem.W.codeIn K cd13 "_law_draw" = true) (k13 : PySem.W.keepIn K (.ref f13) = true)
    (a14 : PySem.W.nsIn K mainGlobals "_law_one" = some (some (.ref f14))) (l14 : K.lookup f14 = some ⟨oc14, od14, .func (PySem.W.fnOf "_law_one" "_law_one" (defArgs s__law_one) (defBody s__law_one) (defScope s__law_one) .none kV14 dc14 pm14 an14 cd14 ct14), sl14⟩) (c14 : PySem.W.codeIn K cd14 "_law_one" = true) (k14 : PySem.W.keepIn K (.ref f14) = true)
    (a15 : PySem.W.nsIn K mainGlobals "_law_leaf" = some (some (.ref f15))) (l15 : K.lookup f15 = some ⟨oc15, od15, .func (PySem.W.fnOf "_law_leaf" "_law_leaf" (defArgs s__law_leaf) (defBody s__law_leaf) (defScope s__law_leaf) .none kV15 dc15 pm15 an15 cd15 ct15), sl15⟩) (c15 : PySem.W.codeIn K cd15 "_law_leaf" = true) (k15 : PySem.W.keepIn K (.ref f15) = true)
    (a16 : PySem.W.nsIn K mainGlobals "_law_term" = some (some (.ref f16))) (l16 : K.lookup f16 = some ⟨oc16, od16, .func (PySem.W.fnOf "_law_term" "_law_term" (defArgs s__law_term) (defBody s__law_term) (defScope s__law_term) .none kV16 dc16 pm16 an16 cd16 ct16), sl16⟩) (c16 : PySem.W.codeIn K cd16 "_law_term" = true) (k16 : PySem.W.keepIn K (.ref f16) = true)
    (a17 : PySem.W.nsIn K mainGlobals "_law_is_compound" = some (some (.ref f17))) (l17 : K.lookup f17 = some ⟨oc17, od17, .func (PySem.W.fnOf "_law_is_compound" "_law_is_compound" (defArgs s__law_is_compound) (defBody s__law_is_compound) (defScope s__law_is_compound) .none kV17 dc17 pm17 an17 cd17 ct17), sl17⟩) (c17 : PySem.W.codeIn K cd17 "_law_is_compound" = true) (k17 : PySem.W.keepIn K (.ref f17) = true)
    (a18 : PySem.W.nsIn K mainGlobals "_law_rank" = some (some (.ref f18))) (l18 : K.lookup f18 = some ⟨oc18, od18, .func (PySem.W.fnOf "_law_rank" "_law_rank" (defArgs s__law_rank) (defBody s__law_rank) (defScope s__law_rank) .none kV18 dc18 pm18 an18 cd18 ct18), sl18⟩) (c18 : PySem.W.codeIn K cd18 "_law_rank" = true) (k18 : PySem.W.keepIn K (.ref f18) = true)
    (a19 : PySem.W.nsIn K mainGlobals "_law_order" = some (some (.ref f19))) (l19 : K.lookup f19 = some ⟨oc19, od19, .func (PySem.W.fnOf "_law_order" "_law_order" (defArgs s__law_order) (defBody s__law_order) (defScope s__law_order) .none kV19 dc19 pm19 an19 cd19 ct19), sl19⟩) (c19 : PySem.W.codeIn K cd19 "_law_order" = true) (k19 : PySem.W.keepIn K (.ref f19) = true)
    (a20 : PySem.W.nsIn K mainGlobals "_law_near" = some (some (.ref f20))) (l20 : K.lookup f20 = some ⟨oc20, od20, .func (PySem.W.fnOf "_law_near" "_law_near" (defArgs s__law_near) (defBody s__law_near) (defScope s__law_near) .none kV20 dc20 pm20 an20 cd20 ct20), sl20⟩) (c20 : PySem.W.codeIn K cd20 "_law_near" = true) (k20 : PySem.W.keepIn K (.ref f20) = true)
    (a21 : PySem.W.nsIn K mainGlobals "_law_right" = some (some (.ref f21))) (l21 : K.lookup f21 = some ⟨oc21, od21, .func (PySem.W.fnOf "_law_right" "_law_right" (defArgs s__law_right) (defBody s__law_right) (defScope s__law_right) .none kV21 dc21 pm21 an21 cd21 ct21), sl21⟩) (c21 : PySem.W.codeIn K cd21 "_law_right" = true) (k21 : PySem.W.keepIn K (.ref f21) = true)
    (a22 : PySem.W.nsIn K mainGlobals "law" = some (some (.ref f22))) (l22 : K.lookup f22 = some ⟨oc22, od22, .func (PySem.W.fnOf "law" "law" (defArgs s_law) (defBody s_law) (defScope s_law) .none kV22 dc22 pm22 an22 cd22 ct22), sl22⟩) (c22 : PySem.W.codeIn K cd22 "law" = true) (k22 : PySem.W.keepIn K (.ref f22) = true)
    (z0 : PySem.W.nsIn K mainGlobals "abs" = some none)
    (z1 : PySem.W.nsIn K mainGlobals "all" = some none)
    (z2 : PySem.W.nsIn K mainGlobals "bool" = some none)
    (z3 : PySem.W.nsIn K mainGlobals "dict" = some none)
    (z4 : PySem.W.nsIn K mainGlobals "enumerate" = some none)
    (z5 : PySem.W.nsIn K mainGlobals "int" = some none)
    (z6 : PySem.W.nsIn K mainGlobals "isinstance" = some none)
    (z7 : PySem.W.nsIn K mainGlobals "len" = some none)
    (z8 : PySem.W.nsIn K mainGlobals "list" = some none)
    (z9 : PySem.W.nsIn K mainGlobals "max" = some none)
    (z10 : PySem.W.nsIn K mainGlobals "min" = some none)
    (z11 : PySem.W.nsIn K mainGlobals "ord" = some none)
    (z12 : PySem.W.nsIn K mainGlobals "range" = some none)
    (z13 : PySem.W.nsIn K mainGlobals "sorted" = some none)
    (z14 : PySem.W.nsIn K mainGlobals "str" = some none)
    (z15 : PySem.W.nsIn K mainGlobals "tuple" = some none)
    (z16 : PySem.W.nsIn K mainGlobals "zip" = some none)
    {u0 : Tok} (y0 : PySem.W.nsIn K mainGlobals "MOST_ARGUMENTS" = some (some (.int 8 u0)))
    {u1 : Tok} (y1 : PySem.W.nsIn K mainGlobals "MOST_SIGNS" = some (some (.int 40 u1)))
    {u2 : Tok} (y2 : PySem.W.nsIn K mainGlobals "TOO_GREAT" = some (some (.int 1000000000000000000000000000000000000000000000000000000000000000000000000000000000000000000000000000000000000000000000000000000000000000000000000000000000000000000000000000000000000000000000000000000000000000000000000000000000000000000000000000000000000000000000000000000000000000000000000000000000000 u2)))
    {x0 x1 : Addr}
    (gx0 : PySem.W.nsIn K mainGlobals "BadTerm" = some (some (.ref x0)))
    (gx1 : PySem.W.nsIn K mainGlobals "HornError" = some (some (.ref x1)))
    {nmx0 qx0 : Str} {Nx0 : Addr} {bsx0 : List Value} {snx0 : List Str} {subx0 : List Value} {abx0 : Bool} {colx0 : Option Bool} {ddx0 : Option Addr} {m0x0 m1x0 m2x0 m3x0 m5x0 : Option Value} {fx0 : Addr} {ocx0 kVx0 dcx0 pmx0 cdx0 ctx0 : Value} {odx0 anx0 : Option Addr} {slx0 : Array (Option Value)}
    (xl0 : K.lookup x0 = some (excClassObj nmx0 qx0 x0 Nx0 bsx0 [.ref x1, .type "ValueError", .type "Exception", .type "BaseException", .type "object"] true snx0 subx0 abx0 colx0 ddx0 m0x0 m1x0 m2x0 m3x0 m5x0 "ValueError.__new__"))
    (xs0 : PySem.W.findIn K (.ref x0) "__setattr__" = some (some (.builtin "object.__setattr__"))) (xg0 : PySem.W.findIn K (.ref x0) "__getattribute__" = some (some (.builtin "BaseException.__getattribute__"))) (xh0 : PySem.W.findIn K (.ref x0) "__getattr__" = some none)
    (xi0 : PySem.W.findIn K (.ref x0) "__init__" = some (some (.ref fx0))) (xt0 : PySem.W.typeIn K (.ref fx0) = some (.type "function"))
    (xf0 : K.lookup fx0 = some ⟨ocx0, odx0, .func (PySem.W.fnOf "__init__" "BadTerm.__init__" (defArgs si_BadTerm) (defBody si_BadTerm) (defScope si_BadTerm) .none kVx0 dcx0 pmx0 anx0 cdx0 ctx0), slx0⟩) (xc0 : PySem.W.codeIn K cdx0 "BadTerm.__init__" = true) (xk0 : PySem.W.keepIn K (.ref fx0) = true)
    (yk0 : PySem.W.keepIn K (.ref x0) = true) (ye0 : PySem.W.subIn K (.ref x0) (.type "BaseException") = some true) (yt0 : PySem.W.typeIn K (.ref x0) = some (.type "type")) (yh0 : PySem.W.hasDictIn K x0 = true)
    (yn0_0 : PySem.W.findIn K (.ref x0) "term" = some none)
    (br0 : PySem.W.readsIn K x1 (.type "type") = true) (bf0 : PySem.W.findCls K (.ref x1) (.type "type") "__init__" = some (.val (.builtin "ValueError.__init__")))
    : ∃ fd : FuncData, (∀ (s : Shared) (v : Value), BindsTo s fd ⟨[v], []⟩ [("script", v)]) ∧ ∀ base : Heap, K.In base → base.Ns mainGlobals mg → FnG l.prog w K mg base (L2.CX l.prog w) 125 fa fd ["script"] (spA ⟨K, w⟩ 1 (fun _ : Str → Addr => m_law 100000 60)) := by
  have e := hfa.symm.trans (PySem.W.mg_of X G a22)
  cases e
  have z : Zs mg := ⟨PySem.W.mg_none_of X G z0, PySem.W.mg_none_of X G z1, PySem.W.mg_none_of X G z2, PySem.W.mg_none_of X G z3, PySem.W.mg_none_of X G z4, PySem.W.mg_none_of X G z5, PySem.W.mg_none_of X G z6, PySem.W.mg_none_of X G z7, PySem.W.mg_none_of X G z8, PySem.W.mg_none_of X G z9, PySem.W.mg_none_of X G z10, PySem.W.mg_none_of X G z11, PySem.W.mg_none_of X G z12, PySem.W.mg_none_of X G z13, PySem.W.mg_none_of X G z14, PySem.W.mg_none_of X G z15, PySem.W.mg_none_of X G z16⟩
  have y : Ys ⟨K, w⟩ mg := ⟨Kst.int ⟨_, PySem.W.mg_of X G y0⟩, Kst.int ⟨_, PySem.W.mg_of X G y1⟩, Kst.int ⟨_, PySem.W.mg_of X G y2⟩⟩
  have bas0 : BasC K mg "HornError" := ⟨_, PySem.W.mg_of X G gx1, br0, bf0⟩
  have ox0 : OexC K x0 := ⟨⟨_, _, _, _, _, _, _, _, _, _, _, _, _, _, _, xl0, by rfl⟩, xs0, ye0, yt0, yk0⟩
  have fi0 := fun_mk (st := si_BadTerm) xf0 xc0 xk0
  have tBadTerm : ExT K mg "BadTerm" ["term"] := ⟨x0, fx0, _, PySem.W.mg_of X G gx0, ox0, xi0, xt0, fun P w base => i_BadTerm bas0 ox0 yn0_0 fi0, fi0.binds (ps := ["self", "term"]) fun _ _ _ _ _ _ us hl => match us, hl with | [_, _], _ => rfl, ⟨xg0, xh0, ye0, yh0⟩, by
    intro f hf
    simp only [List.mem_cons, List.not_mem_nil, or_false] at hf
    subst hf; exact yn0_0⟩
  have tab : ExTab K mg TX := by
    intro p hp
    simp only [List.mem_cons, List.not_mem_nil, or_false] at hp
    subst hp; exact tBadTerm
  have q : Qs K mg := ⟨tBadTerm, tab⟩
  have F0 := fun_mk (st := s_is_int) l0 c0 k0
  have g0 : Got K mg "is_int" s_is_int P_is_int := ⟨f0, _, F0, PySem.W.mg_of X G a0, F0.binds (ps := P_is_int) fun _ _ _ _ _ _ us hl => match us, hl with | [_], _ => rfl⟩
  have F1 := fun_mk (st := s_is_variable) l1 c1 k1
  have g1 : Got K mg "is_variable" s_is_variable P_is_variable := ⟨f1, _, F1, PySem.W.mg_of X G a1, F1.binds (ps := P_is_variable) fun _ _ _ _ _ _ us hl => match us, hl with | [_], _ => rfl⟩
  have F2 := fun_mk (st := s_is_any_number) l2 c2 k2
  have g2 : Got K mg "is_any_number" s_is_any_number P_is_any_number := ⟨f2, _, F2, PySem.W.mg_of X G a2, F2.binds (ps := P_is_any_number) fun _ _ _ _ _ _ us hl => match us, hl with | [_], _ => rfl⟩
  have F3 := fun_mk (st := s_is_any_atom) l3 c3 k3
  have g3 : Got K mg "is_any_atom" s_is_any_atom P_is_any_atom := ⟨f3, _, F3, PySem.W.mg_of X G a3, F3.binds (ps := P_is_any_atom) fun _ _ _ _ _ _ us hl => match us, hl with | [_], _ => rfl⟩
  have F4 := fun_mk (st := s_is_compound) l4 c4 k4
  have g4 : Got K mg "is_compound" s_is_compound P_is_compound := ⟨f4, _, F4, PySem.W.mg_of X G a4, F4.binds (ps := P_is_compound) fun _ _ _ _ _ _ us hl => match us, hl with | [_], _ => rfl⟩
  have F5 := fun_mk (st := s_is_term) l5 c5 k5
  have g5 : Got K mg "is_term" s_is_term P_is_term := ⟨f5, _, F5, PySem.W.mg_of X G a5, F5.binds (ps := P_is_term) fun _ _ _ _ _ _ us hl => match us, hl with | [_], _ => rfl⟩
  have F6 := fun_mk (st := s_check_terms) l6 c6 k6
  have g6 : Got K mg "check_terms" s_check_terms P_check_terms := ⟨f6, _, F6, PySem.W.mg_of X G a6, F6.binds (ps := P_check_terms) fun _ _ _ _ _ _ us hl => match us, hl with | [_], _ => rfl⟩
  have F7 := fun_mk (st := s_parts_of) l7 c7 k7
  have g7 : Got K mg "parts_of" s_parts_of P_parts_of := ⟨f7, _, F7, PySem.W.mg_of X G a7, F7.binds (ps := P_parts_of) fun _ _ _ _ _ _ us hl => match us, hl with | [_], _ => rfl⟩
  have F8 := fun_mk (st := s_order_key) l8 c8 k8
  have g8 : Got K mg "order_key" s_order_key P_order_key := ⟨f8, _, F8, PySem.W.mg_of X G a8, F8.binds (ps := P_order_key) fun _ _ _ _ _ _ us hl => match us, hl with | [_], _ => rfl⟩
  have F9 := fun_mk (st := s_compare_terms) l9 c9 k9
  have g9 : Got K mg "compare_terms" s_compare_terms P_compare_terms := ⟨f9, _, F9, PySem.W.mg_of X G a9, F9.binds (ps := P_compare_terms) fun _ _ _ _ _ _ us hl => match us, hl with | [_, _], _ => rfl⟩
  have F10 := fun_mk (st := s_sort_terms) l10 c10 k10
  have g10 : Got K mg "sort_terms" s_sort_terms P_sort_terms := ⟨f10, _, F10, PySem.W.mg_of X G a10, F10.binds (ps := P_sort_terms) fun _ _ _ _ _ _ us hl => match us, hl with | [_], _ => rfl⟩
  have F11 := fun_mk (st := s__law_cell_at) l11 c11 k11
  have g11 : Got K mg "_law_cell_at" s__law_cell_at P__law_cell_at := ⟨f11, _, F11, PySem.W.mg_of X G a11, F11.binds (ps := P__law_cell_at) fun _ _ _ _ _ _ us hl => match us, hl with | [_, _], _ => rfl⟩
  have F12 := fun_mk (st := s__law_well) l12 c12 k12
  have g12 : Got K mg "_law_well" s__law_well P__law_well := ⟨f12, _, F12, PySem.W.mg_of X G a12, F12.binds (ps := P__law_well) fun _ _ _ _ _ _ us hl => match us, hl with | [_], _ => rfl⟩
  have F13 := fun_mk (st := s__law_draw) l13 c13 k13
  have g13 : Got K mg "_law_draw" s__law_draw P__law_draw := ⟨f13, _, F13, PySem.W.mg_of X G a13, F13.binds (ps := P__law_draw) fun _ _ _ _ _ _ us hl => match us, hl with | [_, _], _ => rfl⟩
  have F14 := fun_mk (st := s__law_one) l14 c14 k14
  have g14 : Got K mg "_law_one" s__law_one P__law_one := ⟨f14, _, F14, PySem.W.mg_of X G a14, F14.binds (ps := P__law_one) fun _ _ _ _ _ _ us hl => match us, hl with | [_, _], _ => rfl⟩
  have F15 := fun_mk (st := s__law_leaf) l15 c15 k15
  have g15 : Got K mg "_law_leaf" s__law_leaf P__law_leaf := ⟨f15, _, F15, PySem.W.mg_of X G a15, F15.binds (ps := P__law_leaf) fun _ _ _ _ _ _ us hl => match us, hl with | [_, _], _ => rfl⟩
  have F16 := fun_mk (st := s__law_term) l16 c16 k16
  have g16 : Got K mg "_law_term" s__law_term P__law_term := ⟨f16, _, F16, PySem.W.mg_of X G a16, F16.binds (ps := P__law_term) fun _ _ _ _ _ _ us hl => match us, hl with | [_, _, _], _ => rfl⟩
  have F17 := fun_mk (st := s__law_is_compound) l17 c17 k17
  have g17 : Got K mg "_law_is_compound" s__law_is_compound P__law_is_compound := ⟨f17, _, F17, PySem.W.mg_of X G a17, F17.binds (ps := P__law_is_compound) fun _ _ _ _ _ _ us hl => match us, hl with | [_], _ => rfl⟩
  have F18 := fun_mk (st := s__law_rank) l18 c18 k18
  have g18 : Got K mg "_law_rank" s__law_rank P__law_rank := ⟨f18, _, F18, PySem.W.mg_of X G a18, F18.binds (ps := P__law_rank) fun _ _ _ _ _ _ us hl => match us, hl with | [_], _ => rfl⟩
  have F19 := fun_mk (st := s__law_order) l19 c19 k19
  have g19 : Got K mg "_law_order" s__law_order P__law_order := ⟨f19, _, F19, PySem.W.mg_of X G a19, F19.binds (ps := P__law_order) fun _ _ _ _ _ _ us hl => match us, hl with | [_, _], _ => rfl⟩
  have F20 := fun_mk (st := s__law_near) l20 c20 k20
  have g20 : Got K mg "_law_near" s__law_near P__law_near := ⟨f20, _, F20, PySem.W.mg_of X G a20, F20.binds (ps := P__law_near) fun _ _ _ _ _ _ us hl => match us, hl with | [_, _], _ => rfl⟩
  have F21 := fun_mk (st := s__law_right) l21 c21 k21
  have g21 : Got K mg "_law_right" s__law_right P__law_right := ⟨f21, _, F21, PySem.W.mg_of X G a21, F21.binds (ps := P__law_right) fun _ _ _ _ _ _ us hl => match us, hl with | [_], _ => rfl⟩
  have F22 := fun_mk (st := s_law) l22 c22 k22
  refine ⟨PySem.W.fnOf "law" "law" (defArgs s_law) (defBody s_law) (defScope s_law) .none kV22 dc22 pm22 an22 cd22 ct22, fun s v => .of_eq rfl, fun base _ _ => ?_⟩
  have C_is_int := c_is_int (P := l.prog) (w := w) (base := base) (NF := 100000) (RD := 60) (L := 0) g0 z y q
  have C_is_variable := c_is_variable (P := l.prog) (w := w) (base := base) (NF := 100000) (RD := 60) (L := 1) g1 z y q (C_is_int.mono (by decide))
  have C_is_any_number := c_is_any_number (P := l.prog) (w := w) (base := base) (NF := 100000) (RD := 60) (L := 1) g2 z y q (C_is_int.mono (by decide))
  have C_is_any_atom := c_is_any_atom (P := l.prog) (w := w) (base := base) (NF := 100000) (RD := 60) (L := 0) g3 z y q
  have C_is_compound := c_is_compound (P := l.prog) (w := w) (base := base) (NF := 100000) (RD := 60) (L := 0) g4 z y q
  have C_is_term := c_is_term (P := l.prog) (w := w) (base := base) (NF := 100000) (RD := 60) (L := 2) g5 z y q (C_is_compound.mono (by decide)) (C_is_any_atom.mono (by decide)) (C_is_variable.mono (by decide)) (C_is_any_number.mono (by decide))
  have C_check_terms := c_check_terms (P := l.prog) (w := w) (base := base) (NF := 100000) (RD := 60) (L := 1) g6 z y q (C_is_term.mono (by decide))
  have C_parts_of := c_parts_of (P := l.prog) (w := w) (base := base) (NF := 100000) (RD := 60) (L := 1) g7 z y q (C_is_compound.mono (by decide))
  have C_order_key := c_order_key (P := l.prog) (w := w) (base := base) (NF := 100000) (RD := 60) (L := 2) g8 z y q (C_parts_of.mono (by decide)) (C_is_variable.mono (by decide)) (C_is_compound.mono (by decide))
  have C_compare_terms := c_compare_terms (P := l.prog) (w := w) (base := base) (NF := 100000) (RD := 60) (L := 4) g9 z y q (C_check_terms.mono (by decide)) (C_order_key.mono (by decide))
  have C_sort_terms := c_sort_terms (P := l.prog) (w := w) (base := base) (NF := 100000) (RD := 60) (L := 2) g10 z y q (C_check_terms.mono (by decide)) (C_order_key.mono (by decide))
  have C__law_cell_at := c__law_cell_at (P := l.prog) (w := w) (base := base) (NF := 100000) (RD := 60) (L := 0) g11 z y q
  have C__law_well := c__law_well (P := l.prog) (w := w) (base := base) (NF := 100000) (RD := 60) (L := 0) g12 z y q
  have C__law_draw := c__law_draw (P := l.prog) (w := w) (base := base) (NF := 100000) (RD := 60) (L := 0) g13 z y q
  have C__law_one := c__law_one (P := l.prog) (w := w) (base := base) (NF := 100000) (RD := 60) (L := 1) g14 z y q (C__law_draw.mono (by decide))
  have C__law_leaf := c__law_leaf (P := l.prog) (w := w) (base := base) (NF := 100000) (RD := 60) (L := 2) g15 z y q (C__law_draw.mono (by decide)) (C__law_one.mono (by decide))
  have C__law_term := c__law_term (P := l.prog) (w := w) (base := base) (NF := 100000) (RD := 60) (L := 3) g16 z y q (C__law_one.mono (by decide)) (C__law_leaf.mono (by decide)) (C__law_draw.mono (by decide)) 60
  have C__law_is_compound := c__law_is_compound (P := l.prog) (w := w) (base := base) (NF := 100000) (RD := 60) (L := 0) g17 z y q
  have C__law_rank := c__law_rank (P := l.prog) (w := w) (base := base) (NF := 100000) (RD := 60) (L := 0) g18 z y q
  have C__law_order := c__law_order (P := l.prog) (w := w) (base := base) (NF := 100000) (RD := 60) (L := 1) g19 z y q (C__law_rank.mono (by decide)) 60
  have C__law_near := c__law_near (P := l.prog) (w := w) (base := base) (NF := 100000) (RD := 60) (L := 63) g20 z y q (C__law_draw.mono (by decide)) (C__law_term.mono (by decide)) (C__law_is_compound.mono (by decide)) (C__law_one.mono (by decide)) 60
  have C__law_right := c__law_right (P := l.prog) (w := w) (base := base) (NF := 100000) (RD := 60) (L := 123) g21 z y q (C_sort_terms.mono (by decide)) (C__law_term.mono (by decide)) (C__law_draw.mono (by decide)) (C__law_near.mono (by decide)) (C__law_order.mono (by decide)) (C__law_one.mono (by decide)) (C_compare_terms.mono (by decide))
  exact (ok_law (L := 124) (NF := 100000) (RD := 60)  F22 z y q (C_sort_terms.mono (by decide)) (C__law_right.mono (by decide)) (C__law_well.mono (by decide)) (C__law_cell_at.mono (by decide))).toA (CA := caOf mg) (m := (fun _ : Str → Addr => m_law 100000 60))
theorem walk {l : PySem.W.OpenLaw} {q : Program} {loose : List Str} {XP : (Str → Option Value) → Heap → Prop} {YP : World → Heap → Prop} {d : DefRec} {K : Params → PySem.W.Frag} (hn : l.most = some 63) (hdf : d.params.defaults = [])
    (hY : ∀ (w : World) (h : Heap), YP w h → (K w.params).In h)
    (F : ∀ (w : World) (mg : Str → Option Value) (fa : Addr) (h : Heap), (K w.params).In h → h.Ns mainGlobals mg → mg d.name = some (.ref fa) →
      ∃ fd : FuncData, (∀ (s : Shared) (u : Value), BindsTo s fd ⟨[u], []⟩ [("script", u)]) ∧ ∀ base : Heap, (K w.params).In base → base.Ns mainGlobals mg → FnG l.prog w (K w.params) mg base (L2.CX l.prog w) 125 fa fd ["script"] (spA ⟨K w.params, w⟩ 1 (fun _ : Str → Addr => m_law 100000 60))) :
    PySem.W.WalkO q loose XP YP l.row.toRowW d [] (fun f vs => PySem.call f vs) :=
  DL.walk_G (n := 63) (k := 125) (x := "script") (CX := fun w => L2.CX l.prog w) (sp := fun w => spA ⟨K w.params, w⟩ 1 (fun _ : Str → Addr => m_law 100000 60)) hn (by decide) hdf ⟨rfl, by decide, by decide⟩ hY F (fun _ _ a ns hl hO hS => law_endA (fun CA => law_true ns hl) hO hS) fun _ _ _ _ _ ⟨_, _, _, _, _, _, _, _, _, _, _, _, z⟩ => z
end
end K03
open PySem PySem.W PyProof.Rows
theorem PySem.Challenge.cw_hornhall_k03_whole_order_of_terms_holds : PySem.Challenge.rw_hornhall_k03_whole_order_of_terms.Holds := by
  w_on; o_law; k_head; (case hw => w_witness2)
  k_fill
  refine K03.walk (l := PySem.Challenge.rw_hornhall_k03_whole_order_of_terms) rfl rfl (fun w h Y => PySem.W.kIn_of Y) ?F
  case F =>
    intro w mg fa h KX G hmg
    refine' K03.all_mk KX G hmg ?a0 ?l0 ?c0 ?k0 ?a1 ?l1 ?c1 ?k1 ?a2 ?l2 ?c2 ?k2 ?a3 ?l3 ?c3 ?k3 ?a4 ?l4 ?c4 ?k4 ?a5 ?l5 ?c5 ?k5 ?a6 ?l6 ?c6 ?k6 ?a7 ?l7 ?c7 ?k7 ?a8 ?l8 ?c8 ?k8 ?a9 ?l9 ?c9 ?k9 ?a10 ?l10 ?c10 ?k10 ?a11 ?l11 ?c11 ?k11 ?a12 ?l12 ?c12 ?k12 ?a13 ?l13 ?c13 ?k13 ?a14 ?l14 ?c14 ?k14 ?a15 ?l15 ?c15 ?k15 ?a16 ?l16 ?c16 ?k16 ?a17 ?l17 ?c17 ?k17 ?a18 ?l18 ?c18 ?k18 ?a19 ?l19 ?c19 ?k19 ?a20 ?l20 ?c20 ?k20 ?a21 ?l21 ?c21 ?k21 ?a22 ?l22 ?c22 ?k22 ?z0 ?z1 ?z2 ?z3 ?z4 ?z5 ?z6 ?z7 ?z8 ?z9 ?z10 ?z11 ?z12 ?z13 ?z14 ?z15 ?z16 ?y0 ?y1 ?y2 ?gx0 ?gx1 ?xl0 ?xs0 ?xg0 ?xh0 ?xi0 ?xt0 ?xf0 ?xc0 ?xk0 ?yk0 ?ye0 ?yt0 ?yh0 ?yn0_0 ?br0 ?bf0
    (case a0 => k_is)
    (case l0 => k_is)
    (case c0 => k_is)
    (case k0 => k_is)
    (case a1 => k_is)
    (case l1 => k_is)
    (case c1 => k_is)
    (case k1 => k_is)
    (case a2 => k_is)
    (case l2 => k_is)
    (case c2 => k_is)
    (case k2 => k_is)
    (case a3 => k_is)
    (case l3 => k_is)
    (case c3 => k_is)
    (case k3 => k_is)
    (case a4 => k_is)
    (case l4 => k_is)
    (case c4 => k_is)
    (case k4 => k_is)
    (case a5 => k_is)
    (case l5 => k_is)
    (case c5 => k_is)
    (case k5 => k_is)
    (case a6 => k_is)
    (case l6 => k_is)
    (case c6 => k_is)
    (case k6 => k_is)
    (case a7 => k_is)
    (case l7 => k_is)
    (case c7 => k_is)
    (case k7 => k_is)
    (case a8 => k_is)
    (case l8 => k_is)
    (case c8 => k_is)
    (case k8 => k_is)
    (case a9 => k_is)
    (case l9 => k_is)
    (case c9 => k_is)
    (case k9 => k_is)
    (case a10 => k_is)
    (case l10 => k_is)
    (case c10 => k_is)
    (case k10 => k_is)
    (case a11 => k_is)
    (case l11 => k_is)
    (case c11 => k_is)
    (case k11 => k_is)
    (case a12 => k_is)
    (case l12 => k_is)
    (case c12 => k_is)
    (case k12 => k_is)
    (case a13 => k_is)
    (case l13 => k_is)
    (case c13 => k_is)
    (case k13 => k_is)
    (case a14 => k_is)
    (case l14 => k_is)
    (case c14 => k_is)
    (case k14 => k_is)
    (case a15 => k_is)
    (case l15 => k_is)
    (case c15 => k_is)
    (case k15 => k_is)
    (case a16 => k_is)
    (case l16 => k_is)
    (case c16 => k_is)
    (case k16 => k_is)
    (case a17 => k_is)
    (case l17 => k_is)
    (case c17 => k_is)
    (case k17 => k_is)
    (case a18 => k_is)
    (case l18 => k_is)
    (case c18 => k_is)
    (case k18 => k_is)
    (case a19 => k_is)
    (case l19 => k_is)
    (case c19 => k_is)
    (case k19 => k_is)
    (case a20 => k_is)
    (case l20 => k_is)
    (case c20 => k_is)
    (case k20 => k_is)
    (case a21 => k_is)
    (case l21 => k_is)
    (case c21 => k_is)
    (case k21 => k_is)
    (case a22 => k_is)
    (case l22 => k_is)
    (case c22 => k_is)
    (case k22 => k_is)
    (case z0 => k_is)
    (case z1 => k_is)
    (case z2 => k_is)
    (case z3 => k_is)
    (case z4 => k_is)
    (case z5 => k_is)
    (case z6 => k_is)
    (case z7 => k_is)
    (case z8 => k_is)
    (case z9 => k_is)
    (case z10 => k_is)
    (case z11 => k_is)
    (case z12 => k_is)
    (case z13 => k_is)
    (case z14 => k_is)
    (case z15 => k_is)
    (case z16 => k_is)
    (case y0 => k_is)
    (case y1 => k_is)
    (case y2 => k_is)
    (case gx0 => k_is)
    (case gx1 => k_is)
    (case xl0 => k_is)
    (case xs0 => k_is)
    (case xg0 => k_is)
    (case xh0 => k_is)
    (case xi0 => k_is)
    (case xt0 => k_is)
    (case xf0 => k_is)
    (case xc0 => k_is)
    (case xk0 => k_is)
    (case yk0 => k_is)
    (case ye0 => k_is)
    (case yt0 => k_is)
    (case yh0 => k_is)
    (case yn0_0 => k_is)
    (case br0 => k_is)
    (case bf0 => k_is)

