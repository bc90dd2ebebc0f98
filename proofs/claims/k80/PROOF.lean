import PyProof.Rows.All
import Wide.All
import OpenK.AllK
import Wide.FinOn
import HandS.ForMost
import HandS.Evl
import HandS.Wide
import HandS.Deep
import HandS.TupAny
import HandS.TupMul
import HandS.Lambda
import KE.DataEq
import HandS.Star
import HandS.Exc
import HandS.ExcOwn
import KE.DataAny
import KE.DataCmp
import KE.DataFind
import KE.DataIsa
import KE.DataMinMax
import KE.SortData
import PyProof.ReprRoads
import HandS.RaiseMore
import HandS.WideBits
import HandS.Zip
import HandS.Conv
import KE.KSortRegAny
import KE.GoesMore
import HandS.Style
import HandS.Ends
import HandS.EndTab
import HandS.TupLe
import HandS.SetFor
import HandS.TupSets
import HandS.DictComp
import HandS.More
import KE.KDictSum
import HandS.Strs
import PyProof.Transfer
import KE.KDictWalk
import KE.KDictCopyH
import KE.KExcSuper
import HandS.TryMany
import PySem.Challenge.RW_sumlots_k80_errors_of_books
set_option Elab.async false
set_option maxRecDepth 100000
set_option maxHeartbeats 4000000
set_option linter.unusedVariables false
set_option linter.unusedSimpArgs false
set_option linter.unusedSectionVars false
/-! Rx 1: data, states, what a state keeps. -/
namespace Rx
open PySem L2 PySem.Spec PyProof.Rows Evl

/-! a merge sort that the kernel can run -/
def mgF {α : Type} (le : α → α → Bool) : Nat → List α → List α → List α
  | 0, xs, ys => xs ++ ys
  | n + 1, xs, ys => match xs, ys with
    | [], ys => ys
    | x :: xs, [] => x :: xs
    | x :: xs, y :: ys => if le x y = true then x :: mgF le n xs (y :: ys) else y :: mgF le n (x :: xs) ys
theorem mgF_eq {α : Type} (le : α → α → Bool) : ∀ (n : Nat) (xs ys : List α), xs.length + ys.length ≤ n → mgF le n xs ys = List.merge xs ys le
  | 0, [], [], _ => by simp [mgF]
  | 0, _ :: _, _, h => by simp at h
  | 0, [], _ :: _, h => by simp at h
  | n + 1, [], ys, _ => by simp [mgF]
  | n + 1, x :: xs, [], _ => by simp [mgF]
  | n + 1, x :: xs, y :: ys, h => by
    have h1 := mgF_eq le n xs (y :: ys) (by simp at h ⊢; omega)
    have h2 := mgF_eq le n (x :: xs) ys (by simp at h ⊢; omega)
    rw [List.cons_merge_cons]
    unfold mgF
    dsimp only
    rw [h1, h2]
def msF {α : Type} (le : α → α → Bool) : Nat → List α → List α
  | 0, xs => xs
  | n + 1, xs => match xs with
    | [] => []
    | [a] => [a]
    | a :: b :: xs => mgF le (xs.length + 2) (msF le n ((a :: b :: xs).take ((xs.length + 3) / 2))) (msF le n ((a :: b :: xs).drop ((xs.length + 3) / 2)))
theorem msF_eq {α : Type} (le : α → α → Bool) : ∀ (n : Nat) (xs : List α), xs.length ≤ n → msF le n xs = xs.mergeSort le
  | 0, [], _ => by simp [msF]
  | 0, _ :: _, h => by simp at h
  | n + 1, [], _ => by simp [msF]
  | n + 1, [a], _ => by simp [msF]
  | n + 1, a :: b :: xs, h => by
    have l1 : ((a :: b :: xs).take ((xs.length + 3) / 2)).length ≤ n := by simp at h ⊢; omega
    have l2 : ((a :: b :: xs).drop ((xs.length + 3) / 2)).length ≤ n := by simp at h ⊢; omega
    unfold msF
    dsimp only
    rw [msF_eq le n _ l1, msF_eq le n _ l2, mgF_eq]
    · rw [List.mergeSort]
      simp [List.MergeSort.Internal.splitInTwo_fst, List.MergeSort.Internal.splitInTwo_snd]
    · rw [List.length_mergeSort, List.length_mergeSort, List.length_take, List.length_drop]
      simp
      omega
def sortF {α : Type} (le : α → α → Bool) (xs : List α) : List α := msF le xs.length xs
theorem sortF_eq {α : Type} (le : α → α → Bool) (xs : List α) : sortF le xs = xs.mergeSort le := msF_eq le _ xs (Nat.le_refl _)
/-- a value of a slot: data, a local list that may change, another object -/
inductive SV where
  | dat (d : PyData)
  | ref (i : Nat)
  | adr (a : Addr)
/-- a local object that may change -/
inductive AO where
  | lst (xs : List PyData)
/-- an exception: its class, what it keeps -/
structure EV where
  c : Nat
  p : PyData
inductive RR (T : Type) where
  | ok (a : T) (A : List AO)
  | exc (x : EV) (A : List AO)
  | bad
def RR.bind {T U : Type} (r : RR T) (k : T → List AO → RR U) : RR U :=
  match r with
  | .ok a A => k a A
  | .exc x A => .exc x A
  | .bad => .bad
abbrev DSt := List (Option SV)
abbrev MM (T : Type) := DSt → List AO → RR T

def Good {T : Type} (r : RR T) (P : T → List AO → Prop) (E : EV → List AO → Prop) : Prop :=
  match r with
  | .ok a A => P a A
  | .exc x A => E x A
  | .bad => False
theorem Good.mono {T : Type} {r : RR T} {P P' : T → List AO → Prop} {E E' : EV → List AO → Prop} (h : Good r P E) (hp : ∀ a A, P a A → P' a A) (he : ∀ x A, E x A → E' x A) : Good r P' E' := by
  cases r with
  | ok a A => exact hp _ _ h
  | exc x A => exact he _ _ h
  | bad => exact h
theorem Good.bind {T U : Type} {r : RR T} {k : T → List AO → RR U} {P : U → List AO → Prop} {E : EV → List AO → Prop} (h : Good (r.bind k) P E) : Good r (fun a A => Good (k a A) P E) E := by
  cases r with
  | ok a A => exact h
  | exc x A => exact h
  | bad => exact h

/-! ### data at values -/
/-- a dict's key as a datum -/
def keyD : Key → PyData
  | .inl i => .int i
  | .inr x => .str x
mutual
/-- the datum at a value; its lists are tracked -/
inductive Dq (K : PySem.W.Frag) (H : Hp) : V → PyData → Prop
  | non : Dq K H .non .none
  | bl (b : Bool) : Dq K H (.bl b) (.bool b)
  | int (i : Int) : Dq K H (.int i) (.int i)
  | str (x : Str) : Dq K H (.str x) (.str x)
  | lst {a : Addr} {vs : List V} {ds : List PyData} : SqL K H a vs → DqAll K H vs ds → Dq K H (.ref a) (.list ds)
  | tup {a : Addr} {vs : List V} {ds : List PyData} : SqT K H a vs → DqAll K H vs ds → Dq K H (.ref a) (.tuple ds)
  | dct {a : Addr} {kvs : List (Key × V)} {ps : List (PyData × PyData)} : H a = some (.dK kvs) → DqKV K H kvs ps → Dq K H (.ref a) (.dict ps)
inductive DqAll (K : PySem.W.Frag) (H : Hp) : List V → List PyData → Prop
  | nil : DqAll K H [] []
  | cons {v : V} {vs : List V} {d : PyData} {ds : List PyData} : Dq K H v d → DqAll K H vs ds → DqAll K H (v :: vs) (d :: ds)
inductive DqKV (K : PySem.W.Frag) (H : Hp) : List (Key × V) → List (PyData × PyData) → Prop
  | nil : DqKV K H [] []
  | cons {k : Key} {v : V} {kvs : List (Key × V)} {d : PyData} {ps : List (PyData × PyData)} : Dq K H v d → DqKV K H kvs ps → DqKV K H ((k, v) :: kvs) ((keyD k, d) :: ps)
end
mutual
theorem Dq.dp {K : PySem.W.Frag} {F : Hp} : ∀ (d : PyData) {v : V}, d.plain = true → Dq K F v d → Dp K F v d
  | .none, _, _, h => by cases h; exact .non
  | .bool _, _, _, h => by cases h; exact .bl _
  | .int _, _, _, h => by cases h; exact .int _
  | .str _, _, _, h => by cases h; exact .str _
  | .list ds, _, p, h => by
    have p : PyData.plainAll ds = true := by simpa [PyData.plain] using p
    cases h with
    | lst h1 h2 => exact .lst h1 (DqAll.dp ds p h2)
  | .tuple ds, _, p, h => by
    have p : PyData.plainAll ds = true := by simpa [PyData.plain] using p
    cases h with
    | tup h1 h2 => exact .tup h1 (DqAll.dp ds p h2)
  | .dict _, _, p, h => by simp [PyData.plain] at p
theorem DqAll.dp {K : PySem.W.Frag} {F : Hp} : ∀ (ds : List PyData) {vs : List V}, PyData.plainAll ds = true → DqAll K F vs ds → DpAll K F vs ds
  | [], _, _, h => by cases h; exact .nil
  | d :: ds, _, p, h => by
    simp only [PyData.plainAll, Bool.and_eq_true] at p
    cases h with
    | cons h1 h2 => exact .cons (Dq.dp d p.1 h1) (DqAll.dp ds p.2 h2)
end
/-! ### states -/
/-- what is known from the start: the written part, the tables of code objects, data -/
structure KF where
  K : PySem.W.Frag
  T : List (Addr × Str)
  F0 : Hp
  M0 : List Addr
abbrev KB (K : PySem.W.Frag) (T : List (Addr × Str)) : KF := ⟨K, T, fun _ => none, []⟩
abbrev KF.base (K : KF) : KF := KB K.K K.T
instance : Coe KF PySem.W.Frag := ⟨KF.K⟩
/-- the table at P: each code object that it tells is known, and bears the name q -/
def TabF (F H : Hp) (P : Addr) (q : Str) : Prop := F P = none ∧ ∃ ps : Array Value, H P = some (.tbl ps) ∧ TriplesOk ps.toList ∧ ∀ (pos : Pos) (cv : Value), codeAmong pos ps.toList = some cv → ∃ c, cv = .ref c ∧ F c = some (LamX.CodeO c q)
theorem TabF.up {F G H J : Hp} {P : Addr} {q : Str} (h : TabF F H P q) (e : Ex F G) (n : F P = none → G P = none) (k : ∀ ps, H P = some (.tbl ps) → J P = some (.tbl ps)) : TabF G J P q := by
  obtain ⟨h0, ps, h1, h2, h3⟩ := h
  refine ⟨n h0, ps, k ps h1, h2, fun pos cv hc => ?_⟩
  obtain ⟨c, e1, e2⟩ := h3 pos cv hc
  exact ⟨c, e1, e _ _ e2⟩
theorem TabF.upN {F H : Hp} {P p : Addr} {q : Str} {o : HO} (h : TabF F H P q) (hf : F p = none) (hp : H p = none) : TabF (upd F p o) (upd H p o) P q :=
  have ne : P ≠ p := fun z => by
    obtain ⟨_, _, h1, _⟩ := h
    rw [z, hp] at h1; cases h1
  h.up (Ex.new hf) (fun e => (upd_ne ne).trans e) fun ps e => Ex.new hp _ _ e
theorem TabF.upL {F H : Hp} {P a : Addr} {q : Str} {o : HO} {ws : List V} (h : TabF F H P q) (hf : F a = none) (e1 : H a = some (.lst ws)) : TabF (upd F a o) H P q :=
  have ne : P ≠ a := fun z => by
    obtain ⟨_, _, h1, _⟩ := h
    rw [z, e1] at h1; cases h1
  h.up (Ex.new hf) (fun e => (upd_ne ne).trans e) fun _ e => e
/-- F: the data that stand still; H: all that is tracked; mu: where the local lists stand -/
structure S3 where
  F : Hp
  H : Hp
  mu : List Addr
structure SR (K : KF) (s : S3) (A : List AO) : Prop where
  sub : Ex s.F s.H
  dis : ∀ a ∈ s.mu, s.F a = none
  nd : s.mu.Nodup
  len : s.mu.length = A.length
  on : ∀ a ∈ s.mu, ∃ o, s.H a = some o
  obj : ∀ (i : Nat) (a : Addr) (xs : List PyData), s.mu[i]? = some a → A[i]? = some (.lst xs) → ∃ vs, s.H a = some (.lst vs) ∧ DqAll K s.F vs xs
  tb : ∀ p ∈ K.T, TabF s.F s.H p.1 p.2
  bs : Ex K.F0 s.F
  mb : ∃ nu, s.mu = K.M0 ++ nu
structure Post (s t : S3) : Prop where
  fx : Ex s.F t.F
  fnew : ∀ a o, t.F a = some o → s.F a = some o ∨ s.H a = none
  pre : ∃ nu, t.mu = s.mu ++ nu ∧ ∀ a ∈ nu, s.H a = none
  keep : ∀ a o, s.H a = some o → a ∉ s.mu → (∀ ps, o ≠ .tbl ps) → t.H a = some o
  dom : ∀ a, t.H a = none → s.H a = none
theorem Post.refl (s : S3) : Post s s := ⟨Ex.refl _, fun _ _ h => .inl h, ⟨[], by simp, by simp⟩, fun _ _ h _ _ => h, fun _ h => h⟩
theorem Post.trans {s t u : S3} (p : Post s t) (q : Post t u) : Post s u := by
  obtain ⟨nu, e1, n1⟩ := p.pre
  obtain ⟨nu', e2, n2⟩ := q.pre
  refine ⟨p.fx.trans q.fx, fun a o h => ?_, ⟨nu ++ nu', by rw [e2, e1, List.append_assoc], fun a ha => ?_⟩, fun a o h hm ht => ?_, fun a h => p.dom a (q.dom a h)⟩
  · rcases q.fnew a o h with h | h
    · exact p.fnew a o h
    · exact .inr (p.dom a h)
  · rcases List.mem_append.mp ha with h | h
    · exact n1 a h
    · exact p.dom a (n2 a h)
  · refine q.keep a o (p.keep a o h hm ht) (fun hm2 => ?_) ht
    rw [e1] at hm2
    rcases List.mem_append.mp hm2 with z | z
    · exact hm z
    · rw [n1 a z] at h; cases h
theorem Post.mu_get {s t : S3} (p : Post s t) {i : Nat} {a : Addr} (h : s.mu[i]? = some a) : t.mu[i]? = some a := by
  obtain ⟨nu, e, _⟩ := p.pre
  rw [e, List.getElem?_append_left (List.getElem?_eq_some_iff.mp h).1]
  exact h

/-! ### data -/
mutual
theorem Dq.up' {K : PySem.W.Frag} {F G : Hp} (e : Ex F G) : ∀ {v : V} {d : PyData}, Dq K F v d → Dq K G v d
  | _, _, .non => .non
  | _, _, .bl b => .bl b
  | _, _, .int i => .int i
  | _, _, .str x => .str x
  | _, _, .lst h1 h2 => .lst (ex_l e h1) (DqAll.up' e h2)
  | _, _, .tup h1 h2 => .tup (ex_t e h1) (DqAll.up' e h2)
  | _, _, .dct h1 h2 => .dct (e _ _ h1) (DqKV.up' e h2)
theorem DqAll.up' {K : PySem.W.Frag} {F G : Hp} (e : Ex F G) : ∀ {vs : List V} {ds : List PyData}, DqAll K F vs ds → DqAll K G vs ds
  | _, _, .nil => .nil
  | _, _, .cons h1 h2 => .cons (Dq.up' e h1) (DqAll.up' e h2)
theorem DqKV.up' {K : PySem.W.Frag} {F G : Hp} (e : Ex F G) : ∀ {vs : List (Key × V)} {ds : List (PyData × PyData)}, DqKV K F vs ds → DqKV K G vs ds
  | _, _, .nil => .nil
  | _, _, .cons h1 h2 => .cons (Dq.up' e h1) (DqKV.up' e h2)
end
theorem Dq.up {K : PySem.W.Frag} {F G : Hp} (e : Ex F G) (d : PyData) {v : V} (h : Dq K F v d) : Dq K G v d := Dq.up' e h
theorem DqAll.up {K : PySem.W.Frag} {F G : Hp} (e : Ex F G) (ds : List PyData) {vs : List V} (h : DqAll K F vs ds) : DqAll K G vs ds := DqAll.up' e h
section
variable {K : PySem.W.Frag} {F : Hp}
theorem DqAll.length : ∀ {vs : List V} {ds : List PyData}, DqAll K F vs ds → vs.length = ds.length
  | _, _, .nil => rfl
  | _, _, .cons _ t => by simp [DqAll.length t]
theorem DqAll.get : ∀ {vs : List V} {ds : List PyData} {i : Nat} {d : PyData}, DqAll K F vs ds → ds[i]? = some d → ∃ v, vs[i]? = some v ∧ Dq K F v d
  | _, _, _, _, .nil, e => by simp at e
  | _, _, 0, _, .cons h _, e => by simp at e; subst e; exact ⟨_, rfl, h⟩
  | _, _, i + 1, d, .cons _ t, e => by
    obtain ⟨v, h1, h2⟩ := DqAll.get (i := i) (d := d) t (by simpa using e)
    exact ⟨v, by simpa using h1, h2⟩
theorem DqAll.getV : ∀ {vs : List V} {ds : List PyData} {i : Nat} {v : V}, DqAll K F vs ds → vs[i]? = some v → ∃ d, ds[i]? = some d ∧ Dq K F v d
  | _, _, _, _, .nil, e => by simp at e
  | _, _, 0, _, .cons h _, e => by simp at e; subst e; exact ⟨_, rfl, h⟩
  | _, _, i + 1, d, .cons _ t, e => by
    obtain ⟨v, h1, h2⟩ := DqAll.getV (i := i) t (by simpa using e)
    exact ⟨v, by simpa using h1, h2⟩
theorem DqAll.app : ∀ {vs ws : List V} {ds es : List PyData}, DqAll K F vs ds → DqAll K F ws es → DqAll K F (vs ++ ws) (ds ++ es)
  | _, _, _, _, .nil, h => h
  | _, _, _, _, .cons a t, h => .cons a (DqAll.app t h)
theorem DqAll.set : ∀ {vs : List V} {ds : List PyData} (i : Nat) {v : V} {d : PyData}, DqAll K F vs ds → Dq K F v d → DqAll K F (vs.set i v) (ds.set i d)
  | _, _, _, _, _, .nil, _ => .nil
  | _, _, 0, _, _, .cons _ t, h => .cons h t
  | _, _, i + 1, _, _, .cons a t, h => .cons a (DqAll.set i t h)
theorem DqAll.take : ∀ {vs : List V} {ds : List PyData} (n : Nat), DqAll K F vs ds → DqAll K F (vs.take n) (ds.take n)
  | _, _, 0, _ => .nil
  | _, _, _ + 1, .nil => .nil
  | _, _, n + 1, .cons a t => .cons a (DqAll.take n t)
theorem DqAll.drop : ∀ {vs : List V} {ds : List PyData} (n : Nat), DqAll K F vs ds → DqAll K F (vs.drop n) (ds.drop n)
  | _, _, 0, h => h
  | _, _, _ + 1, .nil => .nil
  | _, _, n + 1, .cons _ t => DqAll.drop n t
theorem DqAll.flat : ∀ (k : Nat) {vs : List V} {ds : List PyData}, DqAll K F vs ds → DqAll K F (List.replicate k vs).flatten (List.replicate k ds).flatten
  | 0, _, _, _ => .nil
  | k + 1, _, _, h => by
    rw [List.replicate_succ, List.replicate_succ, List.flatten_cons, List.flatten_cons]
    exact DqAll.app h (DqAll.flat k h)
theorem DqAll.ints : ∀ {vs : List V} {ns : List Int}, DqAll K F vs (ns.map PyData.int) → vs = ns.map V.int
  | _, [], h => by cases h; rfl
  | _, n :: ns, h => by
    cases h with
    | cons a t => cases a; rw [DqAll.ints t]; rfl
theorem DqAll.ofInts : ∀ (ns : List Int), DqAll K F (ns.map V.int) (ns.map PyData.int)
  | [] => .nil
  | n :: ns => .cons (.int n) (DqAll.ofInts ns)
theorem DqAll.bls : ∀ {vs : List V} {bs : List Bool}, DqAll K F vs (bs.map PyData.bool) → vs = bs.map V.bl
  | _, [], h => by cases h; rfl
  | _, n :: ns, h => by
    cases h with
    | cons a t => cases a; rw [DqAll.bls t]; rfl
end

/-- what stands for a slot's value -/
def RV (K : PySem.W.Frag) (s : S3) : SV → V → Prop
  | .dat d, v => Dq K s.F v d
  | .ref i, v => ∃ a, v = .ref a ∧ s.mu[i]? = some a
  | .adr a, v => v = .ref a
theorem RV.up {K : PySem.W.Frag} {s t : S3} {v : V} {x : SV} (p : Post s t) (h : RV K s x v) : RV K t x v := by
  cases x with
  | dat d => exact Dq.up p.fx d h
  | ref i => obtain ⟨a, e, h⟩ := h; exact ⟨a, e, p.mu_get h⟩
  | adr a => exact h
def RVs (K : PySem.W.Frag) (s : S3) : List SV → List V → Prop
  | [], vs => vs = []
  | x :: xs, vs => ∃ v r, vs = v :: r ∧ RV K s x v ∧ RVs K s xs r
theorem RVs.up {K : PySem.W.Frag} {s t : S3} (p : Post s t) : ∀ {xs : List SV} {vs : List V}, RVs K s xs vs → RVs K t xs vs
  | [], _, h => h
  | _ :: _, _, ⟨v, r, e, h1, h2⟩ => ⟨v, r, e, h1.up p, RVs.up p h2⟩
theorem RVs.length {K : PySem.W.Frag} {s : S3} : ∀ {xs : List SV} {vs : List V}, RVs K s xs vs → vs.length = xs.length
  | [], _, h => by rw [show _ = [] from h]; rfl
  | _ :: _, _, ⟨v, r, e, h1, h2⟩ => by rw [e]; simp [RVs.length h2]

/-- the slots -/
structure RSt (K : PySem.W.Frag) (s : S3) (d : DSt) (σ : L2.St) : Prop where
  len : d.length = σ.length
  val : ∀ (i : Nat) (x : SV), d[i]? = some (some x) → ∃ v, σ[i]? = some (some v) ∧ RV K s x v
theorem RSt.up {K : PySem.W.Frag} {s t : S3} {d : DSt} {σ : L2.St} (p : Post s t) (h : RSt K s d σ) : RSt K t d σ :=
  ⟨h.len, fun i x e => let ⟨v, e1, r⟩ := h.val i x e; ⟨v, e1, r.up p⟩⟩
theorem RSt.set {K : PySem.W.Frag} {s : S3} {d : DSt} {σ : L2.St} {x : SV} {v : V} (h : RSt K s d σ) (i : Nat) (r : RV K s x v) : RSt K s (d.set i (some x)) (σ.set i (some v)) := by
  refine ⟨by simp [h.len], fun j y e => ?_⟩
  by_cases hj : i = j
  · subst hj
    by_cases hl : i < d.length
    · rw [List.getElem?_set_self hl] at e
      cases e
      exact ⟨v, List.getElem?_set_self (by rw [← h.len]; exact hl), r⟩
    · rw [List.getElem?_eq_none (by simpa using hl)] at e; cases e
  · rw [List.getElem?_set_ne hj] at e
    obtain ⟨v', e1, r'⟩ := h.val j y e
    exact ⟨v', by rw [List.getElem?_set_ne hj]; exact e1, r'⟩
theorem RSt.unset {K : PySem.W.Frag} {s : S3} {d : DSt} {σ : L2.St} (h : RSt K s d σ) (i : Nat) : RSt K s (d.set i none) (σ.set i none) := by
  refine ⟨by simp [h.len], fun j y e => ?_⟩
  by_cases hj : i = j
  · subst hj
    by_cases hl : i < d.length
    · rw [List.getElem?_set_self hl] at e
      cases e
    · rw [List.getElem?_eq_none (by simpa using hl)] at e; cases e
  · rw [List.getElem?_set_ne hj] at e
    obtain ⟨v', e1, r'⟩ := h.val j y e
    exact ⟨v', by rw [List.getElem?_set_ne hj]; exact e1, r'⟩
def dwipe (d : DSt) : List Nat → DSt
  | [] => d
  | v :: vs => (dwipe d vs).set v none
theorem RSt.wipe {K : PySem.W.Frag} {s : S3} {d : DSt} {σ : L2.St} (h : RSt K s d σ) : ∀ vs : List Nat, RSt K s (dwipe d vs) (L2.wipe σ vs)
  | [] => h
  | v :: vs => (RSt.wipe h vs).unset v

/-! ### steps of a state -/
section
variable {K : KF} {s : S3} {A : List AO} {p : Addr}
theorem SR.nomu (h : SR K s A) (hp : s.H p = none) : p ∉ s.mu := fun z => by
  obtain ⟨o, e⟩ := h.on p z
  rw [hp] at e; cases e
theorem SR.nof (h : SR K s A) (hp : s.H p = none) : s.F p = none := by
  cases e : s.F p with
  | none => rfl
  | some o => rw [h.sub p o e] at hp; cases hp
theorem ex_upd {H : Hp} {o : HO} (hp : H p = none) : Ex H (upd H p o) := Ex.new hp
/-- new data -/
abbrev S3.newF (s : S3) (p : Addr) (o : HO) : S3 := ⟨upd s.F p o, upd s.H p o, s.mu⟩
theorem Post.newF (h : SR K s A) (hp : s.H p = none) (o : HO) : Post s (s.newF p o) := by
  refine ⟨Ex.new (h.nof hp), fun a u e => ?_, ⟨[], by simp, by simp⟩, fun a u e _ _ => Ex.new hp a u e, fun a e => ?_⟩
  · by_cases ha : a = p
    · subst ha; exact .inr hp
    · exact .inl (by rw [← e]; exact (upd_ne ha).symm)
  · by_cases ha : a = p
    · subst ha; exact hp
    · rw [← e]; exact (upd_ne ha).symm
theorem SR.newF (h : SR K s A) (hp : s.H p = none) (o : HO) : SR K (s.newF p o) A := by
  have np := h.nomu hp
  refine ⟨fun a u e => ?_, fun a ha => ?_, h.nd, h.len, fun a ha => ?_, fun i a xs e1 e2 => ?_, fun q hq => (h.tb q hq).upN (h.nof hp) hp, h.bs.trans (Ex.new (h.nof hp)), h.mb⟩
  · show upd s.H p o a = some u
    have e : upd s.F p o a = some u := e
    by_cases hap : a = p
    · subst hap; rw [upd_same] at e ⊢; exact e
    · rw [upd_ne hap] at e ⊢; exact h.sub a u e
  · show upd s.F p o a = none
    rw [upd_ne (fun (z : a = p) => np (z ▸ ha))]; exact h.dis a ha
  · obtain ⟨u, e⟩ := h.on a ha
    exact ⟨u, Ex.new hp a u e⟩
  · obtain ⟨vs, e3, e4⟩ := h.obj i a xs e1 e2
    exact ⟨vs, Ex.new hp a _ e3, DqAll.up (Ex.new (h.nof hp)) xs e4⟩
theorem SR.newTup (h : SR K s A) (hp : s.H p = none) {vs : List V} {ds : List PyData} (r : DqAll K s.F vs ds) : Dq K (s.newF p (.tup vs)).F (.ref p) (.tuple ds) :=
  .tup (st_of upd_same) (DqAll.up (Ex.new (h.nof hp)) ds r)
theorem SR.newLst (h : SR K s A) (hp : s.H p = none) {vs : List V} {ds : List PyData} (r : DqAll K s.F vs ds) : Dq K (s.newF p (.lst vs)).F (.ref p) (.list ds) :=
  .lst (sq_of upd_same) (DqAll.up (Ex.new (h.nof hp)) ds r)
/-- a new local list -/
abbrev S3.newM (s : S3) (p : Addr) (vs : List V) : S3 := ⟨s.F, upd s.H p (.lst vs), s.mu ++ [p]⟩
theorem Post.newM (hp : s.H p = none) (vs : List V) : Post s (s.newM p vs) := by
  refine ⟨Ex.refl _, fun a u e => .inl e, ⟨[p], rfl, fun a ha => by rw [List.mem_singleton.mp ha]; exact hp⟩, fun a u e _ _ => Ex.new hp a u e, fun a e => ?_⟩
  by_cases ha : a = p
  · subst ha; exact hp
  · rw [← e]; exact (upd_ne ha).symm
theorem SR.newM (h : SR K s A) (hp : s.H p = none) {vs : List V} {ds : List PyData} (r : DqAll K s.F vs ds) : SR K (s.newM p vs) (A ++ [.lst ds]) := by
  have np := h.nomu hp
  refine ⟨fun a u e => Ex.new hp a u (h.sub a u e), fun a ha => ?_, ?_, by simp [h.len], fun a ha => ?_, fun i a xs e1 e2 => ?_, fun q hq => (h.tb q hq).up (Ex.refl _) (fun e => e) fun ps e => Ex.new hp _ _ e, h.bs, let ⟨nu, e⟩ := h.mb; ⟨nu ++ [p], by show s.mu ++ [p] = _; rw [e, List.append_assoc]⟩⟩
  · rcases List.mem_append.mp ha with z | z
    · exact h.dis a z
    · rw [List.mem_singleton.mp z]; exact h.nof hp
  · refine List.nodup_append.mpr ⟨h.nd, by simp, fun a ha b hb => ?_⟩
    rw [List.mem_singleton.mp hb]
    rintro rfl
    exact np ha
  · rcases List.mem_append.mp ha with z | z
    · obtain ⟨u, e⟩ := h.on a z
      exact ⟨u, Ex.new hp a u e⟩
    · rw [List.mem_singleton.mp z]; exact ⟨_, upd_same⟩
  · have e1 : (s.mu ++ [p])[i]? = some a := e1
    by_cases hi : i < s.mu.length
    · rw [List.getElem?_append_left hi] at e1
      rw [List.getElem?_append_left (by rw [← h.len]; exact hi)] at e2
      obtain ⟨ws, e3, e4⟩ := h.obj i a xs e1 e2
      exact ⟨ws, Ex.new hp a _ e3, e4⟩
    · rw [List.getElem?_append_right (by omega)] at e1
      rw [List.getElem?_append_right (by rw [← h.len]; omega)] at e2
      rw [h.len] at e1
      cases hk : i - A.length with
      | zero =>
        rw [hk] at e1 e2
        simp only [List.getElem?_cons_zero, Option.some.injEq] at e1 e2
        cases e2
        subst e1
        exact ⟨vs, upd_same, r⟩
      | succ k => rw [hk] at e1; simp at e1
/-- a local list is changed -/
abbrev S3.mut (s : S3) (l : Addr) (vs : List V) : S3 := ⟨s.F, upd s.H l (.lst vs), s.mu⟩
theorem Post.mut (h : SR K s A) {i : Nat} {l : Addr} (hl : s.mu[i]? = some l) (vs : List V) : Post s (s.mut l vs) := by
  have hm : l ∈ s.mu := List.mem_of_getElem? hl
  refine ⟨Ex.refl _, fun a u e => .inl e, ⟨[], by simp, by simp⟩, fun a u e hn _ => ?_, fun a e => ?_⟩
  · show upd s.H l _ a = _
    rw [upd_ne (fun (z : a = l) => hn (z.symm ▸ hm))]; exact e
  · by_cases ha : a = l
    · subst ha
      have e : upd s.H a (.lst vs) a = none := e
      rw [upd_same] at e; cases e
    · rw [← e]; exact (upd_ne ha).symm
theorem SR.lst (h : SR K s A) {i : Nat} {l : Addr} (hl : s.mu[i]? = some l) : ∃ vs, s.H l = some (.lst vs) := by
  have hi : i < A.length := by rw [← h.len]; exact (List.getElem?_eq_some_iff.mp hl).1
  cases e : A[i] with
  | lst xs =>
    obtain ⟨vs, e1, _⟩ := h.obj i l xs hl (by rw [List.getElem?_eq_getElem hi, e])
    exact ⟨vs, e1⟩
theorem SR.mut (h : SR K s A) {i : Nat} {l : Addr} (hl : s.mu[i]? = some l) {vs : List V} {ds : List PyData} (r : DqAll K s.F vs ds) : SR K (s.mut l vs) (A.set i (.lst ds)) := by
  have hm : l ∈ s.mu := List.mem_of_getElem? hl
  refine ⟨fun a u e => ?_, h.dis, h.nd, by simp [h.len], fun a ha => ?_, fun j a xs e1 e2 => ?_, fun q hq => (h.tb q hq).up (Ex.refl _) (fun e => e) fun ps e => ?_, h.bs, h.mb⟩
  · show upd s.H l _ a = _
    rw [upd_ne (fun z => by rw [z, h.dis l hm] at e; cases e)]
    exact h.sub a u e
  · by_cases z : a = l
    · subst z; exact ⟨_, upd_same⟩
    · obtain ⟨u, e⟩ := h.on a ha
      exact ⟨u, by show upd s.H l _ a = _; rw [upd_ne z]; exact e⟩
  · have e1 : s.mu[j]? = some a := e1
    by_cases hj : i = j
    · subst hj
      rw [hl] at e1
      cases e1
      have hi : i < A.length := by rw [← h.len]; exact (List.getElem?_eq_some_iff.mp hl).1
      rw [List.getElem?_set_self hi] at e2
      cases e2
      exact ⟨vs, upd_same, r⟩
    · rw [List.getElem?_set_ne hj] at e2
      obtain ⟨ws, e3, e4⟩ := h.obj j a xs e1 e2
      have ne : a ≠ l := fun z => by
        subst z
        have h1 := (List.getElem?_eq_some_iff.mp hl).1
        have h2 := (List.getElem?_eq_some_iff.mp e1).1
        have q : s.mu[i] = s.mu[j] := by
          rw [(List.getElem?_eq_some_iff.mp hl).2, (List.getElem?_eq_some_iff.mp e1).2]
        exact hj ((List.getElem_inj h.nd).mp q)
      exact ⟨ws, by show upd s.H l _ a = _; rw [upd_ne ne]; exact e3, e4⟩
  · obtain ⟨o, ho⟩ := h.lst hl
    show upd s.H l _ q.1 = _
    rw [upd_ne (fun z => by rw [z, ho] at e; cases e)]
    exact e
/-- something new that is neither data nor a local list -/
abbrev S3.newH (s : S3) (p : Addr) (o : HO) : S3 := ⟨s.F, upd s.H p o, s.mu⟩
theorem Post.newH (hp : s.H p = none) (o : HO) : Post s (s.newH p o) := by
  refine ⟨Ex.refl _, fun a u e => .inl e, ⟨[], by simp, by simp⟩, fun a u e _ _ => Ex.new hp a u e, fun a e => ?_⟩
  by_cases ha : a = p
  · subst ha; exact hp
  · rw [← e]; exact (upd_ne ha).symm
theorem SR.newH (h : SR K s A) (hp : s.H p = none) (o : HO) : SR K (s.newH p o) A :=
  ⟨fun a u e => Ex.new hp a u (h.sub a u e), h.dis, h.nd, h.len, fun a ha => let ⟨u, e⟩ := h.on a ha; ⟨u, Ex.new hp a u e⟩,
    fun i a xs e1 e2 => let ⟨vs, e3, e4⟩ := h.obj i a xs e1 e2; ⟨vs, Ex.new hp a _ e3, e4⟩, fun q hq => (h.tb q hq).up (Ex.refl _) (fun e => e) fun ps e => Ex.new hp _ _ e, h.bs, h.mb⟩
theorem SR.base (h : SR K s A) : SR K.base s A := ⟨h.sub, h.dis, h.nd, h.len, h.on, h.obj, h.tb, (fun _ _ e => nomatch e), ⟨_, rfl⟩⟩
theorem SR.re {t : S3} {B : List AO} (h : SR K s A) (p : Post s t) (g : SR K.base t B) : SR K t B := ⟨g.sub, g.dis, g.nd, g.len, g.on, g.obj, g.tb, h.bs.trans p.fx, let ⟨nu, e⟩ := h.mb; let ⟨mu, e2, _⟩ := p.pre; ⟨nu ++ mu, by rw [e2, e, List.append_assoc]⟩⟩
end
end Rx
/-! Rx 2: the judgements; expressions. -/
namespace Rx
open PySem L2 PySem.Spec PyProof.Rows Evl

/-- what becomes of an exception; the tables -/
structure WX where
  T : List (Addr × Str)
  F0 : Hp
  M0 : List Addr
  w : EV → L2.St → S3 → Prop
abbrev kf (X : Cx) (W : WX) : KF := ⟨X.K, W.T, W.F0, W.M0⟩
/-- no exception -/
abbrev NoK (K : KF) : WX := ⟨K.T, K.F0, K.M0, fun _ _ _ => False⟩
abbrev WX.no (W : WX) : WX := ⟨W.T, W.F0, W.M0, fun _ _ _ => False⟩
/-- the reading t does what m says -/
def Sim {T U : Type} (K : KF) (W : WX) (rel : S3 → T → U → Prop) (t : L2.St → Hp → (U → Hp → Prop) → Prop) (m : MM T) : Prop :=
  ∀ (s : S3) (A : List AO) (d : DSt) (σ : L2.St) (Q : U → Hp → Prop), SR K s A → RSt K s d σ →
    Good (m d A) (fun x A' => ∀ (t' : S3) (v : U), Post s t' → SR K t' A' → rel t' x v → Q v t'.H) (fun x A' => ∀ t' : S3, Post s t' → SR K t' A' → W.w x σ t') → t σ s.H Q
def same {T : Type} : S3 → T → T → Prop := fun _ a b => a = b

structure RE (X : Cx) (W : WX) (e : Expr) (m : MM SV) : Prop where
  ex : ∃ t, PE X e t ∧ Sim (kf X W) W (RV X.K) t m
structure RT (X : Cx) (W : WX) (e : Expr) (m : MM Bool) : Prop where
  ex : ∃ t, PT X e t ∧ Sim (kf X W) W same t m
structure RW (X : Cx) (W : WX) (e : Expr) (m : MM Bool) : Prop where
  ex : ∃ t, PW X e t ∧ Sim (kf X W) W same t m
structure RA (X : Cx) (W : WX) (es : List Expr) (m : MM (List SV)) : Prop where
  ex : ∃ t, PA X es t ∧ Sim (kf X W) W (RVs X.K) t m
structure RO (X : Cx) (W : WX) (e : Option Expr) (m : MM (Option Int)) : Prop where
  ex : ∃ t, PO X e t ∧ Sim (kf X W) W same t m

/-- one part, then the rest -/
theorem Sim.then {T U T2 U2 : Type} {K : KF} {W : WX} {rel : S3 → T → U → Prop} {rel2 : S3 → T2 → U2 → Prop} {ta : L2.St → Hp → (U → Hp → Prop) → Prop} {ma : MM T} {k : T → List AO → RR T2} (ha : Sim K W rel ta ma)
    {s : S3} {A : List AO} {d : DSt} {σ : L2.St} {Q : U2 → Hp → Prop} {R : U → Hp → Prop} (hs : SR K s A) (hσ : RSt K s d σ)
    (h : Good ((ma d A).bind k) (fun x A' => ∀ (t' : S3) (v : U2), Post s t' → SR K t' A' → rel2 t' x v → Q v t'.H) (fun x A' => ∀ t' : S3, Post s t' → SR K t' A' → W.w x σ t'))
    (hk : ∀ (x : T) (A1 : List AO) (s1 : S3) (v : U), Post s s1 → SR K s1 A1 → rel s1 x v → RSt K s1 d σ →
      Good (k x A1) (fun y A' => ∀ (t' : S3) (u : U2), Post s1 t' → SR K t' A' → rel2 t' y u → Q u t'.H) (fun x A' => ∀ t' : S3, Post s1 t' → SR K t' A' → W.w x σ t') → R v s1.H) : ta σ s.H R := by
  refine ha s A d σ R hs hσ (Good.mono (Good.bind h) (fun x A1 g s1 v p1 r1 q1 => hk x A1 s1 v p1 r1 q1 (hσ.up p1) (Good.mono g (fun y A' f t' u p2 => f t' u (p1.trans p2)) (fun y A' f t' p2 => f t' (p1.trans p2)))) (fun x A1 g => g))

/-! ### names, constants -/
def mVar (i : Nat) : MM SV := fun d A => match d[i]? with
  | some (some x) => .ok x A
  | _ => .bad
def mC (x : SV) : MM SV := fun _ A => .ok x A
section
variable {X : Cx} {W : WX}
theorem re_var {i : Nat} {x : Str} {pos : Pos} (hN : X.N[i]? = some x) (hv : Vis X.env.scope x) (hd : (x == ("__debug__" : Str)) = false := by decide) (hcd : (x == ("__classdict__" : Str)) = false := by decide) : RE X W (.Name x pos) (mVar i) := by
  refine ⟨_, pe_var hN hv hd hcd, fun s A d σ Q hs hσ h => ?_⟩
  unfold mVar at h
  split at h
  · rename_i y e
    obtain ⟨v, e1, r⟩ := hσ.val i y e
    exact ⟨v, e1, h s v (Post.refl s) hs r⟩
  · exact h.elim
theorem sim_c {K : KF} {v : V} {x : SV} (r : ∀ s, RV K s x v) : Sim K W (RV K) (tC v) (mC x) := fun s _ _ _ _ hs _ h => h s v (Post.refl s) hs (r s)
theorem re_int {i j pos} : RE X W (.Constant (.int i) j pos) (mC (.dat (.int i))) := ⟨_, pe_int, sim_c fun _ => .int i⟩
theorem re_bl {i j pos} : RE X W (.Constant (.bool i) j pos) (mC (.dat (.bool i))) := ⟨_, pe_bl, sim_c fun _ => .bl i⟩
theorem re_non {j pos} : RE X W (.Constant .none j pos) (mC (.dat .none)) := ⟨_, pe_non, sim_c fun _ => .non⟩
theorem re_str {x j pos} : RE X W (.Constant (.str x) j pos) (mC (.dat (.str x))) := ⟨_, pe_str, sim_c fun _ => .str x⟩
/-- a constant of the module: an int, a text -/
theorem re_gint {x : Str} {i : Int} {t : Tok} {pos : Pos} (hg : Gl X x) (hm : X.mg x = some (.int i t)) (hd : (x == ("__debug__" : Str)) = false := by decide) : RE X W (.Name x pos) (mC (.dat (.int i))) :=
  ⟨_, pe_glob (v := .int i) hg hm ⟨t, rfl⟩ hd, sim_c fun _ => .int i⟩
theorem re_gstr {x : Str} {i : Str} {t : Tok} {pos : Pos} (hg : Gl X x) (hm : X.mg x = some (.str i t)) (hd : (x == ("__debug__" : Str)) = false := by decide) : RE X W (.Name x pos) (mC (.dat (.str i))) :=
  ⟨_, pe_glob (v := .str i) hg hm ⟨t, rfl⟩ hd, sim_c fun _ => .str i⟩
end

/-! ### operators by values -/
abbrev F2 := SV → SV → List AO → RR SV
abbrev F1 := SV → List AO → RR SV
abbrev FL := List SV → List AO → RR SV
abbrev NoX : EV → List AO → Prop := fun _ _ => False
def OpS (K : KF) (r : R2) (f : F2) : Prop := ∀ (s : S3) (A : List AO) (dx dy : SV) (x y : V) (Q : VK), SR K s A → RV K s dx x → RV K s dy y →
  Good (f dx dy A) (fun z A' => ∀ (t : S3) v, Post s t → SR K t A' → RV K t z v → Q v t.H) NoX → r x y s.H Q
def UnS (K : KF) (r : V → Hp → VK → Prop) (f : F1) : Prop := ∀ (s : S3) (A : List AO) (dx : SV) (x : V) (Q : VK), SR K s A → RV K s dx x →
  Good (f dx A) (fun z A' => ∀ (t : S3) v, Post s t → SR K t A' → RV K t z v → Q v t.H) NoX → r x s.H Q
def CaS (K : KF) (r : List V → Hp → VK → Prop) (f : FL) : Prop := ∀ (s : S3) (A : List AO) (dx : List SV) (x : List V) (Q : VK), SR K s A → RVs K s dx x →
  Good (f dx A) (fun z A' => ∀ (t : S3) v, Post s t → SR K t A' → RV K t z v → Q v t.H) NoX → r x s.H Q
/-- a function of values raises nothing here -/
def RR.quiet {T : Type} (r : RR T) : RR T := match r with
  | .ok a A => .ok a A
  | _ => .bad
theorem Good.quiet {T : Type} {r : RR T} {P : T → List AO → Prop} {E : EV → List AO → Prop} (h : Good r.quiet P E) : Good r P NoX := by
  cases r with
  | ok a A => exact h
  | exc x A => exact h.elim
  | bad => exact h.elim
def mOp (f : F2) (a b : MM SV) : MM SV := fun d A => (a d A).bind fun x A1 => (b d A1).bind fun y A2 => (f x y A2).quiet
def mUn (f : F1) (a : MM SV) : MM SV := fun d A => (a d A).bind fun x A1 => (f x A1).quiet
def mCall (f : FL) (a : MM (List SV)) : MM SV := fun d A => (a d A).bind fun x A1 => (f x A1).quiet
section
variable {X : Cx} {W : WX} {K : KF}
theorem sim_op {r : R2} {f : F2} {ta tb : TE} {ma mb : MM SV} (hf : OpS K r f) (ha : Sim K W (RV K) ta ma) (hb : Sim K W (RV K) tb mb) : Sim K W (RV K) (tOp r ta tb) (mOp f ma mb) := fun s A d σ Q hs hσ h =>
  ha.then hs hσ h fun x A1 s1 v p1 hs1 r1 hσ1 h1 => hb.then hs1 hσ1 h1 fun y A2 s2 u p2 hs2 r2 _ h2 =>
    hf s2 A2 x y v u Q hs2 (r1.up p2) r2 (Good.quiet h2)
theorem sim_un {r : V → Hp → VK → Prop} {f : F1} {ta : TE} {ma : MM SV} (hf : UnS K r f) (ha : Sim K W (RV K) ta ma) : Sim K W (RV K) (tUn r ta) (mUn f ma) := fun s A d σ Q hs hσ h =>
  ha.then hs hσ h fun x A1 s1 v p1 hs1 r1 hσ1 h1 => hf s1 A1 x v Q hs1 r1 (Good.quiet h1)
theorem sim_cb {r : List V → Hp → VK → Prop} {f : FL} {ta : TA} {ma : MM (List SV)} (hf : CaS K r f) (ha : Sim K W (RVs K) ta ma) : Sim K W (RV K) (tCB r ta) (mCall f ma) := fun s A d σ Q hs hσ h =>
  ha.then hs hσ h fun x A1 s1 v p1 hs1 r1 hσ1 h1 => hf s1 A1 x v Q hs1 r1 (Good.quiet h1)
theorem re_op {op : Operator} {a b : Expr} {pos : Pos} {r : R2} {f : F2} {ma mb : MM SV} (ho : OpR X (binaryOp op) r) (hf : OpS (kf X W) r f) (ha : RE X W a ma) (hb : RE X W b mb) : RE X W (.BinOp a op b pos) (mOp f ma mb) := by
  obtain ⟨ta, pa, sa⟩ := ha
  obtain ⟨tb, pb, sb⟩ := hb
  exact ⟨_, pe_op ho pa pb, sim_op hf sa sb⟩
theorem re_un {op : UnaryOp} {a : Expr} {pos : Pos} {r : V → Hp → VK → Prop} {f : F1} {ma : MM SV} (ho : UnR X (unaryOp op) r) (hf : UnS (kf X W) r f) (ha : RE X W a ma) : RE X W (.UnaryOp op a pos) (mUn f ma) := by
  obtain ⟨ta, pa, sa⟩ := ha
  exact ⟨_, pe_un ho pa, sim_un hf sa⟩
theorem re_cmp {op : CmpOp} {a b : Expr} {pos : Pos} {r : R2} {f : F2} {ma mb : MM SV} (ho : OpR X (compareOp op) r) (hf : OpS (kf X W) r f) (ha : RE X W a ma) (hb : RE X W b mb) (hm : behindInMarks op b = false) : RE X W (.Compare a [op] [b] pos) (mOp f ma mb) := by
  obtain ⟨ta, pa, sa⟩ := ha
  obtain ⟨tb, pb, sb⟩ := hb
  exact ⟨_, pe_cmpR ho pa pb hm, sim_op hf sa sb⟩
/-- a bool -/
def isB : SV → List AO → RR Bool
  | .dat (.bool b), A => .ok b A
  | _, _ => .bad
def mB (a : MM SV) : MM Bool := fun d A => (a d A).bind isB
theorem sim_b {ta : TE} {ma : MM SV} (ha : Sim K W (RV K) ta ma) : Sim K W same (fun σ H Q => ta σ H fun x H1 => ∃ k, x = .bl k ∧ Q k H1) (mB ma) := fun s A d σ Q hs hσ h =>
  ha.then hs hσ h fun x A1 s1 v p1 hs1 r1 hσ1 h1 => by
    unfold isB at h1
    split at h1
    · cases r1
      exact ⟨_, rfl, h1 s1 _ (Post.refl _) hs1 rfl⟩
    · exact h1.elim
theorem rt_cmp {op : CmpOp} {a b : Expr} {pos : Pos} {r : R2} {f : F2} {ma mb : MM SV} (ho : OpR X (compareOp op) r) (hf : OpS (kf X W) r f) (ha : RE X W a ma) (hb : RE X W b mb) (hm : behindInMarks op b = false) : RT X W (.Compare a [op] [b] pos) (mB (mOp f ma mb)) := by
  obtain ⟨ta, pa, sa⟩ := ha
  obtain ⟨tb, pb, sb⟩ := hb
  exact ⟨_, pt_cmpR ho pa pb hm, sim_b (sim_op hf sa sb)⟩
theorem rt_val {e : Expr} {m : MM SV} (h : RE X W e m) (he : ∀ whole, isTrue e X.env whole = (do let v ← whole; standAt e.pos; holding [v] (truthy v)) := by intro _; rfl) : RT X W e (mB m) := by
  obtain ⟨t, p, s⟩ := h
  exact ⟨_, pt_val p he, sim_b s⟩
theorem RW.rt {e : Expr} {m : MM Bool} (h : RW X W e m) : RT X W e m := let ⟨t, p, s⟩ := h.ex; ⟨t, p.pt, s⟩

theorem Good.qb {T U : Type} {r : RR T} {k : T → List AO → RR U} {P : U → List AO → Prop} {E : EV → List AO → Prop} (h : Good (r.quiet.bind k) P E) : Good r (fun a A => Good (k a A) P E) NoX := by
  cases r with
  | ok a A => exact h
  | exc x A => exact h.elim
  | bad => exact h.elim
/-! chains of two -/
def mChain (f g : F2) (a b c : MM SV) : MM SV := fun d A => (a d A).bind fun x A1 => (b d A1).bind fun y A2 => (f x y A2).quiet.bind fun z A3 => (isB z A3).bind fun k A4 =>
  if k = true then (c d A4).bind fun w A5 => (g y w A5).quiet else .ok (.dat (.bool false)) A4
theorem isB_elim {z : SV} {A : List AO} {T : Type} {k : Bool → List AO → RR T} {P : T → List AO → Prop} {E : EV → List AO → Prop} (h : Good ((isB z A).bind k) P E) : ∃ b, z = .dat (.bool b) ∧ Good (k b A) P E := by
  unfold isB at h
  split at h
  · exact ⟨_, rfl, h⟩
  · exact h.elim
theorem sim_chain {r r' : R2} {f g : F2} {ta tb tc : TE} {ma mb mc : MM SV} (hf : OpS K r f) (hg : OpS K r' g) (ha : Sim K W (RV K) ta ma) (hb : Sim K W (RV K) tb mb) (hc : Sim K W (RV K) tc mc) : Sim K W (RV K) (tChain r r' ta tb tc) (mChain f g ma mb mc) := fun s A d σ Q hs hσ h =>
  ha.then hs hσ h fun x A1 s1 v p1 hs1 r1 hσ1 h1 => hb.then hs1 hσ1 h1 fun y A2 s2 u p2 hs2 r2 hσ2 h2 => by
    refine hf s2 A2 x y v u _ hs2 (r1.up p2) r2 (Good.mono (Good.qb h2) (fun z A3 h3 s3 zv p3 hs3 r3 => ?_) (fun _ _ z => z))
    obtain ⟨b, rfl, h4⟩ := isB_elim h3
    cases r3
    refine ⟨b, rfl, ?_⟩
    cases b with
    | true =>
      show tc σ s3.H _
      have h4 : Good ((mc d A3).bind fun w A5 => (g y w A5).quiet) _ _ := h4
      refine hc.then hs3 (hσ2.up p3) (Good.mono h4 (fun _ _ q t' v' pp => q t' v' (p3.trans pp)) (fun _ _ q t' pp => q t' (p3.trans pp))) fun w A5 s5 wv p5 hs5 r5 _ h5 => ?_
      exact hg s5 A5 y w u wv Q hs5 ((r2.up p3).up p5) r5 (Good.quiet h5)
    | false =>
      show Q (.bl false) s3.H
      have h4 : Good (RR.ok (SV.dat (PyData.bool false)) A3) _ _ := h4
      exact h4 s3 _ p3 hs3 (.bl false)
theorem re_chain {op op' : CmpOp} {a b c : Expr} {pos : Pos} {r r' : R2} {f g : F2} {ma mb mc : MM SV} (ho : OpR X (compareOp op) r) (ho' : OpR X (compareOp op') r') (hf : OpS (kf X W) r f) (hg : OpS (kf X W) r' g) (ha : RE X W a ma) (hb : RE X W b mb) (hc : RE X W c mc)
    (hm : lastMarks [op, op'] [b, c] = false := by rfl) : RE X W (.Compare a [op, op'] [b, c] pos) (mChain f g ma mb mc) := by
  obtain ⟨ta, pa, sa⟩ := ha
  obtain ⟨tb, pb, sb⟩ := hb
  obtain ⟨tc, pc, sc⟩ := hc
  exact ⟨_, pe_chain ho ho' pa pb pc (hm := hm), sim_chain hf hg sa sb sc⟩
theorem rt_chain {op op' : CmpOp} {a b c : Expr} {pos : Pos} {r r' : R2} {f g : F2} {ma mb mc : MM SV} (ho : OpR X (compareOp op) r) (ho' : OpR X (compareOp op') r') (hf : OpS (kf X W) r f) (hg : OpS (kf X W) r' g) (ha : RE X W a ma) (hb : RE X W b mb) (hc : RE X W c mc)
    (hm : lastMarks [op, op'] [b, c] = false := by rfl) : RT X W (.Compare a [op, op'] [b, c] pos) (mB (mChain f g ma mb mc)) := by
  obtain ⟨ta, pa, sa⟩ := ha
  obtain ⟨tb, pb, sb⟩ := hb
  obtain ⟨tc, pc, sc⟩ := hc
  exact ⟨_, pt_chain ho ho' pa pb pc (hm := hm), sim_b (sim_chain hf hg sa sb sc)⟩

/-! and, or, not, if -/
def mAnd (a b : MM Bool) : MM Bool := fun d A => (a d A).bind fun c A1 => if c = true then b d A1 else .ok false A1
def mOr (a b : MM Bool) : MM Bool := fun d A => (a d A).bind fun c A1 => if c = true then .ok true A1 else b d A1
def mNot (a : MM Bool) : MM Bool := fun d A => (a d A).bind fun c A1 => .ok (!c) A1
def mBl (a : MM Bool) : MM SV := fun d A => (a d A).bind fun c A1 => .ok (.dat (.bool c)) A1
def mIf {T : Type} (c : MM Bool) (a b : MM T) : MM T := fun d A => (c d A).bind fun k A1 => if k = true then a d A1 else b d A1
theorem sim_and {t u : TT} {a b : MM Bool} (ha : Sim K W same t a) (hb : Sim K W same u b) : Sim K W same (tAnd t u) (mAnd a b) := fun s A d σ Q hs hσ h =>
  ha.then hs hσ h fun c A1 s1 v p1 hs1 r1 hσ1 h1 => by
    cases r1
    cases c with
    | true => exact hb s1 A1 d σ Q hs1 hσ1 h1
    | false => exact h1 s1 _ (Post.refl _) hs1 rfl
theorem sim_or {t u : TT} {a b : MM Bool} (ha : Sim K W same t a) (hb : Sim K W same u b) : Sim K W same (tOr t u) (mOr a b) := fun s A d σ Q hs hσ h =>
  ha.then hs hσ h fun c A1 s1 v p1 hs1 r1 hσ1 h1 => by
    cases r1
    cases c with
    | false => exact hb s1 A1 d σ Q hs1 hσ1 h1
    | true => exact h1 s1 _ (Post.refl _) hs1 rfl
theorem rw_and1 {a : Expr} {pos : Pos} {ma : MM Bool} (ha : RT X W a ma) : RW X W (.BoolOp .And [a] pos) ma := let ⟨_, p, s⟩ := ha.ex; ⟨_, pw_and1 p, s⟩
theorem rw_or1 {a : Expr} {pos : Pos} {ma : MM Bool} (ha : RT X W a ma) : RW X W (.BoolOp .Or [a] pos) ma := let ⟨_, p, s⟩ := ha.ex; ⟨_, pw_or1 p, s⟩
theorem rw_and {a b : Expr} {rest : List Expr} {pos : Pos} {ma mb : MM Bool} (ha : RT X W a ma) (hb : RW X W (.BoolOp .And (b :: rest) pos) mb) : RW X W (.BoolOp .And (a :: b :: rest) pos) (mAnd ma mb) :=
  let ⟨_, p, s⟩ := ha.ex; let ⟨_, q, u⟩ := hb.ex; ⟨_, pw_and p q, sim_and s u⟩
theorem rw_or {a b : Expr} {rest : List Expr} {pos : Pos} {ma mb : MM Bool} (ha : RT X W a ma) (hb : RW X W (.BoolOp .Or (b :: rest) pos) mb) : RW X W (.BoolOp .Or (a :: b :: rest) pos) (mOr ma mb) :=
  let ⟨_, p, s⟩ := ha.ex; let ⟨_, q, u⟩ := hb.ex; ⟨_, pw_or p q, sim_or s u⟩
theorem rt_not {a : Expr} {pos : Pos} {ma : MM Bool} (ha : RT X W a ma) : RT X W (.UnaryOp .Not a pos) (mNot ma) :=
  let ⟨_, p, s⟩ := ha.ex; ⟨_, pt_not p, fun s0 A d σ Q hs hσ h => s.then hs hσ h fun c A1 s1 v p1 hs1 r1 hσ1 h1 => by
    cases r1
    exact h1 s1 _ (Post.refl _) hs1 rfl⟩
/-- a value that is a bool: as a Lean Bool -/
structure RB (X : Cx) (W : WX) (e : Expr) (m : MM Bool) : Prop where
  ex : ∃ t, PE X e t ∧ Sim (kf X W) W (fun _ (b : Bool) v => v = .bl b) t m
theorem rb_of {e : Expr} {m : MM SV} (h : RE X W e m) : RB X W e (mB m) := by
  obtain ⟨t, p, s⟩ := h
  refine ⟨t, p, fun s0 A d σ Q hs hσ h => s.then hs hσ h fun x A1 s1 v p1 hs1 r1 hσ1 h1 => ?_⟩
  unfold isB at h1
  split at h1
  · cases r1
    exact h1 s1 _ (Post.refl _) hs1 rfl
  · exact h1.elim
theorem re_b {e : Expr} {m : MM Bool} (h : RB X W e m) : RE X W e (mBl m) := by
  obtain ⟨t, p, s⟩ := h
  refine ⟨t, p, fun s0 A d σ Q hs hσ h => s.then hs hσ h fun x A1 s1 v p1 hs1 r1 hσ1 h1 => ?_⟩
  cases r1
  exact h1 s1 _ (Post.refl _) hs1 (.bl x)
theorem rb_one {op : BoolOp} {a : Expr} {pos : Pos} {ma : MM Bool} (ha : RB X W a ma) : RB X W (.BoolOp op [a] pos) ma := let ⟨_, p, s⟩ := ha.ex; ⟨_, pe_one p, s⟩
theorem rb_and {a b : Expr} {rest : List Expr} {pos : Pos} {ma mb : MM Bool} (ha : RB X W a ma) (hb : RB X W (.BoolOp .And (b :: rest) pos) mb) : RB X W (.BoolOp .And (a :: b :: rest) pos) (mAnd ma mb) :=
  let ⟨_, p, s⟩ := ha.ex; let ⟨_, q, u⟩ := hb.ex; ⟨_, pe_and p q, fun s0 A d σ Q hs hσ h => s.then hs hσ h fun c A1 s1 v p1 hs1 r1 hσ1 h1 => by
    refine ⟨c, r1, ?_⟩
    cases c with
    | true => exact u s1 A1 d σ Q hs1 hσ1 h1
    | false => exact h1 s1 _ (Post.refl _) hs1 rfl⟩
theorem rb_or {a b : Expr} {rest : List Expr} {pos : Pos} {ma mb : MM Bool} (ha : RB X W a ma) (hb : RB X W (.BoolOp .Or (b :: rest) pos) mb) : RB X W (.BoolOp .Or (a :: b :: rest) pos) (mOr ma mb) :=
  let ⟨_, p, s⟩ := ha.ex; let ⟨_, q, u⟩ := hb.ex; ⟨_, pe_or p q, fun s0 A d σ Q hs hσ h => s.then hs hσ h fun c A1 s1 v p1 hs1 r1 hσ1 h1 => by
    refine ⟨c, r1, ?_⟩
    cases c with
    | false => exact u s1 A1 d σ Q hs1 hσ1 h1
    | true => exact h1 s1 _ (Post.refl _) hs1 rfl⟩
theorem rb_not {a : Expr} {pos : Pos} {ma : MM Bool} (ha : RB X W a ma) : RB X W (.UnaryOp .Not a pos) (mNot ma) :=
  let ⟨_, p, s⟩ := ha.ex; ⟨_, pe_not p, fun s0 A d σ Q hs hσ h => s.then hs hσ h fun c A1 s1 v p1 hs1 r1 hσ1 h1 =>
    ⟨c, r1, h1 s1 _ (Post.refl _) hs1 rfl⟩⟩
theorem rt_b {e : Expr} {m : MM Bool} (h : RB X W e m) (he : ∀ whole, isTrue e X.env whole = (do let v ← whole; standAt e.pos; holding [v] (truthy v)) := by intro _; rfl) : RT X W e m := by
  obtain ⟨t, p, s⟩ := h
  exact ⟨_, pt_val p he, fun s0 A d σ Q hs hσ h => s s0 A d σ _ hs hσ (Good.mono h (fun b A1 f t' v p1 hs1 r1 => ⟨b, r1, f t' b p1 hs1 rfl⟩) (fun _ _ z => z))⟩
theorem re_if {c a b : Expr} {pos : Pos} {mc : MM Bool} {ma mb : MM SV} (hc : RT X W c mc) (ha : RE X W a ma) (hb : RE X W b mb) : RE X W (.IfExp c a b pos) (mIf mc ma mb) :=
  let ⟨_, p, s⟩ := hc.ex; let ⟨_, q, u⟩ := ha.ex; let ⟨_, q2, u2⟩ := hb.ex; ⟨_, pe_ifExp p q q2, fun s0 A d σ Q hs hσ h => s.then hs hσ h fun c A1 s1 v p1 hs1 r1 hσ1 h1 => by
    cases r1
    cases c with
    | true => exact u s1 A1 d σ Q hs1 hσ1 h1
    | false => exact u2 s1 A1 d σ Q hs1 hσ1 h1⟩

/-! ### argument lists, displays -/
def mNil : MM (List SV) := fun _ A => .ok [] A
def mCons (a : MM SV) (r : MM (List SV)) : MM (List SV) := fun d A => (a d A).bind fun x A1 => (r d A1).bind fun xs A2 => .ok (x :: xs) A2
/-- what is listed at x -/
def cont (A : List AO) : SV → Option (List PyData)
  | .dat (.list xs) => some xs
  | .dat (.tuple xs) => some xs
  | .ref i => match A[i]? with
    | some (.lst xs) => some xs
    | none => none
  | _ => none
def mStar (a : MM SV) (r : MM (List SV)) : MM (List SV) := fun d A => (a d A).bind fun x A1 => match cont A1 x with
  | some ys => (r d A1).bind fun xs A2 => .ok (ys.map SV.dat ++ xs) A2
  | none => .bad
theorem cont_ok {s : S3} {A : List AO} {x : SV} {v : V} {ys : List PyData} (hs : SR K s A) (r : RV K s x v) (e : cont A x = some ys) : ∃ p vs, v = .ref p ∧ (SqT K s.H p vs ∨ SqL K s.H p vs) ∧ DqAll K s.F vs ys := by
  cases x with
  | dat d =>
    cases d with
    | list xs =>
      cases e
      cases r with
      | lst h1 h2 => exact ⟨_, _, rfl, .inr (ex_l hs.sub h1), h2⟩
    | tuple xs =>
      cases e
      cases r with
      | tup h1 h2 => exact ⟨_, _, rfl, .inl (ex_t hs.sub h1), h2⟩
    | _ => cases e
  | ref i =>
    have e : (match A[i]? with | some (.lst xs) => some xs | none => none) = some ys := e
    cases hA : A[i]? with
    | none => rw [hA] at e; cases e
    | some o =>
      cases o with
      | lst xs =>
        rw [hA] at e
        cases e
        obtain ⟨a, e1, e2⟩ := r
        obtain ⟨vs, e3, e4⟩ := hs.obj i a _ e2 hA
        exact ⟨a, vs, e1, .inr (sq_of e3), e4⟩
  | adr a => cases e
theorem RVs.dats {K : PySem.W.Frag} {s : S3} : ∀ {vs : List V} {ds : List PyData}, DqAll K s.F vs ds → RVs K s (ds.map SV.dat) vs
  | _, _, .nil => rfl
  | _, _, .cons h t => ⟨_, _, rfl, h, RVs.dats t⟩
theorem RVs.app {K : PySem.W.Frag} {s : S3} : ∀ {xs ys : List SV} {vs ws : List V}, RVs K s xs vs → RVs K s ys ws → RVs K s (xs ++ ys) (vs ++ ws)
  | [], _, _, _, h, h2 => by rw [show _ = [] from h]; exact h2
  | _ :: _, _, _, _, ⟨v, r, e, h1, h2⟩, h3 => by rw [e]; exact ⟨v, r ++ _, rfl, h1, RVs.app h2 h3⟩
theorem ra_nil : RA X W [] mNil := ⟨_, pa_nil, fun s A d σ Q hs hσ h => h s [] (Post.refl _) hs rfl⟩
theorem ra_cons {e : Expr} {es : List Expr} {m : MM SV} {mr : MM (List SV)} (ha : RE X W e m) (hr : RA X W es mr) (hs : starEach (e :: es) X.env = (false, eval e X.env) :: starEach es X.env := by rfl) : RA X W (e :: es) (mCons m mr) :=
  let ⟨_, p, s⟩ := ha.ex; let ⟨_, q, u⟩ := hr.ex; ⟨_, pa_cons p q hs, fun s0 A d σ Q hs hσ h => s.then hs hσ h fun c A1 s1 v p1 hs1 r1 hσ1 h1 => u.then hs1 hσ1 h1 fun cs A2 s2 vs p2 hs2 r2 hσ2 h2 =>
    h2 s2 _ (Post.refl _) hs2 ⟨_, _, rfl, r1.up p2, r2⟩⟩
theorem ra_star {e : Expr} {es : List Expr} {pos : Pos} {m : MM SV} {mr : MM (List SV)} (ha : RE X W e m) (hr : RA X W es mr) (hs : starEach (.Starred e pos :: es) X.env = (true, eval e X.env) :: starEach es X.env := by rfl) : RA X W (.Starred e pos :: es) (mStar m mr) :=
  let ⟨_, p, s⟩ := ha.ex; let ⟨_, q, u⟩ := hr.ex; ⟨_, StX.pa_star p q hs, fun s0 A d σ Q hs hσ h => s.then hs hσ h fun c A1 s1 v p1 hs1 r1 hσ1 h1 => by
    cases hc : cont A1 c with
    | none => simp only [hc] at h1; exact h1.elim
    | some ys =>
      simp only [hc] at h1
      obtain ⟨pp, vs, e1, e2, e3⟩ := cont_ok hs1 r1 hc
      refine ⟨pp, vs, e1, e2, u.then hs1 hσ1 h1 fun cs A2 s2 ws p2 hs2 r2 hσ2 h2 => ?_⟩
      exact h2 s2 _ (Post.refl _) hs2 (RVs.app (RVs.dats (DqAll.up p2.fx _ e3)) r2)⟩
/-- all data -/
def dats : List SV → Option (List PyData)
  | [] => some []
  | .dat d :: xs => match dats xs with
    | some ds => some (d :: ds)
    | none => none
  | _ :: _ => none
theorem dats_ok {K : PySem.W.Frag} {s : S3} : ∀ {xs : List SV} {vs : List V} {ds : List PyData}, RVs K s xs vs → dats xs = some ds → DqAll K s.F vs ds
  | [], _, _, h, e => by cases e; rw [show _ = [] from h]; exact .nil
  | .dat d :: xs, _, _, ⟨v, r, e1, h1, h2⟩, e => by
    unfold dats at e
    split at e
    · rename_i ds hd
      cases e
      rw [e1]
      exact .cons h1 (dats_ok h2 hd)
    · cases e
  | .ref _ :: _, _, _, _, e => by cases e
  | .adr _ :: _, _, _, _, e => by cases e
def sz (n : Nat) : Bool := decide (n ≤ 16000000)
theorem sz_ok {n : Nat} (h : sz n = true) : n < sizeLine := by
  have h := of_decide_eq_true h
  exact Nat.lt_of_le_of_lt h (by decide)
def fTup (xs : List SV) (A : List AO) : RR SV := match dats xs with
  | some ds => if sz ds.length then .ok (.dat (.tuple ds)) A else .bad
  | none => .bad
def mTup (a : MM (List SV)) : MM SV := fun d A => (a d A).bind fTup
/-- a new list, as what is in it -/
def fLst (xs : List SV) (A : List AO) : RR (List PyData) := match dats xs with
  | some ds => if sz ds.length then .ok ds A else .bad
  | none => .bad
def mLst (a : MM (List SV)) : MM (List PyData) := fun d A => (a d A).bind fLst
theorem re_tup {es : List Expr} {k : Nat} {pos : Pos} {m : MM (List SV)} (h : RA X W es m) : RE X W (.Tuple es k pos) (mTup m) := by
  obtain ⟨t, p, s⟩ := h
  refine ⟨_, pe_tup p, fun s0 A d σ Q hs hσ h => s.then hs hσ h fun xs A1 s1 vs p1 hs1 r1 hσ1 h1 => ?_⟩
  unfold fTup at h1
  split at h1
  · rename_i ds hd
    split at h1
    · rename_i hz
      have dp := dats_ok r1 hd
      refine ⟨by rw [DqAll.length dp]; exact Nat.le_of_lt (sz_ok hz), fun q hq => ?_⟩
      exact h1 (s1.newF q (.tup vs)) _ (Post.newF hs1 hq _) (hs1.newF hq _) (hs1.newTup hq dp)
    · exact h1.elim
  · exact h1.elim

/-! ### new lists -/
/-- an expression that makes a new list, nobody else's -/
def SimN (K : KF) (W : WX) (t : TE) (m : MM (List PyData)) : Prop :=
  ∀ (s : S3) (A : List AO) (d : DSt) (σ : L2.St) (Q : VK), SR K s A → RSt K s d σ →
    Good (m d A) (fun ds A' => ∀ (t' : S3) (p : Addr) (vs : List V), Post s t' → SR K t' A' → t'.H p = none → DqAll K t'.F vs ds → Q (.ref p) (upd t'.H p (.lst vs))) (fun x A' => ∀ t' : S3, Post s t' → SR K t' A' → W.w x σ t') → t σ s.H Q
structure RN (X : Cx) (W : WX) (e : Expr) (m : MM (List PyData)) : Prop where
  ex : ∃ t, PE X e t ∧ SimN (kf X W) W t m
def mFrz (m : MM (List PyData)) : MM SV := fun d A => (m d A).bind fun ds A1 => .ok (.dat (.list ds)) A1
theorem sim_frz {t : TE} {m : MM (List PyData)} (h : SimN K W t m) : Sim K W (RV K) t (mFrz m) := fun s A d σ Q hs hσ g =>
  h s A d σ Q hs hσ (Good.mono (Good.bind g) (fun ds A' f t' p vs p1 hs1 hp dp => f (t'.newF p (.lst vs)) _ (p1.trans (Post.newF hs1 hp _)) (hs1.newF hp _) (hs1.newLst hp dp)) (fun _ _ z => z))
theorem re_frz {e : Expr} {m : MM (List PyData)} (h : RN X W e m) : RE X W e (mFrz m) := let ⟨_, p, s⟩ := h.ex; ⟨_, p, sim_frz s⟩
theorem rn_lst {es : List Expr} {pos : Pos} {m : MM (List SV)} (h : RA X W es m) : RN X W (.List es pos) (mLst m) := by
  obtain ⟨t, p, s⟩ := h
  refine ⟨_, pe_lst p, fun s0 A d σ Q hs hσ h => ?_⟩
  refine s s0 A d σ _ hs hσ (Good.mono (Good.bind h) (fun xs A1 h1 s1 vs p1 hs1 r1 => ?_) (fun _ _ z => z))
  unfold fLst at h1
  split at h1
  · rename_i ds hd
    split at h1
    · rename_i hz
      have dp := dats_ok r1 hd
      exact ⟨by rw [DqAll.length dp]; exact Nat.le_of_lt (sz_ok hz), fun q hq => h1 s1 q vs p1 hs1 hq dp⟩
    · exact h1.elim
  · exact h1.elim
end
end Rx
/-! Rx 3: targets, statements, loops. -/
namespace Rx
open PySem L2 PySem.Spec PyProof.Rows Evl

/-! ### targets -/
abbrev TgF := SV → DSt → Option DSt
abbrev TgsF := List PyData → DSt → Option DSt
/-- off the slots js nothing is stored -/
def OffEq (js : List Nat) (σ σ' : L2.St) : Prop := σ'.length = σ.length ∧ ∀ j, j ∉ js → σ'[j]? = σ[j]?
def SimT (K : KF) (js : List Nat) (t : TG) (f : TgF) : Prop :=
  ∀ (s : S3) (A : List AO) (x : SV) (v : V) (d d' : DSt) (σ : L2.St) (Q : L2.St → Hp → Prop), SR K s A → RSt K s d σ → RV K s x v → f x d = some d' →
    (∀ σ', RSt K s d' σ' → OffEq js σ σ' → Q σ' s.H) → t v σ s.H Q
def SimTs (K : KF) (js : List Nat) (t : TGs) (f : TgsF) : Prop :=
  ∀ (s : S3) (A : List AO) (x : List PyData) (v : List V) (d d' : DSt) (σ : L2.St) (Q : L2.St → Hp → Prop), SR K s A → RSt K s d σ → DqAll K s.F v x → f x d = some d' →
    (∀ σ', RSt K s d' σ' → OffEq js σ σ' → Q σ' s.H) → t v σ s.H Q
structure RG (X : Cx) (tg : Expr) (js : List Nat) (f : TgF) : Prop where
  ex : ∃ t, PG X tg t ∧ ∀ T F0 M0, SimT ⟨X.K, T, F0, M0⟩ js t f
structure RGs (X : Cx) (tg : List Expr) (js : List Nat) (f : TgsF) : Prop where
  ex : ∃ t, PGs X tg t ∧ ∀ T F0 M0, SimTs ⟨X.K, T, F0, M0⟩ js t f
def gtName (i : Nat) : TgF := fun x d => some (d.set i (some x))
def gtNil : TgsF := fun xs d => match xs with
  | [] => some d
  | _ => none
def gtCons (f : TgF) (g : TgsF) : TgsF := fun xs d => match xs with
  | x :: r => match f (.dat x) d with
    | some d1 => g r d1
    | none => none
  | [] => none
def gtTup (n : Nat) (g : TgsF) : TgF := fun x d => match x with
  | .dat (.tuple ds) => if ds.length = n then g ds d else none
  | _ => none
section
variable {X : Cx}
theorem rg_name {pos : Pos} {i : Nat} {x : Str} (hN : X.N.Nodup) (hi : X.N[i]? = some x) (hx : L2.Loc X.env.scope x)
    (hf : X.fn x = true ∨ X.env.scope.names.lookup x = some .local := by first | exact .inl rfl | exact .inr rfl | assumption) : RG X (.Name x pos) [i] (gtName i) := by
  refine ⟨_, pg_name hN hi hx hf, fun T F0 M0 s A x v d d' σ Q hs hσ r e hq => ?_⟩
  cases e
  refine hq _ (hσ.set i r) ⟨by simp, fun j hj => ?_⟩
  exact List.getElem?_set_ne (fun e => hj (by simp [e]))
theorem rgs_nil : RGs X [] [] gtNil := by
  refine ⟨_, pgs_nil, fun T F0 M0 s A x v d d' σ Q hs hσ r e hq => ?_⟩
  cases r with
  | nil =>
    cases e
    exact ⟨rfl, hq _ hσ ⟨rfl, fun _ _ => rfl⟩⟩
  | cons a b => cases e
theorem rgs_cons {e : Expr} {es : List Expr} {js ks : List Nat} {f : TgF} {g : TgsF} (h : RG X e js f) (h2 : RGs X es ks g)
    (hs : (assignEach (e :: es) X.env).map (·.2) = assign e X.env :: (assignEach es X.env).map (·.2) := by rfl) : RGs X (e :: es) (js ++ ks) (gtCons f g) := by
  obtain ⟨t, p, sf⟩ := h
  obtain ⟨u, q, sg⟩ := h2
  refine ⟨_, pgs_cons p q hs, fun T F0 M0 s A x v d d' σ Q hs hσ r e hq => ?_⟩
  cases r with
  | nil => cases e
  | cons a b =>
    rename_i x0 xs d0 ds
    have e : (match f (.dat d0) d with | some d1 => g ds d1 | none => none) = some d' := e
    cases e1 : f (.dat d0) d with
    | none => rw [e1] at e; cases e
    | some d1 =>
      rw [e1] at e
      refine ⟨_, _, rfl, sf T F0 M0 s A (.dat d0) _ d d1 σ _ hs hσ a e1 fun σ1 h1 o1 => ?_⟩
      refine sg T F0 M0 s A _ _ d1 d' σ1 _ hs h1 b e fun σ2 h2 o2 => hq σ2 h2 ⟨o2.1.trans o1.1, fun j hj => ?_⟩
      exact (o2.2 j fun z => hj (List.mem_append.mpr (.inr z))).trans (o1.2 j fun z => hj (List.mem_append.mpr (.inl z)))
theorem rg_tup {es : List Expr} {k : Nat} {pos : Pos} {js : List Nat} {g : TgsF} {n : Nat} (hc : X.calm = true) (h : RGs X es js g) (hn : (assignEach es X.env).length = n := by rfl)
    (hst : (assignEach es X.env).findIdx? (·.1) = none := by rfl) : RG X (.Tuple es k pos) js (gtTup n g) := by
  obtain ⟨t, p, sf⟩ := h
  refine ⟨_, pg_tup hc p hn hst, fun T F0 M0 s A x v d d' σ Q hs hσ r e hq => ?_⟩
  cases x with
  | dat y =>
    cases y with
    | tuple ds =>
      have e : (if ds.length = n then g ds d else none) = some d' := e
      cases r with
      | tup h1 h2 =>
        by_cases hl : ds.length = n
        · rw [if_pos hl] at e
          exact ⟨_, _, rfl, ex_t hs.sub h1, (DqAll.length h2).trans hl, sf T F0 M0 s A ds _ d d' σ Q hs hσ h2 e hq⟩
        · rw [if_neg hl] at e; cases e
    | _ => cases e
  | _ => cases e
end

/-! ### statements -/
inductive RZ where
  | nx (d : DSt) (A : List AO)
  | rt (x : SV) (A : List AO)
  | bk (d : DSt) (A : List AO)
  | ct (d : DSt) (A : List AO)
  | exc (x : EV) (d : DSt) (A : List AO)
  | bad
abbrev MS := DSt → List AO → RZ
/-- what is wanted of a statement's end -/
def GZ (K : KF) (W : WX) (s : S3) (D : Ends) (r : RZ) : Prop :=
  match r with
  | .nx d A => ∀ (t : S3) (σ : L2.St), Post s t → SR K t A → RSt K t d σ → D.nx σ t.H
  | .rt x A => ∀ (t : S3) (v : V), Post s t → SR K t A → RV K t x v → D.rt v t.H
  | .bk d A => ∀ (t : S3) (σ : L2.St), Post s t → SR K t A → RSt K t d σ → D.bk σ t.H
  | .ct d A => ∀ (t : S3) (σ : L2.St), Post s t → SR K t A → RSt K t d σ → D.ct σ t.H
  | .exc x d A => ∀ (t : S3) (σ : L2.St), Post s t → SR K t A → RSt K t d σ → W.w x σ t
  | .bad => False
def SimS (K : KF) (W : WX) (t : TS) (m : MS) : Prop :=
  ∀ (s : S3) (A : List AO) (d : DSt) (σ : L2.St) (D : Ends), SR K s A → RSt K s d σ → GZ K W s D (m d A) → t D σ s.H
structure RS (X : Cx) (W : WX) (st : Stmt) (m : MS) : Prop where
  ex : ∃ t, PS X st t ∧ SimS (kf X W) W t m
structure RSs (X : Cx) (W : WX) (st : List Stmt) (m : MS) : Prop where
  ex : ∃ t, PSs X st t ∧ SimS (kf X W) W t m
theorem GZ.up {K : KF} {W : WX} {s t : S3} {D : Ends} {r : RZ} (p : Post s t) (h : GZ K W s D r) : GZ K W t D r := by
  cases r with
  | bad => exact h
  | _ => exact fun u x q => h u x (p.trans q)
/-- a value, then a statement's rest -/
def RR.toZ {T : Type} (d : DSt) (r : RR T) (k : T → List AO → RZ) : RZ := match r with
  | .ok x A => k x A
  | .exc x A => .exc x d A
  | .bad => .bad
theorem Sim.thenZ {T U : Type} {K : KF} {W : WX} {rel : S3 → T → U → Prop} {ta : L2.St → Hp → (U → Hp → Prop) → Prop} {ma : MM T} {k : T → List AO → RZ} (ha : Sim K W rel ta ma)
    {s : S3} {A : List AO} {d : DSt} {σ : L2.St} {D : Ends} {R : U → Hp → Prop} (hs : SR K s A) (hσ : RSt K s d σ)
    (h : GZ K W s D ((ma d A).toZ d k))
    (hk : ∀ (x : T) (A1 : List AO) (s1 : S3) (v : U), Post s s1 → SR K s1 A1 → rel s1 x v → RSt K s1 d σ → GZ K W s1 D (k x A1) → R v s1.H) : ta σ s.H R := by
  refine ha s A d σ R hs hσ ?_
  cases hm : ma d A with
  | ok x A1 =>
    rw [hm] at h
    intro t' v p1 r1 q1
    exact hk x A1 t' v p1 r1 q1 (hσ.up p1) (GZ.up p1 h)
  | exc x A1 =>
    rw [hm] at h
    intro t' p1 r1
    exact h t' σ p1 r1 (hσ.up p1)
  | bad => rw [hm] at h; exact h
def zSeq (a b : MS) : MS := fun d A => match a d A with
  | .nx d1 A1 => b d1 A1
  | r => r
def zNil : MS := fun d A => .nx d A
section
variable {X : Cx} {W : WX}
theorem simS_seq {K : KF} {t u : TS} {a b : MS} (ha : SimS K W t a) (hb : SimS K W u b) : SimS K W (tSeq t u) (zSeq a b) := fun s A d σ D hs hσ h => by
  refine ha s A d σ _ hs hσ ?_
  unfold zSeq at h
  cases hm : a d A with
  | nx d1 A1 =>
    rw [hm] at h
    exact fun t1 σ1 p1 hs1 hσ1 => hb t1 A1 d1 σ1 D hs1 hσ1 (GZ.up p1 h)
  | rt x A1 => rw [hm] at h; exact h
  | bk x A1 => rw [hm] at h; exact h
  | ct x A1 => rw [hm] at h; exact h
  | exc x d A1 => rw [hm] at h; exact h
  | bad => rw [hm] at h; exact h
theorem rss_nil : RSs X W [] zNil := ⟨_, pss_nil, fun s A d σ D hs hσ h => h s σ (Post.refl _) hs hσ⟩
theorem rss_one {st : Stmt} {m : MS} (h : RS X W st m) : RSs X W [st] m := let ⟨t, p, s⟩ := h.ex; ⟨t, pss_one p, s⟩
theorem rss_cons {st : Stmt} {rest : List Stmt} {m n : MS} (h : RS X W st m) (h2 : RSs X W rest n) : RSs X W (st :: rest) (zSeq m n) :=
  let ⟨_, p, s⟩ := h.ex; let ⟨_, q, u⟩ := h2.ex; ⟨_, pss_cons p q, simS_seq s u⟩
def zNever : MS := fun _ _ => .bad
theorem rs_never {st : Stmt} : RS X W st zNever := ⟨_, ps_never, fun _ _ _ _ _ _ _ h => h⟩
theorem rs_pass {pos : Pos} : RS X W (.Pass pos) zNil := ⟨_, ps_pass, fun s A d σ D hs hσ h => h s σ (Post.refl _) hs hσ⟩
def zBreak : MS := fun d A => .bk d A
def zCont : MS := fun d A => .ct d A
theorem rs_break {pos : Pos} : RS X W (.Break pos) zBreak := ⟨_, ps_break, fun s A d σ D hs hσ h => h s σ (Post.refl _) hs hσ⟩
theorem rs_cont {pos : Pos} : RS X W (.Continue pos) zCont := ⟨_, ps_continue, fun s A d σ D hs hσ h => h s σ (Post.refl _) hs hσ⟩
def zRet (m : MM SV) : MS := fun d A => (m d A).toZ d fun x A1 => .rt x A1
theorem rs_ret {e : Expr} {pos : Pos} {m : MM SV} (h : RE X W e m) : RS X W (.Return (some e) pos) (zRet m) :=
  let ⟨_, p, s⟩ := h.ex; ⟨_, ps_ret p, fun s0 A d σ D hs hσ h => s.thenZ hs hσ h fun x A1 s1 v p1 hs1 r1 hσ1 h1 => h1 s1 v (Post.refl _) hs1 r1⟩
def zRetN : MS := fun _ A => .rt (.dat .none) A
theorem rs_retN {pos : Pos} : RS X W (.Return none pos) zRetN := ⟨_, ps_retN, fun s A d σ D hs hσ h => h s _ (Post.refl _) hs .non⟩
def zDrop (m : MM SV) : MS := fun d A => (m d A).toZ d fun _ A1 => .nx d A1
theorem rs_expr {e : Expr} {pos : Pos} {m : MM SV} (h : RE X W e m) (hw : swapsWith e none pos.line X.env = pure false := by rfl) : RS X W (.Expr e pos) (zDrop m) :=
  let ⟨_, p, s⟩ := h.ex; ⟨_, ps_expr p hw, fun s0 A d σ D hs hσ h => s.thenZ hs hσ h fun x A1 s1 v p1 hs1 r1 hσ1 h1 => h1 s1 σ (Post.refl _) hs1 hσ1⟩
def zAsg (m : MM SV) (f : TgF) : MS := fun d A => (m d A).toZ d fun x A1 => match f x d with
  | some d1 => .nx d1 A1
  | none => .bad
theorem simS_asg {K : KF} {te : TE} {g : TG} {m : MM SV} {js : List Nat} {f : TgF} (s : Sim K W (RV K) te m) (sg : SimT K js g f) : SimS K W (tAsg te g) (zAsg m f) := fun s0 A d σ D hs hσ h =>
  s.thenZ hs hσ h fun x A1 s1 v p1 hs1 r1 hσ1 h1 => by
    cases hf : f x d with
    | none => simp only [hf] at h1; exact h1.elim
    | some d1 =>
      simp only [hf] at h1
      exact sg s1 A1 x v d d1 σ _ hs1 hσ1 r1 hf fun σ' hσ' _ => h1 s1 σ' (Post.refl _) hs1 hσ'
theorem rs_asg {tg e : Expr} {pos : Pos} {m : MM SV} {js : List Nat} {f : TgF} (h : RE X W e m) (hg : RG X tg js f) (h1 : swapsWithSole [tg] e pos.line X.env = pure false := by rfl) (h2 : swappedStores [tg] e X.env = pure none := by rfl)
    (h3 : (assignEach [tg] X.env).map (·.2) = [assign tg X.env] := by rfl) : RS X W (.Assign [tg] e pos) (zAsg m f) :=
  let ⟨_, p, s⟩ := h.ex; let ⟨_, q, u⟩ := hg.ex; ⟨_, ps_asg p q h1 h2 h3, simS_asg s (u _ _ _)⟩
/-- name = a new list that will be changed in place -/
def zAsgM (m : MM (List PyData)) (i : Nat) : MS := fun d A => (m d A).toZ d fun ds A1 => .nx (d.set i (some (.ref A1.length))) (A1 ++ [.lst ds])
theorem simS_asgM {K : KF} {te : TE} {m : MM (List PyData)} {i : Nat} (s : SimN K W te m) : SimS K W (tAsg te (gName i)) (zAsgM m i) := fun s0 A d σ D hs hσ h => by
  refine s s0 A d σ _ hs hσ ?_
  unfold zAsgM at h
  cases hm : m d A with
  | ok ds A1 =>
    rw [hm] at h
    intro t p vs p1 hs1 hp dp
    have h : GZ K W s0 D (.nx (d.set i (some (.ref A1.length))) (A1 ++ [.lst ds])) := h
    refine h (t.newM p vs) _ (p1.trans (Post.newM hp vs)) (hs1.newM hp dp) (((hσ.up p1).up (Post.newM hp vs)).set i ⟨p, rfl, ?_⟩)
    show (t.mu ++ [p])[A1.length]? = some p
    rw [← hs1.len, List.getElem?_append_right (Nat.le_refl _)]
    simp
  | exc x A1 =>
    rw [hm] at h
    intro t p1 hs1
    exact h t σ p1 hs1 (hσ.up p1)
  | bad => rw [hm] at h; exact h
theorem rs_asgM {x : Str} {px : Pos} {e : Expr} {pos : Pos} {m : MM (List PyData)} {i : Nat} (h : RN X W e m) (hN : X.N.Nodup) (hi : X.N[i]? = some x) (hx : L2.Loc X.env.scope x)
    (h1 : swapsWithSole [.Name x px] e pos.line X.env = pure false := by rfl) (h2 : swappedStores [.Name x px] e X.env = pure none := by rfl)
    (h3 : (assignEach [.Name x px] X.env).map (·.2) = [assign (.Name x px) X.env] := by rfl)
    (hf : X.fn x = true ∨ X.env.scope.names.lookup x = some .local := by first | exact .inl rfl | exact .inr rfl | assumption) : RS X W (.Assign [.Name x px] e pos) (zAsgM m i) :=
  let ⟨_, p, s⟩ := h.ex; ⟨_, ps_asg p (pg_name hN hi hx hf) h1 h2 h3, simS_asgM s⟩
def zIf (c : MM Bool) (a b : MS) : MS := fun d A => (c d A).toZ d fun k A1 => if k = true then a d A1 else b d A1
theorem rs_if {c : Expr} {a b : List Stmt} {pos : Pos} {mc : MM Bool} {ma mb : MS} (hc : RT X W c mc) (ha : RSs X W a ma) (hb : RSs X W b mb) : RS X W (.If c a b pos) (zIf mc ma mb) :=
  let ⟨_, p, s⟩ := hc.ex; let ⟨_, q, u⟩ := ha.ex; let ⟨_, q2, u2⟩ := hb.ex; ⟨_, ps_if p q q2, fun s0 A d σ D hs hσ h => s.thenZ hs hσ h fun c A1 s1 v p1 hs1 r1 hσ1 h1 => by
    cases r1
    cases c with
    | true => exact u s1 A1 d σ D hs1 hσ1 h1
    | false => exact u2 s1 A1 d σ D hs1 hσ1 h1⟩
/-- name op= e -/
def zAug (i : Nat) (f : F2) (m : MM SV) : MS := fun d A => match d[i]? with
  | some (some x) => (m d A).toZ d fun y A1 => ((f x y A1).quiet).toZ d fun z A2 => .nx (d.set i (some z)) A2
  | _ => .bad
theorem rs_aug {i : Nat} {x : Str} {e : Expr} {m : MM SV} {op : Operator} {ti : TIp} {f : F2} {pos pos' : Pos} (hN : X.N.Nodup) (hi : X.N[i]? = some x) (hx : L2.Loc X.env.scope x) (ho : PIp X op ti) (hf : OpS (kf X W) ti f) (h : RE X W e m)
    (hfn : X.fn x = true ∨ X.env.scope.names.lookup x = some .local := by first | exact .inl rfl | exact .inr rfl | assumption) : RS X W (.AugAssign (.Name x pos') op e pos) (zAug i f m) := by
  obtain ⟨t, p, s⟩ := h
  refine ⟨_, ps_aug hN hi hx p ho hfn, fun s0 A d σ D hs hσ h => ?_⟩
  unfold zAug at h
  split at h
  · rename_i y ey
    obtain ⟨v, e1, r⟩ := hσ.val i y ey
    refine ⟨v, e1, s.thenZ hs hσ h fun z A1 s1 w p1 hs1 r1 hσ1 h1 => ?_⟩
    refine hf s1 A1 y z v w _ hs1 (r.up p1) r1 ?_
    cases hq : f y z A1 with
    | ok a A2 =>
      simp only [hq] at h1
      exact fun t' u p2 hs2 r2 => h1 t' _ p2 hs2 ((hσ1.up p2).set i r2)
    | exc a A2 => simp only [hq] at h1; exact h1.elim
    | bad => simp only [hq] at h1; exact h1.elim
  · exact h.elim

/-! ### while -/
def whileLoop (c : MM Bool) (b : MS) : Nat → MS
  | 0, _, _ => .bad
  | n + 1, d, A => (c d A).toZ d fun k A1 => if k = true then
      match b d A1 with
      | .nx d2 A2 => whileLoop c b n d2 A2
      | .ct d2 A2 => whileLoop c b n d2 A2
      | .bk d2 A2 => .nx d2 A2
      | r => r
    else .nx d A1
/-- turns enough -/
def fuel : Nat := 2 ^ 40
def zWhile (c : MM Bool) (b : MS) : MS := whileLoop c b fuel
theorem simS_while {K : KF} {tc : TT} {tb : TS} {mc : MM Bool} {mb : MS} (n : Nat) (hc : Sim K W same tc mc) (hb : SimS K W tb mb) : SimS K W (tWhile tc tb) (whileLoop mc mb n) := fun s A d σ D hs hσ h => by
  refine ⟨fun m σ' H' => ∃ s' A' d', s'.H = H' ∧ Post s s' ∧ SR K s' A' ∧ RSt K s' d' σ' ∧ GZ K W s' D (whileLoop mc mb m d' A'), ⟨n, s, A, d, rfl, Post.refl _, hs, hσ, h⟩, ?_⟩
  rintro m σ' _ ⟨s', A', d', rfl, p', hs', hσ', h'⟩
  cases m with
  | zero => exact h'.elim
  | succ m =>
    unfold whileLoop at h'
    refine hc.thenZ hs' hσ' h' fun k A1 s1 v p1 hs1 r1 hσ1 h1 => ?_
    cases r1
    cases k with
    | false => exact h1 s1 σ' (Post.refl _) hs1 hσ1
    | true =>
      show ∃ N : L2.St → Hp → Prop, _
      simp only [if_true] at h1
      refine ⟨fun σ2 H2 => ∃ s2 A2 d2, s2.H = H2 ∧ Post s s2 ∧ SR K s2 A2 ∧ RSt K s2 d2 σ2 ∧ GZ K W s2 D (whileLoop mc mb m d2 A2), fun σ2 H2 q => ⟨m, Nat.lt_succ_self m, q⟩, ?_⟩
      refine hb s1 A1 d' σ' _ hs1 hσ1 ?_
      cases hm : mb d' A1 with
      | nx d2 A2 =>
        simp only [hm] at h1
        exact fun t u p2 hs2 hσ2 => ⟨t, A2, d2, rfl, (p'.trans p1).trans p2, hs2, hσ2, GZ.up p2 h1⟩
      | ct d2 A2 =>
        simp only [hm] at h1
        exact fun t u p2 hs2 hσ2 => ⟨t, A2, d2, rfl, (p'.trans p1).trans p2, hs2, hσ2, GZ.up p2 h1⟩
      | bk d2 A2 => simp only [hm] at h1; exact h1
      | rt x A2 => simp only [hm] at h1; exact h1
      | exc x d2 A2 => simp only [hm] at h1; exact h1
      | bad => simp only [hm] at h1; exact h1
theorem rs_while {c : Expr} {body : List Stmt} {pos : Pos} {mc : MM Bool} {mb : MS} (hp : PassesOwn (model X.prog X.w) X.A X.env X.xe) (hc : RT X W c mc) (hb : RSs X W body mb) : RS X W (.While c body [] pos) (zWhile mc mb) :=
  let ⟨_, p, s⟩ := hc.ex; let ⟨_, q, u⟩ := hb.ex; ⟨_, ps_while hp p q, simS_while fuel s u⟩

/-! ### what is walked -/
/-- J gives the items xs, one by one, while the state stands -/
def Walks (K : KF) (s : S3) (xs : List SV) (J : It) : Prop :=
  ∀ (i : Nat) (u : S3) (A : List AO), Ex s.F u.F → SR K u A →
    (∀ x, xs[i]? = some x → J.go i u.H ∧ ∀ v H', J.yld i u.H v H' → ∃ u', u'.H = H' ∧ Post u u' ∧ SR K u' A ∧ RV K u' x v) ∧ (xs.length ≤ i → J.stop i u.H)
theorem Walks.up {K : KF} {s t : S3} {xs : List SV} {J : It} (p : Ex s.F t.F) (h : Walks K s xs J) : Walks K t xs J := fun i u A q => h i u A (p.trans q)
structure RI (X : Cx) (W : WX) (tg iter : Expr) (m : MM (List SV)) : Prop where
  ex : ∃ t, PI X tg iter t ∧ Sim (kf X W) W (Walks (kf X W)) t m
def forLoop (f : TgF) (b : MS) : List SV → MS
  | [], d, A => .nx d A
  | x :: xs, d, A => match f x d with
    | none => .bad
    | some d1 => match b d1 A with
      | .nx d2 A2 => forLoop f b xs d2 A2
      | .ct d2 A2 => forLoop f b xs d2 A2
      | .bk d2 A2 => .nx d2 A2
      | r => r
def zFor (mi : MM (List SV)) (f : TgF) (b : MS) : MS := fun d A => (mi d A).toZ d fun xs A1 => forLoop f b xs d A1
theorem simS_for {K : KF} {wi : TI} {g : TG} {tb : TS} {mi : MM (List SV)} {js : List Nat} {f : TgF} {mb : MS} (hi : Sim K W (Walks K) wi mi) (hg : SimT K js g f) (hb : SimS K W tb mb) : SimS K W (tFor wi g tb) (zFor mi f mb) := fun s A d σ D hs hσ h =>
  hi.thenZ hs hσ h fun xs A1 s1 J p1 hs1 w1 hσ1 h1 => by
    refine ⟨fun i m σ' H' => m = xs.length - i ∧ i ≤ xs.length ∧ ∃ s' A' d', s'.H = H' ∧ Post s1 s' ∧ SR K s' A' ∧ RSt K s' d' σ' ∧ GZ K W s' D (forLoop f mb (xs.drop i) d' A'), ⟨xs.length, by simp, Nat.zero_le _, s1, A1, d, rfl, Post.refl _, hs1, hσ1, h1⟩, ?_⟩
    rintro i m σ' _ ⟨rfl, hle, s', A', d', rfl, p', hs', hσ', h'⟩
    obtain ⟨wy, wstop⟩ := w1 i s' A' p'.fx hs'
    by_cases hlt : i < xs.length
    · have hx : xs[i]? = some xs[i] := List.getElem?_eq_getElem hlt
      have hdrop : xs.drop i = xs[i] :: xs.drop (i + 1) := List.drop_eq_getElem_cons hlt
      rw [hdrop] at h'
      obtain ⟨go, yl⟩ := wy _ hx
      refine .inr ⟨go, fun σ2 H2 => ∃ s2 A2 d2, s2.H = H2 ∧ Post s1 s2 ∧ SR K s2 A2 ∧ RSt K s2 d2 σ2 ∧ GZ K W s2 D (forLoop f mb (xs.drop (i + 1)) d2 A2), fun σ2 H2 q => ⟨xs.length - (i + 1), by omega, rfl, hlt, q⟩, fun v H2 y => ?_⟩
      obtain ⟨u', rfl, pu, hu, ru⟩ := yl v H2 y
      unfold forLoop at h'
      cases hf : f xs[i] d' with
      | none => simp only [hf] at h'; exact h'.elim
      | some d1 =>
        simp only [hf] at h'
        refine hg u' A' _ v d' d1 σ' _ hu (hσ'.up pu) ru hf fun σ3 hσ3 _ => ?_
        refine hb u' A' d1 σ3 _ hu hσ3 ?_
        cases hm : mb d1 A' with
        | nx d2 A2 =>
          simp only [hm] at h'
          exact fun t u p2 hs2 hσ2 => ⟨t, A2, d2, rfl, (p'.trans pu).trans p2, hs2, hσ2, GZ.up p2 (GZ.up pu h')⟩
        | ct d2 A2 =>
          simp only [hm] at h'
          exact fun t u p2 hs2 hσ2 => ⟨t, A2, d2, rfl, (p'.trans pu).trans p2, hs2, hσ2, GZ.up p2 (GZ.up pu h')⟩
        | bk d2 A2 => simp only [hm] at h'; exact GZ.up (D := D) (r := .nx d2 A2) pu h'
        | rt x A2 => simp only [hm] at h'; exact GZ.up (D := D) (r := .rt x A2) pu h'
        | exc x d2 A2 => simp only [hm] at h'; exact GZ.up (D := D) (r := .exc x d2 A2) pu h'
        | bad => simp only [hm] at h'; exact h'
    · have e : i = xs.length := by omega
      subst e
      rw [List.drop_length] at h'
      exact .inl ⟨wstop (Nat.le_refl _), h' s' σ' (Post.refl _) hs' hσ'⟩
theorem rs_for {tg iter : Expr} {body : List Stmt} {pos : Pos} {mi : MM (List SV)} {js : List Nat} {f : TgF} {mb : MS} (hp : PassesOwn (model X.prog X.w) X.A X.env X.xe) (hc : X.calm = true) (hi : RI X W tg iter mi) (hg : RG X tg js f) (hb : RSs X W body mb)
    (hs : ∀ x, foldedSetIterable iter X.env x = pure x := by intro _; rfl) : RS X W (.For tg iter body [] pos) (zFor mi f mb) :=
  let ⟨_, p, s⟩ := hi.ex; let ⟨_, q, u⟩ := hg.ex; let ⟨_, q2, u2⟩ := hb.ex; ⟨_, ps_for hp hc p q q2 hs, simS_for s (u _ _ _) u2⟩
end
end Rx
/-! Rx 4: comprehensions. -/
namespace Rx
open PySem L2 PySem.Spec PyProof.Rows Evl

/-- the one reading of m -/
def tOf {T U : Type} (K : KF) (W : WX) (rel : S3 → T → U → Prop) (m : MM T) : L2.St → Hp → (U → Hp → Prop) → Prop := fun σ H Q =>
  ∃ (s : S3) (A : List AO) (d : DSt), s.H = H ∧ SR K s A ∧ RSt K s d σ ∧
    Good (m d A) (fun x A' => ∀ (t' : S3) (v : U), Post s t' → SR K t' A' → rel t' x v → Q v t'.H) (fun x A' => ∀ t' : S3, Post s t' → SR K t' A' → W.w x σ t')
theorem tOf_sim {T U : Type} {K : KF} {W : WX} {rel : S3 → T → U → Prop} {m : MM T} : Sim K W rel (tOf K W rel m) m := fun s A d σ Q hs hσ h => ⟨s, A, d, rfl, hs, hσ, h⟩
theorem Sim.toOf {T U : Type} {K : KF} {W : WX} {rel : S3 → T → U → Prop} {t : L2.St → Hp → (U → Hp → Prop) → Prop} {m : MM T} (h : Sim K W rel t m) {σ : L2.St} {H : Hp} {Q : U → Hp → Prop} (g : tOf K W rel m σ H Q) : t σ H Q := by
  obtain ⟨s, A, d, rfl, hs, hσ, g⟩ := g
  exact h s A d σ Q hs hσ g
section
variable {X : Cx} {W : WX}
theorem RE.pe {e : Expr} {m : MM SV} (h : RE X W e m) : PE X e (tOf (kf X W) W (RV X.K) m) := let ⟨t, p, s⟩ := h.ex; ⟨fun pins s1 σ H Q I g => p.run pins s1 σ H Q I (s.toOf g)⟩
structure RTs (X : Cx) (W : WX) (ifs : List Expr) (m : MM Bool) : Prop where
  ex : ∃ t, PTs X ifs t ∧ Sim (kf X W) W same t m
theorem RTs.pe {e : List Expr} {m : MM Bool} (h : RTs X W e m) : PTs X e (tOf (kf X W) W same m) := let ⟨t, p, s⟩ := h.ex; ⟨fun pins s1 σ H Q I g => p.run pins s1 σ H Q I (s.toOf g)⟩
def mYes : MM Bool := fun _ A => .ok true A
theorem rts_nil : RTs X W [] mYes := ⟨_, pts_nil, fun s A d σ Q hs hσ h => h s true (Post.refl _) hs rfl⟩
theorem rts_one {c : Expr} {m : MM Bool} (h : RT X W c m) : RTs X W [c] m := let ⟨_, p, s⟩ := h.ex; ⟨_, pts_one p, s⟩
theorem RI.pe {tg e : Expr} {m : MM (List SV)} (h : RI X W tg e m) : PI X tg e (tOf (kf X W) W (Walks (kf X W)) m) := let ⟨t, p, s⟩ := h.ex; ⟨fun pins s1 σ H Q I g => p.run pins s1 σ H Q I (s.toOf g)⟩
/-- the one reading of a target -/
def gOf (K : KF) (js : List Nat) (f : TgF) : TG := fun v σ H Q => ∃ (s : S3) (A : List AO) (x : SV) (d d' : DSt), s.H = H ∧ SR K s A ∧ RSt K s d σ ∧ RV K s x v ∧ f x d = some d' ∧ ∀ σ', RSt K s d' σ' → OffEq js σ σ' → Q σ' s.H
theorem gOf_sim {K : KF} {js : List Nat} {f : TgF} : SimT K js (gOf K js f) f := fun s A x v d d' σ Q hs hσ r e h => ⟨s, A, x, d, d', rfl, hs, hσ, r, e, h⟩
theorem RG.pe (T : List (Addr × Str)) (F0 : Hp) (M0 : List Addr) {tg : Expr} {js : List Nat} {f : TgF} (h : RG X tg js f) : PG X tg (gOf ⟨X.K, T, F0, M0⟩ js f) := let ⟨t, p, sf⟩ := h.ex; ⟨fun pins s1 σ H v u Q I r g => p.run pins s1 σ H v u Q I r (by
  obtain ⟨s, A, x, d, d', rfl, hs, hσ, rv, e, g⟩ := g
  exact sf T F0 M0 s A x v d d' σ Q hs hσ rv e g)⟩
end

theorem wipe_get {σ : L2.St} : ∀ (vs : List Nat) (i : Nat), (L2.wipe σ vs)[i]? = if i ∈ vs ∧ i < σ.length then some none else σ[i]?
  | [], i => by simp [L2.wipe]
  | v :: vs, i => by
    show ((L2.wipe σ vs).set v none)[i]? = _
    by_cases hv : v = i
    · subst hv
      by_cases hl : v < σ.length
      · rw [List.getElem?_set_self (by rw [L2.wipe_length]; exact hl)]
        simp [hl]
      · rw [List.getElem?_eq_none (by rw [List.length_set, L2.wipe_length]; omega)]
        rw [if_neg (by omega)]
        exact (List.getElem?_eq_none (by omega)).symm
    · rw [List.getElem?_set_ne hv, wipe_get vs i]
      have : (i ∈ v :: vs) ↔ i ∈ vs := by
        rw [List.mem_cons]
        exact ⟨fun h => h.resolve_left fun e => hv e.symm, .inr⟩
      simp only [this]
theorem wipe_off {σ σ' : L2.St} {js vs : List Nat} (h : OffEq js (L2.wipe σ vs) σ') (hj : ∀ j ∈ js, j ∈ vs) : L2.wipe σ' vs = L2.wipe σ vs := by
  have hl : σ'.length = σ.length := h.1.trans (L2.wipe_length _ _)
  apply List.ext_getElem?
  intro i
  rw [wipe_get, wipe_get, hl]
  by_cases hi : i ∈ vs ∧ i < σ.length
  · rw [if_pos hi, if_pos hi]
  · rw [if_neg hi, if_neg hi]
    by_cases hv : i ∈ vs
    · have : ¬ i < σ.length := fun z => hi ⟨hv, z⟩
      rw [List.getElem?_eq_none (by omega), List.getElem?_eq_none (by omega)]
    · rw [h.2 i fun z => hv (hj i z), wipe_get, if_neg hi]

/-! ### an object aside: D is tracked by nobody but the comprehension -/
def rem (H : Hp) (D : Addr) : Hp := fun a => if a = D then none else H a
theorem rem_ne {H : Hp} {D a : Addr} (h : a ≠ D) : rem H D a = H a := if_neg h
theorem rem_same {H : Hp} {D : Addr} : rem H D D = none := if_pos rfl
theorem upd_rem {H : Hp} {D : Addr} {o : HO} : upd (rem H D) D o = upd H D o := by
  funext a
  unfold upd rem
  split <;> rfl
theorem upd_self {H : Hp} {D : Addr} {o : HO} (h : H D = some o) : upd H D o = H := by
  funext a
  unfold upd
  split
  · rename_i e; rw [e, h]
  · rfl
section
variable {K : KF} {s t : S3} {A : List AO} {D : Addr} {o : HO}
/-- behind a run that began with D aside -/
theorem aside (hs : SR K s A) (hD : s.H D = none) (p : Post (s.newH D o) t) {B : List AO} (ht : SR K t B) (ho : ∀ ps, o ≠ .tbl ps := by intro _ z; cases z) :
    t.H D = some o ∧ Post s ⟨t.F, rem t.H D, t.mu⟩ ∧ SR K ⟨t.F, rem t.H D, t.mu⟩ B ∧ t = (⟨t.F, rem t.H D, t.mu⟩ : S3).newH D o := by
  have hm : D ∉ s.mu := hs.nomu hD
  have e1 : t.H D = some o := p.keep D o upd_same hm ho
  have eF : t.F D = none := by
    cases h : t.F D with
    | none => rfl
    | some u =>
      rcases p.fnew D u h with z | z
      · have z' : s.F D = some u := z
        rw [hs.nof hD] at z'; cases z'
      · have z' : upd s.H D o D = none := z
        rw [upd_same] at z'; cases z'
  have fre : ∀ a, (s.newH D o).H a = none → s.H a = none := fun a h => by
    by_cases ha : a = D
    · subst ha; exact hD
    · rw [← h]; exact (upd_ne ha).symm
  have emu : D ∉ t.mu := fun z => by
    obtain ⟨nu, e, n⟩ := p.pre
    rw [e] at z
    rcases List.mem_append.mp z with z | z
    · exact hm z
    · have q := n D z
      have q' : upd s.H D o D = none := q
      rw [upd_same] at q'; cases q'
  refine ⟨e1, ⟨p.fx, fun a u h => ?_, ?_, fun a u h hn hu => ?_, fun a h => ?_⟩, ⟨fun a u h => ?_, ht.dis, ht.nd, ht.len, fun a ha => ?_, fun i a xs h1 h2 => ?_, fun q hq => (ht.tb q hq).up (Ex.refl _) (fun e => e) fun ps e => ?_, ht.bs, ht.mb⟩, ?_⟩
  · rcases p.fnew a u h with z | z
    · exact .inl z
    · exact .inr (fre a z)
  · obtain ⟨nu, e, n⟩ := p.pre
    exact ⟨nu, e, fun a ha => fre a (n a ha)⟩
  · have ne : a ≠ D := fun z => by rw [z, hD] at h; cases h
    show rem t.H D a = some u
    rw [rem_ne ne]
    exact p.keep a u (by show upd s.H D o a = some u; rw [upd_ne ne]; exact h) hn hu
  · by_cases ha : a = D
    · subst ha; exact hD
    · have h : rem t.H D a = none := h
      rw [rem_ne ha] at h
      exact fre a (p.dom a h)
  · have ne : a ≠ D := fun z => by
      have h : t.F a = some u := h
      rw [z, eF] at h; cases h
    show rem t.H D a = some u
    rw [rem_ne ne]
    exact ht.sub a u h
  · obtain ⟨u, e⟩ := ht.on a ha
    have ne : a ≠ D := fun z => emu (z ▸ ha)
    exact ⟨u, (rem_ne ne).trans e⟩
  · obtain ⟨vs, e3, e4⟩ := ht.obj i a xs h1 h2
    have ne : a ≠ D := fun z => emu (z ▸ List.mem_of_getElem? h1)
    exact ⟨vs, (rem_ne ne).trans e3, e4⟩
  · obtain ⟨_, ps', e', _⟩ := hs.tb q hq
    exact (rem_ne (fun z => by rw [z, hD] at e'; cases e')).trans e
  · cases t with
    | mk F H mu =>
      show (⟨F, H, mu⟩ : S3) = ⟨F, upd (rem H D) D o, mu⟩
      rw [upd_rem, upd_self e1]
/-- D changed -/
theorem newH_again (hD : s.H D = none) (o u : HO) : upd (s.newH D o).H D u = (s.newH D u).H := by
  show upd (upd s.H D o) D u = upd s.H D u
  exact upd_upd
end

/-- the turns of a comprehension -/
def lcGo (f : TgF) (tt : MM Bool) (el : MM SV) (d : DSt) : List SV → List AO → RR (List PyData)
  | [], A => .ok [] A
  | x :: xs, A => match f x d with
    | none => .bad
    | some d1 => (tt d1 A).quiet.bind fun b A1 => if b = true then (el d1 A1).quiet.bind fun y A2 => match y with
        | .dat e => (lcGo f tt el d xs A2).bind fun r A3 => .ok (e :: r) A3
        | _ => .bad
      else lcGo f tt el d xs A1
def mLc (vs : List Nat) (mi : MM (List SV)) (f : TgF) (tt : MM Bool) (el : MM SV) : MM (List PyData) := fun d A => (mi d A).bind fun xs A1 => (lcGo f tt el (dwipe d vs) xs A1).quiet.bind fun r A2 => if sz r.length then .ok r A2 else .bad
section
variable {K : KF}
/-- the loop of one clause -/
theorem lc_loop {g : TG} {tt : TT} {te : TE} {js vs : List Nat} {f : TgF} {mt : MM Bool} {el : MM SV} (hg : SimT K js g f) (hj : ∀ j ∈ js, j ∈ vs) (ht : Sim K (NoK K) same tt mt) (he : Sim K (NoK K) (RV K) te el)
    {s : S3} {A : List AO} {d : DSt} {σ : L2.St} {D : Addr} {xs : List SV} {J : It} {acc : List PyData} {ws : List V} {Fin : Hp → Prop} (hs : SR K s A) (hσ : RSt K s d σ) (hD : s.H D = none) (hw : Walks K s xs J) (ha : DqAll K s.F ws acc)
    (h : Good (lcGo f mt el (dwipe d vs) xs A) (fun r A' => sz (acc ++ r).length = true ∧ ∀ (t : S3) (us : List V), Post s t → SR K t A' → t.H D = none → DqAll K t.F us (acc ++ r) → Fin (upd t.H D (.lst us))) NoX) :
    ∃ W : Nat → Nat → Hp → Prop, (∃ m, W 0 m (upd s.H D (.lst ws))) ∧ ∀ i m H, W i m H →
      (J.stop i H ∧ Fin H) ∨ (J.go i H ∧ ∃ Nx : Hp → Prop, (∀ H', Nx H' → ∃ m', m' < m ∧ W (i + 1) m' H') ∧ ∀ x H', J.yld i H x H' → g x (L2.wipe σ vs) H' fun σ2 H2 => L2.wipe σ2 vs = L2.wipe σ vs ∧ tt σ2 H2 fun b H3 =>
        if b = true then te σ2 H3 fun y H4 => ∃ acc, H4 D = some (.lst acc) ∧ acc.length < sizeLine ∧ Nx (upd H4 D (.lst (acc ++ [y]))) else Nx H3) := by
  let Inv1 : Nat → Hp → Prop := fun i H => ∃ (s' : S3) (A' : List AO) (acc' : List PyData) (ws' : List V), H = (s'.newH D (.lst ws')).H ∧ Post s s' ∧ SR K s' A' ∧ s'.H D = none ∧ DqAll K s'.F ws' acc' ∧
    Good (lcGo f mt el (dwipe d vs) (xs.drop i) A') (fun r A'' => sz (acc' ++ r).length = true ∧ ∀ (t : S3) (us : List V), Post s' t → SR K t A'' → t.H D = none → DqAll K t.F us (acc' ++ r) → Fin (upd t.H D (.lst us))) NoX
  refine ⟨fun i m H => m = xs.length - i ∧ i ≤ xs.length ∧ Inv1 i H, ⟨xs.length, by simp, Nat.zero_le _, s, A, acc, ws, rfl, Post.refl _, hs, hD, ha, h⟩, ?_⟩
  rintro i m _ ⟨rfl, hle, s', A', acc', ws', rfl, p', hs', hD', ha', h'⟩
  have hsD : SR K (s'.newH D (.lst ws')) A' := hs'.newH hD' _
  have pD : Post s' (s'.newH D (.lst ws')) := Post.newH hD' _
  obtain ⟨wy, wstop⟩ := hw i (s'.newH D (.lst ws')) A' (p'.trans pD).fx hsD
  by_cases hlt : i < xs.length
  · have hx : xs[i]? = some xs[i] := List.getElem?_eq_getElem hlt
    have hdrop : xs.drop i = xs[i] :: xs.drop (i + 1) := List.drop_eq_getElem_cons hlt
    rw [hdrop] at h'
    obtain ⟨go, yl⟩ := wy _ hx
    refine .inr ⟨go, Inv1 (i + 1), fun H2 q => ⟨xs.length - (i + 1), by omega, rfl, hlt, q⟩, fun v H2 y => ?_⟩
    obtain ⟨u, rfl, pu, hu, ru⟩ := yl v H2 y
    unfold lcGo at h'
    cases hf : f xs[i] (dwipe d vs) with
    | none => simp only [hf] at h'; exact h'.elim
    | some d1 =>
      simp only [hf] at h'
      have hσu : RSt K u (dwipe d vs) (L2.wipe σ vs) := (((hσ.up p').up pD).up pu).wipe vs
      refine hg u A' _ v _ d1 _ _ hu hσu ru hf fun σ3 hσ3 off => ⟨wipe_off off hj, ?_⟩
      refine ht u A' d1 σ3 _ hu hσ3 (Good.mono (Good.qb h') (fun b A1 h1 u1 b' p1 hu1 r1 => ?_) (fun _ _ z => z.elim))
      have r1 : b = b' := r1
      subst r1
      cases b with
      | false =>
        have h1 : Good (lcGo f mt el (dwipe d vs) (xs.drop (i + 1)) A1) _ _ := h1
        show Inv1 (i + 1) u1.H
        obtain ⟨e1, q1, hs1, e2⟩ := aside hs' hD' (pu.trans p1) hu1
        refine ⟨⟨u1.F, rem u1.H D, u1.mu⟩, A1, acc', ws', congrArg S3.H e2, p'.trans q1, hs1, rem_same, DqAll.up q1.fx _ ha', Good.mono h1 (fun r A'' z => ⟨z.1, fun t us pt => z.2 t us (q1.trans pt)⟩) (fun _ _ z => z)⟩
      | true =>
        have h1 : Good ((el d1 A1).quiet.bind _) _ _ := h1
        show te σ3 u1.H _
        refine he u1 A1 d1 σ3 _ hu1 (hσ3.up p1) (Good.mono (Good.qb h1) (fun y A2 h2 u2 w p2 hu2 r2 => ?_) (fun _ _ z => z.elim))
        cases y with
        | dat e =>
          obtain ⟨e1, q1, hs1, e2⟩ := aside hs' hD' ((pu.trans p1).trans p2) hu2
          have h2 : Good ((lcGo f mt el (dwipe d vs) (xs.drop (i + 1)) A2).bind fun r A3 => .ok (e :: r) A3) _ _ := h2
          have h3 := Good.bind h2
          have dw : DqAll K u2.F (ws' ++ [w]) (acc' ++ [e]) := DqAll.app (DqAll.up q1.fx _ ha') (.cons r2 .nil)
          have hz : acc'.length < sizeLine := by
            cases hr : lcGo f mt el (dwipe d vs) (xs.drop (i + 1)) A2 with
            | ok r A3 =>
              rw [hr] at h3
              have z := sz_ok h3.1
              rw [List.length_append, List.length_cons] at z
              omega
            | exc x A3 => rw [hr] at h3; exact h3.elim
            | bad => rw [hr] at h3; exact h3.elim
          refine ⟨ws', e1, by rw [DqAll.length ha']; exact hz, ?_⟩
          refine ⟨⟨u2.F, rem u2.H D, u2.mu⟩, A2, acc' ++ [e], ws' ++ [w], ?_, p'.trans q1, hs1, rem_same, dw, Good.mono h3 (fun r A'' z => ?_) (fun _ _ z => z)⟩
          · show upd u2.H D _ = upd (rem u2.H D) D _
            rw [upd_rem]
          · have er : acc' ++ [e] ++ r = acc' ++ e :: r := by simp
            rw [er]
            exact ⟨z.1, fun t us pt => z.2 t us (q1.trans pt)⟩
        | ref j => exact h2.elim
        | adr a => exact h2.elim
  · have e : i = xs.length := by omega
    subst e
    rw [List.drop_length] at h'
    have h' : sz (acc' ++ []).length = true ∧ _ := h'
    refine .inl ⟨wstop (Nat.le_refl _), ?_⟩
    exact h'.2 s' ws' (Post.refl _) hs' hD' (by rw [List.append_nil]; exact ha')
theorem simN_lc {W : WX} {wi : TI} {g : TG} {tt : TT} {te : TE} {js vs : List Nat} {mi : MM (List SV)} {f : TgF} {mt : MM Bool} {el : MM SV} (hi : Sim K W (Walks K) wi mi) (hg : SimT K js g f) (hj : ∀ j ∈ js, j ∈ vs) (ht : Sim K (NoK K) same tt mt) (he : Sim K (NoK K) (RV K) te el) :
    SimN K W (tLc wi g tt te vs) (mLc vs mi f mt el) := fun s A d σ Q hs hσ h => by
  refine hi s A d σ _ hs hσ (Good.mono (Good.bind h) (fun xs A1 h1 s1 J p1 hs1 w1 D hD => ?_) (fun _ _ z => z))
  refine lc_loop hg hj ht he hs1 (hσ.up p1) hD w1 .nil ?_
  cases hr : lcGo f mt el (dwipe d vs) xs A1 with
  | ok r A2 =>
    rw [hr] at h1
    have h1 : Good (if sz r.length then RR.ok r A2 else .bad) _ _ := h1
    by_cases hz : sz r.length = true
    · rw [if_pos hz] at h1
      exact ⟨hz, fun t us pt ht' hD' dp => h1 t D us (p1.trans pt) ht' hD' dp⟩
    · rw [if_neg hz] at h1; exact h1.elim
  | exc x A2 => rw [hr] at h1; exact h1.elim
  | bad => rw [hr] at h1; exact h1.elim
/-- two clauses -/
def lcGo2 (f : TgF) (tt : MM Bool) (mi1 : MM (List SV)) (f1 : TgF) (tt1 : MM Bool) (el : MM SV) (vs1 : List Nat) (d : DSt) : List SV → List AO → RR (List PyData)
  | [], A => .ok [] A
  | x :: xs, A => match f x d with
    | none => .bad
    | some d1 => (tt d1 A).quiet.bind fun b A1 => if b = true then (mi1 d1 A1).quiet.bind fun ys A2 => (lcGo f1 tt1 el (dwipe d1 vs1) ys A2).bind fun r1 A3 => (lcGo2 f tt mi1 f1 tt1 el vs1 d xs A3).bind fun r2 A4 => .ok (r1 ++ r2) A4
      else lcGo2 f tt mi1 f1 tt1 el vs1 d xs A1
def mLc2 (vs : List Nat) (mi : MM (List SV)) (f : TgF) (tt : MM Bool) (vs1 : List Nat) (mi1 : MM (List SV)) (f1 : TgF) (tt1 : MM Bool) (el : MM SV) : MM (List PyData) := fun d A => (mi d A).bind fun xs A1 => (lcGo2 f tt mi1 f1 tt1 el vs1 (dwipe d vs) xs A1).quiet.bind fun r A2 => if sz r.length then .ok r A2 else .bad
theorem Good.quietI {T : Type} {r : RR T} {P : T → List AO → Prop} {E : EV → List AO → Prop} (h : Good r P NoX) : Good r P E := Good.mono h (fun _ _ z => z) (fun _ _ z => z.elim)
theorem simN_lc2 {W : WX} {wi wi1 : TI} {g g1 : TG} {tt tt1 : TT} {te : TE} {js js1 vs vs1 : List Nat} {mi mi1 : MM (List SV)} {f f1 : TgF} {mt mt1 : MM Bool} {el : MM SV} (hi : Sim K W (Walks K) wi mi) (hg : SimT K js g f) (hj : ∀ j ∈ js, j ∈ vs) (ht : Sim K (NoK K) same tt mt)
    (hi1 : Sim K (NoK K) (Walks K) wi1 mi1) (hg1 : SimT K js1 g1 f1) (hj1 : ∀ j ∈ js1, j ∈ vs1) (ht1 : Sim K (NoK K) same tt1 mt1) (he : Sim K (NoK K) (RV K) te el) :
    SimN K W (tLc2 wi g tt wi1 g1 tt1 te vs vs1) (mLc2 vs mi f mt vs1 mi1 f1 mt1 el) := fun s A d σ Q hs hσ h => by
  refine hi s A d σ _ hs hσ (Good.mono (Good.bind h) (fun xs A1 h1 s1 J p1 hs1 hw D hD => ?_) (fun _ _ z => z))
  have hσ1 := hσ.up p1
  let Inv1 : Nat → Hp → Prop := fun i H => ∃ (s' : S3) (A' : List AO) (acc' : List PyData) (ws' : List V), H = (s'.newH D (.lst ws')).H ∧ Post s1 s' ∧ SR K s' A' ∧ s'.H D = none ∧ DqAll K s'.F ws' acc' ∧
    Good (lcGo2 f mt mi1 f1 mt1 el vs1 (dwipe d vs) (xs.drop i) A') (fun r A'' => sz (acc' ++ r).length = true ∧ ∀ (t : S3) (us : List V), Post s' t → SR K t A'' → t.H D = none → DqAll K t.F us (acc' ++ r) → Q (.ref D) (upd t.H D (.lst us))) NoX
  refine ⟨fun i m H => m = xs.length - i ∧ i ≤ xs.length ∧ Inv1 i H, ⟨xs.length, by simp, Nat.zero_le _, s1, A1, [], [], rfl, Post.refl _, hs1, hD, .nil, ?_⟩, ?_⟩
  · cases hr : lcGo2 f mt mi1 f1 mt1 el vs1 (dwipe d vs) xs A1 with
    | ok r A2 =>
      rw [hr] at h1
      have h1 : Good (if sz r.length then RR.ok r A2 else .bad) _ _ := h1
      rw [List.drop_zero, hr]
      by_cases hz : sz r.length = true
      · rw [if_pos hz] at h1
        exact ⟨hz, fun t us pt ht' hD' dp => h1 t D us (p1.trans pt) ht' hD' dp⟩
      · rw [if_neg hz] at h1; exact h1.elim
    | exc x A2 => rw [hr] at h1; exact h1.elim
    | bad => rw [hr] at h1; exact h1.elim
  rintro i m _ ⟨rfl, hle, s', A', acc', ws', rfl, p', hs', hD', ha', h'⟩
  have hsD : SR K (s'.newH D (.lst ws')) A' := hs'.newH hD' _
  have pD : Post s' (s'.newH D (.lst ws')) := Post.newH hD' _
  obtain ⟨wy, wstop⟩ := hw i (s'.newH D (.lst ws')) A' (p'.trans pD).fx hsD
  by_cases hlt : i < xs.length
  · have hx : xs[i]? = some xs[i] := List.getElem?_eq_getElem hlt
    have hdrop : xs.drop i = xs[i] :: xs.drop (i + 1) := List.drop_eq_getElem_cons hlt
    rw [hdrop] at h'
    obtain ⟨go, yl⟩ := wy _ hx
    refine .inr ⟨go, Inv1 (i + 1), fun H2 q => ⟨xs.length - (i + 1), by omega, rfl, hlt, q⟩, fun v H2 y => ?_⟩
    obtain ⟨u, rfl, pu, hu, ru⟩ := yl v H2 y
    unfold lcGo2 at h'
    cases hf : f xs[i] (dwipe d vs) with
    | none => simp only [hf] at h'; exact h'.elim
    | some d1 =>
      simp only [hf] at h'
      have hσu : RSt K u (dwipe d vs) (L2.wipe σ vs) := (((hσ1.up p').up pD).up pu).wipe vs
      refine hg u A' _ v _ d1 _ _ hu hσu ru hf fun σ3 hσ3 off => ⟨wipe_off off hj, ?_⟩
      refine ht u A' d1 σ3 _ hu hσ3 (Good.mono (Good.qb h') (fun b A1' h1' u1 b' p1' hu1 r1 => ?_) (fun _ _ z => z.elim))
      have r1 : b = b' := r1
      subst r1
      cases b with
      | false =>
        have h1' : Good (lcGo2 f mt mi1 f1 mt1 el vs1 (dwipe d vs) (xs.drop (i + 1)) A1') _ _ := h1'
        show Inv1 (i + 1) u1.H
        obtain ⟨e1, q1, hs1', e2⟩ := aside hs' hD' (pu.trans p1') hu1
        refine ⟨⟨u1.F, rem u1.H D, u1.mu⟩, A1', acc', ws', congrArg S3.H e2, p'.trans q1, hs1', rem_same, DqAll.up q1.fx _ ha', Good.mono h1' (fun r A'' z => ⟨z.1, fun t us pt => z.2 t us (q1.trans pt)⟩) (fun _ _ z => z)⟩
      | true =>
        have h1' : Good ((mi1 d1 A1').quiet.bind _) _ _ := h1'
        show wi1 σ3 u1.H _
        refine hi1 u1 A1' d1 σ3 _ hu1 (hσ3.up p1') (Good.mono (Good.qb h1') (fun ys A2 h2 u2 J1 p2 hu2 w2 => ?_) (fun _ _ z => z.elim))
        obtain ⟨e1, q1, hs2, e2⟩ := aside hs' hD' ((pu.trans p1').trans p2) hu2
        have eH : u2.H = upd (rem u2.H D) D (.lst ws') := (congrArg S3.H e2)
        have hσ4 : RSt K ⟨u2.F, rem u2.H D, u2.mu⟩ d1 σ3 := ⟨hσ3.len, fun j x e => let ⟨v', e', r'⟩ := ((hσ3.up p1').up p2).val j x e; ⟨v', e', by
            cases x with
            | dat y => exact r'
            | ref k => exact r'
            | adr k => exact r'⟩⟩
        have key := lc_loop (K := K) (s := ⟨u2.F, rem u2.H D, u2.mu⟩) (A := A2) (d := d1) (σ := σ3) (D := D) (xs := ys) (J := J1) (acc := acc') (ws := ws') (Fin := Inv1 (i + 1)) hg1 hj1 ht1 he hs2 hσ4 rem_same w2 (DqAll.up q1.fx _ ha') (Good.mono (Good.bind h2) (fun r A3 z => ?_) (fun _ _ z => z))
        · rw [eH]; exact key
        · have z := Good.bind z
          refine ⟨?_, fun t us pt ht' hD3 dp => ⟨t, A3, acc' ++ r, us, rfl, (p'.trans q1).trans pt, ht', hD3, dp, Good.mono z (fun r2 A4 y => ?_) (fun _ _ y => y)⟩⟩
          · cases hr : lcGo2 f mt mi1 f1 mt1 el vs1 (dwipe d vs) (xs.drop (i + 1)) A3 with
            | ok r2 A4 =>
              rw [hr] at z
              have z1 := of_decide_eq_true z.1
              rw [List.length_append, List.length_append] at z1
              refine decide_eq_true ?_
              rw [List.length_append]
              omega
            | exc x A4 => rw [hr] at z; exact z.elim
            | bad => rw [hr] at z; exact z.elim
          · have er : acc' ++ r ++ r2 = acc' ++ (r ++ r2) := List.append_assoc _ _ _
            rw [er]
            exact ⟨y.1, fun t2 us2 pt2 => y.2 t2 us2 ((q1.trans pt).trans pt2)⟩
  · have e : i = xs.length := by omega
    subst e
    rw [List.drop_length] at h'
    have h' : sz (acc' ++ []).length = true ∧ _ := h'
    refine .inl ⟨wstop (Nat.le_refl _), ?_⟩
    exact h'.2 s' ws' (Post.refl _) hs' hD' (by rw [List.append_nil]; exact ha')
end
/-! the rules -/
section
variable {X : Cx} {W : WX}
abbrev AllB (X : Cx) (scope : Scope) (P : Cx → Prop) : Prop := ∀ (s : Shared) (H : Hp) (C : Addr) (cl : List (Str × Addr)) (fp : List Addr), P (X.blk s H scope (compEnvC scope cl C X.env) fp)
theorem rn_lc {elt tg iter : Expr} {ifs : List Expr} {scope : Scope} {own : List (Str × Nat)} {pos : Pos} {mi : MM (List SV)} {js : List Nat} {f : TgF} {mt : MM Bool} {el : MM SV} (hc : X.calm = true) (hN : X.N.Nodup) (hi : RI X W tg iter mi) (ok : BlkOk X.N X.env.scope scope own)
    (hg : AllB X scope fun Y => RG Y tg js f) (hj : ∀ j ∈ js, j ∈ own.map (·.2)) (ht : AllB X scope fun Y => RTs Y W.no ifs mt) (he : AllB X scope fun Y => RE Y W.no elt el) (hs : ∀ x, foldedSetIterable iter X.env x = pure x := by intro _; rfl) :
    RN X W (.ListComp elt [⟨tg, iter, ifs, 0⟩] scope pos) (mLc (own.map (·.2)) mi f mt el) := by
  obtain ⟨wi, pi, si⟩ := hi
  exact ⟨_, pe_lc hc hN pi ok (fun s H C cl fp => (hg s H C cl fp).pe W.T W.F0 W.M0) (fun s H C cl fp => (ht s H C cl fp).pe) (fun s H C cl fp => (he s H C cl fp).pe) hs, simN_lc si gOf_sim hj tOf_sim tOf_sim⟩
theorem rn_lc2 {elt tg iter tg1 iter1 : Expr} {ifs ifs1 : List Expr} {scope : Scope} {own : List (Str × Nat)} {vs1 : List Nat} {pos : Pos} {mi mi1 : MM (List SV)} {js js1 : List Nat} {f f1 : TgF} {mt mt1 : MM Bool} {el : MM SV} (hc : X.calm = true) (hN : X.N.Nodup) (hi : RI X W tg iter mi) (ok : BlkOk X.N X.env.scope scope own)
    (hv : ∀ i ∈ vs1, i ∈ own.map (·.2)) (hg : AllB X scope fun Y => RG Y tg js f) (hj : ∀ j ∈ js, j ∈ own.map (·.2)) (ht : AllB X scope fun Y => RTs Y W.no ifs mt) (hi1 : AllB X scope fun Y => RI Y W.no tg1 iter1 mi1) (hg1 : AllB X scope fun Y => RG Y tg1 js1 f1) (hj1 : ∀ j ∈ js1, j ∈ vs1)
    (ht1 : AllB X scope fun Y => RTs Y W.no ifs1 mt1) (he : AllB X scope fun Y => RE Y W.no elt el) (hs : ∀ x, foldedSetIterable iter X.env x = pure x := by intro _; rfl) (hs1 : ∀ env x, foldedSetIterable iter1 env x = pure x := by intro _ _; rfl) :
    RN X W (.ListComp elt [⟨tg, iter, ifs, 0⟩, ⟨tg1, iter1, ifs1, 0⟩] scope pos) (mLc2 (own.map (·.2)) mi f mt vs1 mi1 f1 mt1 el) := by
  obtain ⟨wi, pi, si⟩ := hi
  exact ⟨_, pe_lc2 hc hN pi ok hv (fun s H C cl fp => (hg s H C cl fp).pe W.T W.F0 W.M0) (fun s H C cl fp => (ht s H C cl fp).pe) (fun s H C cl fp => (hi1 s H C cl fp).pe) (fun s H C cl fp => (hg1 s H C cl fp).pe W.T W.F0 W.M0) (fun s H C cl fp => (ht1 s H C cl fp).pe) (fun s H C cl fp => (he s H C cl fp).pe) hs hs1,
    simN_lc2 si gOf_sim hj tOf_sim tOf_sim gOf_sim hj1 tOf_sim tOf_sim⟩
/-- name = [..], the list a datum | a list that will change -/
theorem rs_setLc {i : Nat} {y : Str} {py : Pos} {elt tg iter : Expr} {ifs : List Expr} {scope : Scope} {own : List (Str × Nat)} {pos spos : Pos} {mi : MM (List SV)} {js : List Nat} {f : TgF} {mt : MM Bool} {el : MM SV} (hc : X.calm = true) (hN : X.N.Nodup) (hy : X.N[i]? = some y) (hyl : X.env.scope.names.lookup y = some .local)
    (hsw : swapsWith (.ListComp elt [⟨tg, iter, ifs, 0⟩] scope pos) (some (.Name y py)) spos.line X.env = pure true) (hi : RI X W tg iter mi) (ok : BlkOk X.N X.env.scope scope own)
    (hg : AllB X scope fun Y => RG Y tg js f) (hj : ∀ j ∈ js, j ∈ own.map (·.2)) (ht : AllB X scope fun Y => RTs Y W.no ifs mt) (he : AllB X scope fun Y => RE Y W.no elt el) (hs : ∀ x, foldedSetIterable iter X.env x = pure x := by intro _; rfl) :
    RS X W (.Assign [.Name y py] (.ListComp elt [⟨tg, iter, ifs, 0⟩] scope pos) spos) (zAsg (mFrz (mLc (own.map (·.2)) mi f mt el)) (gtName i)) := by
  obtain ⟨wi, pi, si⟩ := hi
  refine ⟨_, ps_setLc hc hN hy hyl hsw pi ok (fun s H C cl fp => (hg s H C cl fp).pe W.T W.F0 W.M0) (fun s H C cl fp => (ht s H C cl fp).pe) (fun s H C cl fp => (he s H C cl fp).pe) hs, simS_asg (js := [i]) (sim_frz (simN_lc si gOf_sim hj tOf_sim tOf_sim)) ?_⟩
  intro s A x v d d' σ Q hs hσ r e hq
  cases e
  exact hq _ (hσ.set i r) ⟨by simp, fun j hj => List.getElem?_set_ne (fun e => hj (by simp [e]))⟩
theorem rs_setLcM {i : Nat} {y : Str} {py : Pos} {elt tg iter : Expr} {ifs : List Expr} {scope : Scope} {own : List (Str × Nat)} {pos spos : Pos} {mi : MM (List SV)} {js : List Nat} {f : TgF} {mt : MM Bool} {el : MM SV} (hc : X.calm = true) (hN : X.N.Nodup) (hy : X.N[i]? = some y) (hyl : X.env.scope.names.lookup y = some .local)
    (hsw : swapsWith (.ListComp elt [⟨tg, iter, ifs, 0⟩] scope pos) (some (.Name y py)) spos.line X.env = pure true) (hi : RI X W tg iter mi) (ok : BlkOk X.N X.env.scope scope own)
    (hg : AllB X scope fun Y => RG Y tg js f) (hj : ∀ j ∈ js, j ∈ own.map (·.2)) (ht : AllB X scope fun Y => RTs Y W.no ifs mt) (he : AllB X scope fun Y => RE Y W.no elt el) (hs : ∀ x, foldedSetIterable iter X.env x = pure x := by intro _; rfl) :
    RS X W (.Assign [.Name y py] (.ListComp elt [⟨tg, iter, ifs, 0⟩] scope pos) spos) (zAsgM (mLc (own.map (·.2)) mi f mt el) i) := by
  obtain ⟨wi, pi, si⟩ := hi
  exact ⟨_, ps_setLc hc hN hy hyl hsw pi ok (fun s H C cl fp => (hg s H C cl fp).pe W.T W.F0 W.M0) (fun s H C cl fp => (ht s H C cl fp).pe) (fun s H C cl fp => (he s H C cl fp).pe) hs, simS_asgM (simN_lc si gOf_sim hj tOf_sim tOf_sim)⟩
theorem rs_setLc2 {i : Nat} {y : Str} {py : Pos} {elt tg iter tg1 iter1 : Expr} {ifs ifs1 : List Expr} {scope : Scope} {own : List (Str × Nat)} {vs1 : List Nat} {pos spos : Pos} {mi mi1 : MM (List SV)} {js js1 : List Nat} {f f1 : TgF} {mt mt1 : MM Bool} {el : MM SV} (hc : X.calm = true) (hN : X.N.Nodup) (hy : X.N[i]? = some y) (hyl : X.env.scope.names.lookup y = some .local)
    (hsw : swapsWith (.ListComp elt [⟨tg, iter, ifs, 0⟩, ⟨tg1, iter1, ifs1, 0⟩] scope pos) (some (.Name y py)) spos.line X.env = pure true) (hi : RI X W tg iter mi) (ok : BlkOk X.N X.env.scope scope own)
    (hv : ∀ i ∈ vs1, i ∈ own.map (·.2)) (hg : AllB X scope fun Y => RG Y tg js f) (hj : ∀ j ∈ js, j ∈ own.map (·.2)) (ht : AllB X scope fun Y => RTs Y W.no ifs mt) (hi1 : AllB X scope fun Y => RI Y W.no tg1 iter1 mi1) (hg1 : AllB X scope fun Y => RG Y tg1 js1 f1) (hj1 : ∀ j ∈ js1, j ∈ vs1)
    (ht1 : AllB X scope fun Y => RTs Y W.no ifs1 mt1) (he : AllB X scope fun Y => RE Y W.no elt el) (hs : ∀ x, foldedSetIterable iter X.env x = pure x := by intro _; rfl) (hs1 : ∀ env x, foldedSetIterable iter1 env x = pure x := by intro _ _; rfl) :
    RS X W (.Assign [.Name y py] (.ListComp elt [⟨tg, iter, ifs, 0⟩, ⟨tg1, iter1, ifs1, 0⟩] scope pos) spos) (zAsg (mFrz (mLc2 (own.map (·.2)) mi f mt vs1 mi1 f1 mt1 el)) (gtName i)) := by
  obtain ⟨wi, pi, si⟩ := hi
  refine ⟨_, ps_setLc2 hc hN hy hyl hsw pi ok hv (fun s H C cl fp => (hg s H C cl fp).pe W.T W.F0 W.M0) (fun s H C cl fp => (ht s H C cl fp).pe) (fun s H C cl fp => (hi1 s H C cl fp).pe) (fun s H C cl fp => (hg1 s H C cl fp).pe W.T W.F0 W.M0) (fun s H C cl fp => (ht1 s H C cl fp).pe) (fun s H C cl fp => (he s H C cl fp).pe) hs hs1,
    simS_asg (js := [i]) (sim_frz (simN_lc2 si gOf_sim hj tOf_sim tOf_sim gOf_sim hj1 tOf_sim tOf_sim)) ?_⟩
  intro s A x v d d' σ Q hs hσ r e hq
  cases e
  exact hq _ (hσ.set i r) ⟨by simp, fun j hj => List.getElem?_set_ne (fun e => hj (by simp [e]))⟩
end
end Rx
/-! Rx 5: defs and their calls. -/
namespace Rx
open PySem L2 PySem.Spec PyProof.Rows Evl

/-- the classes of exceptions, by their numbers: the name, the field that is kept -/
def exNames : List (Str × Option Str) := [("InvalidLot", none), ("InvalidRow", none), ("InvalidMap", none), ("InvalidBook", none), ("InvalidReport", none), ("InvalidClaim", none), ("InvalidText", none), ("InvalidOperation", none),
  ("ParseError", some "spot"), ("InvalidNumber", some "given"), ("UnknownName", some "wanted"), ("NothingToUndo", some "done"), ("TooMany", some "limit"), ("Refused", some "reason")]
/-- what stands for an exception: its class, its dict -/
def XRep (K : PySem.W.Frag) (mg : Str → Option Value) (x : EV) (cls : Value) (dd : Option Addr) (t : S3) : Prop :=
  ∃ (nm : Str) (fo : Option Str) (C : Addr), exNames[x.c]? = some (nm, fo) ∧ mg nm = some (.ref C) ∧ cls = .ref C ∧ (∀ f, fo = some f → ∃ (dx : Addr) (v : V), dd = some dx ∧ t.F dx = some (.xd [(f, v)]) ∧ Dq K t.F v x.p)
/-- what a def's exceptions become -/
def Wd (K : KF) (mg : Str → Option Value) (E : XK) : WX := ⟨K.T, K.F0, K.M0, fun x _ t => ∀ cls dd, XRep K mg x cls dd t → E cls dd t.H⟩
/-- the exceptions of X find a taker in W -/
def Lets (X : Cx) (W : WX) : Prop := ∃ Wl : L2.WX, L2.Takes X Wl ∧ ∀ (x : EV) (σ : L2.St) (t : S3) (cls : Value) (dd : Option Addr), W.w x σ t → XRep X.K X.mg x cls dd t → Wl cls dd σ t.H
/-- the promise: what M says -/
def spM (K : KF) (mg : Str → Option Value) (n : Nat) (M : FL) : Sp := fun vs H Q E => ∃ (s : S3) (A : List AO) (xs : List SV), s.H = H ∧ SR K s A ∧ RVs K s xs vs ∧ xs.length = n ∧
  Good (M xs A) (fun x A' => ∀ (t : S3) (v : V), Post s t → SR K t A' → RV K t x v → Q v t.H) (fun x A' => ∀ t : S3, Post s t → SR K t A' → ∀ cls dd, XRep K mg x cls dd t → E cls dd t.H)
/-- a def at f keeps its promise where nothing is being shown (repr) and there is room -/
structure FnG (P : Program) (w : World) (K : PySem.W.Frag) (mg : Str → Option Value) (base : Heap) (k : Nat) (f : Addr) (fd : FuncData) (ps : List Str) (sp : Sp) : Prop where
  len : ∀ vs H Q E, sp vs H Q E → vs.length = ps.length
  run : ∀ (A : Around) (outer : List Env) (s : Shared) (H : Hp) (args : Args) (us : List Value) (vs : List V) (Q : VK) (E : XK), A.guards = some [] → Room k A → Env0 P w K mg base A outer s H → BindsTo s fd args (ps.zip us) → Vals vs us → sp vs H Q E →
    codeAny (model P w) A (.call (.ref f) args) (CR (L2.CX P w) outer P w H s Q E) s
/-- what a body's values become -/
def mfn (n : Nat) (ms : MS) : FL := fun xs A => match ms (xs.map some ++ List.replicate (n - xs.length) none) A with
  | .nx _ A' => .ok (.dat .none) A'
  | .rt x A' => .ok x A'
  | .exc x _ A' => .exc x A'
  | _ => .bad
abbrev BX (P : Program) (w : World) (K : PySem.W.Frag) (mg : Str → Option Value) (base : Heap) (N : List Str) (qual : Str) (st : Stmt) (f : Addr) (cdv : Value) (A : Around) (outer : List Env) (s : Shared) (H : Hp) (E : XK) : Cx :=
  cxOf (L2.CX P w) P w K mg base N qual (defScope st) f cdv A outer s H E
theorem rst_start {K : KF} {s : S3} {xs : List SV} {vs : List V} (n : Nat) (h : RVs K s xs vs) : RSt K s (xs.map some ++ List.replicate (n - xs.length) none) (vs.map some ++ List.replicate (n - vs.length) none) := by
  have hl := RVs.length h
  refine ⟨by simp [hl], fun i x e => ?_⟩
  by_cases hi : i < xs.length
  · rw [List.getElem?_append_left (by simpa using hi), List.getElem?_map] at e
    have key : ∀ {xs : List SV} {vs : List V} {i : Nat} {x : SV}, RVs K s xs vs → xs[i]? = some x → ∃ v, vs[i]? = some v ∧ RV K s x v := by
      intro xs
      induction xs with
      | nil => intro vs i x _ e; simp at e
      | cons y ys ih =>
        intro vs i x h e
        obtain ⟨v, r, rfl, h1, h2⟩ := h
        cases i with
        | zero => simp at e; subst e; exact ⟨v, rfl, h1⟩
        | succ i =>
          obtain ⟨v', a, b⟩ := ih (i := i) h2 (by simpa using e)
          exact ⟨v', by simpa using a, b⟩
    cases hx : xs[i]? with
    | none => rw [hx] at e; cases e
    | some y =>
      rw [hx] at e
      cases e
      obtain ⟨v, e1, r⟩ := key h hx
      refine ⟨v, ?_, r⟩
      rw [List.getElem?_append_left (by simpa [hl] using hi), List.getElem?_map, e1]
      rfl
  · rw [List.getElem?_append_right (by simpa using hi), List.getElem?_replicate] at e
    split at e <;> cases e
section
variable {P : Program} {w : World} {K : KF} {mg : Str → Option Value} {base : Heap}
/-- the code of the def at f -/
def CodeAt (K : PySem.W.Frag) (f : Addr) (cdv : Value) : Prop := ∃ (oc : Obj) (fd : FuncData), K.lookup f = some oc ∧ oc.data = .func fd ∧ fd.code = cdv
theorem fng_of {x qual : Str} {st : Stmt} {f : Addr} {fd : FuncData} {N ps : List Str} {k : Nat} {sp : Sp} (F : Fun K x qual st f fd) (S : FnScope N ps (defScope st)) (len : ∀ vs H Q E, sp vs H Q E → vs.length = ps.length)
    (hb : ∀ (cdv : Value), CodeAt K f cdv → ∀ (A : Around) (outer : List Env) (s : Shared) (H : Hp) (vs : List V) (Q : VK) (E : XK), A.guards = some [] → Room k (A.deeper (envOfC qual (defScope st) s.heap.objs.size f cdv)) → sp vs H Q E →
      ∃ t, PSs (BX P w K mg base N qual st f cdv A outer s H E) (defBody st) t ∧ t { nx := fun _ H' => Q .non H', rt := Q } (L2.start N vs) H) : FnG P w K mg base (k + 1) f fd ps sp := by
  obtain ⟨oc, od, kV, doc, pm, an, cdv, ct, osl, rfl, lk, hcd⟩ := F.ex
  refine ⟨len, ?_⟩
  intro A outer s H args us vs Q E hg hr e0 hbd r hsp
  have inK : K.K.In s.heap := e0.mod.kin.keeps fun b o z => (e0.bs b o z).1
  have nolim : s.heap.NoLimit := e0.mod.nolimit.keeps fun b o z => (e0.bs b o z).1
  have kinds : ∀ y ∈ ps.zip us, (defScope st).names.lookup y.1 = some .local ∨ ((defScope st).names.lookup y.1 = some .cell ∧ ((cellsFrom (s.heap.objs.size + 1) (defScope st).names []).lookup y.1).isSome = true) := by
    rintro ⟨n, v⟩ hy
    rcases S.par n (List.of_mem_zip hy).1 with q | q
    · exact Or.inl q
    · exact Or.inr ⟨q, PySem.W.cellsFrom_some _ _ _ (Or.inl q)⟩
  have step : ∀ (env : Env), env = newEnv (defScope st) s.heap.objs.size mainGlobals (cellsFrom (s.heap.objs.size + 1) (defScope st).names []) (qual ++ ".<locals>.") (some f) cdv none builtinsNs → ∀ s1 : Shared,
      InCallC s env.locals (bindL env.kindOf (ps.zip us) fun _ => none) env.cells (bindC env.kindOf (ps.zip us) fun _ => none) s1 →
      s1.heap.NoLimit ∧ codeAny (model P w) A (.func (defBody st) env) (CR (L2.CX P w) outer P w H s Q E) s1 := by
    intro env he s1 x
    subst he
    refine ⟨nolim.keeps x.toInCall.keep, codeAny_func ?_⟩
    obtain ⟨t, ht, hq⟩ := hb cdv ⟨_, _, lk, rfl, rfl⟩ A outer s H vs Q E hg (hr.deeper _) hsp
    have I : Inv (cxOf (L2.CX P w) P w K mg base N qual (defScope st) f cdv A outer s H E) [] (L2.start N vs) H s1 := inv_start S hr.hd e0 (len _ _ _ _ hsp) r x
    have fin : ∀ {σ' : L2.St} {H' : Hp} {v : V} {u : Value} {s' : Shared}, Inv (cxOf (L2.CX P w) P w K mg base N qual (defScope st) f cdv A outer s H E) [] σ' H' s' → RelV v u → Q v H' → CE outer P w H s Q u s' :=
      fun J rv q => ⟨_, _, J.os, J.bare, J.base, J.hok, rv, q⟩
    refine wpAny_mono (ht.run [] s1 (L2.start N vs) H _ I hq) (fun fl s' hs => ?_) (fun e s' hs => hs)
    cases fl with
    | ret u =>
      obtain ⟨v, σ', H', J, rv, q⟩ := hs
      exact fin J rv q
    | next =>
      obtain ⟨σ', H', J, q⟩ := hs
      exact fin (v := V.non) (u := Value.none) J rfl q
    | brk =>
      obtain ⟨_, _, _, q⟩ := hs
      exact q.elim
    | cont =>
      obtain ⟨_, _, _, q⟩ := hs
      exact q.elim
  exact codeAny_call_function hr.depth (inK _ _ lk) rfl S.co S.gen rfl (PySem.W.codeRec_of inK hcd) (hbd _ _ _ _ (wpAny_newFunctionEnv_cells S.kind kinds step))
theorem fn_mk {x qual : Str} {st : Stmt} {f : Addr} {fd : FuncData} {N ps : List Str} {k : Nat} {ms : MS} (F : Fun K x qual st f fd) (S : FnScope N ps (defScope st))
    (hb : ∀ (cdv : Value), CodeAt K f cdv → ∀ (A : Around) (outer : List Env) (s : Shared) (H : Hp) (E : XK), A.guards = some [] → Room k (A.deeper (envOfC qual (defScope st) s.heap.objs.size f cdv)) → RSs (BX P w K mg base N qual st f cdv A outer s H E) (Wd K mg E) (defBody st) ms) :
    FnG P w K mg base (k + 1) f fd ps (spM K mg ps.length (mfn N.length ms)) := by
  refine fng_of F S (fun vs H Q E ⟨s, A, xs, _, _, h, hl, _⟩ => (RVs.length h).trans hl) ?_
  intro cdv hcv A outer s0 H vs Q E hg hr ⟨s, A0, xs, eH, hs, hv, hl, g⟩
  obtain ⟨t, p, sm⟩ := hb cdv hcv A outer s0 H E hg hr
  refine ⟨t, p, ?_⟩
  subst eH
  have hst := rst_start N.length hv
  refine sm s A0 _ _ _ hs hst ?_
  unfold mfn at g
  cases hm : ms (xs.map some ++ List.replicate (N.length - xs.length) none) A0 with
  | nx d A1 =>
    rw [hm] at g
    exact fun t1 σ1 p1 h1 _ => g t1 .non p1 h1 .non
  | rt y A1 =>
    rw [hm] at g
    exact fun t1 v p1 h1 r1 => g t1 v p1 h1 r1
  | bk d A1 => rw [hm] at g; exact g.elim
  | ct d A1 => rw [hm] at g; exact g.elim
  | exc x d A1 =>
    rw [hm] at g
    exact fun t1 σ1 p1 h1 _ => g t1 p1 h1
  | bad => rw [hm] at g; exact g.elim
theorem lets_def {N : List Str} {qual : Str} {st : Stmt} {f : Addr} {cdv : Value} {A : Around} {outer : List Env} {s : Shared} {H : Hp} {E : XK} : Lets (BX P w K mg base N qual st f cdv A outer s H E) (Wd K mg E) :=
  ⟨fun cls d _ H => E cls d H, takes_of rfl rfl rfl rfl, fun x σ t cls dd h r => h cls dd r⟩
theorem po_def {N : List Str} {qual : Str} {st : Stmt} {f : Addr} {cdv : Value} {A : Around} {outer : List Env} {s : Shared} {H : Hp} {E : XK} : let X := BX P w K mg base N qual st f cdv A outer s H E; PassesOwn (model X.prog X.w) X.A X.env X.xe := passes_of rfl

/-- a def of the module, under its name -/
structure Dfd (K : PySem.W.Frag) (mg : Str → Option Value) (x qual : Str) (st : Stmt) (ps : List Str) : Prop where
  ex : ∃ f fd, mg x = some (.ref f) ∧ Fun K x qual st f fd ∧ Binds K fd ps []
/-- .. and its promise -/
structure Cal (P : Program) (w : World) (K : KF) (mg : Str → Option Value) (base : Heap) (k : Nat) (x : Str) (ps : List Str) (M : FL) : Prop where
  ex : ∃ f fd, mg x = some (.ref f) ∧ PySem.W.keepIn K (.ref f) = true ∧ Binds K fd ps [] ∧ FnG P w K mg base k f fd ps (spM K mg ps.length M)
theorem cal_of {x qual : Str} {st : Stmt} {N ps : List Str} {k : Nat} {ms : MS} (Df : Dfd K mg x qual st ps) (S : FnScope N ps (defScope st))
    (hb : ∀ (f : Addr) (cdv : Value), mg x = some (.ref f) → CodeAt K f cdv → ∀ (A : Around) (outer : List Env) (s : Shared) (H : Hp) (E : XK), A.guards = some [] → Room k (A.deeper (envOfC qual (defScope st) s.heap.objs.size f cdv)) → RSs (BX P w K mg base N qual st f cdv A outer s H E) (Wd K mg E) (defBody st) ms) :
    Cal P w K mg base (k + 1) x ps (mfn N.length ms) := by
  obtain ⟨f, fd, h1, h2, h3⟩ := Df.ex
  exact ⟨f, fd, h1, h2.kp, h3, fn_mk h2 S fun cdv hcv A outer s H E => hb f cdv h1 hcv A outer s H E⟩
end

/-! ### calls -/
section
variable {X : Cx} {W : WX}
theorem run_g {k : Nat} {f : Addr} {fd : FuncData} {ps : List Str} {sp : Sp} {pins : List (Addr × Obj)} {σ : L2.St} {H : Hp} {s : Shared} {Q : VK} {us : List Value} {vs : List V} {E : XK} (F : FnG X.prog X.w X.K X.mg X.base k f fd ps sp) (hg : X.A.guards = some []) (hr : Room k X.A) (hb : Binds X.K fd ps []) (hx : Passes (L2.CX X.prog X.w) X E)
    (I : Inv X pins σ H s) (r : Vals vs us) (h : sp vs H Q E) : wpAny (model X.prog X.w) X.A (call (.ref f) us) (EP X pins σ Q) X.xe s := by
  have hl : (us ++ []).length = ps.length := by rw [List.append_nil, ← r.length]; exact F.len _ _ _ _ h
  have bd := hb s us I.kIn hl
  rw [List.append_nil] at bd
  refine wpAny_call (codeAny_mono (F.run X.A X.stack s H ⟨us, []⟩ us vs Q E hg hr I.env0 bd r h) ?_)
  intro res s' hq
  cases res with
  | error e => exact hx pins σ H s e s' I hq
  | ok fl =>
    cases fl with
    | ret u => exact I.after hq
    | next => exact hq.elim
    | brk => exact hq.elim
    | cont => exact hq.elim
theorem passes_E0 : Passes (L2.CX X.prog X.w) X E0 := fun _ _ _ _ _ _ _ h => by
  obtain ⟨_, _, _, _, _, _, _, _, _, _, _, _, z⟩ := h
  exact z.elim
theorem pe_g {k : Nat} {f : Addr} {fd : FuncData} {ps : List Str} {sp : Sp} {x : Str} {p pos : Pos} {e : Expr} {es : List Expr} {t : TA} (F : FnG X.prog X.w X.K X.mg X.base k f fd ps sp) (hgd : X.A.guards = some []) (hr : Room k X.A) (hg : Gl X x) (hm : X.mg x = some (.ref f)) (hk : PySem.W.keepIn X.K (.ref f) = true) (hb : Binds X.K fd ps [])
    (ha : PA X (e :: es) t) (hdb : (x == ("__debug__" : Str)) = false) (he : starEach (e :: es) X.env = (false, eval e X.env) :: starEach es X.env) (hpl : (backTo pos (starEach es X.env)).any (·.1) = false) :
    PE X (.Call (.Name x p) (e :: es) [] pos) (tCall sp [] E0 t) := by
  refine ⟨fun pins s σ H Q I h => ?_⟩
  have h : t σ H fun vs H1 => sp (vs ++ []) H1 Q E0 := h
  simp only [List.append_nil] at h
  refine wpAny_Call_Name_kw (ld_glob I hg hm ?_ hdb)
  refine PySem.W.callWith_K (h₀ := X.base) I.ok.mod.kin hk (thn (ha.run pos pins s σ H _ I h) ?_) he hpl
  rintro us s1 ⟨vs, H1, I1, r, q⟩
  exact ⟨I1.kIn, run_g F hgd hr hb passes_E0 I1 r q⟩
/-- a call that hands on the whole state -/
def mCallF (M : FL) (n : Nat) (a : MM (List SV)) : MM SV := fun d A => (a d A).bind fun xs A1 => if xs.length = n then (M xs A1).quiet else .bad
/-- .. data alone: what is made within is the callee's own; the result a datum -/
def pureRun (M : FL) (xs : List SV) : Option PyData := match M xs [] with
  | .ok (.dat y) _ => some y
  | .ok (.ref i) A2 => match A2[i]? with
    | some (.lst ys) => some (.list ys)
    | none => none
  | _ => none
def isDat : SV → Bool
  | .ref _ => false
  | _ => true
def fCallP (M : FL) (n : Nat) : FL := fun xs A1 => if xs.length = n ∧ xs.all isDat = true then
    match pureRun M xs with
    | some y => .ok (.dat y) A1
    | none => .bad
  else .bad
def mCallP (M : FL) (n : Nat) (a : MM (List SV)) : MM SV := mCall (fCallP M n) a
theorem rvs_pure {K : KF} {s : S3} : ∀ {xs : List SV} {vs : List V}, RVs K s xs vs → xs.all isDat = true → RVs K ⟨s.F, s.H, []⟩ xs vs
  | [], _, h, _ => h
  | x :: xs, _, ⟨v, r, e, h1, h2⟩, h => by
    rw [List.all_cons, Bool.and_eq_true] at h
    refine ⟨v, r, e, ?_, rvs_pure h2 h.2⟩
    cases x with
    | dat d => exact h1
    | ref i =>
      have z : false = true := h.1
      cases z
    | adr a => exact h1
theorem sr_pure {K : KF} {s : S3} {A : List AO} (h : SR K s A) : SR K.base ⟨s.F, s.H, []⟩ [] :=
  ⟨h.sub, (fun a ha => nomatch ha), List.nodup_nil, rfl, (fun a ha => nomatch ha), (fun i a xs e => nomatch (show (none : Option Addr) = some a from e)), h.tb, (fun _ _ e => nomatch e), ⟨_, rfl⟩⟩
/-- behind a call on data alone -/
theorem behind_pure {K : KF} {s t : S3} {A : List AO} (h : SR K s A) (p : Post ⟨s.F, s.H, []⟩ t) (hsub : Ex t.F t.H) (htb : ∀ q ∈ K.T, TabF t.F t.H q.1 q.2) : Post s ⟨t.F, t.H, s.mu⟩ ∧ SR K ⟨t.F, t.H, s.mu⟩ A := by
  refine ⟨⟨p.fx, p.fnew, ⟨[], by simp, by simp⟩, fun a o e _ hu => p.keep a o e (by simp) hu, p.dom⟩, ⟨hsub, fun a ha => ?_, h.nd, h.len, fun a ha => ?_, fun i a xs e1 e2 => ?_, htb, h.bs.trans p.fx, h.mb⟩⟩
  · cases q : t.F a with
    | none => rfl
    | some o =>
      obtain ⟨u, e⟩ := h.on a ha
      rcases p.fnew a o q with z | z
      · have z : s.F a = some o := z
        rw [h.dis a ha] at z; cases z
      · have z : s.H a = none := z
        rw [e] at z; cases z
  · obtain ⟨i, hi⟩ := List.mem_iff_getElem?.mp ha
    obtain ⟨vs, e⟩ := h.lst hi
    exact ⟨_, p.keep a _ e (by simp) (fun _ z => by cases z)⟩
  · obtain ⟨vs, e3, e4⟩ := h.obj i a xs e1 e2
    exact ⟨vs, p.keep a _ e3 (by simp) (fun _ z => by cases z), DqAll.up p.fx xs e4⟩
theorem spM_pure {K : KF} {M : FL} {n : Nat} : CaS K (fun vs H Q => spM K.base mg n M vs H Q E0) (fCallP M n) := by
  intro s A xs vs Q hs hv g
  unfold fCallP at g
  split at g
  · rename_i hc
    refine ⟨⟨s.F, s.H, []⟩, [], xs, rfl, sr_pure hs, rvs_pure hv hc.2, hc.1, ?_⟩
    unfold pureRun at g
    cases hm : M xs [] with
    | ok y A2 =>
      rw [hm] at g
      cases y with
      | dat y =>
        have g : Good (RR.ok (SV.dat y) A) _ _ := g
        intro t v p ht r
        obtain ⟨p2, h2⟩ := behind_pure hs p ht.sub ht.tb
        exact g ⟨t.F, t.H, s.mu⟩ v p2 h2 r
      | ref i =>
        cases hA : A2[i]? with
        | none => simp only [hA] at g; exact g.elim
        | some o =>
          cases o with
          | lst ys =>
            simp only [hA] at g
            have g : Good (RR.ok (SV.dat (.list ys)) A) _ _ := g
            rintro t v p ht ⟨a, rfl, ea⟩
            obtain ⟨ws, e1, e2⟩ := ht.obj i a ys ea hA
            have am : a ∈ t.mu := List.mem_of_getElem? ea
            have aF : t.F a = none := ht.dis a am
            have aH : s.H a = none := by
              obtain ⟨nu, e, nn⟩ := p.pre
              have e : t.mu = [] ++ nu := e
              rw [List.nil_append] at e
              exact nn a (e ▸ am)
            have p' : Post ⟨s.F, s.H, []⟩ ⟨upd t.F a (.lst ws), t.H, t.mu⟩ := by
              refine ⟨p.fx.trans (Ex.new aF), fun b o e => ?_, p.pre, p.keep, p.dom⟩
              have e : upd t.F a (.lst ws) b = some o := e
              by_cases hb : b = a
              · subst hb; exact .inr aH
              · rw [upd_ne hb] at e; exact p.fnew b o e
            have hsub : Ex (upd t.F a (.lst ws)) t.H := fun b o e => by
              by_cases hb : b = a
              · subst hb; rw [upd_same] at e; rw [e1, ← e]
              · rw [upd_ne hb] at e; exact ht.sub b o e
            obtain ⟨p2, h2⟩ := behind_pure hs p' hsub (fun q hq => (ht.tb q hq).upL aF e1)
            exact g ⟨upd t.F a (.lst ws), t.H, s.mu⟩ (.ref a) p2 h2 (.lst (sq_of (show upd t.F a (.lst ws) a = _ from upd_same)) (DqAll.up (Ex.new aF) ys e2))
      | adr a => exact g.elim
    | exc x A2 => rw [hm] at g; exact g.elim
    | bad => rw [hm] at g; exact g.elim
  · exact g.elim
theorem spM_full {K : KF} {M : FL} {n : Nat} : CaS K (fun vs H Q => spM K.base mg n M vs H Q E0) (fun xs A => if xs.length = n then (M xs A).quiet else .bad) := by
  intro s A xs vs Q hs hv g
  have g : Good (if xs.length = n then (M xs A).quiet else .bad) _ _ := g
  by_cases hl : xs.length = n
  · rw [if_pos hl] at g
    exact ⟨s, A, xs, rfl, hs.base, hv, hl, (Good.quiet g).mono (fun _ _ z t v p h r => z t v p (hs.re p h) r) (fun _ _ z => z.elim)⟩
  · rw [if_neg hl] at g; exact g.elim
theorem sim_call {K : KF} {sp : Sp} {f : FL} {ta : TA} {ma : MM (List SV)} (hf : CaS K (fun vs H Q => sp vs H Q E0) f) (ha : Sim K W (RVs K) ta ma) : Sim K W (RV K) (tCall sp [] E0 ta) (mCall f ma) := by
  have e : tCall sp [] E0 ta = tCB (fun vs H Q => sp vs H Q E0) ta := by
    funext σ H Q
    unfold tCall tCB
    simp only [List.append_nil]
  rw [e]
  exact sim_cb hf ha
theorem re_callP {k : Nat} {x : Str} {ps : List Str} {M : FL} {p pos : Pos} {e : Expr} {es : List Expr} {ma : MM (List SV)} (C : Cal X.prog X.w (kf X W).base X.mg X.base k x ps M) (hgd : X.A.guards = some []) (hr : Room k X.A) (ha : RA X W (e :: es) ma) (hg : Gl X x := by rfl) (hdb : (x == ("__debug__" : Str)) = false := by decide)
    (he : starEach (e :: es) X.env = (false, eval e X.env) :: starEach es X.env := by rfl) (hpl : (backTo pos (starEach es X.env)).any (·.1) = false := by rfl) : RE X W (.Call (.Name x p) (e :: es) [] pos) (mCallP M ps.length ma) := by
  obtain ⟨f, fd, hm, hk, hb, F⟩ := C.ex
  obtain ⟨t, pa, sa⟩ := ha
  exact ⟨_, pe_g F hgd hr hg hm hk hb pa hdb he hpl, sim_call spM_pure sa⟩
theorem re_callF {k : Nat} {x : Str} {ps : List Str} {M : FL} {p pos : Pos} {e : Expr} {es : List Expr} {ma : MM (List SV)} (C : Cal X.prog X.w (kf X W).base X.mg X.base k x ps M) (hgd : X.A.guards = some []) (hr : Room k X.A) (ha : RA X W (e :: es) ma) (hg : Gl X x := by rfl) (hdb : (x == ("__debug__" : Str)) = false := by decide)
    (he : starEach (e :: es) X.env = (false, eval e X.env) :: starEach es X.env := by rfl) (hpl : (backTo pos (starEach es X.env)).any (·.1) = false := by rfl) : RE X W (.Call (.Name x p) (e :: es) [] pos) (mCall (fun xs A => if xs.length = ps.length then (M xs A).quiet else .bad) ma) := by
  obtain ⟨f, fd, hm, hk, hb, F⟩ := C.ex
  obtain ⟨t, pa, sa⟩ := ha
  exact ⟨_, pe_g F hgd hr hg hm hk hb pa hdb he hpl, sim_call spM_full sa⟩
end
end Rx
/-! Rx 6: operations on data. -/
namespace Rx
open PySem L2 PySem.Spec PyProof.Rows Evl

/-- where one stands: nothing is handled, nothing being shown, room -/
structure Fit (A : Around) : Prop where
  hd : A.handled = none
  un : A.units + 200 < cLine
  gd : A.guards = some []
/-- .. in an except suite, too -/
structure FitR (A : Around) : Prop where
  un : A.units + 200 < cLine
  gd : A.guards = some []
theorem Fit.r {A : Around} (h : Fit A) : FitR A := ⟨h.un, h.gd⟩
theorem fit_of {A : Around} {k : Nat} {env : Env} (hg : A.guards = some []) (hr : Room k (A.deeper env)) : Fit (A.deeper env) := ⟨hr.hd, by have := hr.un; omega, hg⟩

/-- the datum that a value is -/
def toD (A : List AO) : SV → Option PyData
  | .dat d => some d
  | .ref i => match A[i]? with
    | some (.lst xs) => some (.list xs)
    | none => none
  | .adr _ => none
theorem toD_ok {K : KF} {s : S3} {A : List AO} {x : SV} {v : V} {d : PyData} (hs : SR K s A) (r : RV K s x v) (e : toD A x = some d) : Dq K s.H v d := by
  cases x with
  | dat y => cases e; exact Dq.up hs.sub _ r
  | ref i =>
    obtain ⟨a, rfl, ea⟩ := r
    have e : (match A[i]? with | some (.lst xs) => some (PyData.list xs) | none => none) = some d := e
    cases hA : A[i]? with
    | none => rw [hA] at e; cases e
    | some o =>
      cases o with
      | lst xs =>
        rw [hA] at e
        cases e
        obtain ⟨vs, e3, e4⟩ := hs.obj i a xs ea hA
        exact .lst (sq_of e3) (DqAll.up hs.sub _ e4)
  | adr a => cases e
def okD (d : PyData) : Bool := d.plain && decide (d.depth ≤ 60)
theorem okD_ok {d : PyData} (h : okD d = true) : d.plain = true ∧ d.depth ≤ 60 := by
  unfold okD at h
  rw [Bool.and_eq_true] at h
  exact ⟨h.1, of_decide_eq_true h.2⟩
/-- a function of two data -/
def f2D (g : PyData → PyData → Option PyData) : F2 := fun x y A => match toD A x with
  | some d => match toD A y with
    | some e => match g d e with
      | some r => .ok (.dat r) A
      | none => .bad
    | none => .bad
  | none => .bad
theorem f2D_elim {g : PyData → PyData → Option PyData} {x y : SV} {A : List AO} {P : SV → List AO → Prop} {E : EV → List AO → Prop} (h : Good (f2D g x y A) P E) : ∃ d e r, toD A x = some d ∧ toD A y = some e ∧ g d e = some r ∧ P (.dat r) A := by
  unfold f2D at h
  cases hx : toD A x with
  | none => simp only [hx] at h; exact h.elim
  | some d =>
    simp only [hx] at h
    cases hy : toD A y with
    | none => simp only [hy] at h; exact h.elim
    | some e =>
      simp only [hy] at h
      cases hr : g d e with
      | none => simp only [hr] at h; exact h.elim
      | some r =>
        simp only [hr] at h
        exact ⟨d, e, r, rfl, rfl, hr, h⟩
/-- a rule whose reading speaks of data, its value a scalar -/
def rD (g : PyData → PyData → Option PyData) (K : PySem.W.Frag) : R2 := fun x y H Q => ∃ d e r v, Dq K H x d ∧ Dq K H y e ∧ g d e = some r ∧ (∀ F, Dq K F v r) ∧ Q v H
/-- what g gives is a scalar -/
def Scal (r : PyData) (v : V) : Prop := ∀ (K : PySem.W.Frag) (F : Hp), Dq K F v r
theorem opS_D {K : KF} {g : PyData → PyData → Option PyData} (hsc : ∀ d e r, g d e = some r → ∃ v, Scal r v) : OpS K (rD g K) (f2D g) := by
  intro s A dx dy x y Q hs rx ry h
  obtain ⟨d, e, r, h1, h2, h3, h4⟩ := f2D_elim h
  obtain ⟨v, sv⟩ := hsc d e r h3
  exact ⟨d, e, r, v, toD_ok hs rx h1, toD_ok hs ry h2, h3, fun F => sv K F, h4 s v (Post.refl _) hs (sv K s.F)⟩

/-! comparisons -/
def gEq (d e : PyData) : Option PyData := if okD d && okD e then some (.bool (PyData.eqv d e)) else none
def gNe (d e : PyData) : Option PyData := if okD d && okD e then some (.bool (!PyData.eqv d e)) else none
def okC (d e : PyData) : Bool := PySem.W.alike d e && okD d && okD e && (match d with | .none => false | _ => true)
def gLt (d e : PyData) : Option PyData := if okC d e then some (.bool (PySem.W.dataLt d e)) else none
def gGt (d e : PyData) : Option PyData := if okC d e then some (.bool (PySem.W.dataLt e d)) else none
def gLe (d e : PyData) : Option PyData := if okC d e then some (.bool (!PySem.W.dataLt e d)) else none
def gGe (d e : PyData) : Option PyData := if okC d e then some (.bool (!PySem.W.dataLt d e)) else none
def gIn (d e : PyData) : Option PyData := match e with
  | .list xs => if okD d && okD e then some (.bool (xs.any fun y => PyData.eqv y d)) else none
  | .tuple xs => if okD d && okD e then some (.bool (xs.any fun y => PyData.eqv y d)) else none
  | _ => none
def gNotIn (d e : PyData) : Option PyData := match e with
  | .list xs => if okD d && okD e then some (.bool (!xs.any fun y => PyData.eqv y d)) else none
  | .tuple xs => if okD d && okD e then some (.bool (!xs.any fun y => PyData.eqv y d)) else none
  | _ => none
theorem scal_bl (b : Bool) : Scal (.bool b) (.bl b) := fun _ _ => .bl b
section
variable {X : Cx} {W : WX}
theorem ifB {c : Bool} {b r : PyData} (h : (if c then some b else none) = some r) : c = true ∧ r = b := by
  cases c with
  | true => exact ⟨rfl, (Option.some.inj h).symm⟩
  | false => cases h
theorem scB {c : Bool} {b : Bool} {r : PyData} (h : (if c then some (PyData.bool b) else none) = some r) : ∃ v, Scal r v := by
  obtain ⟨_, rfl⟩ := ifB h
  exact ⟨_, scal_bl _⟩
theorem dpB {K : PySem.W.Frag} {v : V} {b : Bool} (h : ∀ F, Dq K F v (.bool b)) : v = .bl b := by
  cases h (fun _ => none)
  rfl
theorem room60 {A : Around} {d e : PyData} (ft : Fit A) (hd : d.depth ≤ 60) : A.units + min d.depth e.depth < cLine := by
  have := ft.un
  have := Nat.min_le_left d.depth e.depth
  omega
theorem op_eqX (ft : Fit X.A) : OpR X (compareOp .Eq) (rD gEq X.K) := by
  intro pins s σ H x y v u Q I rx ry ⟨d, e, r, z, h1, h2, h3, h4, q⟩
  obtain ⟨c, rfl⟩ := ifB h3
  rw [Bool.and_eq_true] at c
  obtain ⟨p1, q1⟩ := okD_ok c.1
  obtain ⟨p2, q2⟩ := okD_ok c.2
  obtain ⟨as, r1⟩ := Dp.reads I d x v (Dq.dp _ p1 h1) rx
  obtain ⟨bs, r2⟩ := Dp.reads I e y u (Dq.dp _ p2 h2) ry
  cases dpB h4
  exact SeqAt.eq_plain r1 r2 p1 p2 (room60 ft q1) ⟨.bl _, H, I, rfl, q⟩
theorem op_neX (ft : Fit X.A) : OpR X (compareOp .NotEq) (rD gNe X.K) := by
  intro pins s σ H x y v u Q I rx ry ⟨d, e, r, z, h1, h2, h3, h4, q⟩
  obtain ⟨c, rfl⟩ := ifB h3
  rw [Bool.and_eq_true] at c
  obtain ⟨p1, q1⟩ := okD_ok c.1
  obtain ⟨p2, q2⟩ := okD_ok c.2
  obtain ⟨as, r1⟩ := Dp.reads I d x v (Dq.dp _ p1 h1) rx
  obtain ⟨bs, r2⟩ := Dp.reads I e y u (Dq.dp _ p2 h2) ry
  cases dpB h4
  exact SeqAt.ne_plain r1 r2 p1 p2 (room60 ft q1) ⟨.bl _, H, I, rfl, q⟩
theorem okC_ok {d e : PyData} (h : okC d e = true) : PySem.W.alike d e = true ∧ d.depth ≤ 60 ∧ d ≠ .none := by
  unfold okC at h
  simp only [Bool.and_eq_true] at h
  refine ⟨h.1.1.1, (okD_ok h.1.1.2).2, fun z => ?_⟩
  subst z
  exact absurd h.2 (by decide)
theorem okC_plain {d e : PyData} (h : okC d e = true) : d.plain = true ∧ e.plain = true := by
  unfold okC at h
  simp only [Bool.and_eq_true] at h
  exact ⟨(okD_ok h.1.1.2).1, (okD_ok h.1.2).1⟩
theorem op_ltX (ft : Fit X.A) : OpR X (compareOp .Lt) (rD gLt X.K) := by
  intro pins s σ H x y v u Q I rx ry ⟨d, e, r, z, h1, h2, h3, h4, q⟩
  obtain ⟨c, rfl⟩ := ifB h3
  obtain ⟨p1, p2, p3⟩ := okC_ok c
  obtain ⟨o1, o2⟩ := okC_plain c
  obtain ⟨as, r1⟩ := Dp.reads I d x v (Dq.dp _ o1 h1) rx
  obtain ⟨bs, r2⟩ := Dp.reads I e y u (Dq.dp _ o2 h2) ry
  cases dpB h4
  exact PySem.W.lt_data r1 r2 p1 p3 (room60 ft p2) ⟨.bl _, H, I, rfl, q⟩
theorem op_gtX (ft : Fit X.A) : OpR X (compareOp .Gt) (rD gGt X.K) := by
  intro pins s σ H x y v u Q I rx ry ⟨d, e, r, z, h1, h2, h3, h4, q⟩
  obtain ⟨c, rfl⟩ := ifB h3
  obtain ⟨p1, p2, p3⟩ := okC_ok c
  obtain ⟨o1, o2⟩ := okC_plain c
  obtain ⟨as, r1⟩ := Dp.reads I d x v (Dq.dp _ o1 h1) rx
  obtain ⟨bs, r2⟩ := Dp.reads I e y u (Dq.dp _ o2 h2) ry
  cases dpB h4
  exact PySem.W.gt_data r1 r2 p1 p3 (room60 ft p2) ⟨.bl _, H, I, rfl, q⟩
theorem op_leX (ft : Fit X.A) : OpR X (compareOp .LtE) (rD gLe X.K) := by
  intro pins s σ H x y v u Q I rx ry ⟨d, e, r, z, h1, h2, h3, h4, q⟩
  obtain ⟨c, rfl⟩ := ifB h3
  obtain ⟨p1, p2, p3⟩ := okC_ok c
  obtain ⟨o1, o2⟩ := okC_plain c
  obtain ⟨as, r1⟩ := Dp.reads I d x v (Dq.dp _ o1 h1) rx
  obtain ⟨bs, r2⟩ := Dp.reads I e y u (Dq.dp _ o2 h2) ry
  cases dpB h4
  exact PySem.W.le_data r1 r2 p1 p3 (room60 ft p2) ⟨.bl _, H, I, rfl, q⟩
theorem op_geX (ft : Fit X.A) : OpR X (compareOp .GtE) (rD gGe X.K) := by
  intro pins s σ H x y v u Q I rx ry ⟨d, e, r, z, h1, h2, h3, h4, q⟩
  obtain ⟨c, rfl⟩ := ifB h3
  obtain ⟨p1, p2, p3⟩ := okC_ok c
  obtain ⟨o1, o2⟩ := okC_plain c
  obtain ⟨as, r1⟩ := Dp.reads I d x v (Dq.dp _ o1 h1) rx
  obtain ⟨bs, r2⟩ := Dp.reads I e y u (Dq.dp _ o2 h2) ry
  cases dpB h4
  exact PySem.W.ge_data r1 r2 p1 p3 (room60 ft p2) ⟨.bl _, H, I, rfl, q⟩
theorem roomIn {A : Around} {d : PyData} {n : Nat} (ft : Fit A) (hd : d.depth ≤ 60) : A.units + 1 + min n d.depth < cLine := by
  have := ft.un
  have := Nat.min_le_right n d.depth
  omega
theorem op_inX (ft : Fit X.A) : OpR X (compareOp .In) (rD gIn X.K) := by
  intro pins s σ H x y v u Q I rx ry ⟨d, e, r, z, h1, h2, h3, h4, q⟩
  cases e with
  | list xs =>
    obtain ⟨c, rfl⟩ := ifB h3
    rw [Bool.and_eq_true] at c
    obtain ⟨p1, q1⟩ := okD_ok c.1
    obtain ⟨p2, q2⟩ := okD_ok c.2
    obtain ⟨as, r1⟩ := Dp.reads I d x v (Dq.dp _ p1 h1) rx
    obtain ⟨bs, r2⟩ := Dp.reads I _ y u (Dq.dp _ p2 h2) ry
    cases dpB h4
    exact SeqAt.in_list_data r2 r1 p2 p1 (roomIn ft q1) ⟨.bl _, H, I, rfl, q⟩
  | tuple xs =>
    obtain ⟨c, rfl⟩ := ifB h3
    rw [Bool.and_eq_true] at c
    obtain ⟨p1, q1⟩ := okD_ok c.1
    obtain ⟨p2, q2⟩ := okD_ok c.2
    obtain ⟨as, r1⟩ := Dp.reads I d x v (Dq.dp _ p1 h1) rx
    obtain ⟨bs, r2⟩ := Dp.reads I _ y u (Dq.dp _ p2 h2) ry
    cases dpB h4
    exact SeqAt.in_tuple_data r2 r1 p2 p1 (roomIn ft q1) ⟨.bl _, H, I, rfl, q⟩
  | _ => cases h3
theorem op_notInX (ft : Fit X.A) : OpR X (compareOp .NotIn) (rD gNotIn X.K) := by
  intro pins s σ H x y v u Q I rx ry ⟨d, e, r, z, h1, h2, h3, h4, q⟩
  cases e with
  | list xs =>
    obtain ⟨c, rfl⟩ := ifB h3
    rw [Bool.and_eq_true] at c
    obtain ⟨p1, q1⟩ := okD_ok c.1
    obtain ⟨p2, q2⟩ := okD_ok c.2
    obtain ⟨as, r1⟩ := Dp.reads I d x v (Dq.dp _ p1 h1) rx
    obtain ⟨bs, r2⟩ := Dp.reads I _ y u (Dq.dp _ p2 h2) ry
    cases dpB h4
    exact SeqAt.notIn_list_data r2 r1 p2 p1 (roomIn ft q1) ⟨.bl _, H, I, rfl, q⟩
  | tuple xs =>
    obtain ⟨c, rfl⟩ := ifB h3
    rw [Bool.and_eq_true] at c
    obtain ⟨p1, q1⟩ := okD_ok c.1
    obtain ⟨p2, q2⟩ := okD_ok c.2
    obtain ⟨as, r1⟩ := Dp.reads I d x v (Dq.dp _ p1 h1) rx
    obtain ⟨bs, r2⟩ := Dp.reads I _ y u (Dq.dp _ p2 h2) ry
    cases dpB h4
    exact SeqAt.notIn_tuple_data r2 r1 p2 p1 (roomIn ft q1) ⟨.bl _, H, I, rfl, q⟩
  | _ => cases h3
theorem scIn {d e r : PyData} (h : gIn d e = some r) : ∃ v, Scal r v := by
  cases e with
  | list xs => exact scB h
  | tuple xs => exact scB h
  | _ => cases h
theorem scNotIn {d e r : PyData} (h : gNotIn d e = some r) : ∃ v, Scal r v := by
  cases e with
  | list xs => exact scB h
  | tuple xs => exact scB h
  | _ => cases h
/-- is, is not: None; truth values -/
def fIs (neg : Bool) : F2 := fun x y A => match y with
  | .dat .none => .ok (.dat (.bool (neg != (match x with | .dat .none => true | _ => false)))) A
  | .dat (.bool b) => match x with
    | .dat (.bool a) => .ok (.dat (.bool (neg != decide (a = b)))) A
    | _ => .bad
  | _ => .bad
theorem opS_is {K : KF} : OpS K (fun x y H Q => (y = .non ∧ Q (.bl (decide (x = .non))) H) ∨ ∃ a b : Bool, x = .bl a ∧ y = .bl b ∧ Q (.bl (decide (a = b))) H) (fIs false) := by
  intro s A dx dy x y Q hs rx ry h
  unfold fIs at h
  split at h
  · cases ry
    refine .inl ⟨rfl, ?_⟩
    split at h
    · cases rx; exact h s _ (Post.refl _) hs (.bl true)
    · rename_i hne
      have e : decide (x = V.non) = false := by
        refine decide_eq_false fun z => ?_
        subst z
        cases dx with
        | dat y => cases rx; exact hne rfl
        | ref i => obtain ⟨a, e, _⟩ := rx; cases e
        | adr a => cases rx
      rw [e]
      exact h s _ (Post.refl _) hs (.bl false)
  · split at h
    · cases rx; cases ry
      exact .inr ⟨_, _, rfl, rfl, by have h := h s _ (Post.refl _) hs (.bl _); simpa using h⟩
    · exact h.elim
  · exact h.elim
theorem opS_isnot {K : KF} : OpS K (fun x y H Q => (y = .non ∧ Q (.bl (!decide (x = .non))) H) ∨ ∃ a b : Bool, x = .bl a ∧ y = .bl b ∧ Q (.bl (!decide (a = b))) H) (fIs true) := by
  intro s A dx dy x y Q hs rx ry h
  unfold fIs at h
  split at h
  · cases ry
    refine .inl ⟨rfl, ?_⟩
    split at h
    · cases rx; exact h s _ (Post.refl _) hs (.bl false)
    · rename_i hne
      have e : decide (x = V.non) = false := by
        refine decide_eq_false fun z => ?_
        subst z
        cases dx with
        | dat y => cases rx; exact hne rfl
        | ref i => obtain ⟨a, e, _⟩ := rx; cases e
        | adr a => cases rx
      rw [e]
      exact h s _ (Post.refl _) hs (.bl true)
  · split at h
    · cases rx; cases ry
      exact .inr ⟨_, _, rfl, rfl, by have h := h s _ (Post.refl _) hs (.bl _); simpa using h⟩
    · exact h.elim
  · exact h.elim
end
end Rx
/-! Rx 7: more operations on data. -/
namespace Rx
open PySem L2 PySem.Spec PyProof.Rows Evl

/-! ### arithmetic; joins -/
def mulOk (i j : Int) : Bool := decide (i.natAbs < 2 ^ 64) || decide (j.natAbs < 2 ^ 64) || decide (i.natAbs.log2 + j.natAbs.log2 < 1000000)
def fAdd : F2 := fun x y A => match x, y with
  | .dat (.int i), .dat (.int j) => .ok (.dat (.int (i + j))) A
  | .dat (.str i), .dat (.str j) => if i.length + j.length ≤ 16000000 then .ok (.dat (.str (i ++ j))) A else .bad
  | .dat (.tuple xs), .dat (.tuple ys) => if sz (xs.length + ys.length) then .ok (.dat (.tuple (xs ++ ys))) A else .bad
  | _, _ => .bad
def fSub : F2 := fun x y A => match x, y with
  | .dat (.int i), .dat (.int j) => .ok (.dat (.int (i - j))) A
  | _, _ => .bad
def fMul : F2 := fun x y A => match x, y with
  | .dat (.int i), .dat (.int j) => if mulOk i j then .ok (.dat (.int (i * j))) A else .bad
  | .dat (.tuple xs), .dat (.int k) => if (!xs.isEmpty) && decide (2 ≤ k) && decide (k ≤ 1000) && decide (xs.length ≤ 1000) then .ok (.dat (.tuple (List.replicate k.toNat xs).flatten)) A else .bad
  | _, _ => .bad
def fFdv : F2 := fun x y A => match x, y with
  | .dat (.int i), .dat (.int j) => if decide (0 < j) && decide (j.natAbs.log2 < 9000) then .ok (.dat (.int (i / j))) A else .bad
  | _, _ => .bad
def fMod : F2 := fun x y A => match x, y with
  | .dat (.int i), .dat (.int j) => if 0 < j then .ok (.dat (.int (i % j))) A else .bad
  | _, _ => .bad
def fPow : F2 := fun x y A => match x, y with
  | .dat (.int i), .dat (.int j) => if decide (0 ≤ j) && decide (j ≤ 1000000) && decide (i.natAbs < 2 ^ 64) then .ok (.dat (.int (i ^ j.toNat))) A else .bad
  | _, _ => .bad
def fNeg : F1 := fun x A => match x with
  | .dat (.int i) => .ok (.dat (.int (-i))) A
  | _ => .bad
section
variable {X : Cx} {W : WX} {K : KF}
theorem rv_tup {K : PySem.W.Frag} {s : S3} {v : V} {ds : List PyData} (r : RV K s (.dat (.tuple ds)) v) : ∃ a vs, v = .ref a ∧ SqT K s.F a vs ∧ DqAll K s.F vs ds := by
  cases r with
  | tup h1 h2 => exact ⟨_, _, rfl, h1, h2⟩
theorem rv_lst {K : PySem.W.Frag} {s : S3} {v : V} {ds : List PyData} (r : RV K s (.dat (.list ds)) v) : ∃ a vs, v = .ref a ∧ SqL K s.F a vs ∧ DqAll K s.F vs ds := by
  cases r with
  | lst h1 h2 => exact ⟨_, _, rfl, h1, h2⟩
abbrev rAddX (K : PySem.W.Frag) : R2 := fun x y H Q => rI0 (fun i j => .int (i + j)) x y H Q ∨ (∃ i j, x = .str i ∧ y = .str j ∧ i.length + j.length ≤ sizeLine ∧ Q (.str (i ++ j)) H) ∨ rCatA K x y H Q
theorem op_addX : OpR X (binaryOp .Add) (rAddX X.K) := OpR.or op_add (OpR.or op_add_str op_catA)
theorem opS_add : OpS K (rAddX K) fAdd := by
  intro s A dx dy x y Q hs rx ry h
  unfold fAdd at h
  split at h
  · cases rx; cases ry
    exact .inl ⟨_, _, rfl, rfl, h s _ (Post.refl _) hs (.int _)⟩
  · cases rx; cases ry
    split at h
    · rename_i hz
      exact .inr (.inl ⟨_, _, rfl, rfl, Nat.le_trans hz (by decide), h s _ (Post.refl _) hs (.str _)⟩)
    · exact h.elim
  · rename_i xs ys
    obtain ⟨a, vs, rfl, h1, h2⟩ := rv_tup rx
    obtain ⟨b, ws, rfl, h3, h4⟩ := rv_tup ry
    split at h
    · rename_i hz
      have l1 := DqAll.length h2
      have l2 := DqAll.length h4
      refine .inr (.inr ⟨a, b, vs, ws, rfl, rfl, ex_t hs.sub h1, ex_t hs.sub h3, by rw [l1, l2]; exact Nat.le_of_lt (sz_ok hz), fun e => ?_, fun _ e => ?_, fun _ _ p hp => ?_⟩)
      · subst e
        have e2 : xs = [] := List.length_eq_zero_iff.mp (by rw [← l1]; rfl)
        subst e2
        exact h s _ (Post.refl _) hs (.tup h3 h4)
      · subst e
        have e2 : ys = [] := List.length_eq_zero_iff.mp (by rw [← l2]; rfl)
        subst e2
        rw [List.append_nil] at h
        exact h s _ (Post.refl _) hs (.tup h1 h2)
      · exact h (s.newF p (.tup (vs ++ ws))) _ (Post.newF hs hp _) (hs.newF hp _) (hs.newTup hp (DqAll.app h2 h4))
    · exact h.elim
  · exact h.elim
theorem opS_sub : OpS K (rI0 fun i j => .int (i - j)) fSub := by
  intro s A dx dy x y Q hs rx ry h
  unfold fSub at h
  split at h
  · cases rx; cases ry
    exact ⟨_, _, rfl, rfl, h s _ (Post.refl _) hs (.int _)⟩
  · exact h.elim
abbrev rMulX (K : PySem.W.Frag) : R2 := fun x y H Q => rI CMul (fun i j => .int (i * j)) x y H Q ∨ rI CMulW (fun i j => .int (i * j)) x y H Q ∨ rRepT K x y H Q
theorem op_mulXX : OpR X (binaryOp .Mult) (rMulX X.K) := OpR.or op_mul (OpR.or op_mulW op_repT)
theorem natAbs_64 {i : Int} (h : i.natAbs < 2 ^ 64) : -(2 ^ 64) < i ∧ i < 2 ^ 64 := by omega
theorem opS_mul : OpS K (rMulX K) fMul := by
  intro s A dx dy x y Q hs rx ry h
  unfold fMul at h
  split at h
  · cases rx; cases ry
    split at h
    · rename_i i j hz
      have g := h s _ (Post.refl _) hs (.int _)
      unfold mulOk at hz
      simp only [Bool.or_eq_true, decide_eq_true_eq] at hz
      rcases hz with (hz | hz) | hz
      · exact .inl ⟨_, _, rfl, rfl, .inl (natAbs_64 hz), g⟩
      · exact .inl ⟨_, _, rfl, rfl, .inr (natAbs_64 hz), g⟩
      · exact .inr (.inl ⟨_, _, rfl, rfl, hz, g⟩)
    · exact h.elim
  · rename_i xs k
    obtain ⟨a, vs, rfl, h1, h2⟩ := rv_tup rx
    cases ry
    split at h
    · rename_i hz
      simp only [Bool.and_eq_true, decide_eq_true_eq, Bool.not_eq_true', List.isEmpty_eq_false_iff] at hz
      obtain ⟨⟨⟨z1, z2⟩, z3⟩, z4⟩ := hz
      have l1 := DqAll.length h2
      refine .inr (.inr ⟨a, k, vs, rfl, rfl, ex_t hs.sub h1, fun e => ?_, z2, z3, by rw [l1]; exact z4, fun p hp => ?_⟩)
      · subst e
        exact z1 (List.length_eq_zero_iff.mp (by rw [← l1]; rfl))
      · exact h (s.newF p _) _ (Post.newF hs hp _) (hs.newF hp _) (hs.newTup hp (DqAll.flat _ h2))
    · exact h.elim
  · exact h.elim
theorem opS_fdv : OpS K (rI CDivW fun i j => .int (i / j)) fFdv := by
  intro s A dx dy x y Q hs rx ry h
  unfold fFdv at h
  split at h
  · cases rx; cases ry
    split at h
    · rename_i hz
      rw [Bool.and_eq_true, decide_eq_true_eq, decide_eq_true_eq] at hz
      exact ⟨_, _, rfl, rfl, hz, h s _ (Post.refl _) hs (.int _)⟩
    · exact h.elim
  · exact h.elim
theorem opS_mod : OpS K (rI (fun _ j => 0 < j) fun i j => .int (i % j)) fMod := by
  intro s A dx dy x y Q hs rx ry h
  unfold fMod at h
  split at h
  · cases rx; cases ry
    split at h
    · rename_i hz
      exact ⟨_, _, rfl, rfl, hz, h s _ (Post.refl _) hs (.int _)⟩
    · exact h.elim
  · exact h.elim
theorem opS_pow : OpS K (rI CPow fun i j => .int (i ^ j.toNat)) fPow := by
  intro s A dx dy x y Q hs rx ry h
  unfold fPow at h
  split at h
  · cases rx; cases ry
    split at h
    · rename_i hz
      simp only [Bool.and_eq_true, decide_eq_true_eq] at hz
      exact ⟨_, _, rfl, rfl, ⟨hz.1.1, hz.1.2, hz.2⟩, h s _ (Post.refl _) hs (.int _)⟩
    · exact h.elim
  · exact h.elim
theorem unS_neg : UnS K (rU fun i => .int (-i)) fNeg := by
  intro s A dx x Q hs rx h
  unfold fNeg at h
  split at h
  · cases rx
    exact ⟨_, rfl, h s _ (Post.refl _) hs (.int _)⟩
  · exact h.elim
theorem opS_iadd : OpS K (ipI fun i j => i + j) (fun x y A => match x, y with | .dat (.int i), .dat (.int j) => .ok (.dat (.int (i + j))) A | _, _ => .bad) := by
  intro s A dx dy x y Q hs rx ry h
  dsimp only at h
  split at h
  · cases rx; cases ry
    exact ⟨_, _, rfl, rfl, h s _ (Post.refl _) hs (.int _)⟩
  · exact h.elim
theorem opS_isub : OpS K (ipI fun i j => i - j) fSub := by
  intro s A dx dy x y Q hs rx ry h
  unfold fSub at h
  split at h
  · cases rx; cases ry
    exact ⟨_, _, rfl, rfl, h s _ (Post.refl _) hs (.int _)⟩
  · exact h.elim

/-! new lists: joined, repeated -/
def rCatX (K : PySem.W.Frag) : R2 := fun x y H Q => ∃ l b xs zs, x = .ref l ∧ y = .ref b ∧ SqL K H l xs ∧ SqL K H b zs ∧ xs.length + zs.length ≤ sizeLine ∧ ∀ p, H p = none → Q (.ref p) (upd H p (.lst (xs ++ zs)))
theorem op_catX {X : Cx} : OpR X (binaryOp .Add) (rCatX X.K) := by
  intro pins s σ H x y v u Q I rx ry ⟨l, b, xs, zs, ex, ey, hl, hb, hz, q⟩
  subst ex ey
  cases rx
  cases ry
  obtain ⟨its, r, ⟨o1, n1, g1, c1, _, d1⟩, _⟩ := I.list hl
  obtain ⟨its2, r2, ⟨o2, n2, g2, c2, _, d2⟩, _⟩ := I.list hb
  have l1 := r.length
  have l2 := r2.length
  obtain ⟨k1, dd1, dt1, ss1⟩ := o1
  obtain ⟨k2, dd2, dt2, ss2⟩ := o2
  obtain rfl : k1 = .type "list" := c1
  obtain rfl : k2 = .type "list" := c2
  obtain rfl : dt1 = .seq its.toArray n1 := d1
  obtain rfl : dt2 = .seq its2.toArray n2 := d2
  refine concat_meets ⟨_, g1, rfl⟩ ⟨_, g2, rfl⟩ noFill_list_add seq_list_add PySem.F.slot_list_add PySem.F.entry_list_add (PySem.F.args_list_add_2 _ _) (PyProof.Rows.list_addW l b its.toArray its2.toArray n1 n2 dd1 dd2 ss1 ss2 (by simp; omega)) ⟨g1, g2, ?_⟩
  rw [show its.toArray ++ its2.toArray = (its ++ its2).toArray by simp]
  exact ⟨.ref _, _, I.lnew (t' := s.toks) (r.append r2) (by rw [List.length_append]; omega), rfl, q _ I.fresh⟩
def mCatL (a b : MM SV) : MM (List PyData) := fun d A => (a d A).bind fun x A1 => (b d A1).bind fun y A2 => match toD A2 x, toD A2 y with
  | some (.list xs), some (.list ys) => if sz (xs.length + ys.length) then .ok (xs ++ ys) A2 else .bad
  | _, _ => .bad
def mRepL (a : MM (List PyData)) (b : MM SV) : MM (List PyData) := fun d A => (a d A).bind fun xs A1 => (b d A1).bind fun y A2 => match y with
  | .dat (.int k) => if decide (-(2 ^ 63) ≤ k) && decide (k < 2 ^ 63) && sz (xs.length * k.toNat) then .ok (List.replicate k.toNat xs).flatten A2 else .bad
  | _ => .bad
/-- a list: what stands in it, seen in F where nothing of it may change -/
theorem toD_lst {s : S3} {A : List AO} {x : SV} {v : V} {xs : List PyData} (hs : SR K s A) (r : RV K s x v) (e : toD A x = some (.list xs)) : ∃ a vs, v = .ref a ∧ SqL K s.H a vs ∧ DqAll K s.F vs xs := by
  cases x with
  | dat y =>
    cases e
    obtain ⟨a, vs, rfl, h1, h2⟩ := rv_lst r
    exact ⟨a, vs, rfl, ex_l hs.sub h1, h2⟩
  | ref i =>
    obtain ⟨a, rfl, ea⟩ := r
    have e : (match A[i]? with | some (.lst xs) => some (PyData.list xs) | none => none) = some (.list xs) := e
    cases hA : A[i]? with
    | none => rw [hA] at e; cases e
    | some o =>
      cases o with
      | lst ys =>
        rw [hA] at e
        cases e
        obtain ⟨vs, e3, e4⟩ := hs.obj i a xs ea hA
        exact ⟨a, vs, rfl, sq_of e3, e4⟩
  | adr a => cases e
theorem rn_cat {a b : Expr} {pos : Pos} {ma mb : MM SV} (ha : RE X W a ma) (hb : RE X W b mb) : RN X W (.BinOp a .Add b pos) (mCatL ma mb) := by
  obtain ⟨ta, pa, sa⟩ := ha
  obtain ⟨tb, pb, sb⟩ := hb
  refine ⟨_, pe_op op_catX pa pb, fun s A d σ Q hs hσ h => ?_⟩
  refine sa s A d σ _ hs hσ (Good.mono (Good.bind h) (fun x A1 h1 s1 v p1 hs1 r1 => ?_) (fun _ _ z => z))
  refine sb s1 A1 d σ _ hs1 (hσ.up p1) (Good.mono (Good.bind h1) (fun y A2 h2 s2 u p2 hs2 r2 => ?_) (fun _ _ z t' pp => z t' (p1.trans pp)))
  have r1' := r1.up p2
  split at h2
  · rename_i xs ys e1 e2
    obtain ⟨a1, vs, rfl, h3, h4⟩ := toD_lst hs2 r1' e1
    obtain ⟨b1, ws, rfl, h5, h6⟩ := toD_lst hs2 r2 e2
    split at h2
    · rename_i hz
      refine ⟨a1, b1, vs, ws, rfl, rfl, h3, h5, ?_, fun p hp => h2 s2 p _ (p1.trans p2) hs2 hp (DqAll.app h4 h6)⟩
      rw [DqAll.length h4, DqAll.length h6]; exact Nat.le_of_lt (sz_ok hz)
    · exact h2.elim
  · exact h2.elim
theorem rn_rep {a b : Expr} {pos : Pos} {ma : MM (List PyData)} {mb : MM SV} (ha : RN X W a ma) (hb : RE X W b mb) : RN X W (.BinOp a .Mult b pos) (mRepL ma mb) := by
  obtain ⟨ta, pa, sa⟩ := ha
  obtain ⟨tb, pb, sb⟩ := hb
  refine ⟨_, pe_op op_rep pa pb, fun s A d σ Q hs hσ h => ?_⟩
  refine sa s A d σ _ hs hσ (Good.mono (Good.bind h) (fun xs A1 h1 s1 p vs p1 hs1 hp dp => ?_) (fun _ _ z => z))
  refine sb (s1.newH p (.lst vs)) A1 d σ _ (hs1.newH hp _) ((hσ.up p1).up (Post.newH hp _)) (Good.mono (Good.bind h1) (fun y A2 h2 s2 u p2 hs2 r2 => ?_) (fun _ _ z t' pp => z t' ((p1.trans (Post.newH hp _)).trans pp)))
  obtain ⟨e1, q1, hs3, e2⟩ := aside hs1 hp p2 hs2
  split at h2
  · rename_i k
    cases r2
    split at h2
    · rename_i hz
      simp only [Bool.and_eq_true, decide_eq_true_eq] at hz
      refine ⟨p, k, vs, rfl, rfl, e1, hz.1.1, hz.1.2, ?_, fun q hq => h2 s2 q _ ((p1.trans (Post.newH hp _)).trans p2) hs2 hq (DqAll.flat _ (DqAll.up q1.fx _ dp))⟩
      rw [DqAll.length dp]; exact Nat.le_of_lt (sz_ok hz.2)
    · exact h2.elim
  · exact h2.elim
end
end Rx
/-! Rx 8: built-ins, subscripts, what is walked. -/
namespace Rx
open PySem L2 PySem.Spec PyProof.Rows Evl

section
variable {X : Cx} {W : WX} {K : KF}

/-! ### subscripts -/
/-- the item at i, from either end -/
def atD {T : Type} (xs : List T) (i : Int) : Option T := (ixN xs.length i).bind fun j => xs[j]?
def fIx : F2 := fun x y A => match y with
  | .dat (.int i) => match cont A x with
    | some xs => match atD xs i with
      | some d => .ok (.dat d) A
      | none => .bad
    | none => match x with
      | .dat (.str z) => if z.length ≤ 16000000 then match atD z.cps.toList i with
          | some c => .ok (.dat (.str ⟨#[c]⟩)) A
          | none => .bad
        else .bad
      | _ => .bad
  | _ => .bad
theorem atI_of {K : PySem.W.Frag} {vs : List V} {xs : List PyData} {F : Hp} {i : Int} {d : PyData} (h : DqAll K F vs xs) (e : atD xs i = some d) : ∃ v, atI vs i = some v ∧ Dq K F v d := by
  have hl := DqAll.length h
  unfold atD at e
  cases hx : ixN xs.length i with
  | none => rw [hx] at e; cases e
  | some j =>
    rw [hx] at e
    have e : xs[j]? = some d := e
    obtain ⟨v, e1, e2⟩ := DqAll.get h e
    refine ⟨v, ?_, e2⟩
    unfold atI
    rw [hl, hx]
    exact e1
theorem opS_ix : OpS K (rIx K) fIx := by
  intro s A dx dy x y Q hs rx ry h
  unfold fIx at h
  split at h
  · rename_i i
    cases ry
    cases hc : cont A dx with
    | some xs =>
      simp only [hc] at h
      obtain ⟨p, vs, rfl, h1, h2⟩ := cont_ok hs rx hc
      cases ha : atD xs i with
      | none => simp only [ha] at h; exact h.elim
      | some d =>
        simp only [ha] at h
        obtain ⟨v, e1, e2⟩ := atI_of h2 ha
        have g := h s v (Post.refl _) hs e2
        rcases h1 with h1 | h1
        · exact .inr (.inl ⟨p, vs, i, v, rfl, rfl, h1, e1, g⟩)
        · exact .inl ⟨p, vs, i, v, rfl, rfl, h1, e1, g⟩
    | none =>
      simp only [hc] at h
      split at h
      · rename_i z
        cases rx
        split at h
        · rename_i hz
          cases ha : atD z.cps.toList i with
          | none => simp only [ha] at h; exact h.elim
          | some c =>
            simp only [ha] at h
            refine .inr (.inr ⟨z, i, c, rfl, rfl, Nat.le_trans hz (by decide), ?_, h s _ (Post.refl _) hs (.str _)⟩)
            exact ha
        · exact h.elim
      · exact h.elim
  · exact h.elim
theorem re_ix {a b : Expr} {pos : Pos} {ma mb : MM SV} (ha : RE X W a ma) (hb : RE X W b mb) (hp : PlainIx b) : RE X W (.Subscript a b pos) (mOp fIx ma mb) := by
  obtain ⟨ta, pa, sa⟩ := ha
  obtain ⟨tb, pb, sb⟩ := hb
  exact ⟨_, pe_ix ix_seq pa pb hp, sim_op opS_ix sa sb⟩
/-- slices -/
def cutD {T : Type} (xs : List T) (lo hi : Option Int) : List T := (xs.drop (HT.sIx xs.length 0 lo)).take (HT.sIx xs.length xs.length hi - HT.sIx xs.length 0 lo)
def mPart (m : MM SV) : MM (Option Int) := fun d A => (m d A).bind fun x A1 => match x with
  | .dat (.int i) => .ok (some i) A1
  | _ => .bad
def mNoPart : MM (Option Int) := fun _ A => .ok none A
theorem ro_none : RO X W none mNoPart := ⟨_, po_none, fun s A d σ Q hs hσ h => h s none (Post.refl _) hs rfl⟩
theorem ro_some {e : Expr} {m : MM SV} (h : RE X W e m) : RO X W (some e) (mPart m) := by
  obtain ⟨t, p, s⟩ := h
  refine ⟨_, po_some p, fun s0 A d σ Q hs hσ h => s.then hs hσ h fun x A1 s1 v p1 hs1 r1 hσ1 h1 => ?_⟩
  split at h1
  · cases r1
    exact ⟨_, rfl, h1 s1 _ (Post.refl _) hs1 rfl⟩
  · exact h1.elim
def mSlT (a : MM SV) (lo hi : MM (Option Int)) : MM SV := fun d A => (a d A).bind fun x A1 => (lo d A1).bind fun i A2 => (hi d A2).bind fun j A3 => match x with
  | .dat (.tuple xs) => .ok (.dat (.tuple (cutD xs i j))) A3
  | _ => .bad
def mSlL (a : MM SV) (lo hi : MM (Option Int)) : MM (List PyData) := fun d A => (a d A).bind fun x A1 => (lo d A1).bind fun i A2 => (hi d A2).bind fun j A3 => match toD A3 x with
  | some (.list xs) => .ok (cutD xs i j) A3
  | _ => .bad
theorem cut_ok {K : PySem.W.Frag} {vs : List V} {xs : List PyData} {F : Hp} (h : DqAll K F vs xs) (i j : Option Int) : DqAll K F (cutV vs i j) (cutD xs i j) := by
  unfold cutV cutD
  rw [DqAll.length h]
  exact DqAll.take _ (DqAll.drop _ h)
theorem re_slT {a : Expr} {lo hi : Option Expr} {pos p2 : Pos} {ma : MM SV} {ml mh : MM (Option Int)} (ha : RE X W a ma) (hl : RO X W lo ml) (hh : RO X W hi mh) : RE X W (.Subscript a (.Slice lo hi none p2) pos) (mSlT ma ml mh) := by
  obtain ⟨ta, pa, sa⟩ := ha
  obtain ⟨tl, pl, sl⟩ := hl
  obtain ⟨th, ph, sh⟩ := hh
  refine ⟨_, pe_slice sl_tupA pa pl ph, fun s A d σ Q hs hσ h => ?_⟩
  refine sa.then hs hσ h fun x A1 s1 v p1 hs1 r1 hσ1 h1 => sl.then hs1 hσ1 h1 fun i A2 s2 u p2 hs2 r2 hσ2 h2 => sh.then hs2 hσ2 h2 fun j A3 s3 w p3 hs3 r3 hσ3 h3 => ?_
  cases r2; cases r3
  have rx := (r1.up p2).up p3
  split at h3
  · rename_i xs
    obtain ⟨a1, vs, rfl, e1, e2⟩ := rv_tup rx
    have hl := DqAll.length e2
    refine ⟨a1, vs, rfl, ex_t hs3.sub e1, fun hall => ?_, fun _ p hp => h3 (s3.newF p _) _ (Post.newF hs3 hp _) (hs3.newF hp _) (hs3.newTup hp (cut_ok e2 i j))⟩
    have ec : cutD xs i j = xs := by
      unfold cutD
      rw [hl] at hall
      rw [hall.1, hall.2]
      simp
    rw [ec] at h3
    exact h3 s3 _ (Post.refl _) hs3 (.tup e1 e2)
  · exact h3.elim
theorem rn_sl {a : Expr} {lo hi : Option Expr} {pos p2 : Pos} {ma : MM SV} {ml mh : MM (Option Int)} (ha : RE X W a ma) (hl : RO X W lo ml) (hh : RO X W hi mh) : RN X W (.Subscript a (.Slice lo hi none p2) pos) (mSlL ma ml mh) := by
  obtain ⟨ta, pa, sa⟩ := ha
  obtain ⟨tl, pl, sl⟩ := hl
  obtain ⟨th, ph, sh⟩ := hh
  refine ⟨_, pe_slice sl_list pa pl ph, fun s A d σ Q hs hσ h => ?_⟩
  refine sa s A d σ _ hs hσ (Good.mono (Good.bind h) (fun x A1 h1 s1 v p1 hs1 r1 => ?_) (fun _ _ z => z))
  refine sl s1 A1 d σ _ hs1 (hσ.up p1) (Good.mono (Good.bind h1) (fun i A2 h2 s2 u p2 hs2 r2 => ?_) (fun _ _ z t' pp => z t' (p1.trans pp)))
  refine sh s2 A2 d σ _ hs2 ((hσ.up p1).up p2) (Good.mono (Good.bind h2) (fun j A3 h3 s3 w p3 hs3 r3 => ?_) (fun _ _ z t' pp => z t' ((p1.trans p2).trans pp)))
  cases r2; cases r3
  have rx := (r1.up p2).up p3
  split at h3
  · rename_i xs e1
    obtain ⟨a1, vs, rfl, h4, h5⟩ := toD_lst hs3 rx e1
    exact ⟨a1, vs, rfl, h4, fun p hp => h3 s3 p _ ((p1.trans p2).trans p3) hs3 hp (cut_ok h5 i j)⟩
  · exact h3.elim

/-! ### built-ins: one value -/
/-- len -/
def fLen (xs : List SV) (A : List AO) : RR SV := match xs with
  | [x] => match cont A x with
    | some ys => .ok (.dat (.int (ys.length : Nat))) A
    | none => match x with
      | .dat (.str z) => if z.length ≤ 16000000 then .ok (.dat (.int (z.length : Nat))) A else .bad
      | _ => .bad
  | _ => .bad
theorem rvs_one {K : PySem.W.Frag} {s : S3} {x : SV} {vs : List V} (h : RVs K s [x] vs) : ∃ v, vs = [v] ∧ RV K s x v := by
  obtain ⟨v, r, e, h1, h2⟩ := h
  rw [show r = [] from h2] at e
  exact ⟨v, e, h1⟩
theorem rvs_two {K : PySem.W.Frag} {s : S3} {x y : SV} {vs : List V} (h : RVs K s [x, y] vs) : ∃ v u, vs = [v, u] ∧ RV K s x v ∧ RV K s y u := by
  obtain ⟨v, r, e, h1, h2⟩ := h
  obtain ⟨u, rfl, h3⟩ := rvs_one h2
  exact ⟨v, u, e, h1, h3⟩
theorem caS_len : CaS K (fun xs H Q => ∃ x n, xs = [x] ∧ LenV K x H n ∧ Q (.int n) H) fLen := by
  intro s A dx vs Q hs rx h
  unfold fLen at h
  split at h
  · rename_i x
    obtain ⟨v, rfl, r⟩ := rvs_one rx
    cases hc : cont A x with
    | some ys =>
      simp only [hc] at h
      obtain ⟨p, us, rfl, h1, h2⟩ := cont_ok hs r hc
      have g := h s _ (Post.refl _) hs (.int _)
      rw [← DqAll.length h2] at g
      rcases h1 with h1 | h1
      · exact ⟨_, _, rfl, .inr ⟨us, h1, rfl⟩, g⟩
      · exact ⟨_, _, rfl, .inl ⟨us, h1, rfl⟩, g⟩
    | none =>
      simp only [hc] at h
      split at h
      · cases r
        split at h
        · rename_i hz
          exact ⟨_, _, rfl, ⟨Nat.le_trans hz (by decide), rfl⟩, h s _ (Post.refl _) hs (.int _)⟩
        · exact h.elim
      · exact h.elim
  · exact h.elim
/-- a rule for a call of one datum with a scalar value -/
def r1D (g : PyData → Option PyData) (K : PySem.W.Frag) : List V → Hp → VK → Prop := fun xs H Q => ∃ x d r v, xs = [x] ∧ Dq K H x d ∧ g d = some r ∧ Scal r v ∧ Q v H
def f1D (g : PyData → Option PyData) : FL := fun xs A => match xs with
  | [x] => match toD A x with
    | some d => match g d with
      | some r => .ok (.dat r) A
      | none => .bad
    | none => .bad
  | _ => .bad
theorem caS_1D {g : PyData → Option PyData} (hsc : ∀ d r, g d = some r → ∃ v, Scal r v) : CaS K (r1D g K) (f1D g) := by
  intro s A dx vs Q hs rx h
  unfold f1D at h
  split at h
  · rename_i x
    obtain ⟨v, rfl, r⟩ := rvs_one rx
    cases hd : toD A x with
    | none => simp only [hd] at h; exact h.elim
    | some d =>
      simp only [hd] at h
      cases hg : g d with
      | none => simp only [hg] at h; exact h.elim
      | some y =>
        simp only [hg] at h
        obtain ⟨u, su⟩ := hsc d y hg
        exact ⟨v, d, y, u, rfl, toD_ok hs r hd, hg, su, h s u (Post.refl _) hs (su K s.F)⟩
  · exact h.elim
theorem scal_int (i : Int) : Scal (.int i) (.int i) := fun _ _ => .int i
theorem scal_str (x : Str) : Scal (.str x) (.str x) := fun _ _ => .str x
theorem scal_v {r : PyData} {v u : V} (h : Scal r v) (h2 : Scal r u) : v = u := by
  have a := h [] fun _ => none
  have b := h2 [] fun _ => none
  cases r with
  | none => cases a; cases b; rfl
  | bool _ => cases a; cases b; rfl
  | int _ => cases a; cases b; rfl
  | str _ => cases a; cases b; rfl
  | list xs =>
    cases a with
    | lst h1 _ =>
      rcases h1 with (h1 | ⟨_, h1⟩) | ⟨_, _, _, h1, _⟩
      · cases h1
      · cases h1
      · cases h1
  | tuple xs =>
    cases a with
    | tup h1 _ =>
      rcases h1 with (h1 | ⟨_, h1⟩) | ⟨_, _, _, h1, _⟩
      · cases h1
      · cases h1
      · cases h1
  | dict _ =>
    cases a with
    | dct h1 _ => cases h1
/-! any datum is read -/
theorem key_reads {h : Heap} (k : Key) (u : Value) (e : keyIs k u = true) : Reads h u (keyD k) [] := by
  rcases keyIs_shape e with ⟨i, t, rfl, rfl⟩ | ⟨x, t, rfl, rfl⟩
  · exact Reads.int _ _
  · exact Reads.str _ _
section
variable {X : Cx} {pins : List (Addr × Obj)} {σ : L2.St} {H : Hp} {s : Shared}
mutual
theorem Dq.reads (I : Inv X pins σ H s) : ∀ {v : V} {d : PyData} {u : Value}, Dq X.K H v d → RelV v u → ∃ as, Reads s.heap u d as
  | _, _, _, .non, r => by cases r; exact ⟨_, Reads.none⟩
  | _, _, _, .bl b, r => by cases r; exact ⟨_, Reads.bool b⟩
  | _, _, _, .int i, r => by obtain ⟨t, rfl⟩ := r; exact ⟨_, Reads.int i t⟩
  | _, _, _, .str x, r => by obtain ⟨t, rfl⟩ := r; exact ⟨_, Reads.str x t⟩
  | _, _, _, .lst h1 h2, r => by
    cases r
    obtain ⟨its, rv, ⟨o, n, ho, hc, _, hd⟩, _⟩ := I.list h1
    obtain ⟨as, q⟩ := DqAll.reads I h2 rv
    exact ⟨_, Reads.list ho hc hd q⟩
  | _, _, _, .tup h1 h2, r => by
    cases r
    obtain ⟨its, rv, ⟨o, ho, hc, n, hd⟩, _⟩ := I.tuple h1
    obtain ⟨as, q⟩ := DqAll.reads I h2 rv
    exact ⟨_, Reads.tuple ho hc hd q⟩
  | _, _, _, .dct h1 h2, r => by
    cases r
    obtain ⟨_, _, vs, kv, dict⟩ := I.hok _ _ h1
    obtain ⟨as, q⟩ := DqKV.reads I h2 kv
    exact ⟨_, PyProof.V.reads_dictOf (fun k u e => key_reads k u e) dict q⟩
theorem DqAll.reads (I : Inv X pins σ H s) : ∀ {vs : List V} {ds : List PyData} {us : List Value}, DqAll X.K H vs ds → Vals vs us → ∃ as, ReadsAll s.heap us ds as
  | _, _, _, .nil, r => by cases r; exact ⟨_, ReadsAll.nil⟩
  | _, _, _, .cons h1 h2, r => by
    cases r with
    | cons r1 r2 =>
      obtain ⟨as, q1⟩ := Dq.reads I h1 r1
      obtain ⟨bs, q2⟩ := DqAll.reads I h2 r2
      exact ⟨_, ReadsAll.cons q1 q2⟩
theorem DqKV.reads (I : Inv X pins σ H s) : ∀ {kvs : List (Key × V)} {ps : List (PyData × PyData)} {vs : List (Key × Value)}, DqKV X.K H kvs ps → KV kvs vs → ∃ as, PyProof.V.PairsRead s.heap keyD vs ps as
  | _, _, _, .nil, r => by cases r; exact ⟨_, .nil⟩
  | _, _, _, .cons h1 h2, r => by
    cases r with
    | cons r1 r2 =>
      obtain ⟨e, r1⟩ := r1
      obtain ⟨as, q1⟩ := Dq.reads I h1 r1
      obtain ⟨bs, q2⟩ := DqKV.reads I h2 r2
      rename_i b l2
      obtain ⟨k, u⟩ := b
      dsimp only at e
      subst e
      exact ⟨_, .cons q1 q2⟩
end
end
theorem reads1 {pins : List (Addr × Obj)} {σ : L2.St} {H : Hp} {s : Shared} {x : V} {d : PyData} {us : List Value} (I : Inv X pins σ H s) (p : d.plain = true) (h : Dq X.K H x d) (r : Vals [x] us) : ∃ u as, us = [u] ∧ RelV x u ∧ Reads s.heap u d as := by
  obtain ⟨u, rfl, ru⟩ := r.one
  obtain ⟨as, hr⟩ := Dp.reads I d x u (Dq.dp d p h) ru
  exact ⟨u, as, rfl, ru, hr⟩
/-- repr -/
def gRepr (d : PyData) : Option PyData := if okD d && d.showable && decide (d.shown.length ≤ 16000000) then some (.str d.shown) else none
theorem scRepr (d r : PyData) (h : gRepr d = some r) : ∃ v, Scal r v := by
  unfold gRepr at h
  split at h
  · cases h; exact ⟨_, scal_str _⟩
  · cases h
theorem hasDict_plain : ∀ (d : PyData), d.plain = true → d.hasDict = false := by
  intro d h
  have key : ∀ (n : Nat) (d : PyData), sizeOf d ≤ n → d.plain = true → d.hasDict = false := by
    intro n
    induction n with
    | zero => intro d hn; cases d <;> simp at hn
    | succ n ih =>
      intro d hn h
      have all : ∀ xs : List PyData, sizeOf xs ≤ n → PyData.plainAll xs = true → PyData.hasDictAll xs = false := by
        intro xs
        induction xs with
        | nil => intro _ _; rfl
        | cons x xs ihx =>
          intro hz hp
          simp only [PyData.plainAll, Bool.and_eq_true] at hp
          have z : sizeOf (x :: xs) = 1 + sizeOf x + sizeOf xs := rfl
          simp only [PyData.hasDictAll, ih x (by omega) hp.1, ihx (by omega) hp.2, Bool.or_self]
      cases d with
      | list xs =>
        have z : sizeOf (PyData.list xs) = 1 + sizeOf xs := by simp
        simp only [PyData.hasDict]
        exact all xs (by omega) (by simpa [PyData.plain] using h)
      | tuple xs =>
        have z : sizeOf (PyData.tuple xs) = 1 + sizeOf xs := by simp
        simp only [PyData.hasDict]
        exact all xs (by omega) (by simpa [PyData.plain] using h)
      | dict _ => simp [PyData.plain] at h
      | none => simp [PyData.hasDict]
      | bool _ => simp [PyData.hasDict]
      | int _ => simp [PyData.hasDict]
      | str _ => simp [PyData.hasDict]
  exact key _ d (Nat.le_refl _) h
def gReprR (d : PyData) : Option PyData := match d with
  | .list _ => gRepr d
  | .tuple _ => gRepr d
  | .int i => if decide (i.natAbs.log2 < 1920) then some (.str (toString i)) else none
  | _ => none
theorem plainR {d y : PyData} (h : gReprR d = some y) : d.plain = true := by
  cases d with
  | list ds =>
    have h : gRepr (.list ds) = some y := h
    unfold gRepr at h
    split at h
    · rename_i hz
      simp only [Bool.and_eq_true] at hz
      exact (okD_ok hz.1.1).1
    · cases h
  | tuple ds =>
    have h : gRepr (.tuple ds) = some y := h
    unfold gRepr at h
    split at h
    · rename_i hz
      simp only [Bool.and_eq_true] at hz
      exact (okD_ok hz.1.1).1
    · cases h
  | int i => rfl
  | _ => cases h
theorem cr_reprX (ft : FitR X.A) : CallR X (.builtin "repr") (r1D gReprR X.K) := by
  intro pins s σ H xs us Q I r ⟨x, d, y, v, e, hd, hg, hv, q⟩
  subst e
  obtain ⟨u, as, rfl, ru, hr⟩ := reads1 I (plainR hg) hd r
  have go : ∀ a, u = Value.ref a → gRepr d = some y → wpAny (model X.prog X.w) X.A (call (.builtin "repr") [u]) (EP X pins σ Q) X.xe s := by
    intro a ea hg
    subst ea
    unfold gRepr at hg
    split at hg
    · rename_i hz
      simp only [Bool.and_eq_true, decide_eq_true_eq] at hz
      cases hg
      have ev := scal_v hv (scal_str d.shown)
      subst ev
      have hu := ft.un
      have hdp := (okD_ok hz.1.1).2
      refine repr_of_reads' hr hz.1.2 (fun hh => by rw [hasDict_plain d (okD_ok hz.1.1).1] at hh; cases hh) ft.gd (by omega) (fun b o e => e) (fun h' t tk hk => ?_) (Nat.le_trans hz.2 (by decide))
      exact ⟨.str d.shown, H, I.kept hk, ⟨t, rfl⟩, q⟩
    · cases hg
  cases d with
  | list ds =>
    cases hd with
    | lst h1 h2 => exact go _ ru hg
  | tuple ds =>
    cases hd with
    | tup h1 h2 => exact go _ ru hg
  | int i =>
    have hg : (if decide (i.natAbs.log2 < 1920) then some (PyData.str (toString i)) else none) = some y := hg
    split at hg
    · rename_i hz
      cases hg
      cases hd
      have ev := scal_v hv (scal_str _)
      subst ev
      exact SkE.call_repr_int pins s σ H [.int i] [u] Q I r ⟨i, rfl, of_decide_eq_true hz, q⟩
    · cases hg
  | none => cases hg
  | bool _ => cases hg
  | str _ => cases hg
  | dict _ => cases hg
theorem scReprR (d r : PyData) (h : gReprR d = some r) : ∃ v, Scal r v := by
  cases d with
  | list ds => exact scRepr _ _ h
  | tuple ds => exact scRepr _ _ h
  | int i =>
    have h : (if decide (i.natAbs.log2 < 1920) then some (PyData.str (toString i)) else none) = some r := h
    split at h
    · cases h; exact ⟨_, scal_str _⟩
    · cases h
  | _ => cases h
/-- all, any -/
def gAll (d : PyData) : Option PyData := match d with
  | .list xs => if PyData.plainAll xs && xs.all (fun x => match x with | .bool _ => true | _ => false) then some (.bool (xs.all PyData.truthy)) else none
  | _ => none
def gAny (d : PyData) : Option PyData := match d with
  | .list xs => if PyData.plainAll xs && xs.all (fun x => match x with | .bool _ => true | _ => false) then some (.bool (xs.any PyData.truthy)) else none
  | _ => none
theorem fits_bools {xs : List PyData} (h : xs.all (fun x => match x with | .bool _ => true | _ => false) = true) : ∀ x ∈ xs, x.fits63 := by
  intro x hx
  have := List.all_eq_true.mp h x hx
  cases x with
  | bool b => trivial
  | _ => cases this
theorem dq_lst {K : PySem.W.Frag} {H : Hp} {v : V} {ds : List PyData} (h : Dq K H v (.list ds)) : ∃ a vs, v = .ref a ∧ SqL K H a vs ∧ DqAll K H vs ds := by
  cases h with
  | lst h1 h2 => exact ⟨_, _, rfl, h1, h2⟩
theorem dq_tup {K : PySem.W.Frag} {H : Hp} {v : V} {ds : List PyData} (h : Dq K H v (.tuple ds)) : ∃ a vs, v = .ref a ∧ SqT K H a vs ∧ DqAll K H vs ds := by
  cases h with
  | tup h1 h2 => exact ⟨_, _, rfl, h1, h2⟩
theorem cr_allX (ft : Fit X.A) : CallR X (.builtin "all") (r1D gAll X.K) := by
  intro pins s σ H xs us Q I r ⟨x, d, y, v, e, hd, hg, hv, q⟩
  subst e
  cases d with
  | list ds =>
    obtain ⟨c, rfl⟩ := ifB hg
    rw [Bool.and_eq_true] at c
    obtain ⟨a, vs, rfl, h1, h2⟩ := dq_lst hd
    obtain ⟨its, rv, p, hz⟩ := I.list h1
    obtain ⟨as, hr⟩ := Dp.readsAll I ds vs its (DqAll.dp ds c.1 h2) rv
    rw [Vals.ref1 r]
    have ev := scal_v hv (scal_bl _)
    subst ev
    exact PySem.W.all_list_data ft.hd p.isList hr c.1 (fits_bools c.2) fun h' tk hk => ⟨.bl _, H, I.kept hk, rfl, q⟩
  | _ => cases hg
theorem cr_anyX (ft : Fit X.A) : CallR X (.builtin "any") (r1D gAny X.K) := by
  intro pins s σ H xs us Q I r ⟨x, d, y, v, e, hd, hg, hv, q⟩
  subst e
  cases d with
  | list ds =>
    obtain ⟨c, rfl⟩ := ifB hg
    rw [Bool.and_eq_true] at c
    obtain ⟨a, vs, rfl, h1, h2⟩ := dq_lst hd
    obtain ⟨its, rv, p, hz⟩ := I.list h1
    obtain ⟨as, hr⟩ := Dp.readsAll I ds vs its (DqAll.dp ds c.1 h2) rv
    rw [Vals.ref1 r]
    have ev := scal_v hv (scal_bl _)
    subst ev
    exact PySem.W.any_list_data ft.hd p.isList hr c.1 (fits_bools c.2) fun h' tk hk => ⟨.bl _, H, I.kept hk, rfl, q⟩
  | _ => cases hg
theorem scAll (d r : PyData) (h : gAll d = some r) : ∃ v, Scal r v := by
  cases d with
  | list xs => exact scB h
  | _ => cases h
theorem scAny (d r : PyData) (h : gAny d = some r) : ∃ v, Scal r v := by
  cases d with
  | list xs => exact scB h
  | _ => cases h
/-- isinstance(x, T) -/
def isD : String → PyData → Bool
  | "int", d => d.isInt
  | "bool", d => d.isBool
  | "str", d => d.isStr
  | "tuple", d => d.isTuple
  | "list", d => d.isList
  | "dict", d => d.isDict
  | _, _ => false
def fIsi (T : String) : F1 := fun x A => match toD A x with
  | some d => .ok (.dat (.bool (isD T d))) A
  | none => .bad
def rIsi1 (T : String) (K : PySem.W.Frag) : List V → Hp → VK → Prop := fun xs H Q => ∃ x d, xs = [x, .ty T] ∧ Dq K H x d ∧ Q (.bl (isD T d)) H
theorem vals_ty {x : V} {T : String} {us : List Value} (r : Vals [x, .ty T] us) : ∃ u, us = [u, .type T] ∧ RelV x u := by
  cases r with
  | cons a t =>
    cases t with
    | cons b t2 =>
      cases t2
      cases b
      exact ⟨_, rfl, a⟩
theorem cr_isi {T : String} (hT : T = "int" ∨ T = "bool" ∨ T = "str" ∨ T = "tuple" ∨ T = "list" ∨ T = "dict") : CallR X (.builtin "isinstance") (rIsi1 T X.K) := by
  intro pins s σ H xs us Q I r ⟨x, d, e, hd, q⟩
  subst e
  obtain ⟨u, rfl, ru⟩ := vals_ty r
  obtain ⟨as, hr⟩ := Dq.reads I hd ru
  rcases hT with rfl | rfl | rfl | rfl | rfl | rfl
  · exact PySem.W.isinstance_int_data hr fun tk _ => ⟨.bl _, H, I.tok tk, rfl, q⟩
  · exact PySem.W.isinstance_bool_data hr fun tk _ => ⟨.bl _, H, I.tok tk, rfl, q⟩
  · exact PySem.W.isinstance_str_data hr fun tk _ => ⟨.bl _, H, I.tok tk, rfl, q⟩
  · exact PySem.W.isinstance_tuple_data hr fun tk _ => ⟨.bl _, H, I.tok tk, rfl, q⟩
  · exact PySem.W.isinstance_list_data hr fun tk _ => ⟨.bl _, H, I.tok tk, rfl, q⟩
  · exact PySem.W.isinstance_dict_data hr fun tk _ => ⟨.bl _, H, I.tok tk, rfl, q⟩
theorem re_isi {T : String} {e : Expr} {tn : Str} {p p2 pos : Pos} {m : MM SV} (hT : T = "int" ∨ T = "bool" ∨ T = "str" ∨ T = "tuple" ∨ T = "list" ∨ T = "dict") (h : RE X W e m) (hg : Gl X "isinstance") (hm : X.mg "isinstance" = none) (hg2 : Gl X tn) (hm2 : X.mg tn = none) (hb : bootBuiltins tn = some (.type T))
    (hn : tn ≠ "__name__" := by decide) (hd : (tn == ("__debug__" : Str)) = false := by decide)
    (he : starEach [e, .Name tn p2] X.env = (false, eval e X.env) :: starEach [.Name tn p2] X.env := by rfl) (he2 : starEach [.Name tn p2] X.env = (false, eval (.Name tn p2) X.env) :: starEach [] X.env := by rfl)
    (hpl : (backTo pos (starEach [.Name tn p2] X.env)).any (·.1) = false := by rfl) : RE X W (.Call (.Name "isinstance" p) [e, .Name tn p2] [] pos) (mUn (fIsi T) m) := by
  obtain ⟨t, pe, s⟩ := h
  refine ⟨_, pe_callB (cr_isi hT) hg hm (by decide +kernel) (pa_cons pe (pa_cons (pe_bltn (v := .ty T) hg2 hm2 hb rfl hn hd) pa_nil he2) he) (by decide) (by decide) he hpl, fun s0 A d σ Q hs hσ h => ?_⟩
  refine s.then hs hσ h fun x A1 s1 v p1 hs1 r1 hσ1 h1 => ?_
  have h1 := Good.quiet h1
  unfold fIsi at h1
  cases hx : toD A1 x with
  | none => simp only [hx] at h1; exact h1.elim
  | some y =>
    simp only [hx] at h1
    exact ⟨v, y, rfl, toD_ok hs1 r1 hx, h1 s1 _ (Post.refl _) hs1 (.bl _)⟩
end
end Rx
/-! Rx 9: more built-ins, walks, methods, stores. -/
namespace Rx
open PySem L2 PySem.Spec PyProof.Rows Evl

section
variable {X : Cx} {W : WX} {K : KF}

/-! ints -/
def asInts : List PyData → Option (List Int)
  | [] => some []
  | .int i :: r => match asInts r with
    | some is => some (i :: is)
    | none => none
  | _ :: _ => none
theorem asInts_eq : ∀ {ds : List PyData} {ns : List Int}, asInts ds = some ns → ds = ns.map PyData.int
  | [], _, h => by cases h; rfl
  | .int i :: r, _, h => by
    unfold asInts at h
    split at h
    · rename_i is e
      cases h
      rw [asInts_eq e]
      rfl
    · cases h
  | .none :: _, _, h => by cases h
  | .bool _ :: _, _, h => by cases h
  | .str _ :: _, _, h => by cases h
  | .list _ :: _, _, h => by cases h
  | .tuple _ :: _, _, h => by cases h
  | .dict _ :: _, _, h => by cases h
def gSum (d : PyData) : Option PyData := match d with
  | .list xs => match asInts xs with
    | some ns => some (.int ns.sum)
    | none => none
  | _ => none
theorem scSum (d r : PyData) (h : gSum d = some r) : ∃ v, Scal r v := by
  unfold gSum at h
  split at h
  · split at h
    · cases h; exact ⟨_, scal_int _⟩
    · cases h
  · cases h
theorem cr_sumX (ft : Fit X.A) (hc : X.calm = true) : CallR X (.builtin "sum") (r1D gSum X.K) := by
  intro pins s σ H xs us Q I r ⟨x, d, y, v, e, hd, hg, hv, q⟩
  subst e
  unfold gSum at hg
  split at hg
  · rename_i ds
    split at hg
    · rename_i ns en
      cases hg
      obtain ⟨a, vs, rfl, h1, h2⟩ := dq_lst hd
      rw [asInts_eq en] at h2
      have ev := DqAll.ints h2
      subst ev
      have e2 := scal_v hv (scal_int _)
      subst e2
      exact L2.cr_sum hc pins s σ H [.ref a] us Q I r ⟨a, ns, rfl, h1, q⟩
    · cases hg
  · cases hg
def gAbs (d : PyData) : Option PyData := match d with
  | .int i => some (.int (if i < 0 then -i else i))
  | _ => none
theorem scAbs (d r : PyData) (h : gAbs d = some r) : ∃ v, Scal r v := by
  unfold gAbs at h
  split at h
  · cases h; exact ⟨_, scal_int _⟩
  · cases h
theorem cr_absX : CallR X (.builtin "abs") (r1D gAbs X.K) := by
  intro pins s σ H xs us Q I r ⟨x, d, y, v, e, hd, hg, hv, q⟩
  subst e
  unfold gAbs at hg
  split at hg
  · cases hg
    cases hd
    have e2 := scal_v hv (scal_int _)
    subst e2
    exact L2.call_abs pins s σ H _ us Q I r ⟨_, rfl, q⟩
  · cases hg
def gInt (d : PyData) : Option PyData := match d with
  | .int i => some (.int i)
  | .bool k => some (.int (if k then 1 else 0))
  | _ => none
theorem scInt (d r : PyData) (h : gInt d = some r) : ∃ v, Scal r v := by
  unfold gInt at h
  split at h
  · cases h; exact ⟨_, scal_int _⟩
  · cases h; exact ⟨_, scal_int _⟩
  · cases h
theorem cr_intX : CallR X (.type "int") (r1D gInt X.K) := by
  intro pins s σ H xs us Q I r ⟨x, d, y, v, e, hd, hg, hv, q⟩
  subst e
  unfold gInt at hg
  split at hg
  · cases hg
    cases hd
    have e2 := scal_v hv (scal_int _)
    subst e2
    exact L2.call_int1 pins s σ H _ us Q I r (.inl ⟨_, rfl, q⟩)
  · cases hg
    cases hd
    have e2 := scal_v hv (scal_int _)
    subst e2
    exact L2.call_int1 pins s σ H _ us Q I r (.inr ⟨_, rfl, q⟩)
  · cases hg
/-- max, min: two ints; all of a list, a tuple -/
def fMax2 : FL := fun xs A => match xs with
  | [.dat (.int i), .dat (.int j)] => .ok (.dat (.int (if j > i then j else i))) A
  | _ => .bad
def fMin2 : FL := fun xs A => match xs with
  | [.dat (.int i), .dat (.int j)] => .ok (.dat (.int (if j < i then j else i))) A
  | _ => .bad
theorem caS_max2 : CaS K (fun xs H Q => ∃ i j, xs = [.int i, .int j] ∧ Q (.int (if j > i then j else i)) H) fMax2 := by
  intro s A dx vs Q hs rx h
  unfold fMax2 at h
  split at h
  · obtain ⟨v, u, rfl, r1, r2⟩ := rvs_two rx
    cases r1; cases r2
    exact ⟨_, _, rfl, h s _ (Post.refl _) hs (.int _)⟩
  · exact h.elim
theorem caS_min2 : CaS K (fun xs H Q => ∃ i j, xs = [.int i, .int j] ∧ Q (.int (if j < i then j else i)) H) fMin2 := by
  intro s A dx vs Q hs rx h
  unfold fMin2 at h
  split at h
  · obtain ⟨v, u, rfl, r1, r2⟩ := rvs_two rx
    cases r1; cases r2
    exact ⟨_, _, rfl, h s _ (Post.refl _) hs (.int _)⟩
  · exact h.elim
def alikeAll1 (xs : List PyData) : Bool := xs.all fun x => xs.all fun y => PySem.W.alike x y
def okM (xs : List PyData) : Bool := alikeAll1 xs && PyData.plainAll xs && decide (PyData.depthAll xs ≤ 60) && xs.all (fun x => match x with | .none => false | _ => true)
theorem okM_ok {xs : List PyData} (h : okM xs = true) : PySem.W.AlikeAll xs ∧ PyData.plainAll xs = true ∧ PyData.depthAll xs ≤ 60 := by
  unfold okM at h
  simp only [Bool.and_eq_true, decide_eq_true_eq] at h
  refine ⟨⟨fun x hx y hy => List.all_eq_true.mp (List.all_eq_true.mp h.1.1.1 x hx) y hy, fun x hx z => ?_⟩, h.1.1.2, h.1.2⟩
  subst z
  have := List.all_eq_true.mp h.2 _ hx
  cases this
def ext1 (f : PyData → List PyData → PyData) : FL := fun xs A => match xs with
  | [x] => match cont A x with
    | some (y :: ys) => if okM (y :: ys) then .ok (.dat (f y ys)) A else .bad
    | _ => .bad
  | _ => .bad
def rExt (f : PyData → List PyData → PyData) (K : PySem.W.Frag) : List V → Hp → VK → Prop := fun xs H Q => ∃ a vs y ys, xs = [.ref a] ∧ (SqT K H a vs ∨ SqL K H a vs) ∧ DqAll K H vs (y :: ys) ∧ okM (y :: ys) = true ∧ ∀ (v : V) (i : Nat), vs[i]? = some v → (y :: ys)[i]? = some (f y ys) → Q v H
theorem caS_ext {f : PyData → List PyData → PyData} : CaS K (rExt f K) (ext1 f) := by
  intro s A dx vs Q hs rx h
  unfold ext1 at h
  split at h
  · rename_i x
    obtain ⟨v, rfl, r⟩ := rvs_one rx
    split at h
    · rename_i y ys hc
      split at h
      · rename_i hok
        obtain ⟨p, us, rfl, h1, h2⟩ := cont_ok hs r hc
        refine ⟨p, us, y, ys, rfl, h1, DqAll.up hs.sub _ h2, hok, fun v i e1 e2 => ?_⟩
        obtain ⟨v', e3, e4⟩ := DqAll.get h2 e2
        rw [e1] at e3
        cases e3
        exact h s v (Post.refl _) hs e4
      · exact h.elim
    · exact h.elim
  · exact h.elim
theorem at_of_reads {h : Heap} : ∀ {its : List Value} {ds : List PyData} {as : List Addr} {i : Nat} {u : Value} {d : PyData} {bs : List Addr}, ReadsAll h its ds as → PyData.plainAll ds = true → its[i]? = some u → Reads h u d bs → ds[i]? = some d
  | _, [], _, i, u, d, bs, hr, _, hu, r => by cases hr; simp at hu
  | _, x :: xs, _, i, u, d, bs, hr, hp, hu, r => by
    cases hr with
    | cons r1 r2 =>
      simp only [PyData.plainAll, Bool.and_eq_true] at hp
      cases i with
      | zero =>
        simp only [List.getElem?_cons_zero, Option.some.injEq] at hu
        subst hu
        rw [SeqAt.plain_unique x d _ _ _ hp.1 r1 r]
        rfl
      | succ i =>
        have hu : _ := hu
        simp only [List.getElem?_cons_succ] at hu ⊢
        exact at_of_reads r2 hp.2 hu r
theorem val_at {vs : List V} {its : List Value} {i : Nat} {u : Value} (rv : Vals vs its) (hu : its[i]? = some u) : ∃ v, vs[i]? = some v ∧ RelV v u := by
  induction rv generalizing i with
  | nil => simp at hu
  | cons r t ih =>
    cases i with
    | zero => simp at hu; subst hu; exact ⟨_, rfl, r⟩
    | succ i => simpa using ih (by simpa using hu)
theorem ext_end {pins : List (Addr × Obj)} {σ : L2.St} {H : Hp} {s : Shared} {Q : VK} {vs : List V} {its : List Value} {ds : List PyData} {as bs : List Addr} {d : PyData} {u : Value} {i : Nat} {h' : Heap} {tk : Nat} (I : Inv X pins σ H s) (rv : Vals vs its) (hr : ReadsAll s.heap its ds as) (hp : PyData.plainAll ds = true)
    (hu : its.toArray[i]? = some u) (r : Reads h' u d bs) (hk : ∀ b o, s.heap.get? b = some o → h'.get? b = some o) (q : ∀ (v : V) (i : Nat), vs[i]? = some v → ds[i]? = some d → Q v H) : EP X pins σ Q u { s with heap := h', toks := tk } := by
  have hu : its[i]? = some u := by simpa using hu
  obtain ⟨v, e1, e2⟩ := val_at rv hu
  exact ⟨v, H, I.kept hk, e2, q v i e1 (at_of_reads (PyProof.Rows.ReadsAll.keeps hk hr) hp hu r)⟩
theorem cr_min1 (ft : Fit X.A) : CallR X (.builtin "min") (rExt PySem.W.minD X.K) := by
  intro pins s σ H xs us Q I r ⟨a, vs, y, ys, e, hs, hd, hok, q⟩
  subst e
  obtain ⟨h1, h2, h3⟩ := okM_ok hok
  have hu := ft.un
  rw [Vals.ref1 r]
  rcases hs with hs | hs
  · obtain ⟨its, rv, p, _⟩ := I.tuple hs
    obtain ⟨as, hr⟩ := DqAll.reads I hd rv
    exact PySem.W.min_tuple_data ft.hd p hr h1 (by omega) fun i u h' tk bs e1 e2 hk => ext_end I rv hr h2 e1 e2 hk q
  · obtain ⟨its, rv, p, _⟩ := I.list hs
    obtain ⟨as, hr⟩ := DqAll.reads I hd rv
    exact PySem.W.min_list_data ft.hd p.isList hr h1 (by omega) fun i u h' tk bs e1 e2 hk => ext_end I rv hr h2 e1 e2 hk q
theorem cr_max1 (ft : Fit X.A) : CallR X (.builtin "max") (rExt PySem.W.maxD X.K) := by
  intro pins s σ H xs us Q I r ⟨a, vs, y, ys, e, hs, hd, hok, q⟩
  subst e
  obtain ⟨h1, h2, h3⟩ := okM_ok hok
  have hu := ft.un
  rw [Vals.ref1 r]
  rcases hs with hs | hs
  · obtain ⟨its, rv, p, _⟩ := I.tuple hs
    obtain ⟨as, hr⟩ := DqAll.reads I hd rv
    exact PySem.W.max_tuple_data ft.hd p hr h1 (by omega) fun i u h' tk bs e1 e2 hk => ext_end I rv hr h2 e1 e2 hk q
  · obtain ⟨its, rv, p, _⟩ := I.list hs
    obtain ⟨as, hr⟩ := DqAll.reads I hd rv
    exact PySem.W.max_list_data ft.hd p.isList hr h1 (by omega) fun i u h' tk bs e1 e2 hk => ext_end I rv hr h2 e1 e2 hk q

/-! tuple(x), list(x), sorted(x) -/
def fTuple : FL := fun xs A => match xs with
  | [.dat (.tuple ds)] => .ok (.dat (.tuple ds)) A
  | [x] => match cont A x with
    | some ds => .ok (.dat (.tuple ds)) A
    | none => .bad
  | _ => .bad
theorem caS_tuple : CaS K (fun xs H Q => ∃ p ys, xs = [.ref p] ∧ ((SqL K H p ys ∧ ∀ l, H l = none → Q (.ref l) (upd H l (.tup ys))) ∨ (SqT K H p ys ∧ Q (.ref p) H))) fTuple := by
  intro s A dx vs Q hs rx h
  unfold fTuple at h
  split at h
  · obtain ⟨v, rfl, r⟩ := rvs_one rx
    obtain ⟨a, us, rfl, h1, h2⟩ := rv_tup r
    exact ⟨a, us, rfl, .inr ⟨ex_t hs.sub h1, h s _ (Post.refl _) hs (.tup h1 h2)⟩⟩
  · rename_i x hne
    obtain ⟨v, rfl, r⟩ := rvs_one rx
    split at h
    · rename_i ds hc
      obtain ⟨p, us, rfl, h1, h2⟩ := cont_ok hs r hc
      rcases h1 with h1 | h1
      · -- a tuple: only data are tuples
        cases x with
        | dat y =>
          cases y with
          | tuple zs => exact absurd rfl (hne zs)
          | list zs =>
            obtain ⟨a, ws, e1, e2, e3⟩ := rv_lst r
            cases e1
            cases hc
            exact ⟨p, ws, rfl, .inl ⟨ex_l hs.sub e2, fun l hl => h (s.newF l _) _ (Post.newF hs hl _) (hs.newF hl _) (hs.newTup hl e3)⟩⟩
          | _ => cases hc
        | ref i =>
          obtain ⟨a, e1, e2⟩ := r
          cases e1
          have hc : (match A[i]? with | some (.lst xs) => some xs | none => none) = some ds := hc
          cases hA : A[i]? with
          | none => rw [hA] at hc; cases hc
          | some o =>
            cases o with
            | lst zs =>
              rw [hA] at hc
              cases hc
              obtain ⟨ws, e3, e4⟩ := hs.obj i p ds e2 hA
              exact ⟨p, ws, rfl, .inl ⟨sq_of e3, fun l hl => h (s.newF l _) _ (Post.newF hs hl _) (hs.newF hl _) (hs.newTup hl e4)⟩⟩
        | adr a => cases hc
      · exact ⟨p, us, rfl, .inl ⟨h1, fun l hl => h (s.newF l _) _ (Post.newF hs hl _) (hs.newF hl _) (hs.newTup hl h2)⟩⟩
    · exact h.elim
  · exact h.elim
/-- a call that makes a new list, by values -/
def CaN (K : KF) (r : List V → Hp → VK → Prop) (f : List SV → List AO → RR (List PyData)) : Prop := ∀ (s : S3) (A : List AO) (dx : List SV) (x : List V) (Q : VK), SR K s A → RVs K s dx x →
  Good (f dx A) (fun ds A' => ∀ (t : S3) (p : Addr) (vs : List V), Post s t → SR K t A' → t.H p = none → DqAll K t.F vs ds → Q (.ref p) (upd t.H p (.lst vs))) NoX → r x s.H Q
def mCallN (f : List SV → List AO → RR (List PyData)) (a : MM (List SV)) : MM (List PyData) := fun d A => (a d A).bind fun x A1 => (f x A1).quiet
theorem simN_cb {r : List V → Hp → VK → Prop} {f : List SV → List AO → RR (List PyData)} {ta : TA} {ma : MM (List SV)} (hf : CaN K r f) (ha : Sim K W (RVs K) ta ma) : SimN K W (tCB r ta) (mCallN f ma) := fun s A d σ Q hs hσ h => by
  refine ha s A d σ _ hs hσ (Good.mono (Good.bind h) (fun x A1 h1 s1 v p1 hs1 r1 => ?_) (fun _ _ z => z))
  exact hf s1 A1 x v Q hs1 r1 (Good.mono (Good.quiet h1) (fun ds A' g t p vs pt => g t p vs (p1.trans pt)) (fun _ _ z => z))
def fList (xs : List SV) (A : List AO) : RR (List PyData) := match xs with
  | [x] => match cont A x with
    | some ds => .ok ds A
    | none => .bad
  | _ => .bad
theorem caN_list : CaN K (fun xs H Q => ∃ p ys, xs = [.ref p] ∧ (SqL K H p ys ∨ SqT K H p ys) ∧ ∀ l, H l = none → Q (.ref l) (upd H l (.lst ys))) fList := by
  intro s A dx vs Q hs rx h
  unfold fList at h
  split at h
  · rename_i x
    obtain ⟨v, rfl, r⟩ := rvs_one rx
    split at h
    · rename_i ds hc
      obtain ⟨p, us, rfl, h1, h2⟩ := cont_ok hs r hc
      exact ⟨p, us, rfl, h1.symm, fun l hl => h s l us (Post.refl _) hs hl h2⟩
    · exact h.elim
  · exact h.elim
/-- sorting: stable, upwards -/
def insD (x : PyData) : List PyData → List PyData
  | [] => [x]
  | y :: ys => if PySem.W.dataLt y x then y :: insD x ys else x :: y :: ys
def sortD (xs : List PyData) : List PyData := xs.foldr insD []
def okS (xs : List PyData) : Bool := alikeAll1 xs && decide (PyData.depthAll xs ≤ 60) && sz xs.length && (xs.all (fun x => match x with | .tuple (_ :: _) => true | _ => false) || xs.all (fun x => match x with | .tuple _ => false | .none => false | _ => true))
def fSorted (xs : List SV) (A : List AO) : RR (List PyData) := match xs with
  | [x] => match toD A x with
    | some (.list ds) => if okS ds then .ok (sortD ds) A else .bad
    | _ => .bad
  | _ => .bad
end
end Rx
/-! Rx 10: sorted. -/
namespace Rx
open PySem L2 PySem.Spec PyProof.Rows Evl

section
variable {X : Cx} {W : WX} {K : KF}
def srt (xs : List PyData) : List PyData := sortF (PySem.W.dataLe false id) xs
theorem srt_eq (xs : List PyData) : srt xs = xs.mergeSort (PySem.W.dataLe false id) := sortF_eq _ xs
def fSrt (xs : List SV) (A : List AO) : RR (List PyData) := match xs with
  | [x] => match toD A x with
    | some (.list ds) => if okS ds then .ok (srt ds) A else .bad
    | _ => .bad
  | _ => .bad
def rSrt (K : PySem.W.Frag) : List V → Hp → VK → Prop := fun xs H Q => ∃ a vs ds, xs = [.ref a] ∧ SqL K H a vs ∧ DqAll K H vs ds ∧ okS ds = true ∧
  ∀ (ws : List V) (p : Addr), (∀ F, DqAll K F vs ds → DqAll K F ws (srt ds)) → H p = none → Q (.ref p) (upd H p (.lst ws))
theorem okS_ok {xs : List PyData} (h : okS xs = true) : (∀ x ∈ xs, ∀ y ∈ xs, PySem.W.alike x y = true) ∧ PyData.depthAll xs ≤ 60 ∧ xs.length ≤ 16000000 ∧ ((∀ x ∈ xs, ∃ y r, x = .tuple (y :: r)) ∨ ∀ x ∈ xs, x ≠ .none ∧ ∀ ys, x ≠ .tuple ys) := by
  unfold okS at h
  simp only [Bool.and_eq_true, decide_eq_true_eq, Bool.or_eq_true] at h
  obtain ⟨⟨⟨h1, h2⟩, h3⟩, h4⟩ := h
  refine ⟨fun x hx y hy => List.all_eq_true.mp (List.all_eq_true.mp h1 x hx) y hy, h2, of_decide_eq_true h3, ?_⟩
  rcases h4 with h4 | h4
  · refine .inl fun x hx => ?_
    have := List.all_eq_true.mp h4 x hx
    split at this
    · exact ⟨_, _, rfl⟩
    · cases this
  · refine .inr fun x hx => ?_
    have := List.all_eq_true.mp h4 x hx
    constructor
    · rintro rfl; cases this
    · rintro ys rfl; cases this
theorem depth_mem : ∀ {xs : List PyData} {x : PyData}, x ∈ xs → x.depth ≤ PyData.depthAll xs
  | y :: ys, x, h => by
    simp only [PyData.depthAll]
    rcases List.mem_cons.mp h with e | e
    · subst e; exact Nat.le_max_left _ _
    · exact Nat.le_trans (depth_mem e) (Nat.le_max_right _ _)
theorem each_zip {pins : List (Addr × Obj)} {σ : L2.St} {H : Hp} {s : Shared} (I : Inv X pins σ H s) : ∀ {vs : List V} {ds : List PyData} {us : List Value}, DqAll X.K H vs ds → Vals vs us →
    PySem.W.EachIs (fun u (b : V × PyData) => RelV b.1 u) us (vs.zip ds) ∧ PySem.W.EachIs (fun u (b : V × PyData) => ∃ as, Reads s.heap u b.2 as) us (vs.zip ds)
  | _, _, _, .nil, .nil => ⟨.nil, .nil⟩
  | _, _, _, .cons h t, .cons r q => by
    obtain ⟨a, b⟩ := each_zip I t q
    exact ⟨.cons r a, .cons (Dq.reads I h r) b⟩
theorem zip_snd {K : PySem.W.Frag} {F : Hp} : ∀ {vs : List V} {ds : List PyData}, DqAll K F vs ds → (vs.zip ds).map Prod.snd = ds
  | _, _, .nil => rfl
  | _, _, .cons _ t => by simp [zip_snd t]
theorem zip_dq {K : PySem.W.Frag} {F : Hp} : ∀ {vs : List V} {ds : List PyData}, DqAll K F vs ds → ∀ b ∈ vs.zip ds, Dq K F b.1 b.2
  | _, _, .nil, _, h => by cases h
  | _, _, .cons a t, b, h => by
    rcases List.mem_cons.mp h with e | e
    · subst e; exact a
    · exact zip_dq t b e
theorem dq_maps {K : PySem.W.Frag} {F : Hp} : ∀ (l : List (V × PyData)), (∀ b ∈ l, Dq K F b.1 b.2) → DqAll K F (l.map Prod.fst) (l.map Prod.snd)
  | [], _ => .nil
  | b :: l, h => .cons (h b List.mem_cons_self) (dq_maps l fun c hc => h c (List.mem_cons_of_mem _ hc))
theorem vals_each : ∀ {us : List Value} {l : List (V × PyData)}, PySem.W.EachIs (fun u (b : V × PyData) => RelV b.1 u) us l → Vals (l.map Prod.fst) us
  | _, _, .nil => .nil
  | _, _, .cons r t => .cons r (vals_each t)
theorem cr_srt (ft : Fit X.A) : CallR X (.builtin "sorted") (rSrt X.K) := by
  intro pins s σ H xs us Q I r ⟨a, vs, ds, e, hl, hd, hok, q⟩
  subst e
  obtain ⟨c1, c2, c3, c4⟩ := okS_ok hok
  rw [Vals.ref1 r]
  obtain ⟨its, rv, p, _⟩ := I.list hl
  obtain ⟨e1, e2⟩ := each_zip I hd rv
  have hz : (vs.zip ds).map Prod.snd = ds := zip_snd hd
  have hlen : (vs.zip ds).length = ds.length := by rw [← hz]; simp
  have hu := ft.un
  have hal : PySem.W.AllAlike ((vs.zip ds).map Prod.snd) := by rw [hz]; exact c1
  have hso : PySem.W.Sortable ((vs.zip ds).map Prod.snd) := by rw [hz]; exact c4
  refine PySem.W.sorted_data (enc := Prod.snd) p.isList e1 e2 hal hso ?_ (fun b hb => ?_) fun out ho eo => ?_
  · rw [hlen]; exact Nat.le_of_lt (Nat.lt_of_le_of_lt c3 (by decide))
  · have hm : b.2 ∈ ds := by rw [← hz]; exact List.mem_map_of_mem hb
    have := depth_mem hm
    omega
  · obtain ⟨n, hn⟩ := sortedAll_at s.heap its out.toArray
    have rv2 := vals_each eo
    refine ⟨.ref (s.heap.objs.size + 1), _, I.laid (t' := s.toks) (a := s.heap.objs.size + 1) (o := .lst ((((vs.zip ds).mergeSort (PySem.W.dataLe false Prod.snd)).map Prod.fst))) (fun b o hb => sortedAll_old hb) (Nat.le_succ _) (show ObjOk X.prog X.w _ _ _ (.lst _) from ⟨?_, out, n, rv2, hn⟩), rfl, q _ _ (fun F hF => ?_) (I.hok.fresh (Nat.le_succ _))⟩
    · rw [List.length_map, List.length_mergeSort, hlen]; exact Nat.le_of_lt (Nat.lt_of_le_of_lt c3 (by decide))
    · have hm : ((vs.zip ds).mergeSort (PySem.W.dataLe false Prod.snd)).map Prod.snd = srt ds := by
        rw [srt_eq]
        conv => rhs; rw [← hz]
        exact PySem.W.sort_maps Prod.snd fun a _ b _ => rfl
      rw [← hm]
      refine dq_maps _ fun b hb => zip_dq hF b ?_
      exact (List.mergeSort_perm _ _).mem_iff.mp hb
theorem caN_srt : CaN K (rSrt K) fSrt := by
  intro s A dx vs Q hs rx h
  unfold fSrt at h
  split at h
  · rename_i x
    obtain ⟨v, rfl, r⟩ := rvs_one rx
    split at h
    · rename_i ds hd
      split at h
      · rename_i hok
        obtain ⟨a, us, rfl, h1, h2⟩ := toD_lst hs r hd
        exact ⟨a, us, ds, rfl, h1, DqAll.up hs.sub _ h2, hok, fun ws p hw hp => h s p ws (Post.refl _) hs hp (hw _ h2)⟩
      · exact h.elim
    · exact h.elim
  · exact h.elim
end
end Rx
/-! Rx 11: what is walked. -/
namespace RxE
open PySem
open AutoSeq1 (wpAny_loadPart')
theorem enum_made (l : Addr) (xs : Array Value) (n : Nat) (dd : Option Addr) (ss : Array (Option Value)) :
    Meets (Builtin.«enumerate.__new__» ⟨[.type "enumerate", .ref l], []⟩) (fun _ R z => z.heap.get? l = some { cls := .type "tuple", dict := dd, data := .seq xs n, slots := ss } ∧
      R (.ok (.ret (.ref (z.heap.push { cls := .type "tuple_iterator", data := .fields #[.ref l, .int 0 0] }).objs.size)))
        { z with heap := (z.heap.push { cls := .type "tuple_iterator", data := .fields #[.ref l, .int 0 0] }).push { cls := .type "enumerate", data := .fields #[.none, .bool false, .ref z.heap.objs.size, rawInt 0, .none, .none] } }) :=
  .of_wp fun pp ww A R z h => by
    obtain ⟨hp, g, d, tk, os⟩ := z; obtain ⟨hl, h⟩ := h
    have hsub := sub_enumerate
    have hT : Heap.IsTuple (Shared.heap ⟨hp, g, d, tk, os⟩) l xs := ⟨_, hl, rfl, n, rfl⟩
    wp_walk using wpAny_loadPart' hl
    refine wpAny_stack_any fun st => wpAny_pure ?_
    split
    · rename_i c _ _ _ _ _
      cases (c == Value.type "enumerate")
      · wp_walk using wpAny_loadPart' hl, wpAny_pyIter_tuple hT
        exact ⟨_, rfl, h⟩
      · wp_walk using wpAny_loadPart' hl, wpAny_pyIter_tuple hT
        exact ⟨_, rfl, h⟩
    · wp_walk using wpAny_loadPart' hl, wpAny_pyIter_tuple hT
      exact ⟨_, rfl, h⟩
section
variable {pp : Program} {ww : World} {A : Around} {E : Value → Shared → Prop} {z : Shared}
theorem enum_tuple {l : Addr} {xs : Array Value} {Q : Value → Shared → Prop} (hL : z.heap.IsTuple l xs)
    (h : ∀ h', IsEnum h' (z.heap.objs.size + 1) z.heap.objs.size 0 .none → h'.IsTupleIter z.heap.objs.size l 0 → (∀ b o, z.heap.get? b = some o → h'.get? b = some o) → Q (.ref (z.heap.objs.size + 1)) { z with heap := h' }) :
    wpAny (model pp ww) A (call (.type "enumerate") [.ref l]) Q E z := by
  obtain ⟨⟨c, dd, dt, ss⟩, hl, hc, n, hd⟩ := hL
  replace hc : c = .type "tuple" := hc
  replace hd : dt = .seq xs n := hd
  subst hc hd
  refine callType_new F.called_enumerate (by decide) (F.typeCall_enumerate_1 _) (F.newCall_enumerate_1 _) (fun ob => F.args_object_init_2 ob _) F.entry_enumerate_new (enum_made l xs n dd ss) ⟨hl, ?_⟩
  let h1 := z.heap.push { cls := .type "tuple_iterator", data := .fields #[.ref l, .int 0 0] }
  have hz : h1.objs.size = z.heap.objs.size + 1 := Heap.size_push ..
  show _ ∧ _
  have he : IsEnum (h1.push { cls := .type "enumerate", data := .fields #[.none, .bool false, .ref z.heap.objs.size, rawInt 0, .none, .none] }) (z.heap.objs.size + 1) z.heap.objs.size 0 .none := by
    have q := Heap.get?_push_size h1 (o := { cls := .type "enumerate", data := .fields #[.none, .bool false, .ref z.heap.objs.size, rawInt 0, .none, .none] }) rfl
    rw [hz] at q; exact q
  rw [show (z.heap.push { cls := .type "tuple_iterator", data := .fields #[.ref l, .int 0 0] }).objs.size = z.heap.objs.size + 1 from hz]
  exact ⟨⟨_, he, rfl⟩, h _ he ⟨_, Heap.get?_push_of_some _ (Heap.get?_push_size _ rfl), rfl, rfl⟩ fun b o x => Heap.get?_push_of_some _ (Heap.get?_push_of_some _ x)⟩
end
end RxE
namespace Rx
open PySem L2 PySem.Spec PyProof.Rows Evl

/-! ### enumerate(tuple) -/
def IteT (K : PySem.W.Frag) (a : Addr) : It :=
  ⟨fun i H => ∃ (xs : List V) (x : V), SqT K H a xs ∧ xs[i]? = some x, fun i H v H' => ∃ T x, v = .ref T ∧ H T = none ∧ H' = upd H T (.tup [.int (i : Nat), x]) ∧ ∀ xs, SqT K H a xs → xs[i]? = some x, fun i H => ∃ xs : List V, SqT K H a xs ∧ xs.length ≤ i⟩
theorem tup_ne {h : Heap} {a b : Addr} {xs : Array Value} {o : Obj} (p : h.IsTuple a xs) (e : h.get? b = some o) (hc : o.cls ≠ .type "tuple") : a ≠ b := by
  rintro rfl
  obtain ⟨u, e2, c, _⟩ := p
  rw [e] at e2
  cases e2
  exact hc c
theorem draws_end {prog : Program} {w : World} {A : Around} (hh : A.handled = none) (it t : Addr) (hne : t ≠ it) (xs : Array Value) {n : Nat} (hn : xs[n]? = none) :
    Draws prog w A it [it, t] n (fun _ _ => True) (fun i h => i = n ∧ h.IsTupleIter it t i ∧ h.IsTuple t xs) where
  live := fun _ _ st => let ⟨o, ho, _⟩ := st.2.1; ⟨o, ho⟩
  frame := fun _ _ _ st hk => ⟨st.1, st.2.1.at fun o e => hk it (by simp) o e, st.2.2.at fun o e => hk t (by simp) o e⟩
  item := fun i s Q E hi st hQ => absurd st.1 (Nat.ne_of_lt hi)
  done := fun s Q E st hE => wpAny_nextOf_tuple_end hh st.2.1 st.2.2 hn hE
theorem turn_enumT {P : Program} {w : World} {K : PySem.W.Frag} {elts : List Expr} {kk : Nat} {tpos : Pos} (a e it : Addr) :
    Turn P w K (.Tuple elts kk tpos) (IteT K a) [e, it] e (fun i h => (∃ old, IsEnum h e it ((i : Nat) : Int) old) ∧ h.IsTupleIter it a i ∧ e ≠ it) where
  mem := List.mem_cons_self
  obj := fun i h st b hb => by
    obtain ⟨⟨old, he⟩, ⟨o, ho, hc, hd⟩, _⟩ := st
    rcases List.mem_cons.mp hb with y | y
    · rw [y]; exact ⟨_, he, fun v q => nomatch q⟩
    · rw [List.mem_singleton.mp y]; exact ⟨o, ho, fun v q => by rw [hd] at q; cases q⟩
  keep := fun i h h' st k => let ⟨⟨old, he⟩, hi, hne⟩ := st; ⟨⟨old, k e (by simp) _ he⟩, hi.at fun o q => k it (by simp) o q, hne⟩
  item := by
    intro X hP hw hK hc i pins s σ H E I hf st hg
    subst hP hw hK
    obtain ⟨⟨old, he⟩, hit, hne⟩ := st
    obtain ⟨xs, x, hq, hx⟩ := hg
    obtain ⟨its, rv, p, hz⟩ := I.tuple hq
    obtain ⟨u, hu, ru⟩ := rv.get hx
    have el : e < s.heap.objs.size := Heap.lt_size he
    have il : it < s.heap.objs.size := by obtain ⟨_, q, _⟩ := hit; exact Heap.lt_size q
    have p' : s.heap.IsTuple a its.toArray := p
    have nae : a ≠ e := tup_ne p' he (show (Value.type "enumerate") ≠ .type "tuple" by decide)
    have nai : a ≠ it := by
      obtain ⟨o, q, c, _⟩ := hit
      exact tup_ne p' q (by rw [c]; intro q; exact absurd q (by decide))
    have hu' : its.toArray[i]? = some u := by simpa using hu
    have hlt : i < its.toArray.size := (Array.getElem?_eq_some_iff.mp hu').1
    refine wpAny_pyNext_enum_itemD (Draws.tuple (prog := X.prog) (w := X.w) (A := X.A.in1) (I.ok.hd hc) it a nai its.toArray) he ⟨hit, p'⟩ hlt hne (by simp [hne, Ne.symm nae]) fun y h' tk hy ho hs hT hsz hk => ?_
    have hy : its.toArray[i]? = some y := hy
    rw [hu'] at hy
    cases hy
    refine ⟨_, rfl, wpAny_letOwnedTupleGo_enum (s := { s with heap := h', toks := tk + 1 }) ho fun h2 he2 sb => ?_⟩
    have hT2 : h2.get? s.heap.objs.size = some { cls := .type "tuple", data := .seq #[.int i tk, u] } := (sb.2 _ (Nat.ne_of_gt el)).trans hT
    have new : ObjOk X.prog X.w (upd H s.heap.objs.size (.tup [.int (i : Nat), x])) h2 s.heap.objs.size (.tup [.int (i : Nat), x]) :=
      ⟨by show 2 ≤ sizeLine; decide, [.int i tk, u], .cons ⟨_, rfl⟩ (.cons ru .nil), ⟨_, hT2, rfl, _, rfl⟩⟩
    have I1 : Inv X pins σ (upd H s.heap.objs.size (.tup [.int (i : Nat), x])) { s with heap := h2, toks := tk + 1 } :=
      I.turnedNew (ch := [e, it]) (fun b ob hb q => (sb.2 b (fun y => hb (by simp [y]))).trans (hk b ob (fun y => hb (by simp [y])) (fun y => hb (by simp [y])) q)) hf (Nat.le_refl _) new
    refine ⟨.ref s.heap.objs.size, _, I1, rfl, ⟨_, x, rfl, I.hok.fresh (Nat.le_refl _), rfl, fun ys hy => by rw [I.tuple_inj hy hq]; exact hx⟩, ⟨⟨u, ?_⟩, hs.1.at fun o q => (sb.2 it (Ne.symm hne)).trans q, hne⟩, fun b hb => ?_⟩
    · have e1 : ((i + 1 : Nat) : Int) = (i : Int) + 1 := by omega
      rw [e1]; exact he2
    · have bl : b < s.heap.objs.size := by
        rcases List.mem_cons.mp hb with y | y
        · rw [y]; exact el
        · rw [List.mem_singleton.mp y]; exact il
      rw [upd_ne (Nat.ne_of_lt bl)]
      exact (hf b hb).1
  done := by
    intro X hP hw hK hc i pins s σ H E I hf st hg
    subst hP hw hK
    obtain ⟨⟨old, he⟩, hit, hne⟩ := st
    obtain ⟨xs, hq, hx⟩ := hg
    obtain ⟨its, rv, p, hz⟩ := I.tuple hq
    have p' : s.heap.IsTuple a its.toArray := p
    obtain ⟨f0, f1, f2, f3, f4, f5⟩ := hf it (by simp)
    have hl := rv.length
    have nai : a ≠ it := by
      obtain ⟨o, q, c, _⟩ := hit
      exact tup_ne p' q (by rw [c]; intro q; exact absurd q (by decide))
    have ei : its.toArray[i]? = none := by simp; omega
    exact wpAny_pyNext_enum_endD (draws_end (prog := X.prog) (w := X.w) (A := X.A.in1) (I.ok.hd hc) it a nai its.toArray ei) he ⟨rfl, hit, p'⟩ fun h' eb => ⟨rfl, I.turned (t' := s.toks) (fun b o hb q => eb b o hb q) f0 f1 f3 f4 f5⟩
  self := fun A i s Q E st h => let ⟨⟨_, he⟩, _⟩ := st; wpAny_pyIter_enum he h
def iEnumA (K : PySem.W.Frag) (ta : TA) : TI := fun σ H R => ta σ H fun vs H1 => ∃ a xs, vs = [.ref a] ∧ ((SqL K H1 a xs ∧ R (Ite K a) H1) ∨ (SqT K H1 a xs ∧ R (IteT K a) H1))
theorem pi_enumA {X : Cx} {e : Expr} {ta : TA} {p pos tpos : Pos} {elts : List Expr} {kk : Nat} (hg : Gl X "enumerate") (hm : X.mg "enumerate" = none) (ha : PA X [e] ta) (hs : starEach [e] X.env = [(false, eval e X.env)] := by rfl) :
    PI X (.Tuple elts kk tpos) (.Call (.Name "enumerate" p) [e] [] pos) (iEnumA X.K ta) := by
  refine ⟨fun pins s σ H R I h => ?_⟩
  refine Call_ (ld_blt I hg hm boot_enumerate (PyProof.Rows.callWith_type1 (thn (ha.run pos pins s σ H _ I h) fun us s1 ⟨vs, H1, I1, r1, a, xs, ex, q⟩ => ?_) hs rfl))
  subst ex
  rw [Vals.ref1 r1]
  have fr2 : ∀ b ∈ [s1.heap.objs.size + 1, s1.heap.objs.size], FpOk X pins H1 b := fun b hb => by
    have hle : s1.heap.objs.size ≤ b := by
      rcases List.mem_cons.mp hb with y | y
      · rw [y]; exact Nat.le_succ _
      · rw [List.mem_singleton.mp y]; exact Nat.le_refl _
    exact I1.fpOk hle (I1.hok.fresh hle)
  rcases q with ⟨hq, q⟩ | ⟨hq, q⟩
  · obtain ⟨its, rv, p', hz⟩ := I1.list hq
    refine call_enumerate_list p'.isList fun h' he hit hsz hk => wpAny_pyIter_enum he ?_
    exact ⟨s1.heap.objs.size + 1, [s1.heap.objs.size + 1, s1.heap.objs.size], _, _, H1, rfl, I1.kept (t' := s1.toks) hk, turn_enum a (s1.heap.objs.size + 1) s1.heap.objs.size, ⟨⟨.none, he⟩, hit, Nat.succ_ne_self _⟩, fr2, q⟩
  · obtain ⟨its, rv, p', hz⟩ := I1.tuple hq
    refine RxE.enum_tuple (show s1.heap.IsTuple a its.toArray from p') fun h' he hit hk => wpAny_pyIter_enum he ?_
    exact ⟨s1.heap.objs.size + 1, [s1.heap.objs.size + 1, s1.heap.objs.size], _, _, H1, rfl, I1.kept (t' := s1.toks) hk, turn_enumT a (s1.heap.objs.size + 1) s1.heap.objs.size, ⟨⟨.none, he⟩, hit, Nat.succ_ne_self _⟩, fr2, q⟩
/-! ### list or tuple -/
def iSeq (K : PySem.W.Frag) (tl : TE) : TI := fun σ H R => tl σ H fun x H1 => ∃ a xs, x = .ref a ∧ ((SqL K H1 a xs ∧ R (Itl K a) H1) ∨ (SqT K H1 a xs ∧ R (Itt K a) H1))
theorem pi_seq {X : Cx} {tg l : Expr} {tl : TE} (hl : PE X l tl) : PI X tg l (iSeq X.K tl) := by
  refine ⟨fun pins s σ H R I h => thn (hl.run pins s σ H _ I h) fun v s1 ⟨x, H1, I1, r1, a, xs, e, q⟩ => ?_⟩
  subst e
  cases r1
  rcases q with ⟨hq, q⟩ | ⟨hq, q⟩
  · obtain ⟨its, rv, p, hz⟩ := I1.list hq
    exact wpAny_pyIter_list p.isList (pi_one (tk := s1.toks) I1 _ (turn_list a _) ⟨_, Heap.get?_push_size _ rfl, rfl, rfl⟩ q)
  · obtain ⟨its, rv, p, hz⟩ := I1.tuple hq
    exact wpAny_pyIter_tuple (show s1.heap.IsTuple a its.toArray from p) (pi_one (tk := s1.toks) I1 _ (turn_tuple a _) ⟨_, Heap.get?_push_size _ rfl, rfl, rfl⟩ q)

/-! ### as lists of values -/
section
variable {K : KF} {W : WX} {X : Cx}
/-- a datum that is listed, seen standing still -/
def seqD : SV → Option (List PyData) := fun x => match x with | .dat (.list ys) => some ys | .dat (.tuple ys) => some ys | _ => none
theorem still {s : S3} {x : SV} {v : V} {xs : List PyData} (r : RV K s x v) (e : seqD x = some xs) :
    ∃ a vs, v = .ref a ∧ DqAll K s.F vs xs ∧ ((∀ (u : S3) (B : List AO), Ex s.F u.F → SR K u B → SqL K u.H a vs) ∨ (∀ (u : S3) (B : List AO), Ex s.F u.F → SR K u B → SqT K u.H a vs)) := by
  unfold seqD at e
  split at e
  · cases e
    obtain ⟨a, vs, rfl, h1, h2⟩ := rv_lst r
    exact ⟨a, vs, rfl, h2, .inl fun u B ex hs => ex_l hs.sub (ex_l ex h1)⟩
  · cases e
    obtain ⟨a, vs, rfl, h1, h2⟩ := rv_tup r
    exact ⟨a, vs, rfl, h2, .inr fun u B ex hs => ex_t hs.sub (ex_t ex h1)⟩
  · cases e
def mSeq (m : MM SV) : MM (List SV) := fun d A => (m d A).bind fun x A1 => match seqD x with
  | some xs => .ok (xs.map .dat) A1
  | none => .bad
theorem map_dat {xs : List PyData} {i : Nat} {x : SV} (h : (xs.map SV.dat)[i]? = some x) : ∃ d, x = .dat d ∧ xs[i]? = some d := by
  rw [List.getElem?_map] at h
  cases e : xs[i]? with
  | none => rw [e] at h; cases h
  | some d => rw [e] at h; cases h; exact ⟨d, rfl, rfl⟩
theorem ri_seq {tg e : Expr} {m : MM SV} (h : RE X W e m) : RI X W tg e (mSeq m) := by
  obtain ⟨t, p, s⟩ := h
  refine ⟨_, pi_seq p, fun s0 A d σ Q hs hσ g => s.then hs hσ g fun x A1 s1 v p1 hs1 r1 hσ1 h1 => ?_⟩
  cases hx : seqD x with
  | none => simp only [hx] at h1; exact h1.elim
  | some xs =>
    simp only [hx] at h1
    obtain ⟨a, vs, rfl, dp, st⟩ := still (K := kf X W) r1 hx
    have hl := DqAll.length dp
    rcases st with st | st
    · refine ⟨a, vs, rfl, .inl ⟨st s1 A1 (Ex.refl _) hs1, h1 s1 _ (Post.refl _) hs1 fun i u B ex hu => ⟨fun y hy => ?_, fun hle => ⟨vs, st u B ex hu, by rw [hl]; simpa using hle⟩⟩⟩⟩
      obtain ⟨z, rfl, hz⟩ := map_dat hy
      obtain ⟨v, e1, e2⟩ := DqAll.get dp hz
      exact ⟨⟨vs, v, st u B ex hu, e1⟩, fun w H' ⟨eH, yy⟩ => by
        have := yy vs (st u B ex hu)
        rw [e1] at this
        cases this
        exact ⟨u, eH.symm, Post.refl _, hu, Dq.up ex _ e2⟩⟩
    · refine ⟨a, vs, rfl, .inr ⟨st s1 A1 (Ex.refl _) hs1, h1 s1 _ (Post.refl _) hs1 fun i u B ex hu => ⟨fun y hy => ?_, fun hle => ⟨vs, st u B ex hu, by rw [hl]; simpa using hle⟩⟩⟩⟩
      obtain ⟨z, rfl, hz⟩ := map_dat hy
      obtain ⟨v, e1, e2⟩ := DqAll.get dp hz
      exact ⟨⟨vs, v, st u B ex hu, e1⟩, fun w H' ⟨eH, yy⟩ => by
        have := yy vs (st u B ex hu)
        rw [e1] at this
        cases this
        exact ⟨u, eH.symm, Post.refl _, hu, Dq.up ex _ e2⟩⟩
/-- ranges -/
def upTo (lo : Int) (n : Nat) : List SV := (List.range n).map fun (i : Nat) => .dat (.int (lo + (i : Int)))
def byC (lo c : Int) (n : Nat) : List SV := (List.range n).map fun (i : Nat) => .dat (.int (lo + (i : Int) * c))
theorem walks_r {s : S3} (lo : Int) (n : Nat) : Walks K s (upTo lo n) (Itr lo n) := fun i u A ex hu => by
  refine ⟨fun x hx => ?_, fun h => by simpa [upTo, Itr] using h⟩
  unfold upTo at hx
  rw [List.getElem?_map] at hx
  by_cases hi : i < n
  · rw [List.getElem?_range hi] at hx
    cases hx
    exact ⟨hi, fun v H' ⟨e1, e2⟩ => ⟨u, e1.symm, Post.refl _, hu, by rw [e2]; exact .int _⟩⟩
  · rw [List.getElem?_eq_none (by simpa using hi)] at hx; cases hx
theorem walks_c {s : S3} (lo c : Int) (n : Nat) : Walks K s (byC lo c n) (Itc lo c n) := fun i u A ex hu => by
  refine ⟨fun x hx => ?_, fun h => by simpa [byC, Itc] using h⟩
  unfold byC at hx
  rw [List.getElem?_map] at hx
  by_cases hi : i < n
  · rw [List.getElem?_range hi] at hx
    cases hx
    exact ⟨hi, fun v H' ⟨e1, e2⟩ => ⟨u, e1.symm, Post.refl _, hu, by rw [e2]; exact .int _⟩⟩
  · rw [List.getElem?_eq_none (by simpa using hi)] at hx; cases hx
def smI (i : Int) : Bool := decide (-(2 ^ 62) ≤ i) && decide (i < 2 ^ 62)
theorem smI_ok {i : Int} (h : smI i = true) : -(2 ^ 62) ≤ i ∧ i < 2 ^ 62 := by
  unfold smI at h
  rw [Bool.and_eq_true] at h
  exact ⟨of_decide_eq_true h.1, of_decide_eq_true h.2⟩
def fRng (xs : List SV) : Option (List SV) := match xs with
  | [.dat (.int j)] => if smI j then some (upTo 0 j.toNat) else none
  | [.dat (.int i), .dat (.int j)] => if smI i && smI j then some (upTo i (j - i).toNat) else none
  | _ => none
def mRng (m : MM (List SV)) : MM (List SV) := fun d A => (m d A).bind fun xs A1 => match fRng xs with
  | some ys => .ok ys A1
  | none => .bad
/-- i, i + c, .. as far as j -/
def fRngC (xs : List SV) : Option (List SV) := match xs with
  | [.dat (.int i), .dat (.int j), .dat (.int c)] => if decide (c ≠ 0) && decide (c.natAbs < 1073741824) && Builtin.Range.small i j c && decide (0 ≤ Builtin.Range.rangeSize i j c) then some (byC i c (Builtin.Range.rangeSize i j c).toNat) else none
  | _ => none
def mRngC (m : MM (List SV)) : MM (List SV) := fun d A => (m d A).bind fun xs A1 => match fRngC xs with
  | some ys => .ok ys A1
  | none => .bad
theorem rvs_three {K : PySem.W.Frag} {s : S3} {x y z : SV} {vs : List V} (h : RVs K s [x, y, z] vs) : ∃ v u w, vs = [v, u, w] ∧ RV K s x v ∧ RV K s y u ∧ RV K s z w := by
  obtain ⟨v, r, e, h1, h2⟩ := h
  obtain ⟨u, w, rfl, h3, h4⟩ := rvs_two h2
  exact ⟨v, u, w, e, h1, h3, h4⟩
theorem ri_range1 {tg a : Expr} {p pos : Pos} {m : MM (List SV)} (ha : RA X W [a] m) (hg : Gl X "range") (hm : X.mg "range" = none) (hs : starEach [a] X.env = [(false, eval a X.env)] := by rfl) : RI X W tg (.Call (.Name "range" p) [a] [] pos) (mRng (fun d A => (m d A).bind fun xs A1 => if xs.length = 1 then .ok xs A1 else .bad)) := by
  obtain ⟨t, q, s⟩ := ha
  refine ⟨_, pi_range1 hg hm q hs, fun s0 A d σ Q hs hσ g => ?_⟩
  have g : Good (((m d A).bind fun xs A1 => if xs.length = 1 then RR.ok xs A1 else .bad).bind _) _ _ := g
  refine s s0 A d σ _ hs hσ (Good.mono (Good.bind (Good.bind g)) (fun xs A1 h1 s1 vs p1 hs1 r1 => ?_) (fun _ _ z => z))
  split at h1
  · rename_i hl
    have h1 : Good (match fRng xs with | some ys => RR.ok ys A1 | none => .bad) _ _ := h1
    unfold fRng at h1
    split at h1
    · rename_i ys he
      split at he
      · obtain ⟨v, rfl, r⟩ := rvs_one r1
        cases r
        split at he
        · rename_i hz
          cases he
          obtain ⟨b1, b2⟩ := smI_ok hz
          exact ⟨_, rfl, b1, b2, h1 s1 _ p1 hs1 (walks_r 0 _)⟩
        · cases he
      · cases hl
      · cases he
    · exact h1.elim
  · exact h1.elim
theorem ri_range2 {tg a b : Expr} {p pos : Pos} {m : MM (List SV)} (ha : RA X W [a, b] m) (hg : Gl X "range") (hm : X.mg "range" = none) (hs : starEach [a, b] X.env = [(false, eval a X.env), (false, eval b X.env)] := by rfl) (hs2 : starEach [b] X.env = [(false, eval b X.env)] := by rfl) : RI X W tg (.Call (.Name "range" p) [a, b] [] pos) (mRng (fun d A => (m d A).bind fun xs A1 => if xs.length = 2 then .ok xs A1 else .bad)) := by
  obtain ⟨t, q, s⟩ := ha
  refine ⟨_, pi_range2 hg hm q hs hs2, fun s0 A d σ Q hs hσ g => ?_⟩
  have g : Good (((m d A).bind fun xs A1 => if xs.length = 2 then RR.ok xs A1 else .bad).bind _) _ _ := g
  refine s s0 A d σ _ hs hσ (Good.mono (Good.bind (Good.bind g)) (fun xs A1 h1 s1 vs p1 hs1 r1 => ?_) (fun _ _ z => z))
  split at h1
  · rename_i hl
    have h1 : Good (match fRng xs with | some ys => RR.ok ys A1 | none => .bad) _ _ := h1
    unfold fRng at h1
    split at h1
    · rename_i ys he
      split at he
      · cases hl
      · obtain ⟨v, u, rfl, r, r2⟩ := rvs_two r1
        cases r; cases r2
        split at he
        · rename_i hz
          cases he
          rw [Bool.and_eq_true] at hz
          obtain ⟨b1, b2⟩ := smI_ok hz.1
          obtain ⟨b3, b4⟩ := smI_ok hz.2
          exact ⟨_, _, rfl, ⟨b1, b2, b3, b4⟩, h1 s1 _ p1 hs1 (walks_r _ _)⟩
        · cases he
      · cases he
    · exact h1.elim
  · exact h1.elim
theorem ri_range3 {tg a b c : Expr} {p pos : Pos} {m : MM (List SV)} (ha : RA X W [a, b, c] m) (hg : Gl X "range") (hm : X.mg "range" = none) (hs : starEach [a, b, c] X.env = (false, eval a X.env) :: starEach [b, c] X.env := by rfl) (hpl : (backTo pos (starEach [b, c] X.env)).any (·.1) = false := by rfl) : RI X W tg (.Call (.Name "range" p) [a, b, c] [] pos) (mRngC m) := by
  obtain ⟨t, q, s⟩ := ha
  refine ⟨_, pi_range3 hg hm q hs hpl, fun s0 A d σ Q hs hσ g => ?_⟩
  refine s s0 A d σ _ hs hσ (Good.mono (Good.bind g) (fun xs A1 h1 s1 vs p1 hs1 r1 => ?_) (fun _ _ z => z))
  unfold fRngC at h1
  split at h1
  · rename_i ys he
    split at he
    · obtain ⟨v, u, w, rfl, r, r2, r3⟩ := rvs_three r1
      cases r; cases r2; cases r3
      split at he
      · rename_i hz
        cases he
        simp only [Bool.and_eq_true, decide_eq_true_eq] at hz
        obtain ⟨⟨⟨z1, z2⟩, z3⟩, z4⟩ := hz
        exact ⟨_, _, _, _, rfl, ⟨z1, z2, z3, (Int.toNat_of_nonneg z4).symm⟩, h1 s1 _ p1 hs1 (walks_c _ _ _)⟩
      · cases he
    · cases he
  · exact h1.elim
/-- enumerate -/
def pairsE (xs : List PyData) : List SV := (List.range xs.length).filterMap fun i => (xs[i]?).map fun d => SV.dat (.tuple [.int (i : Nat), d])
def numb (n : Nat) : List PyData → List SV
  | [] => []
  | d :: ds => .dat (.tuple [.int (n : Nat), d]) :: numb (n + 1) ds
theorem numb_get : ∀ {ds : List PyData} {n i : Nat} {x : SV}, (numb n ds)[i]? = some x → ∃ d, ds[i]? = some d ∧ x = .dat (.tuple [.int ((n + i : Nat) : Int), d])
  | [], _, _, _, h => by simp [numb] at h
  | d :: ds, n, 0, x, h => by
    simp [numb] at h
    exact ⟨d, rfl, h.symm⟩
  | d :: ds, n, i + 1, x, h => by
    have h : (numb (n + 1) ds)[i]? = some x := by simpa [numb] using h
    obtain ⟨e, h1, h2⟩ := numb_get h
    refine ⟨e, by simpa using h1, ?_⟩
    rw [h2]
    congr 5
    omega
theorem numb_len : ∀ (ds : List PyData) (n : Nat), (numb n ds).length = ds.length
  | [], _ => rfl
  | d :: ds, n => by simp [numb, numb_len ds]
def mEnum (m : MM SV) : MM (List SV) := fun d A => (m d A).bind fun x A1 => match seqD x with
  | some xs => .ok (numb 0 xs) A1
  | none => .bad
theorem new_pair {u : S3} {B : List AO} {T : Addr} {x y : V} {d e : PyData} (hu : SR K u B) (hT : u.H T = none) (h1 : Dq K u.F x d) (h2 : Dq K u.F y e) : ∃ u' : S3, u'.H = upd u.H T (.tup [x, y]) ∧ Post u u' ∧ SR K u' B ∧ RV K u' (.dat (.tuple [d, e])) (.ref T) :=
  ⟨u.newF T (.tup [x, y]), rfl, Post.newF hu hT _, hu.newF hT _, hu.newTup hT (.cons h1 (.cons h2 .nil))⟩
theorem ri_enum {e : Expr} {p pos tpos : Pos} {elts : List Expr} {kk : Nat} {m : MM SV} (h : RE X W e m) (hg : Gl X "enumerate") (hm : X.mg "enumerate" = none) (hs : starEach [e] X.env = [(false, eval e X.env)] := by rfl) : RI X W (.Tuple elts kk tpos) (.Call (.Name "enumerate" p) [e] [] pos) (mEnum m) := by
  obtain ⟨t, q, s⟩ := h
  refine ⟨_, pi_enumA hg hm (pa_cons q pa_nil hs) hs, fun s0 A d σ Q hs hσ g => s.then hs hσ g fun x A1 s1 v p1 hs1 r1 hσ1 h1 => ?_⟩
  cases hx : seqD x with
  | none => simp only [hx] at h1; exact h1.elim
  | some xs =>
    simp only [hx] at h1
    obtain ⟨a, vs, rfl, dp, st⟩ := still (K := kf X W) r1 hx
    have hl := DqAll.length dp
    rcases st with st | st
    · refine ⟨a, vs, rfl, .inl ⟨st s1 A1 (Ex.refl _) hs1, h1 s1 _ (Post.refl _) hs1 fun i u B ex hu => ⟨fun y hy => ?_, fun hle => ⟨vs, st u B ex hu, by rw [hl, ← numb_len xs 0]; exact hle⟩⟩⟩⟩
      obtain ⟨z, hz, rfl⟩ := numb_get hy
      obtain ⟨v, e1, e2⟩ := DqAll.get dp hz
      refine ⟨⟨vs, v, st u B ex hu, e1⟩, fun w H' ⟨T, x2, ew, hT, eH, yy⟩ => ?_⟩
      have := yy vs (st u B ex hu)
      rw [e1] at this
      cases this
      obtain ⟨u', a1, a2, a3, a4⟩ := new_pair (x := .int (i : Nat)) (d := .int (i : Nat)) hu hT (.int _) (Dq.up ex _ e2)
      refine ⟨u', by rw [a1, eH], a2, a3, ?_⟩
      rw [ew, Nat.zero_add]; exact a4
    · have lst : ∀ i, (numb 0 xs).length ≤ i → True := fun _ _ => trivial
      refine ⟨a, vs, rfl, .inr ⟨st s1 A1 (Ex.refl _) hs1, h1 s1 _ (Post.refl _) hs1 fun i u B ex hu => ⟨fun y hy => ?_, fun hle => ?_⟩⟩⟩
      · obtain ⟨z, hz, rfl⟩ := numb_get hy
        obtain ⟨v, e1, e2⟩ := DqAll.get dp hz
        refine ⟨⟨vs, v, st u B ex hu, e1⟩, fun w H' ⟨T, x2, ew, hT, eH, yy⟩ => ?_⟩
        have := yy vs (st u B ex hu)
        rw [e1] at this
        cases this
        obtain ⟨u', a1, a2, a3, a4⟩ := new_pair (x := .int (i : Nat)) (d := .int (i : Nat)) hu hT (.int _) (Dq.up ex _ e2)
        refine ⟨u', by rw [a1, eH], a2, a3, ?_⟩
        rw [ew, Nat.zero_add]; exact a4
      · exact ⟨vs, st u B ex hu, by rw [hl, ← numb_len xs 0]; exact hle⟩
/-- zip of two lists, of two tuples -/
def zipD : List PyData → List PyData → List SV
  | x :: xs, y :: ys => .dat (.tuple [x, y]) :: zipD xs ys
  | _, _ => []
theorem zip_get : ∀ {xs ys : List PyData} {i : Nat} {z : SV}, (zipD xs ys)[i]? = some z → ∃ d e, xs[i]? = some d ∧ ys[i]? = some e ∧ z = .dat (.tuple [d, e])
  | [], _, _, _, h => by simp [zipD] at h
  | _ :: _, [], _, _, h => by simp [zipD] at h
  | x :: xs, y :: ys, 0, z, h => by simp [zipD] at h; exact ⟨x, y, rfl, rfl, h.symm⟩
  | x :: xs, y :: ys, i + 1, z, h => by
    obtain ⟨d, e, h1, h2, h3⟩ := zip_get (xs := xs) (ys := ys) (i := i) (by simpa [zipD] using h)
    exact ⟨d, e, by simpa using h1, by simpa using h2, h3⟩
theorem zip_len : ∀ (xs ys : List PyData), (zipD xs ys).length = min xs.length ys.length
  | [], ys => by simp [zipD]
  | _ :: _, [] => by simp [zipD]
  | x :: xs, y :: ys => by simp [zipD, zip_len xs ys]
def fZip (zs : List SV) : Option (List SV) := match zs with
  | [.dat (.list xs), .dat (.list ys)] => some (zipD xs ys)
  | [.dat (.tuple xs), .dat (.tuple ys)] => some (zipD xs ys)
  | _ => none
def mZip (m : MM (List SV)) : MM (List SV) := fun d A => (m d A).bind fun xs A1 => match fZip xs with
  | some ys => .ok ys A1
  | none => .bad
theorem ri_zip {e e2 : Expr} {p pos tpos : Pos} {elts : List Expr} {kk : Nat} {m : MM (List SV)} (ha : RA X W [e, e2] m) (hg : Gl X "zip") (hm : X.mg "zip" = none) (hs : starEach [e, e2] X.env = (false, eval e X.env) :: starEach [e2] X.env := by rfl) (hpl : (backTo pos (starEach [e2] X.env)).any (·.1) = false := by rfl) :
    RI X W (.Tuple elts kk tpos) (.Call (.Name "zip" p) [e, e2] [] pos) (mZip m) := by
  obtain ⟨t, q, s⟩ := ha
  refine ⟨_, RZ.pi_zipA hg hm q hs hpl, fun s0 A d σ Q hs hσ g => s.then hs hσ g fun zs A1 s1 v p1 hs1 r1 hσ1 h1 => ?_⟩
  unfold fZip at h1
  have fin : ∀ {xs ys : List PyData} {a b : Addr} {vs ws : List V} {sq : Hp → Addr → List V → Prop} {J : It}, DqAll X.K s1.F vs xs → DqAll X.K s1.F ws ys → (∀ (u : S3) (B : List AO), Ex s1.F u.F → SR (kf X W) u B → sq u.H a vs) → (∀ (u : S3) (B : List AO), Ex s1.F u.F → SR (kf X W) u B → sq u.H b ws) →
      J = ⟨fun i H => ∃ (xs ys : List V) (x y : V), sq H a xs ∧ sq H b ys ∧ xs[i]? = some x ∧ ys[i]? = some y, fun i H v H' => ∃ T x y, v = .ref T ∧ H T = none ∧ H' = upd H T (.tup [x, y]) ∧ (∀ xs, sq H a xs → xs[i]? = some x) ∧ ∀ ys, sq H b ys → ys[i]? = some y, fun i H => ∃ xs ys : List V, sq H a xs ∧ sq H b ys ∧ (xs.length ≤ i ∨ ys.length ≤ i)⟩ →
      Walks (kf X W) s1 (zipD xs ys) J := by
    intro xs ys a b vs ws sq J d1 d2 h3 h4 eJ
    subst eJ
    intro i u B ex hu
    have l1 := DqAll.length d1
    have l2 := DqAll.length d2
    refine ⟨fun y hy => ?_, fun hle => ⟨vs, ws, h3 u B ex hu, h4 u B ex hu, ?_⟩⟩
    · obtain ⟨dx, dy, q1, q2, rfl⟩ := zip_get hy
      obtain ⟨v1, e1, f1⟩ := DqAll.get d1 q1
      obtain ⟨v2, e2, f2⟩ := DqAll.get d2 q2
      refine ⟨⟨vs, ws, v1, v2, h3 u B ex hu, h4 u B ex hu, e1, e2⟩, fun w H' ⟨T, x2, y2, ew, hT, eH, y1, y3⟩ => ?_⟩
      have g1 := y1 vs (h3 u B ex hu)
      have g2 := y3 ws (h4 u B ex hu)
      rw [e1] at g1
      rw [e2] at g2
      cases g1; cases g2
      obtain ⟨u', a1, a2, a3, a4⟩ := new_pair hu hT (Dq.up ex _ f1) (Dq.up ex _ f2)
      exact ⟨u', by rw [a1, eH], a2, a3, by rw [ew]; exact a4⟩
    · rw [zip_len] at hle
      omega
  split at h1
  · rename_i ys he
    split at he
    · cases he
      obtain ⟨v1, v2, rfl, a1, a2⟩ := rvs_two r1
      obtain ⟨a, vs, rfl, b1, b2⟩ := rv_lst a1
      obtain ⟨b, ws, rfl, b3, b4⟩ := rv_lst a2
      have c1 : ∀ (u : S3) (B : List AO), Ex s1.F u.F → SR (kf X W) u B → SqL X.K u.H a vs := fun u B ex hu => ex_l hu.sub (ex_l ex b1)
      have c2 : ∀ (u : S3) (B : List AO), Ex s1.F u.F → SR (kf X W) u B → SqL X.K u.H b ws := fun u B ex hu => ex_l hu.sub (ex_l ex b3)
      exact ⟨a, b, vs, ws, rfl, .inl ⟨c1 s1 A1 (Ex.refl _) hs1, c2 s1 A1 (Ex.refl _) hs1, h1 s1 _ (Post.refl _) hs1 (fin (sq := SqL X.K) b2 b4 c1 c2 rfl)⟩⟩
    · cases he
      obtain ⟨v1, v2, rfl, a1, a2⟩ := rvs_two r1
      obtain ⟨a, vs, rfl, b1, b2⟩ := rv_tup a1
      obtain ⟨b, ws, rfl, b3, b4⟩ := rv_tup a2
      have c1 : ∀ (u : S3) (B : List AO), Ex s1.F u.F → SR (kf X W) u B → SqT X.K u.H a vs := fun u B ex hu => ex_t hu.sub (ex_t ex b1)
      have c2 : ∀ (u : S3) (B : List AO), Ex s1.F u.F → SR (kf X W) u B → SqT X.K u.H b ws := fun u B ex hu => ex_t hu.sub (ex_t ex b3)
      exact ⟨a, b, vs, ws, rfl, .inr ⟨c1 s1 A1 (Ex.refl _) hs1, c2 s1 A1 (Ex.refl _) hs1, h1 s1 _ (Post.refl _) hs1 (fin (sq := SqT X.K) b2 b4 c1 c2 rfl)⟩⟩
    · cases he
  · exact h1.elim
end
end Rx
/-! Rx 12: lists that change; calls that make one; more assignments. -/
namespace Rx
open PySem L2 PySem.Spec PyProof.Rows Evl

section
variable {X : Cx} {W : WX} {K : KF}
/-- a new list that will be changed in place, as a value -/
def mMut (m : MM (List PyData)) : MM SV := fun d A => (m d A).bind fun ds A1 => .ok (.ref A1.length) (A1 ++ [.lst ds])
theorem re_mut {e : Expr} {m : MM (List PyData)} (h : RN X W e m) : RE X W e (mMut m) := by
  obtain ⟨t, p, s⟩ := h
  refine ⟨t, p, fun s0 A d σ Q hs hσ g => s s0 A d σ Q hs hσ (Good.mono (Good.bind g) (fun ds A' f t' q vs p1 hs1 hq dp => ?_) (fun _ _ z => z))⟩
  refine f (t'.newM q vs) (.ref q) (p1.trans (Post.newM hq vs)) (hs1.newM hq dp) ⟨q, rfl, ?_⟩
  show (t'.mu ++ [q])[A'.length]? = some q
  rw [← hs1.len, List.getElem?_append_right (Nat.le_refl _)]
  simp

/-! ### a call whose result is a list that nobody else has -/
def lstRun (M : FL) (xs : List SV) : Option (List PyData) := match M xs [] with
  | .ok (.ref i) A2 => match A2[i]? with
    | some (.lst ys) => some ys
    | none => none
  | _ => none
def fCallN (M : FL) (n : Nat) : List SV → List AO → RR (List PyData) := fun xs A1 => if xs.length = n ∧ xs.all isDat = true then
    match lstRun M xs with
    | some y => .ok y A1
    | none => .bad
  else .bad
theorem spM_new {M : FL} {n : Nat} : CaN K (fun vs H Q => spM K.base mg n M vs H Q E0) (fCallN M n) := by
  intro s A xs vs Q hs hv g
  unfold fCallN at g
  split at g
  · rename_i hc
    refine ⟨⟨s.F, s.H, []⟩, [], xs, rfl, sr_pure hs, rvs_pure hv hc.2, hc.1, ?_⟩
    unfold lstRun at g
    cases hm : M xs [] with
    | ok y A2 =>
      rw [hm] at g
      cases y with
      | dat y => exact g.elim
      | adr a => exact g.elim
      | ref i =>
        cases hA : A2[i]? with
        | none => simp only [hA] at g; exact g.elim
        | some o =>
          cases o with
          | lst ys =>
            simp only [hA] at g
            have g : Good (RR.ok ys A) _ _ := g
            rintro t v p ht ⟨a, rfl, ea⟩
            obtain ⟨ws, e1, e2⟩ := ht.obj i a ys ea hA
            have am : a ∈ t.mu := List.mem_of_getElem? ea
            have aF : t.F a = none := ht.dis a am
            have aH : s.H a = none := by
              obtain ⟨nu, e, nn⟩ := p.pre
              have e : t.mu = [] ++ nu := e
              rw [List.nil_append] at e
              exact nn a (e ▸ am)
            have p2 : Post ⟨s.F, s.H, []⟩ ⟨t.F, rem t.H a, t.mu⟩ := by
              refine ⟨p.fx, p.fnew, p.pre, fun b o e hb hu => ?_, fun b e => ?_⟩
              · have ne : b ≠ a := fun z => by rw [z] at e; rw [show s.H a = some o from e] at aH; cases aH
                show rem t.H a b = some o
                rw [rem_ne ne]
                exact p.keep b o e hb hu
              · by_cases ne : b = a
                · subst ne; exact aH
                · have e : rem t.H a b = none := e
                  rw [rem_ne ne] at e
                  exact p.dom b e
            have hsub : Ex t.F (rem t.H a) := fun b o e => by
              have ne : b ≠ a := fun z => by rw [z, aF] at e; cases e
              rw [rem_ne ne]
              exact ht.sub b o e
            obtain ⟨p3, h3⟩ := behind_pure (t := ⟨t.F, rem t.H a, t.mu⟩) hs p2 hsub (fun q hq => (ht.tb q hq).up (Ex.refl _) (fun e => e) fun ps e => (rem_ne (fun z => by
              obtain ⟨_, ps', e', _⟩ := hs.tb q hq
              rw [z, aH] at e'; cases e')).trans e)
            have key := g ⟨t.F, rem t.H a, s.mu⟩ a ws p3 h3 rem_same e2
            have eH : upd (rem t.H a) a (.lst ws) = t.H := by rw [upd_rem, upd_self e1]
            show Q (.ref a) t.H
            rw [← eH]
            exact key
    | exc x A2 => rw [hm] at g; exact g.elim
    | bad => rw [hm] at g; exact g.elim
  · exact g.elim
theorem rn_callP {k : Nat} {x : Str} {ps : List Str} {M : FL} {p pos : Pos} {e : Expr} {es : List Expr} {ma : MM (List SV)} (C : Cal X.prog X.w (kf X W).base X.mg X.base k x ps M) (hgd : X.A.guards = some []) (hr : Room k X.A) (ha : RA X W (e :: es) ma) (hg : Gl X x := by rfl) (hdb : (x == ("__debug__" : Str)) = false := by decide)
    (he : starEach (e :: es) X.env = (false, eval e X.env) :: starEach es X.env := by rfl) (hpl : (backTo pos (starEach es X.env)).any (·.1) = false := by rfl) : RN X W (.Call (.Name x p) (e :: es) [] pos) (mCallN (fCallN M ps.length) ma) := by
  obtain ⟨f, fd, hm, hk, hb, F⟩ := C.ex
  obtain ⟨t, pa, sa⟩ := ha
  refine ⟨_, pe_g F hgd hr hg hm hk hb pa hdb he hpl, ?_⟩
  have ee : tCall (spM (kf X W).base X.mg ps.length M) [] E0 t = tCB (fun vs H Q => spM (kf X W).base X.mg ps.length M vs H Q E0) t := by
    funext σ H Q
    unfold tCall tCB
    simp only [List.append_nil]
  rw [ee]
  exact simN_cb spM_new sa

/-! ### x[i] = e, x[i] op= e -/
/-- the list j with its item at y turned to x -/
def putAt (A : List AO) (j : Nat) (x y : SV) : Option (List AO) := match A[j]? with
  | some (.lst xs) => match x, y with
    | .dat dv, .dat (.int k) => match ixN xs.length k with
      | some q => some (A.set j (.lst (xs.set q dv)))
      | none => none
    | _, _ => none
  | none => none
theorem putAt_ok {s : S3} {A B : List AO} {j : Nat} {a : Addr} {x y : SV} {vx vy : V} (hs : SR K s A) (hj : s.mu[j]? = some a) (rx : RV K s x vx) (ry : RV K s y vy) (h : putAt A j x y = some B) :
    ∃ vs k q, vy = .int k ∧ s.H a = some (.lst vs) ∧ ixN vs.length k = some q ∧ Post s (s.mut a (vs.set q vx)) ∧ SR K (s.mut a (vs.set q vx)) B := by
  unfold putAt at h
  split at h
  · rename_i xs eA
    split at h
    · rename_i dv k
      obtain ⟨vs, e3, e4⟩ := hs.obj j a xs hj eA
      cases hq : ixN xs.length k with
      | none => simp only [hq] at h; cases h
      | some q =>
        simp only [hq] at h
        cases h
        cases ry
        exact ⟨vs, k, q, rfl, e3, by rw [DqAll.length e4]; exact hq, Post.mut hs hj _, hs.mut hj (DqAll.set q e4 rx)⟩
    · cases h
  · cases h
def zSetI (i : Nat) (mi m : MM SV) : MS := fun d A => (m d A).toZ d fun x A1 => match d[i]? with
  | some (some (.ref j)) => (mi d A1).toZ d fun y A2 => match putAt A2 j x y with
    | some B => .nx d B
    | none => .bad
  | _ => .bad
theorem rs_setI {i : Nat} {x : Str} {px ps pos : Pos} {ix e : Expr} {mi m : MM SV} (h : RE X W e m) (hi : RE X W ix mi) (hN : X.N[i]? = some x) (hv : Vis X.env.scope x) (hd : (x == ("__debug__" : Str)) = false := by decide) (hcd : (x == ("__classdict__" : Str)) = false := by decide)
    (ha : ∀ v, assign (.Subscript (.Name x px) ix ps) X.env v = (do
      let ov ← holding [v] (eval (.Name x px) X.env)
      let iv ← holding [v, ov] (eval ix X.env)
      standAt ps
      holding [v, ov, iv] (setItem ov iv v)
      release [v, ov, iv] []) := by intro _; rfl)
    (h1 : swapsWithSole [.Subscript (.Name x px) ix ps] e pos.line X.env = pure false := by rfl) (h2 : swappedStores [.Subscript (.Name x px) ix ps] e X.env = pure none := by rfl)
    (h3 : (assignEach [.Subscript (.Name x px) ix ps] X.env).map (·.2) = [assign (.Subscript (.Name x px) ix ps) X.env] := by rfl) : RS X W (.Assign [.Subscript (.Name x px) ix ps] e pos) (zSetI i mi m) := by
  obtain ⟨t, p, s⟩ := h
  obtain ⟨u, q, z⟩ := hi
  refine ⟨_, ps_asg p (pg_sub (pe_var hN hv hd hcd) q set_list ha) h1 h2 h3, fun s0 A d σ D hs hσ g => ?_⟩
  refine s.thenZ hs hσ g fun dx A1 s1 vx p1 hs1 r1 hσ1 g1 => ?_
  split at g1
  · rename_i j ed
    obtain ⟨v, e1, a, rfl, e2⟩ := hσ1.val i _ ed
    refine ⟨.ref a, e1, z.thenZ hs1 hσ1 g1 fun dy A2 s2 vy p2 hs2 r2 hσ2 g2 => ?_⟩
    split at g2
    · rename_i B hB
      obtain ⟨vs, k, w, rfl, f1, f2, f3, f4⟩ := putAt_ok hs2 (p2.mu_get e2) (r1.up p2) r2 hB
      exact ⟨a, vs, k, w, rfl, rfl, f1, f2, g2 (s2.mut a (vs.set w vx)) σ f3 f4 (hσ2.up f3)⟩
    · exact g2.elim
  · exact g1.elim
def rIxN (K : PySem.W.Frag) : V → V → Hp → VK → Prop := fun x y H Q => ∃ p xs i v, x = .ref p ∧ y = .int i ∧ 0 ≤ i ∧ SqL K H p xs ∧ xs[i.toNat]? = some v ∧ Q v H
theorem get_listN : PGet X (rIxN X.K) := by
  intro pins s σ H o i ov iv Q I ro ri ⟨p, xs, k, v, e1, e2, h0, hq, hx, q⟩
  subst e1 e2
  cases ro
  obtain ⟨t, rfl⟩ := ri
  obtain ⟨its, r, pl, hz⟩ := I.list hq
  obtain ⟨w, ew, rw'⟩ := r.get hx
  have hl := (List.getElem?_eq_some_iff.mp hx).1
  have hn := line63
  exact wpAny_getItem_list pl.isList h0 (by omega) (by simpa using ew) ⟨v, H, I, rw', q⟩
/-- the item of the list j at y, y ≥ 0 -/
def getAt (A : List AO) (j : Nat) (y : SV) : Option PyData := match A[j]?, y with
  | some (.lst xs), .dat (.int k) => if 0 ≤ k then xs[k.toNat]? else none
  | _, _ => none
def zAugI (i : Nat) (f : F2) (mi m : MM SV) : MS := fun d A => match d[i]? with
  | some (some (.ref j)) => (mi d A).toZ d fun y A1 => match getAt A1 j y with
    | some o => (m d A1).toZ d fun x A2 => ((f (.dat o) x A2).quiet).toZ d fun z A3 => match putAt A3 j z y with
      | some B => .nx d B
      | none => .bad
    | none => .bad
  | _ => .bad
theorem rs_augI {i : Nat} {x : Str} {px ps pos : Pos} {ix e : Expr} {op : Operator} {mi m : MM SV} {f : F2} {ti : TIp} (h : RE X W e m) (hi : RE X W ix mi) (ho : PIp X op ti) (hf : OpS (kf X W) ti f) (hN : X.N[i]? = some x) (hv : Vis X.env.scope x) (hd : (x == ("__debug__" : Str)) = false := by decide) (hcd : (x == ("__classdict__" : Str)) = false := by decide)
    (ha : ∀ ov iv new, augStore ix ov iv new = (do holding [new, ov, iv] (setItem ov iv new); release [new, ov, iv] []; pure .next) := by intros; rfl) : RS X W (.AugAssign (.Subscript (.Name x px) ix ps) op e pos) (zAugI i f mi m) := by
  obtain ⟨t, p, s⟩ := h
  obtain ⟨u, q, z⟩ := hi
  refine ⟨_, ps_augS (pe_var hN hv hd hcd) q get_listN p ho set_list ha, fun s0 A d σ D hs hσ g => ?_⟩
  unfold zAugI at g
  split at g
  · rename_i j ed
    obtain ⟨v, e1, a, rfl, e2⟩ := hσ.val i _ ed
    refine ⟨.ref a, e1, z.thenZ hs hσ g fun dy A1 s1 vy p1 hs1 r1 hσ1 g1 => ?_⟩
    split at g1
    · rename_i o hget
      unfold getAt at hget
      split at hget
      · rename_i xs k eA
        split at hget
        · rename_i h0
          obtain ⟨vs, e3, e4⟩ := hs1.obj j a xs (p1.mu_get e2) eA
          obtain ⟨vo, e5, e6⟩ := DqAll.get e4 hget
          cases r1
          refine ⟨a, vs, k, vo, rfl, rfl, h0, sq_of e3, e5, s.thenZ hs1 hσ1 g1 fun dx A2 s2 vx p2 hs2 r2 hσ2 g2 => ?_⟩
          refine hf s2 A2 (.dat o) dx vo vx _ hs2 (Dq.up p2.fx _ e6) r2 ?_
          cases hq : f (.dat o) dx A2 with
          | ok w A3 =>
            simp only [hq] at g2
            intro t3 vw p3 hs3 r3
            have g2 : GZ (kf X W) W s2 D (match putAt A3 j w (.dat (.int k)) with | some B => .nx d B | none => .bad) := g2
            split at g2
            · rename_i B hB
              obtain ⟨vs2, k2, w2, ek, f1, f2, f3, f4⟩ := putAt_ok hs3 (p3.mu_get (p2.mu_get (p1.mu_get e2))) r3 (show RV X.K t3 (.dat (.int k)) (.int k) from Dq.int k) hB
              cases ek
              exact ⟨a, vs2, k, w2, rfl, rfl, f1, f2, g2 (t3.mut a (vs2.set w2 vw)) σ (p3.trans f3) f4 ((hσ2.up p3).up f3)⟩
            · exact g2.elim
          | exc a A2 => simp only [hq] at g2; exact g2.elim
          | bad => simp only [hq] at g2; exact g2.elim
        · cases hget
      · cases hget
    · exact g1.elim
  · exact g.elim

/-! ### append, extend, pop -/
theorem tyL {K : PySem.W.Frag} {H : Hp} {a : Addr} {vs : List V} (h : H a = some (.lst vs)) : tyV K "list" (.ref a) H := Or.inl ⟨rfl, vs, sq_of h⟩
def mApp (i : Nat) (m : MM SV) : MM SV := fun d A => match d[i]? with
  | some (some (.ref j)) => (m d A).bind fun x A1 => match A1[j]?, x with
    | some (.lst xs), .dat v => if sz (xs.length + 1) then .ok (.dat .none) (A1.set j (.lst (xs ++ [v]))) else .bad
    | _, _ => .bad
  | _ => .bad
theorem mu_obj {s : S3} {A : List AO} {d : DSt} {σ : L2.St} {i j : Nat} (hs : SR K s A) (hσ : RSt K s d σ) (ed : d[i]? = some (some (.ref j))) : ∃ a vs, σ[i]? = some (some (.ref a)) ∧ s.mu[j]? = some a ∧ s.H a = some (.lst vs) := by
  obtain ⟨v, e1, a, rfl, e2⟩ := hσ.val i _ ed
  have hl : j < A.length := by rw [← hs.len]; exact (List.getElem?_eq_some_iff.mp e2).1
  cases hA : A[j]? with
  | none => rw [List.getElem?_eq_none_iff] at hA; omega
  | some o =>
    cases o with
    | lst xs =>
      obtain ⟨vs, e3, _⟩ := hs.obj j a xs e2 hA
      exact ⟨a, vs, e1, e2, e3⟩
variable {i : Nat} {x : Str} {px apos cpos : Pos} {e : Expr}
theorem re_append {m : MM SV} (h : RE X W e m) (hN : X.N[i]? = some x) (hv : Vis X.env.scope x) (hd : (x == ("__debug__" : Str)) = false := by decide) (hcd : (x == ("__classdict__" : Str)) = false := by decide)
    (hbase : attributeBase (.Name x px) "append" X.env (eval (.Name x px) X.env) = eval (.Name x px) X.env := by rfl)
    (hfew : ((backTo cpos (starEach [e] X.env)).all (fun x => !x.1) && (backToKw cpos (keywordEach [] X.env)).all (fun x => x.1.isSome) && decide ([e].length + ([] : List Keyword).length + (if ([] : List Keyword).isEmpty then 0 else 1) < 30)) = true := by rfl)
    (hline : (apos.endLine == cpos.line) = true := by rfl) (hs : starEach [e] X.env = (false, eval e X.env) :: starEach [] X.env := by rfl) (hpl : (backTo cpos (starEach [] X.env)).any (·.1) = false := by rfl) :
    RE X W (.Call (.Attribute (.Name x px) "append" apos) [e] [] cpos) (mApp i m) := by
  obtain ⟨t, p, s⟩ := h
  refine ⟨_, pe_bm PySem.F.plainAttrs_list PySem.F.slot_list_append PySem.F.type_list_append mt_append (pe_var hN hv hd hcd) (pa_cons p pa_nil hs) hbase hfew hline hs hpl, fun s0 A d σ Q hs hσ g => ?_⟩
  unfold mApp at g
  split at g
  · rename_i j ed
    obtain ⟨a, ws, e1, e2, e3⟩ := mu_obj hs hσ ed
    refine ⟨.ref a, e1, tyL e3, s.then hs hσ g fun dx A1 s1 vx p1 hs1 r1 hσ1 g1 => ?_⟩
    split at g1
    · rename_i xs v eA
      split at g1
      · rename_i hz
        obtain ⟨vs, f1, f2⟩ := hs1.obj j a xs (p1.mu_get e2) eA
        refine ⟨a, vs, vx, rfl, rfl, f1, by rw [DqAll.length f2]; exact Nat.lt_of_lt_of_le (Nat.lt_succ_self _) (Nat.le_of_lt (sz_ok hz)), ?_⟩
        exact g1 (s1.mut a (vs ++ [vx])) .non (Post.mut hs1 (p1.mu_get e2) _) (hs1.mut (p1.mu_get e2) (DqAll.app f2 (.cons r1 .nil))) .non
      · exact g1.elim
    · exact g1.elim
  · exact g.elim
def mExt (i : Nat) (m : MM (List PyData)) : MM SV := fun d A => match d[i]? with
  | some (some (.ref j)) => (m d A).bind fun ys A1 => match A1[j]? with
    | some (.lst xs) => if sz (xs.length + ys.length) then .ok (.dat .none) (A1.set j (.lst (xs ++ ys))) else .bad
    | none => .bad
  | _ => .bad
theorem re_extend {m : MM (List PyData)} (h : RN X W e m) (hN : X.N[i]? = some x) (hv : Vis X.env.scope x) (hd : (x == ("__debug__" : Str)) = false := by decide) (hcd : (x == ("__classdict__" : Str)) = false := by decide)
    (hbase : attributeBase (.Name x px) "extend" X.env (eval (.Name x px) X.env) = eval (.Name x px) X.env := by rfl)
    (hfew : ((backTo cpos (starEach [e] X.env)).all (fun x => !x.1) && (backToKw cpos (keywordEach [] X.env)).all (fun x => x.1.isSome) && decide ([e].length + ([] : List Keyword).length + (if ([] : List Keyword).isEmpty then 0 else 1) < 30)) = true := by rfl)
    (hline : (apos.endLine == cpos.line) = true := by rfl) (hs : starEach [e] X.env = (false, eval e X.env) :: starEach [] X.env := by rfl) (hpl : (backTo cpos (starEach [] X.env)).any (·.1) = false := by rfl) :
    RE X W (.Call (.Attribute (.Name x px) "extend" apos) [e] [] cpos) (mExt i m) := by
  obtain ⟨t, p, s⟩ := h
  refine ⟨_, pe_bm PySem.F.plainAttrs_list PySem.F.slot_list_extend PySem.F.type_list_extend mt_extend (pe_var hN hv hd hcd) (pa_cons p pa_nil hs) hbase hfew hline hs hpl, fun s0 A d σ Q hs hσ g => ?_⟩
  unfold mExt at g
  split at g
  · rename_i j ed
    obtain ⟨a, ws, e1, e2, e3⟩ := mu_obj hs hσ ed
    refine ⟨.ref a, e1, tyL e3, s s0 A d σ _ hs hσ (Good.mono (Good.bind g) (fun ys A1 g1 s1 b us p1 hs1 hb dp => ?_) (fun _ _ z => z))⟩
    split at g1
    · rename_i xs eA
      split at g1
      · rename_i hz
        obtain ⟨vs, f1, f2⟩ := hs1.obj j a xs (p1.mu_get e2) eA
        have nab : a ≠ b := fun z => by rw [← z, f1] at hb; cases hb
        have hs2 : SR (kf X W) (s1.newH b (.lst us)) A1 := hs1.newH hb _
        refine ⟨a, b, vs, us, rfl, rfl, by rw [upd_ne nab]; exact f1, upd_same, by rw [DqAll.length f2, DqAll.length dp]; exact Nat.le_of_lt (sz_ok hz), ?_⟩
        have pb := Post.newH (s := s1) hb (.lst us)
        exact g1 ((s1.newH b (.lst us)).mut a (vs ++ us)) .non ((p1.trans pb).trans (Post.mut hs2 (p1.mu_get e2) _)) (hs2.mut (p1.mu_get e2) (DqAll.app f2 dp)) .non
      · exact g1.elim
    · exact g1.elim
  · exact g.elim
def mPop (i : Nat) : MM SV := fun d A => match d[i]? with
  | some (some (.ref j)) => match A[j]? with
    | some (.lst xs) => match xs[xs.length - 1]? with
      | some v => .ok (.dat v) (A.set j (.lst xs.dropLast))
      | none => .bad
    | none => .bad
  | _ => .bad
theorem DqAll.dropLast {K : PySem.W.Frag} {F : Hp} : ∀ {vs : List V} {ds : List PyData}, DqAll K F vs ds → DqAll K F vs.dropLast ds.dropLast
  | _, _, .nil => .nil
  | _, _, .cons _ .nil => .nil
  | _, _, .cons a (.cons b t) => .cons a (DqAll.dropLast (.cons b t))
theorem re_pop (hN : X.N[i]? = some x) (hv : Vis X.env.scope x) (hd : (x == ("__debug__" : Str)) = false := by decide) (hcd : (x == ("__classdict__" : Str)) = false := by decide)
    (hbase : attributeBase (.Name x px) "pop" X.env (eval (.Name x px) X.env) = eval (.Name x px) X.env := by rfl) (hline : (apos.endLine == cpos.line) = true := by rfl) :
    RE X W (.Call (.Attribute (.Name x px) "pop" apos) [] [] cpos) (mPop i) := by
  refine ⟨_, pe_bm0 PySem.F.plainAttrs_list PySem.F.slot_list_pop PySem.F.type_list_pop mt_pop (pe_var hN hv hd hcd) hbase hline, fun s0 A d σ Q hs hσ g => ?_⟩
  unfold mPop at g
  split at g
  · rename_i j ed
    obtain ⟨a, ws, e1, e2, e3⟩ := mu_obj hs hσ ed
    refine ⟨.ref a, e1, tyL e3, ?_⟩
    split at g
    · rename_i xs eA
      obtain ⟨vs, f1, f2⟩ := hs.obj j a xs e2 eA
      split at g
      · rename_i v ev
        obtain ⟨w, g1, g2⟩ := DqAll.get f2 ev
        refine ⟨a, vs, w, rfl, rfl, f1, by rw [DqAll.length f2]; exact g1, ?_⟩
        exact g (s0.mut a vs.dropLast) w (Post.mut hs e2 _) (hs.mut e2 (DqAll.dropLast f2)) g2
      · exact g.elim
    · exact g.elim
  · exact g.elim
def mPopAt (i : Nat) (m : MM SV) : MM SV := fun d A => match d[i]? with
  | some (some (.ref j)) => (m d A).bind fun x A1 => match A1[j]?, x with
    | some (.lst xs), .dat (.int k) => if 0 ≤ k ∧ sz xs.length = true then match xs[k.toNat]? with
        | some v => .ok (.dat v) (A1.set j (.lst (xs.eraseIdx k.toNat)))
        | none => .bad
      else .bad
    | _, _ => .bad
  | _ => .bad
theorem DqAll.erase {K : PySem.W.Frag} {F : Hp} : ∀ {vs : List V} {ds : List PyData} (k : Nat), DqAll K F vs ds → DqAll K F (vs.eraseIdx k) (ds.eraseIdx k)
  | _, _, _, .nil => .nil
  | _, _, 0, .cons _ t => t
  | _, _, k + 1, .cons a t => .cons a (DqAll.erase k t)
theorem re_popAt {m : MM SV} (h : RE X W e m) (hN : X.N[i]? = some x) (hv : Vis X.env.scope x) (hd : (x == ("__debug__" : Str)) = false := by decide) (hcd : (x == ("__classdict__" : Str)) = false := by decide)
    (hbase : attributeBase (.Name x px) "pop" X.env (eval (.Name x px) X.env) = eval (.Name x px) X.env := by rfl)
    (hfew : ((backTo cpos (starEach [e] X.env)).all (fun x => !x.1) && (backToKw cpos (keywordEach [] X.env)).all (fun x => x.1.isSome) && decide ([e].length + ([] : List Keyword).length + (if ([] : List Keyword).isEmpty then 0 else 1) < 30)) = true := by rfl)
    (hline : (apos.endLine == cpos.line) = true := by rfl) (hs : starEach [e] X.env = (false, eval e X.env) :: starEach [] X.env := by rfl) (hpl : (backTo cpos (starEach [] X.env)).any (·.1) = false := by rfl) :
    RE X W (.Call (.Attribute (.Name x px) "pop" apos) [e] [] cpos) (mPopAt i m) := by
  obtain ⟨t, p, s⟩ := h
  refine ⟨_, pe_bm PySem.F.plainAttrs_list PySem.F.slot_list_pop PySem.F.type_list_pop mt_popAt (pe_var hN hv hd hcd) (pa_cons p pa_nil hs) hbase hfew hline hs hpl, fun s0 A d σ Q hs hσ g => ?_⟩
  unfold mPopAt at g
  split at g
  · rename_i j ed
    obtain ⟨a, ws, e1, e2, e3⟩ := mu_obj hs hσ ed
    refine ⟨.ref a, e1, tyL e3, s.then hs hσ g fun dx A1 s1 vx p1 hs1 r1 hσ1 g1 => ?_⟩
    split at g1
    · rename_i xs k eA
      cases r1
      split at g1
      · rename_i h0
        split at g1
        · rename_i v ev
          obtain ⟨vs, f1, f2⟩ := hs1.obj j a xs (p1.mu_get e2) eA
          obtain ⟨w, g2, g3⟩ := DqAll.get f2 ev
          have hl := (List.getElem?_eq_some_iff.mp g2).1
          have hn := line63
          have hz := sz_ok h0.2
          rw [← DqAll.length f2] at hz
          refine ⟨a, vs, k, k.toNat, w, rfl, rfl, f1, by omega, ?_, ?_, g2, ?_⟩
          · omega
          · have k0 : ¬ k < 0 := by omega
            have k1 : k < (vs.length : Int) := by omega
            have k2 : 0 ≤ k := h0.1
            simp [seqIndex?, k0, k1, k2]
          · exact g1 (s1.mut a (vs.eraseIdx k.toNat)) w (Post.mut hs1 (p1.mu_get e2) _) (hs1.mut (p1.mu_get e2) (DqAll.erase _ f2)) g3
        · exact g1.elim
      · exact g1.elim
    · exact g1.elim
  · exact g.elim

/-! ### a, b = e, f; three of them -/
def zPar (i j : Nat) (m : MM (List SV)) : MS := fun d A => (m d A).toZ d fun xs A1 => match xs with
  | [x, y] => .nx ((d.set i (some x)).set j (some y)) A1
  | _ => .bad
theorem rs_par {i j : Nat} {x y : Str} {a b : Expr} {m : MM (List SV)} {px py pt pos : Pos} {kt k2 pt2} (hc : X.calm = true) (hN : X.N.Nodup) (hi : X.N[i]? = some x) (hj : X.N[j]? = some y) (hij : i ≠ j)
    (hx : X.env.scope.names.lookup x = some .local) (hy : X.env.scope.names.lookup y = some .local) (ha : RA X W [a, b] m)
    (hw : swappedStores [.Tuple [.Name x px, .Name y py] kt pt] (.Tuple [a, b] k2 pt2) X.env = pure (some [x, y]))
    (hs : swapsWithSole [.Tuple [.Name x px, .Name y py] kt pt] (.Tuple [a, b] k2 pt2) pos.line X.env = pure false := by rfl) : RS X W (.Assign [.Tuple [.Name x px, .Name y py] kt pt] (.Tuple [a, b] k2 pt2) pos) (zPar i j m) := by
  obtain ⟨t, p, s⟩ := ha
  refine ⟨_, ps_par hc hN hi hj hij hx hy p hw hs, fun s0 A d σ D hs hσ g => s.thenZ hs hσ g fun xs A1 s1 vs p1 hs1 r1 hσ1 g1 => ?_⟩
  split at g1
  · obtain ⟨v, u, rfl, a1, a2⟩ := rvs_two r1
    exact ⟨v, u, rfl, g1 s1 _ (Post.refl _) hs1 ((hσ1.set i a1).set j a2)⟩
  · exact g1.elim
def zPar3 (i j l : Nat) (m : MM (List SV)) : MS := fun d A => (m d A).toZ d fun xs A1 => match xs with
  | [x, y, z] => .nx (((d.set i (some x)).set j (some y)).set l (some z)) A1
  | _ => .bad
theorem rs_par3 {i j l : Nat} {x y z : Str} {a b c : Expr} {m : MM (List SV)} {px py pz pt pos : Pos} {kt k2 pt2} (hc : X.calm = true) (hN : X.N.Nodup) (hi : X.N[i]? = some x) (hj : X.N[j]? = some y) (hl : X.N[l]? = some z) (hij : i ≠ j) (hil : i ≠ l) (hjl : j ≠ l)
    (hx : X.env.scope.names.lookup x = some .local) (hy : X.env.scope.names.lookup y = some .local) (hz : X.env.scope.names.lookup z = some .local) (ha : RA X W [a, b, c] m)
    (hw : swappedStores [.Tuple [.Name x px, .Name y py, .Name z pz] kt pt] (.Tuple [a, b, c] k2 pt2) X.env = pure (some [x, y, z]))
    (hs : swapsWithSole [.Tuple [.Name x px, .Name y py, .Name z pz] kt pt] (.Tuple [a, b, c] k2 pt2) pos.line X.env = pure false := by rfl) : RS X W (.Assign [.Tuple [.Name x px, .Name y py, .Name z pz] kt pt] (.Tuple [a, b, c] k2 pt2) pos) (zPar3 i j l m) := by
  obtain ⟨t, p, s⟩ := ha
  refine ⟨_, ps_par3 hc hN hi hj hl hij hil hjl hx hy hz p hw hs, fun s0 A d σ D hs hσ g => s.thenZ hs hσ g fun xs A1 s1 vs p1 hs1 r1 hσ1 g1 => ?_⟩
  split at g1
  · obtain ⟨v, u, w, rfl, a1, a2, a3⟩ := rvs_three r1
    exact ⟨v, u, w, rfl, g1 s1 _ (Post.refl _) hs1 (((hσ1.set i a1).set j a2).set l a3)⟩
  · exact g1.elim

/-! ### list(range(..)), tuple(range(..)) -/
def RPg (X : Cx) (W : WX) (e : Expr) (m : MM (Int × Int)) : Prop := ∃ t, PRg X e t ∧ ∀ (s : S3) (A : List AO) (d : DSt) (σ : L2.St) (Q : Int → Int → Hp → Prop), SR (kf X W) s A → RSt X.K s d σ →
  Good (m d A) (fun x A' => ∀ (t' : S3), Post s t' → SR (kf X W) t' A' → Q x.1 x.2 t'.H) (fun x A' => ∀ t' : S3, Post s t' → SR (kf X W) t' A' → W.w x σ t') → t σ s.H Q
def mPg1 (m : MM SV) : MM (Int × Int) := fun d A => (m d A).bind fun x A1 => match x with
  | .dat (.int n) => .ok (0, n) A1
  | _ => .bad
def mPg2 (m n : MM SV) : MM (Int × Int) := fun d A => (m d A).bind fun x A1 => (n d A1).bind fun y A2 => match x, y with
  | .dat (.int i), .dat (.int j) => .ok (i, j) A2
  | _, _ => .bad
theorem rpg1 {a : Expr} {p pos : Pos} {m : MM SV} (h : RE X W a m) (hg : Gl X "range") (hm : X.mg "range" = none) (na : starEach [a] X.env = (false, eval a X.env) :: starEach [] X.env := by rfl) : RPg X W (.Call (.Name "range" p) [a] [] pos) (mPg1 m) := by
  obtain ⟨t, q, s⟩ := h
  refine ⟨_, prg_1 hg hm q na, fun s0 A d σ Q hs hσ g => ?_⟩
  refine s s0 A d σ _ hs hσ (Good.mono (Good.bind g) (fun x A1 g1 s1 v p1 hs1 r1 => ?_) (fun _ _ z => z))
  split at g1
  · cases r1
    exact ⟨_, rfl, g1 s1 p1 hs1⟩
  · exact g1.elim
theorem rpg2 {a b : Expr} {p pos : Pos} {m n : MM SV} (h : RE X W a m) (h2 : RE X W b n) (hg : Gl X "range") (hm : X.mg "range" = none) (na : starEach [a, b] X.env = (false, eval a X.env) :: starEach [b] X.env := by rfl)
    (nb : starEach [b] X.env = (false, eval b X.env) :: starEach [] X.env := by rfl) (hp : (backTo pos (starEach [b] X.env)).any (·.1) = false := by rfl) : RPg X W (.Call (.Name "range" p) [a, b] [] pos) (mPg2 m n) := by
  obtain ⟨t, q, s⟩ := h
  obtain ⟨t2, q2, s2⟩ := h2
  refine ⟨_, prg_2 hg hm q q2 na nb hp, fun s0 A d σ Q hs hσ g => ?_⟩
  refine s s0 A d σ _ hs hσ (Good.mono (Good.bind g) (fun x A1 g1 s1 v p1 hs1 r1 => ?_) (fun _ _ z => z))
  refine s2 s1 A1 d σ _ hs1 (hσ.up p1) (Good.mono (Good.bind g1) (fun y A2 g2 s3 u p2 hs2 r2 => ?_) (fun _ _ z t' pp => z t' (p1.trans pp)))
  split at g2
  · cases r1; cases r2
    exact ⟨_, _, rfl, rfl, g2 s3 (p1.trans p2) hs2⟩
  · exact g2.elim
def rgD (a b : Int) : List PyData := (List.range (b - a).toNat).map fun (i : Nat) => PyData.int (a + (i : Int))
theorem rgD_ok {K : PySem.W.Frag} {F : Hp} (a b : Int) : DqAll K F (rgV a b) (rgD a b) := by
  unfold rgV rgD
  have key : ∀ l : List Nat, DqAll K F (l.map fun (i : Nat) => V.int (a + (i : Int))) (l.map fun (i : Nat) => PyData.int (a + (i : Int))) := by
    intro l
    induction l with
    | nil => exact .nil
    | cons n l ih => exact .cons (.int _) ih
  exact key _
def rgOk (a b : Int) : Bool := decide (-100000 ≤ a) && decide (a ≤ 100000) && decide (-100000 ≤ b) && decide (b ≤ 100000)
theorem rgOk_ok {a b : Int} (h : rgOk a b = true) : RgOk a b := by
  unfold rgOk at h
  simp only [Bool.and_eq_true, decide_eq_true_eq] at h
  exact ⟨by omega, by omega, by omega, by omega, by omega⟩
def mLRg (m : MM (Int × Int)) : MM (List PyData) := fun d A => (m d A).bind fun x A1 => if rgOk x.1 x.2 then .ok (rgD x.1 x.2) A1 else .bad
theorem rn_lrg {e : Expr} {p pos : Pos} {m : MM (Int × Int)} (h : RPg X W e m) (hc : X.calm = true) (hg : Gl X "list") (hm : X.mg "list" = none) (na : starEach [e] X.env = (false, eval e X.env) :: starEach [] X.env := by rfl) : RN X W (.Call (.Name "list" p) [e] [] pos) (mLRg m) := by
  obtain ⟨t, q, s⟩ := h
  refine ⟨_, pe_listRg hc hg hm q na, fun s0 A d σ Q hs hσ g => ?_⟩
  refine s s0 A d σ _ hs hσ (Good.mono (Good.bind g) (fun x A1 g1 s1 p1 hs1 => ?_) (fun _ _ z => z))
  split at g1
  · rename_i hz
    exact ⟨rgOk_ok hz, fun l hl => g1 s1 l _ p1 hs1 hl (rgD_ok _ _)⟩
  · exact g1.elim
def mTRg (m : MM (Int × Int)) : MM SV := fun d A => (m d A).bind fun x A1 => if rgOk x.1 x.2 then .ok (.dat (.tuple (rgD x.1 x.2))) A1 else .bad
theorem re_trg {e : Expr} {p pos : Pos} {m : MM (Int × Int)} (h : RPg X W e m) (hc : X.calm = true) (hg : Gl X "tuple") (hm : X.mg "tuple" = none) (na : starEach [e] X.env = (false, eval e X.env) :: starEach [] X.env := by rfl) : RE X W (.Call (.Name "tuple" p) [e] [] pos) (mTRg m) := by
  obtain ⟨t, q, s⟩ := h
  refine ⟨_, pe_tupRg hc hg hm q na, fun s0 A d σ Q hs hσ g => ?_⟩
  refine s s0 A d σ _ hs hσ (Good.mono (Good.bind g) (fun x A1 g1 s1 p1 hs1 => ?_) (fun _ _ z => z))
  split at g1
  · rename_i hz
    exact ⟨rgOk_ok hz, fun l hl => g1 (s1.newF l _) _ (p1.trans (Post.newF hs1 hl _)) (hs1.newF hl _) (hs1.newTup hl (rgD_ok _ _))⟩
  · exact g1.elim
end
end Rx
/-! Rx 13: the law's end. -/
namespace Rx
open PySem L2 PySem.Spec PyProof.Rows Evl
/-- an empty table -/
abbrev tab0 : Obj := { cls := .none, data := .fields #[] }
/-- the code objects and tables at the law's call -/
structure TabsAt (K : PySem.W.Frag) (mg : Str → Option Value) (h : Heap) (cs : List (Addr × Addr)) : Prop where
  tab : ∀ p ∈ cs, h.get? p.2 = some tab0
  off : ∀ p ∈ cs, K.lookup p.2 = none
  code : ∀ p ∈ cs, PySem.W.CodeHd h p.1 p.2
structure MainAt (mg : Str → Option Value) (h : Heap) : Prop where
  ex : ∃ (m : Addr) (o : Obj), mg "__builtins__" = some (.ref m) ∧ m ≠ builtinsNs ∧ h.get? m = some o ∧ o.cls = .type "module" ∧ o.dict = some builtinsNs ∧ o.data = .plain
theorem end_call {P : Program} {w : World} {K : PySem.W.Frag} {T : List (Addr × Str)} {cs : List (Addr × Addr)} {mg mb : Str → Option Value} {k : Nat} {fa a : Addr} {fd : FuncData} {x : Str} {M : FL} {z : Shared} {us : List Value} {ns : List Int}
    (hK : K.In z.heap) (hG : z.heap.Ns mainGlobals mg) (hB : z.heap.Ns builtinsNs mb) (hBB : ∀ y : Str, y ≠ "__name__" → mb y = bootBuiltins y) (hL : z.heap.NoLimit) (hE : z.gens = #[])
    (hC : TabsAt K mg z.heap cs) (hMn : MainAt mg z.heap) (hTc : ∀ p ∈ T, p.1 ∈ cs.map (·.2))
    (ho : z.heap.get? a = some { cls := .type "list", data := .seq us.toArray }) (hus : IntsAre us ns) (hn : ns.length ≤ 63) (hR : Room k callerA)
    (F : ∀ base : Heap, K.In base → base.Ns mainGlobals mg → (∀ p ∈ cs, LamX.TabB base mg p.1 p.2) → FnG P w K mg base k fa fd [x] (spM (KB K T) mg 1 M)) (hBi : ∀ (s : Shared) (u : Value), BindsTo s fd ⟨[u], []⟩ [(x, u)])
    (hM : ∃ B, M [.dat (.list (ns.map PyData.int))] [] = .ok (.dat (.bool true)) B) :
    codeAny (model P w) callerA (.call (.ref fa) ⟨[.ref a], []⟩) (fun r t => r = .ok (.ret (.bool true)) ∧ OldK z.heap t.heap ∧ t.os = z.os ∧ AllBare t.gens) z := by
  have rv := vals_ints hus
  have lv := hus.length
  have small : us.length ≤ sizeLine := Nat.le_trans (by omega : us.length ≤ 63) (by decide)
  have atT : ∀ b ∈ cs.map (·.2), z.heap.get? b = some tab0 := by
    intro b hb
    obtain ⟨p, hp, rfl⟩ := List.mem_map.mp hb
    exact hC.tab p hp
  have offT : ∀ b ∈ cs.map (·.2), K.lookup b = none := by
    intro b hb
    obtain ⟨p, hp, rfl⟩ := List.mem_map.mp hb
    exact hC.off p hp
  have aNo : a ∉ cs.map (·.2) := by
    intro hb
    have q := atT a hb
    rw [ho] at q
    have q : Data.seq us.toArray _ = Data.fields #[] := congrArg Obj.data (Option.some.inj q)
    cases q
  have main : ∀ H : Hp, (∀ b ∈ cs.map (·.2), H b = some (.tbl #[])) → (∀ b o, H b = some o → b ∉ cs.map (·.2) → ∃ ob xs, o = .frz ob (.lst xs)) → SqL K H a (ns.map V.int) → HOk P w H z.heap → (∀ b, H b ≠ none → b = a ∨ b ∈ cs.map (·.2)) → (H a ≠ none → K.lookup a = none) →
      codeAny (model P w) callerA (.call (.ref fa) ⟨[.ref a], []⟩) (fun r t => r = .ok (.ret (.bool true)) ∧ OldK z.heap t.heap ∧ t.os = z.os ∧ AllBare t.gens) z := by
    intro H tabs only sq hok just out
    -- what is neither a list nor an empty record stands in the base
    have free : ∀ {b : Addr} {o : Obj}, z.heap.get? b = some o → (∀ ys n, o.data ≠ .seq ys n) → o.data ≠ .fields #[] → H b = none := by
      intro b o hb h1 h2
      cases hq : H b with
      | none => rfl
      | some u =>
        rcases just b (by rw [hq]; intro y; cases y) with y | y
        · subst y
          rw [ho] at hb
          cases hb
          exact (h1 _ _ rfl).elim
        · rw [atT b y] at hb
          cases hb
          exact (h2 rfl).elim
    have freeD : ∀ {b : Addr} {o : Obj} {es : Array DictEntry} {ep : Nat}, z.heap.get? b = some o → o.data = .dict es ep → H b = none := fun {b o es ep} hb hd =>
      free hb (fun ys n y => by rw [hd] at y; cases y) (fun y => by rw [hd] at y; cases y)
    have ns' : ∀ {b : Addr} {m : Str → Option Value}, z.heap.Ns b m → (hidT z.heap H).Ns b m := fun {b m} ⟨o, es, ep, hb, hd, y⟩ => ⟨o, es, ep, hidT_get hb (freeD hb hd), hd, y⟩
    have kin : K.In (hidT z.heap H) := by
      intro b o hb
      refine hidT_get (hK b o hb) ?_
      cases hq : H b with
      | none => rfl
      | some u =>
        rcases just b (by rw [hq]; intro y; cases y) with y | y
        · subst y
          rw [out (by rw [hq]; intro y; cases y)] at hb
          cases hb
        · rw [offT b y] at hb
          cases hb
    have md : Mod K mg (hidT z.heap H) := ⟨kin, ns' hG, ⟨mb, ns' hB, hBB⟩, let ⟨mc, y1, y2⟩ := hL; ⟨mc, ns' y1, y2⟩⟩
    have notG : ∀ b ∈ cs.map (·.2), mainGlobals ≠ b := by
      rintro b hb rfl
      obtain ⟨o, es, ep, e, hd, _⟩ := hG
      rw [atT _ hb] at e
      cases e
      cases hd
    have tb : ∀ p ∈ cs, LamX.TabB (hidT z.heap H) mg p.1 p.2 := by
      intro p hp
      have hpm : p.2 ∈ cs.map (·.2) := List.mem_map.mpr ⟨p, hp, rfl⟩
      refine ⟨?_, ?_, notG _ hpm⟩
      · obtain ⟨o, us, file, tf, flags, tg, inF, text, tt, e1, r1, r2, r3, y⟩ := hC.code p hp
        refine ⟨o, us, file, tf, flags, tg, inF, text, tt, hidT_get e1 (free e1 (fun ys n y => ?_) fun y => ?_), r1, r2, r3, y⟩
        · rw [r2] at y
          cases y
        · rw [r2] at y
          cases y
          simp at r3
      · obtain ⟨m, o, b1, b2, b3, b4, b5, b6⟩ := hMn.ex
        refine ⟨m, o, b1, b2, fun q => ?_, fun q => ?_, hidT_get b3 (free b3 (fun ys n y => ?_) fun y => ?_), b4, b5, b6⟩
        · obtain ⟨og, es, ep, e, hd, _⟩ := hG
          rw [q, e] at b3
          cases b3
          rw [hd] at b6
          cases b6
        · rw [q, atT _ hpm] at b3
          cases b3
          cases b6
        · rw [b6] at y
          cases y
        · rw [b6] at y
          cases y
    have e0 : Env0 P w K mg (hidT z.heap H) callerA [] z H := ⟨rfl, md, fun b o hb => of_hidT hb, Nat.le_of_eq (hidT_size _ _), trivial, fun b hb => absurd (show b ∈ ([] : List Addr) from hb) (by simp), hok, .of_eq hE⟩
    have prom : spM (KB K T) mg 1 M [.ref a] H (fun v _ => v = .bl true) fun _ _ _ => False := by
      obtain ⟨B, hB⟩ := hM
      have hF : ∀ F : Hp, (∀ b o, F b = some o → H b = some o) → SqL K F a (ns.map V.int) → (∀ b ∈ cs.map (·.2), F b = none) → ∃ (s : S3) (A : List AO) (xs : List SV), s.H = H ∧ SR (KB K T) s A ∧ RVs K s xs [V.ref a] ∧ xs.length = 1 ∧
          Good (M xs A) (fun x A' => ∀ (t : S3) (v : V), Post s t → SR (KB K T) t A' → RV K t x v → v = .bl true) (fun x A' => ∀ t : S3, Post s t → SR (KB K T) t A' → ∀ cls dd, XRep K mg x cls dd t → False) := by
        intro F hFH sqF hFn
        refine ⟨⟨F, H, []⟩, [], [.dat (.list (ns.map PyData.int))], rfl, ⟨hFH, (fun b hb => nomatch hb), List.nodup_nil, rfl, (fun b hb => nomatch hb), (fun i b xs hi => nomatch (show (none : Option Addr) = some b from hi)), fun p hp => ⟨hFn _ (hTc p hp), #[], tabs _ (hTc p hp), True.intro, fun pos cv hc => ?_⟩, (fun _ _ y => nomatch y), ⟨_, rfl⟩⟩, ⟨_, _, rfl, .lst sqF (DqAll.ofInts ns), rfl⟩, rfl, ?_⟩
        · have y : codeAmong pos [] = some cv := hc
          simp [codeAmong] at y
        · rw [hB]
          intro t v _ _ r
          cases r
          rfl
      refine hF (fun b => if b ∈ cs.map (·.2) then none else H b) (fun b o e => ?_) ?_ fun b hb => if_pos hb
      · have e : (if b ∈ cs.map (·.2) then none else H b) = some o := e
        by_cases hb : b ∈ cs.map (·.2)
        · rw [if_pos hb] at e; cases e
        · rw [if_neg hb] at e; exact e
      · rcases sq with y | y
        · refine .inl ?_
          have eq : (if a ∈ cs.map (·.2) then none else H a) = H a := if_neg aNo
          rcases y with y | ⟨o, y⟩
          · exact .inl (eq.trans y)
          · exact .inr ⟨o, eq.trans y⟩
        · exact .inr y
    refine codeAny_mono ((F _ kin (ns' hG) tb).run callerA [] z H ⟨[.ref a], []⟩ [.ref a] [.ref a] _ _ rfl hR e0 (hBi z (.ref a)) (.cons rfl .nil) prom) fun r t h => ?_
    cases r with
    | error e =>
      obtain ⟨_, _, _, _, _, _, _, _, _, _, _, _, y⟩ := h
      exact y.elim
    | ok fl =>
      cases fl with
      | ret u =>
        obtain ⟨v, H2, os, bare, un, hok2, rel, q⟩ := h
        obtain rfl : v = .bl true := q
        obtain rfl : u = Value.bool true := rel
        have grown : ∀ b ∈ cs.map (·.2), ∃ more : Array Value, t.heap.get? b = some { cls := .none, data := .fields more } := by
          intro b hb
          obtain ⟨more, y⟩ := un.tbls b #[] (tabs b hb)
          exact ⟨_, hok2 b _ y⟩
        have rest : ∀ b o, b ∉ cs.map (·.2) → z.heap.get? b = some o → t.heap.get? b = some o := by
          intro b o hnb hb
          cases hq : H b with
          | none => exact un.keep b o hb hq (by intro y; exact absurd (show b ∈ ([] : List Addr) from y) (by simp)) (by simp)
          | some u =>
            obtain ⟨ob, xs, rfl⟩ := only b u hq hnb
            obtain ⟨y1, _⟩ := hok b _ hq
            obtain ⟨y2, _⟩ := hok2 b _ (un.frzs b ob _ hq)
            rw [hb] at y1; cases y1
            exact y2
        refine ⟨rfl, ⟨fun b o hb => ?_, fun b o hb => ?_⟩, os, bare⟩
        · by_cases hm : b ∈ cs.map (·.2)
          · obtain ⟨more, y⟩ := grown b hm
            have e := atT b hm
            rw [hb] at e
            cases e
            obtain ⟨p, hp, rfl⟩ := List.mem_map.mp hm
            exact .inr (.inl ⟨((hC.code p hp).tab (hC.tab p hp)).isCodeTable, rfl, #[], more, rfl, by rw [Array.empty_append]; exact y⟩)
          · exact .inl (rest b o hm hb)
        · by_cases hm : b ∈ cs.map (·.2)
          · obtain ⟨more, y⟩ := grown b hm
            exact ⟨_, y⟩
          · exact ⟨o, rest b o hm hb⟩
      | next => exact h.elim
      | brk => exact h.elim
      | cont => exact h.elim
  let G : Hp := fun b => if b ∈ cs.map (·.2) then some (.tbl #[]) else none
  have gT : ∀ b ∈ cs.map (·.2), G b = some (.tbl #[]) := fun b hb => if_pos hb
  have gN : ∀ b, b ∉ cs.map (·.2) → G b = none := fun b hb => if_neg hb
  cases hk : K.lookup a with
  | some o =>
    have y := hK a o hk
    rw [ho] at y
    cases y
    refine main G gT (fun b u y hb => by rw [gN b hb] at y; cases y) (.inr ⟨_, us.toArray, _, hk, rfl, rfl, rfl, by rw [List.size_toArray]; exact small, by simpa using rv⟩) (fun b u y => ?_) (fun b y => ?_) fun y => absurd (gN a aNo) y
    · by_cases hb : b ∈ cs.map (·.2)
      · rw [gT b hb] at y
        cases y
        exact atT b hb
      · rw [gN b hb] at y; cases y
    · by_cases hb : b ∈ cs.map (·.2)
      · exact .inr hb
      · exact absurd (gN b hb) y
  | none =>
    let o : Obj := { cls := .type "list", data := .seq us.toArray }
    let H : Hp := fun b => if b = a then some (.frz o (.lst (ns.map V.int))) else G b
    have at_ : H a = some (.frz o (.lst (ns.map V.int))) := if_pos rfl
    have off : ∀ b, b ≠ a → H b = G b := fun b hb => if_neg hb
    have hT : ∀ b ∈ cs.map (·.2), H b = some (.tbl #[]) := fun b hb => (off b (fun y => aNo (y ▸ hb))).trans (gT b hb)
    refine main H hT (fun b u y hnb => ?_) (.inl (.inr ⟨o, at_⟩)) (fun b u y => ?_) (fun b y => ?_) fun _ => hk
    · by_cases hb : b = a
      · subst hb
        rw [at_] at y
        cases y
        exact ⟨_, _, rfl⟩
      · rw [off b hb, gN b hnb] at y; cases y
    · by_cases hb : b = a
      · subst hb
        rw [at_] at y
        cases y
        exact ⟨ho, by rw [List.length_map, ← lv]; exact small, us, _, rv, ho⟩
      · by_cases hm : b ∈ cs.map (·.2)
        · rw [hT b hm] at y
          cases y
          exact atT b hm
        · rw [off b hb, gN b hm] at y; cases y
    · by_cases hb : b = a
      · exact .inl hb
      · by_cases hm : b ∈ cs.map (·.2)
        · exact .inr hm
        · exact absurd ((off b hb).trans (gN b hm)) y
theorem walk_G {l : PySem.W.OpenLaw} {k : Nat} {q : Program} {loose : List Str} {XP : (Str → Option Value) → Heap → Prop} {YP : World → Heap → Prop} {d : DefRec} {K : Params → PySem.W.Frag} {x : Str} {M : FL}
    (hn : l.most = some 63) (hdf : d.params.defaults = []) (hR : Room k callerA) (hY : ∀ (w : World) (h : Heap), YP w h → (K w.params).In h)
    (F : ∀ (w : World) (mg : Str → Option Value) (fa : Addr) (h : Heap), YP w h → (K w.params).In h → h.Ns mainGlobals mg → mg d.name = some (.ref fa) →
      ∃ (fd : FuncData) (T : List (Addr × Str)) (cs : List (Addr × Addr)), TabsAt (K w.params) mg h cs ∧ (∀ p ∈ T, p.1 ∈ cs.map (·.2)) ∧ (∀ (s : Shared) (u : Value), BindsTo s fd ⟨[u], []⟩ [(x, u)]) ∧
        ∀ base : Heap, (K w.params).In base → base.Ns mainGlobals mg → (∀ p ∈ cs, LamX.TabB base mg p.1 p.2) → FnG l.prog w (K w.params) mg base k fa fd [x] (spM (KB (K w.params) T) mg 1 M))
    (hM : ∀ ns : List Int, ns.length ≤ 63 → ∃ B, M [.dat (.list (ns.map PyData.int))] [] = .ok (.dat (.bool true)) B) :
    PySem.W.WalkO q loose XP YP l.row.toRowW d [] (fun f vs => PySem.call f vs) := by
  refine Att.attach_call hn hdf fun w s0 z mg mb fa o pm cd doc a vs ns G Y ho hd hcd hmg hobj hints hlen hg => ?_
  have kin := hY w _ Y
  obtain ⟨fd, T, cs, hC, hTc, hb, hF⟩ := F w mg fa _ Y kin G.T.g hmg
  exact end_call kin G.T.g G.T.b G.T.builtins G.T.nolimit hg hC ⟨G.T.bmain⟩ hTc hobj hints hlen hR hF hb (hM ns hlen)
end Rx
/-! Rx 14: short words for the printed walks. -/
namespace Rx
open PySem L2 PySem.Spec PyProof.Rows Evl

section
variable {X : Cx} {W : WX} {K : KF}
theorem re_blt {x : Str} {i : String} {r : List V → Hp → VK → Prop} {f : FL} {e : Expr} {es : List Expr} {m : MM (List SV)} {p pos : Pos} (cr : CallR X (.builtin i) r) (cs : CaS (kf X W) r f) (h : RA X W (e :: es) m) (hg : Gl X x) (hm : X.mg x = none) (hv : bootBuiltins x = some (.builtin i)) (hn : x ≠ "__name__" := by decide) (hd : (x == ("__debug__" : Str)) = false := by decide)
    (he : starEach (e :: es) X.env = (false, eval e X.env) :: starEach es X.env := by rfl) (hpl : (backTo pos (starEach es X.env)).any (·.1) = false := by rfl) : RE X W (.Call (.Name x p) (e :: es) [] pos) (mCall f m) := by
  obtain ⟨t, q, s⟩ := h
  exact ⟨_, pe_callB cr hg hm hv q hn hd he hpl, sim_cb cs s⟩
theorem rn_blt {x : Str} {i : String} {r : List V → Hp → VK → Prop} {f : List SV → List AO → RR (List PyData)} {e : Expr} {es : List Expr} {m : MM (List SV)} {p pos : Pos} (cr : CallR X (.builtin i) r) (cs : CaN (kf X W) r f) (h : RA X W (e :: es) m) (hg : Gl X x) (hm : X.mg x = none) (hv : bootBuiltins x = some (.builtin i)) (hn : x ≠ "__name__" := by decide) (hd : (x == ("__debug__" : Str)) = false := by decide)
    (he : starEach (e :: es) X.env = (false, eval e X.env) :: starEach es X.env := by rfl) (hpl : (backTo pos (starEach es X.env)).any (·.1) = false := by rfl) : RN X W (.Call (.Name x p) (e :: es) [] pos) (mCallN f m) := by
  obtain ⟨t, q, s⟩ := h
  exact ⟨_, pe_callB cr hg hm hv q hn hd he hpl, simN_cb cs s⟩
theorem re_typ {x : Str} {i : String} {r : List V → Hp → VK → Prop} {f : FL} {e : Expr} {es : List Expr} {m : MM (List SV)} {p pos : Pos} (cr : CallR X (.type i) r) (cs : CaS (kf X W) r f) (h : RA X W (e :: es) m) (hg : Gl X x) (hm : X.mg x = none) (hv : bootBuiltins x = some (.type i)) (hn : x ≠ "__name__" := by decide) (hd : (x == ("__debug__" : Str)) = false := by decide)
    (he : starEach (e :: es) X.env = (false, eval e X.env) :: starEach es X.env := by rfl) (hpl : (backTo pos (starEach es X.env)).any (·.1) = false := by rfl) : RE X W (.Call (.Name x p) (e :: es) [] pos) (mCall f m) := by
  obtain ⟨t, q, s⟩ := h
  exact ⟨_, pe_callTy cr hg hm hv q hn hd he hpl, sim_cb cs s⟩
theorem rn_typ {x : Str} {i : String} {r : List V → Hp → VK → Prop} {f : List SV → List AO → RR (List PyData)} {e : Expr} {es : List Expr} {m : MM (List SV)} {p pos : Pos} (cr : CallR X (.type i) r) (cs : CaN (kf X W) r f) (h : RA X W (e :: es) m) (hg : Gl X x) (hm : X.mg x = none) (hv : bootBuiltins x = some (.type i)) (hn : x ≠ "__name__" := by decide) (hd : (x == ("__debug__" : Str)) = false := by decide)
    (he : starEach (e :: es) X.env = (false, eval e X.env) :: starEach es X.env := by rfl) (hpl : (backTo pos (starEach es X.env)).any (·.1) = false := by rfl) : RN X W (.Call (.Name x p) (e :: es) [] pos) (mCallN f m) := by
  obtain ⟨t, q, s⟩ := h
  exact ⟨_, pe_callTy cr hg hm hv q hn hd he hpl, simN_cb cs s⟩
theorem opS_eq : OpS K (rD gEq K) (f2D gEq) := opS_D fun _ _ _ h => scB h
theorem opS_ne : OpS K (rD gNe K) (f2D gNe) := opS_D fun _ _ _ h => scB h
theorem opS_lt : OpS K (rD gLt K) (f2D gLt) := opS_D fun _ _ _ h => scB h
theorem opS_gt : OpS K (rD gGt K) (f2D gGt) := opS_D fun _ _ _ h => scB h
theorem opS_le : OpS K (rD gLe K) (f2D gLe) := opS_D fun _ _ _ h => scB h
theorem opS_ge : OpS K (rD gGe K) (f2D gGe) := opS_D fun _ _ _ h => scB h
theorem opS_in : OpS K (rD gIn K) (f2D gIn) := opS_D fun _ _ _ h => scIn h
theorem opS_notIn : OpS K (rD gNotIn K) (f2D gNotIn) := opS_D fun _ _ _ h => scNotIn h
theorem ca_repr : CaS K (r1D gReprR K) (f1D gReprR) := caS_1D scReprR
theorem ca_all : CaS K (r1D gAll K) (f1D gAll) := caS_1D scAll
theorem ca_any : CaS K (r1D gAny K) (f1D gAny) := caS_1D scAny
theorem ca_sum : CaS K (r1D gSum K) (f1D gSum) := caS_1D scSum
theorem ca_abs : CaS K (r1D gAbs K) (f1D gAbs) := caS_1D scAbs
theorem ca_int : CaS K (r1D gInt K) (f1D gInt) := caS_1D scInt
end
theorem bt_len : bootBuiltins "len" = some (.builtin "len") := by decide +kernel
theorem bt_repr : bootBuiltins "repr" = some (.builtin "repr") := by decide +kernel
theorem bt_all : bootBuiltins "all" = some (.builtin "all") := by decide +kernel
theorem bt_any : bootBuiltins "any" = some (.builtin "any") := by decide +kernel
theorem bt_sum : bootBuiltins "sum" = some (.builtin "sum") := by decide +kernel
theorem bt_abs : bootBuiltins "abs" = some (.builtin "abs") := by decide +kernel
theorem bt_max : bootBuiltins "max" = some (.builtin "max") := by decide +kernel
theorem bt_min : bootBuiltins "min" = some (.builtin "min") := by decide +kernel
theorem bt_sorted : bootBuiltins "sorted" = some (.builtin "sorted") := by decide +kernel
theorem bt_isinstance : bootBuiltins "isinstance" = some (.builtin "isinstance") := by decide +kernel
theorem bt_int : bootBuiltins "int" = some (.type "int") := by decide +kernel
theorem bt_bool : bootBuiltins "bool" = some (.type "bool") := by decide +kernel
theorem bt_str : bootBuiltins "str" = some (.type "str") := by decide +kernel
theorem bt_tuple : bootBuiltins "tuple" = some (.type "tuple") := by decide +kernel
theorem bt_list : bootBuiltins "list" = some (.type "list") := by decide +kernel
theorem bt_dict : bootBuiltins "dict" = some (.type "dict") := by decide +kernel
theorem bt_range : bootBuiltins "range" = some (.type "range") := by decide +kernel
theorem bt_set : bootBuiltins "set" = some (.type "set") := by decide +kernel
theorem bt_zip : bootBuiltins "zip" = some (.type "zip") := by decide +kernel
theorem bt_enumerate : bootBuiltins "enumerate" = some (.type "enumerate") := by decide +kernel
theorem gl {X : Cx} {x : Str} (h : X.env.kindOf x = some .globalImplicit) : Gl X x := h
def fCallF (M : FL) (n : Nat) : FL := fun xs A => if xs.length = n then (M xs A).quiet else .bad
def aLen (k : Nat) (m : MM (List SV)) : MM (List SV) := fun d A => (m d A).bind fun xs A1 => if xs.length = k then .ok xs A1 else .bad
def fIadd : F2 := fun x y A => match x, y with
  | .dat (.int i), .dat (.int j) => .ok (.dat (.int (i + j))) A
  | _, _ => .bad
/-! sorted(set(x)) -/
def asPairs : List PyData → Option (List (Int × Int))
  | [] => some []
  | .tuple [.int a, .int b] :: r => match asPairs r with
    | some ps => some ((a, b) :: ps)
    | none => none
  | _ => none
def pairLe (p q : Int × Int) : Bool := decide (p.1 < q.1) || (decide (p.1 = q.1) && decide (p.2 ≤ q.2))
def dd {T : Type} [DecidableEq T] : List T → List T
  | [] => []
  | x :: xs => if x ∈ xs then dd xs else x :: dd xs
def setI (ns : List Int) : List Int := sortF (fun a b => decide (a ≤ b)) (dd ns)
theorem setI_eq (ns : List Int) : setI ns = (dd ns).mergeSort (fun a b => decide (a ≤ b)) := sortF_eq _ _
def setP (ps : List (Int × Int)) : List (Int × Int) := sortF pairLe (dd ps)
theorem setP_eq (ps : List (Int × Int)) : setP ps = (dd ps).mergeSort pairLe := sortF_eq _ _
def setD (ds : List PyData) : Option (List PyData) := match asInts ds with
  | some ns => if (setI ns).length < 64 then some ((setI ns).map .int) else none
  | none => match asPairs ds with
    | some ps => if ps.length < 64 ∧ ps.all (fun p => decide (0 ≤ p.1) && decide (p.1 < 64) && decide (0 ≤ p.2) && decide (p.2 < 64)) = true then some ((setP ps).map fun p => .tuple [.int p.1, .int p.2]) else none
    | none => none
def mSSet (m : MM SV) : MM (List PyData) := fun d A => (m d A).bind fun x A1 => match cont A1 x with
  | some ds => match setD ds with
    | some r => .ok r A1
    | none => .bad
  | none => .bad
/-! calls of the text's own defs, the number of arguments told -/
section
variable {X : Cx} {W : WX}
theorem re_cP {k n : Nat} {x : Str} {ps : List Str} {M : FL} {p pos : Pos} {e : Expr} {es : List Expr} {ma : MM (List SV)} (C : Cal X.prog X.w (kf X W).base X.mg X.base k x ps M) (hgd : X.A.guards = some []) (hr : Room k X.A) (ha : RA X W (e :: es) ma) (hg : Gl X x) (hdb : (x == ("__debug__" : Str)) = false) (hn : ps.length = n := by rfl)
    (he : starEach (e :: es) X.env = (false, eval e X.env) :: starEach es X.env := by rfl) (hpl : (backTo pos (starEach es X.env)).any (·.1) = false := by rfl) : RE X W (.Call (.Name x p) (e :: es) [] pos) (mCallP M n ma) := by
  subst hn
  exact re_callP C hgd hr ha hg hdb he hpl
theorem re_cF {k n : Nat} {x : Str} {ps : List Str} {M : FL} {p pos : Pos} {e : Expr} {es : List Expr} {ma : MM (List SV)} (C : Cal X.prog X.w (kf X W).base X.mg X.base k x ps M) (hgd : X.A.guards = some []) (hr : Room k X.A) (ha : RA X W (e :: es) ma) (hg : Gl X x) (hdb : (x == ("__debug__" : Str)) = false) (hn : ps.length = n := by rfl)
    (he : starEach (e :: es) X.env = (false, eval e X.env) :: starEach es X.env := by rfl) (hpl : (backTo pos (starEach es X.env)).any (·.1) = false := by rfl) : RE X W (.Call (.Name x p) (e :: es) [] pos) (mCall (fCallF M n) ma) := by
  subst hn
  exact re_callF C hgd hr ha hg hdb he hpl
theorem rn_cP {k n : Nat} {x : Str} {ps : List Str} {M : FL} {p pos : Pos} {e : Expr} {es : List Expr} {ma : MM (List SV)} (C : Cal X.prog X.w (kf X W).base X.mg X.base k x ps M) (hgd : X.A.guards = some []) (hr : Room k X.A) (ha : RA X W (e :: es) ma) (hg : Gl X x) (hdb : (x == ("__debug__" : Str)) = false) (hn : ps.length = n := by rfl)
    (he : starEach (e :: es) X.env = (false, eval e X.env) :: starEach es X.env := by rfl) (hpl : (backTo pos (starEach es X.env)).any (·.1) = false := by rfl) : RN X W (.Call (.Name x p) (e :: es) [] pos) (mCallN (fCallN M n) ma) := by
  subst hn
  exact rn_callP C hgd hr ha hg hdb he hpl
end
end Rx
/-! Rx 15: sets of ints, of pairs of ints. -/
namespace RxS
open PySem PySem.Spec PyProof.Rows L2

section
variable {P : Program} {w : World} {A : Around} {E : Value → Shared → Prop} {z : Shared}
abbrev newSet (w : World) : Obj := { cls := .type "set", dict := none, data := .set #[] 0 (.fresh 0 0 (!w.params.followText "set-order")) }
/-- the ints of the items, one by one; no more than D of them differ -/
theorem ints_in {I l : Addr} {St : Nat → Heap → Prop} {R : Result → Shared → Prop} {items : Array Value} (W : Walks P w A.in1 I [I, l] [I] items.size (fun i v => items[i]? = some v) St) (S : Addr) (hSf : S ∉ [I, l]) (ns : List Int) (D : Nat) (hn : items.size = ns.length)
    (hD : ∀ ks : List Int, ks.Nodup → (∀ k ∈ ks, k ∈ ns) → ks.length ≤ D) (hb : D + 1 < scanBound) (val : ∀ (i : Nat) (v : Value), items[i]? = some v → ∃ (k : Int) (t : Tok), ns[i]? = some k ∧ v = Value.int k t) :
    ∀ (left i : Nat) (z : Shared), items.size - i = left → i ≤ items.size → St i z.heap → (∃ c, SetR w z.heap S (fun j => decide (j ∈ ns.take i)) c) →
      (∀ y c, Moved [S, I] (fun a b => b = a) z y → SetR w y.heap S (fun j => decide (j ∈ ns)) c → R (.ok (.ret .none)) y) → codeAny (model P w) A (.builtin "set.update.loop" ⟨[.ref S, .ref I], []⟩) R z := by
  have V := W.toS
  have offI : S ∉ [I] := fun h => hSf (V.sub _ h)
  have wide : ∀ b ∈ [I], b ∈ [S, I] := fun b hb => List.mem_cons_of_mem _ hb
  have few : ∀ {h : Heap} {i c : Nat}, SetR w h S (fun j => decide (j ∈ ns.take i)) c → c ≤ D := fun {h i c} hS => by
    obtain ⟨o, es, ep, t, ho, hx, hd, g, nd, hm, hb', hf, hc, _⟩ := hS
    have e : (es.toList.map keyOf).length = c := by rw [List.length_map, Array.length_toList]; exact hc
    rw [← e]
    refine hD _ nd fun k hk => ?_
    have q := (hm k).mpr hk
    exact List.mem_of_mem_take (of_decide_eq_true q)
  intro left
  induction left with
  | zero =>
    intro i z hl hi st ⟨c, hS⟩ done
    obtain rfl : i = items.size := by omega
    refine codeAny_builtin F.entry_set_update_loop ?_
    rw [Around.under_plainId F.plain_set_update_loop _]
    show wpAny _ A.in1 (pyNext (.ref I) >>= _) _ _ z
    refine wpAny_bind (V.done z _ _ st fun y hm => ?_)
    show wpAny _ A.in1 (ret Value.none) _ _ y
    rw [List.take_of_length_le (by omega)] at hS
    exact wpAny_pure (done y c (hm.mono wide) (hS.at fun o e => hm.heap S o offI e))
  | succ left ih =>
    intro i z hl hi st ⟨c, hS⟩ done
    have hlt : i < items.size := by omega
    refine codeAny_builtin F.entry_set_update_loop ?_
    rw [Around.under_plainId F.plain_set_update_loop _]
    show wpAny _ A.in1 (pyNext (.ref I) >>= _) _ _ z
    refine wpAny_bind (V.item i z _ _ hlt st fun v y hv st2 hm => ?_)
    obtain ⟨k, t, hk, rfl⟩ := val i v hv
    have hS2 : SetR w y.heap S (fun j => decide (j ∈ ns.take i)) c := hS.at fun o e => hm.heap S o offI e
    have hc := few hS2
    show wpAny _ A.in1 (holding [Value.int k t] (setAdd S (.int k t)) >>= _) _ _ y
    refine wpAny_bind (wpAny_holding ?_)
    unfold setAdd
    refine wpAny_holding ?_
    refine wpAny_bind ((intKind P w).pyHash (k := k) (intKind_is _ _ _ _) ?_)
    refine setR_add_hashed (s := { y with toks := y.toks + 1 }) hS2 (by omega) fun h2 sb hS3 => ?_
    have hS4 : SetR w h2 S (fun j => decide (j ∈ ns.take (i + 1))) (if decide (k ∈ ns.take i) = true then c else c + 1) := hS3.congr fun j => by
      rw [List.take_add_one, hk]
      simp [List.mem_append]
    refine wpAny_pure ⟨plainId_quiet F.plain_set_update_loop _, ih (i + 1) _ (by omega) hlt (V.frame _ y _ _ st2 (Nat.le_succ _) fun b hb o e => ?_) ⟨_, hS4⟩ fun x c2 hm2 hS5 => ?_⟩
    · rw [sb.2 b (fun q : b = S => hSf (q ▸ hb))]; exact e
    · refine done x c2 (Moved.trans V.gtrans ((hm.mono wide).then_heap (Nat.le_succ _) fun b o hb e => ?_) hm2) hS5
      rw [sb.2 b (fun q : b = S => hb (q ▸ List.mem_cons_self))]; exact e

set_option maxHeartbeats 8000000 in
/-- set(l): what its loop does is told -/
theorem set_shell {l : Addr} {items : Array Value} {Res : Heap → Prop} {Q : Value → Shared → Prop} (hh : A.handled = none) (hl : z.heap.IsList l items ∨ z.heap.IsTuple l items)
    (loop : ∀ (B : Around) (y : Shared) (I : Addr) (St : Nat → Heap → Prop) (R : Result → Shared → Prop), B.in1.handled = none → B.in1.units ≤ A.units + 3 → Walks P w B.in1 I [I, l] [I] items.size (fun i v => items[i]? = some v) St → St 0 y.heap → z.heap.objs.size ∉ [I, l] →
      y.heap.get? z.heap.objs.size = some (newSet w) → (∀ b o, z.heap.get? b = some o → y.heap.get? b = some o) → z.heap.objs.size < I → (∀ x, Moved [z.heap.objs.size, I] (fun a b => b = a) y x → Res x.heap → R (.ok (.ret .none)) x) →
      codeAny (model P w) B (.builtin "set.update.loop" ⟨[.ref z.heap.objs.size, .ref I], []⟩) R y)
    (h : ∀ (h2 : Heap) (tk : Nat), Res h2 → (∀ b o, z.heap.get? b = some o → h2.get? b = some o) → Q (.ref z.heap.objs.size) { z with heap := h2, toks := tk }) :
    wpAny (model P w) A (call (.type "set") [.ref l]) Q E z := by
  obtain ⟨c, tl, hmro⟩ := F.called_set.mro
  have hmade := F.called_set.made
  have hsub := F.called_set.sub
  refine wpAny_call (codeAny_of_tree ?_)
  show wpAny _ _ (callAny (.type "set") _) _ _ _
  refine wpAny_pure ⟨Code.quiet_builtin _ (by decide +kernel), codeAny_builtin F.entry_type_call ?_⟩
  rw [Around.under_plain (weight_type_call_type "set" [.ref l] []) rfl]
  have no1 := F.called_set.notType
  have no2 := F.called_set.canCreate
  have hct := F.typeCall_set_1 (.ref l)
  repeat (any_goals (first | assumption | wp_step))
  refine codeAny_mono (code_set_led1 (.ref l) (E := E) (Q₁ := fun ob y => ob = .ref z.heap.objs.size ∧ y = { z with heap := z.heap.push (newSet w) }) ⟨rfl, rfl⟩) fun r y hr => ?_
  cases r with
  | error e => exact hr
  | ok fl =>
    cases fl with
    | ret ob =>
      obtain ⟨rfl, rfl⟩ := hr
      have hS : (z.heap.push (newSet w)).get? z.heap.objs.size = some (newSet w) := Heap.get?_push_size _ rfl
      have hT : Shared.TypeIs { z with heap := z.heap.push (newSet w) } (.ref z.heap.objs.size) "set" := ⟨_, hS, rfl⟩
      have hli := F.called_set.init.lookup
      have hbi := F.called_set.init.bind (.ref z.heap.objs.size)
      repeat (any_goals (first | assumption | wp_step))
      refine codeAny_mono (codeAny_call_builtin (R := wants (fun r x => r = .none ∧ ∃ h2 tk, x = { z with heap := h2, toks := tk } ∧ Res h2 ∧ (∀ b o, z.heap.get? b = some o → h2.get? b = some o)) E) F.called_set.init.plain F.entry_set_init (check_set_init_1 hT ?_)) fun r2 x hr2 => ?_
      · have h3 : A.in1.in1.in1.handled = none := by simp [hh]
        have hz1 : (z.heap.push (newSet w)).objs.size = z.heap.objs.size + 1 := Heap.size_push ..
        have fin : ∀ (o : Obj) (x : Shared), Moved [z.heap.objs.size, (z.heap.push (newSet w)).objs.size] (fun a b => b = a) { z with heap := (z.heap.push (newSet w)).push o } x → Res x.heap →
            (∃ h2 tk, x = { z with heap := h2, toks := tk } ∧ Res h2 ∧ (∀ b o, z.heap.get? b = some o → h2.get? b = some o)) := fun o x hm hres => by
          obtain ⟨h2, g2, d2, tk2, os2⟩ := x
          obtain rfl : g2 = z.gens := hm.gens
          obtain rfl : d2 = z.drawn := hm.drawn
          obtain rfl : os2 = z.os := hm.os
          refine ⟨h2, tk2, rfl, hres, fun b u e => ?_⟩
          have b0 : b < z.heap.objs.size := Heap.lt_size e
          refine hm.heap b u ?_ (Heap.get?_push_of_some _ (Heap.get?_push_of_some _ e))
          rw [hz1]
          simp only [List.mem_cons, List.not_mem_nil, or_false, not_or]
          exact ⟨Nat.ne_of_lt b0, Nat.ne_of_lt (Nat.lt_succ_of_lt b0)⟩
        rcases hl with hl | hl
        · obtain ⟨ol, hol, hcl, nl, hdl⟩ := hl
          obtain ⟨ocls, odict, odata, oslots⟩ := ol
          simp only at hcl hdl
          subst hcl; subst hdl
          have hol2 : (z.heap.push (newSet w)).get? l = some { cls := .type "list", dict := odict, data := .seq items nl, slots := oslots } := Heap.get?_push_of_some _ hol
          have hsls := F.sub_list_set
          have hslf := F.sub_list_frozenset
          have hne : (Value.type "list" == Value.type "dict") = false := by decide
          have hl1 : (z.heap.push (newSet w)).IsList l items := ⟨_, hol2, rfl, nl, rfl⟩
          unfold Builtin.«set.__init__» noKeywords Builtin.Frozenset.updateFrom
          generalize hPI : pyIter = PI
          wp_walk
          subst hPI
          refine wpAny_pyIter_list hl1 ?_
          refine wpAny_bind (wpAny_runValue ?_)
          have lS : l < z.heap.objs.size := Heap.lt_size hol
          have neI : l ≠ (z.heap.push (newSet w)).objs.size := by rw [hz1]; exact Nat.ne_of_lt (Nat.lt_succ_of_lt lS)
          refine loop _ _ _ _ _ h3 ?_ (Walks.list h3 _ l neI items) ⟨⟨_, Heap.get?_push_size _ rfl, rfl, rfl⟩, (hl1.push _)⟩ ?_ ?_ ?_ ?_ ?_
          · simp
          · rw [hz1]
            simp only [List.mem_cons, List.not_mem_nil, or_false, not_or]
            exact ⟨Nat.ne_of_lt (Nat.lt_succ_self _), Nat.ne_of_gt lS⟩
          · exact Heap.get?_push_of_some _ hS
          · exact fun b u e => Heap.get?_push_of_some _ (Heap.get?_push_of_some _ e)
          · rw [hz1]; exact Nat.lt_succ_self _
          · intro x hm hres
            show wpAny _ _ _ _ _ _
            refine wpAny_pure ?_
            show wpAny _ _ (ret Value.none) _ _ _
            exact wpAny_pure ⟨rfl, fin _ x hm hres⟩
        · obtain ⟨ol, hol, hcl, nl, hdl⟩ := hl
          obtain ⟨ocls, odict, odata, oslots⟩ := ol
          simp only at hcl hdl
          subst hcl; subst hdl
          have hol2 : (z.heap.push (newSet w)).get? l = some { cls := .type "tuple", dict := odict, data := .seq items nl, slots := oslots } := Heap.get?_push_of_some _ hol
          have hsls := F.sub_tuple_set
          have hslf := F.sub_tuple_frozenset
          have hne : (Value.type "tuple" == Value.type "dict") = false := by decide
          have hl1 : (z.heap.push (newSet w)).IsTuple l items := ⟨_, hol2, rfl, nl, rfl⟩
          unfold Builtin.«set.__init__» noKeywords Builtin.Frozenset.updateFrom
          generalize hPI : pyIter = PI
          wp_walk
          subst hPI
          refine wpAny_pyIter_tuple hl1 ?_
          refine wpAny_bind (wpAny_runValue ?_)
          have lS : l < z.heap.objs.size := Heap.lt_size hol
          have neI : l ≠ (z.heap.push (newSet w)).objs.size := by rw [hz1]; exact Nat.ne_of_lt (Nat.lt_succ_of_lt lS)
          refine loop _ _ _ _ _ h3 ?_ (Walks.tuple h3 _ l neI items) ⟨⟨_, Heap.get?_push_size _ rfl, rfl, rfl⟩, (hl1.push _)⟩ ?_ ?_ ?_ ?_ ?_
          · simp
          · rw [hz1]
            simp only [List.mem_cons, List.not_mem_nil, or_false, not_or]
            exact ⟨Nat.ne_of_lt (Nat.lt_succ_self _), Nat.ne_of_gt lS⟩
          · exact Heap.get?_push_of_some _ hS
          · exact fun b u e => Heap.get?_push_of_some _ (Heap.get?_push_of_some _ e)
          · rw [hz1]; exact Nat.lt_succ_self _
          · intro x hm hres
            show wpAny _ _ _ _ _ _
            refine wpAny_pure ?_
            show wpAny _ _ (ret Value.none) _ _ _
            exact wpAny_pure ⟨rfl, fin _ x hm hres⟩
      · cases r2 with
        | error e => exact hr2
        | ok fl2 =>
          cases fl2 with
          | ret r =>
            obtain ⟨rfl, h2, tk, rfl, hres, hk⟩ := hr2
            repeat (any_goals (first | assumption | wp_step))
            exact h _ _ hres hk
          | _ => exact hr2.elim
    | _ => exact hr.elim
end
end RxS
/-! Rx 15: sorted(set(x)). -/
namespace Rx
open PySem L2 PySem.Spec PyProof.Rows Evl

/-! ### plain lists -/
section
variable {T : Type} [DecidableEq T]
theorem mem_dd {k : T} : ∀ {l : List T}, k ∈ dd l ↔ k ∈ l
  | [] => by simp [dd]
  | x :: l => by
    unfold dd
    split
    · rename_i h
      rw [mem_dd (l := l)]
      exact ⟨List.mem_cons_of_mem _, fun q => (List.mem_cons.mp q).elim (fun e => e ▸ h) id⟩
    · rw [List.mem_cons, List.mem_cons, mem_dd (l := l)]
theorem nodup_dd : ∀ l : List T, (dd l).Nodup
  | [] => List.nodup_nil
  | x :: l => by
    unfold dd
    split
    · exact nodup_dd l
    · rename_i h
      exact List.nodup_cons.mpr ⟨fun q => h (mem_dd.mp q), nodup_dd l⟩
theorem dd_len : ∀ l : List T, (dd l).length ≤ l.length
  | [] => Nat.le_refl _
  | x :: l => by
    unfold dd
    have := dd_len l
    split <;> simp <;> omega
theorem few_nodup : ∀ (ks l : List T), ks.Nodup → (∀ k ∈ ks, k ∈ l) → ks.length ≤ l.length
  | [], _, _, _ => Nat.zero_le _
  | k :: ks, l, hn, hs => by
    obtain ⟨h1, h2⟩ := List.nodup_cons.mp hn
    have hk := hs k List.mem_cons_self
    have := few_nodup ks (l.erase k) h2 fun x hx => by
      have hne : x ≠ k := fun e => h1 (e ▸ hx)
      exact (List.mem_erase_of_ne hne).mpr (hs x (List.mem_cons_of_mem _ hx))
    rw [List.length_erase_of_mem hk] at this
    have hp : 0 < l.length := List.length_pos_of_mem hk
    simp
    omega
end
theorem asc_eq {T : Type} {R : T → T → Prop} (no : ∀ a b, R a b → R b a → False) : ∀ (l m : List T), l.Pairwise R → m.Pairwise R → (∀ k, k ∈ l ↔ k ∈ m) → l = m
  | [], [], _, _, _ => rfl
  | [], b :: m, _, _, h => by simpa using (h b).mpr List.mem_cons_self
  | a :: l, [], _, _, h => by simpa using (h a).mp List.mem_cons_self
  | a :: l, b :: m, h1, h2, h => by
    obtain ⟨p1, q1⟩ := List.pairwise_cons.mp h1
    obtain ⟨p2, q2⟩ := List.pairwise_cons.mp h2
    have e : a = b := by
      rcases List.mem_cons.mp ((h a).mp List.mem_cons_self) with z | z
      · exact z
      · rcases List.mem_cons.mp ((h b).mpr List.mem_cons_self) with y | y
        · exact y.symm
        · exact (no _ _ (p1 b y) (p2 a z)).elim
    subst e
    rw [asc_eq no l m q1 q2 fun k => ?_]
    constructor
    · intro hk
      rcases List.mem_cons.mp ((h k).mp (List.mem_cons_of_mem _ hk)) with z | z
      · exact (no k a (z ▸ p1 k hk) (p1 k hk)).elim
      · exact z
    · intro hk
      rcases List.mem_cons.mp ((h k).mpr (List.mem_cons_of_mem _ hk)) with z | z
      · exact (no k a (z ▸ p2 k hk) (p2 k hk)).elim
      · exact z
theorem mem_setI {k : Int} {ns : List Int} : k ∈ setI ns ↔ k ∈ ns := by
  rw [setI_eq]
  rw [List.mem_mergeSort, mem_dd]
theorem len_setI (ns : List Int) : (setI ns).length = (dd ns).length := by
  rw [setI_eq]
  rw [List.length_mergeSort]
theorem asc_setI (ns : List Int) : (setI ns).Pairwise (· < ·) := by
  have s : (setI ns).Pairwise (fun a b => decide (a ≤ b) = true) := by
    rw [setI_eq]
    exact List.pairwise_mergeSort (fun a b c h1 h2 => by simp at *; omega) (fun a b => by simp; omega) _
  have n : (setI ns).Nodup := by
    rw [setI_eq]
    exact (List.mergeSort_perm _ _).nodup_iff.mpr (nodup_dd ns)
  exact (s.and n).imp fun {a b} h => by
    have := of_decide_eq_true h.1
    have := h.2
    omega
theorem mem_setP {k : Int × Int} {ps : List (Int × Int)} : k ∈ setP ps ↔ k ∈ ps := by
  rw [setP_eq]
  rw [List.mem_mergeSort, mem_dd]
def pairLt (p q : Int × Int) : Prop := p.1 < q.1 ∨ (p.1 = q.1 ∧ p.2 < q.2)
theorem asc_setP (ps : List (Int × Int)) : (setP ps).Pairwise pairLt := by
  have s : (setP ps).Pairwise (fun a b => pairLe a b = true) := by
    rw [setP_eq]
    exact List.pairwise_mergeSort (fun a b c h1 h2 => by unfold pairLe at *; simp at *; omega) (fun a b => by unfold pairLe; simp; omega) _
  have n : (setP ps).Nodup := by
    rw [setP_eq]
    exact (List.mergeSort_perm _ _).nodup_iff.mpr (nodup_dd ps)
  exact (s.and n).imp fun {a b} h => by
    obtain ⟨h1, h2⟩ := h
    unfold pairLe at h1
    unfold pairLt
    have h2 : ¬ (a.1 = b.1 ∧ a.2 = b.2) := fun e => h2 (Prod.ext e.1 e.2)
    simp at h1
    omega

/-! ### the rule -/
section
variable {X : Cx} {W : WX} {K : KF}
def SqA (K : PySem.W.Frag) (H : Hp) (a : Addr) (xs : List V) : Prop := SqL K H a xs ∨ SqT K H a xs
def rSI (K : PySem.W.Frag) (x : V) (H : Hp) (Q : VK) : Prop := ∃ (a : Addr) (ns : List Int), x = .ref a ∧ SqA K H a (ns.map V.int) ∧ (dd ns).length < 64 ∧
  ∀ (p : Addr) (out : List Int), out.Pairwise (· < ·) → (∀ k, k ∈ out ↔ k ∈ ns) → H p = none → Q (.ref p) (upd H p (.lst (out.map V.int)))
def rSP (K : PySem.W.Frag) (x : V) (H : Hp) (Q : VK) : Prop := ∃ (a : Addr) (ks : List (Addr × List Int)), x = .ref a ∧ SqA K H a (ks.map fun q => V.ref q.1) ∧ (∀ q ∈ ks, SqT K H q.1 (q.2.map V.int)) ∧ ks.length < 64 ∧ (∀ q ∈ ks, q.2.length = 2 ∧ TS.Bd 64 q.2) ∧
  ∀ (p : Addr) (out : List (Addr × List Int)), (∀ q ∈ out, q ∈ ks) → (∀ q ∈ ks, q.2 ∈ out.map (·.2)) → (out.map (·.2)).Nodup → out.Pairwise (fun q r => TS.code 64 q.2 ≤ TS.code 64 r.2) → H p = none → Q (.ref p) (upd H p (.lst (out.map fun q => V.ref q.1)))
theorem seqA {pins : List (Addr × Obj)} {σ : L2.St} {H : Hp} {s : Shared} {a : Addr} {xs : List V} (I : Inv X pins σ H s) (h : SqA X.K H a xs) : ∃ its, Vals xs its ∧ (s.heap.IsList a its.toArray ∨ s.heap.IsTuple a its.toArray) := by
  rcases h with h | h
  · obtain ⟨its, r, p, _⟩ := I.list h
    exact ⟨its, r, .inl p.isList⟩
  · obtain ⟨its, r, p, _⟩ := I.tuple h
    exact ⟨its, r, .inr p⟩
theorem ints_get : ∀ {ns : List Int} {us : List Value} {i : Nat} {v : Value}, Vals (ns.map V.int) us → us[i]? = some v → ∃ k t, ns[i]? = some k ∧ v = Value.int k t
  | [], _, _, _, .nil, h => by simp at h
  | n :: ns, _, 0, v, .cons r t, h => by
    obtain ⟨tk, e⟩ := r
    simp at h
    exact ⟨n, tk, rfl, by rw [← h, e]⟩
  | n :: ns, _, i + 1, v, .cons r t, h => by
    obtain ⟨k, tk, h1, h2⟩ := ints_get t (i := i) (v := v) (by simpa using h)
    exact ⟨k, tk, by simpa using h1, h2⟩
/-- a new list behind a run that keeps all -/
theorem ep_new {pins : List (Addr × Obj)} {σ : L2.St} {H : Hp} {s t : Shared} {Q : VK} {p : Addr} {vs : List V} {us : List Value} {c : Nat} (I : Inv X pins σ H s) (k : ∀ b o, s.heap.get? b = some o → t.heap.get? b = some o) (hg : t.gens = s.gens) (ho : t.os = s.os) (hp : s.heap.objs.size ≤ p)
    (hl : vs.length ≤ sizeLine) (rv : Vals vs us) (e : t.heap.get? p = some (seqObj "list" us.toArray c)) (q : H p = none → Q (.ref p) (upd H p (.lst vs))) : EP X pins σ Q (.ref p) t := by
  have hn : H p = none := I.hok.fresh hp
  have J : Inv X pins σ (upd H p (.lst vs)) { s with heap := t.heap, gens := t.gens, drawn := t.drawn, toks := t.toks } :=
    I.call (ch := []) (Un.laid k hp hn) (I.hok.laid k hp ⟨hl, us, c, rv, e⟩) (by rw [hg]; exact I.bare) (fun _ y => nomatch y)
  have et : t = { s with heap := t.heap, gens := t.gens, drawn := t.drawn, toks := t.toks } := by
    cases t
    cases s
    cases ho
    rfl
  rw [et]
  exact ⟨.ref p, _, J, rfl, q hn⟩
theorem vals_of_ints : ∀ {us : List Value} {ns : List Int}, IntsAre us ns → Vals (ns.map V.int) us
  | _, _, .nil => .nil
  | _, _, .cons n t r => .cons ⟨t, rfl⟩ (vals_of_ints r)
theorem pe_sset {a : Expr} {ta : TE} {p p2 q pos : Pos} (hc : X.calm = true) (hu : X.A.units + 200 < cLine) (hg : Gl X "sorted") (hm : X.mg "sorted" = none) (hg2 : Gl X "set") (hm2 : X.mg "set" = none) (ha : PE X a ta)
    (na : starEach [a] X.env = (false, eval a X.env) :: starEach [] X.env := by rfl) : PE X (.Call (.Name "sorted" p) [.Call (.Name "set" p2) [a] [] q] [] pos) (fun σ H Q => ta σ H fun x H1 => rSI X.K x H1 Q ∨ rSP X.K x H1 Q) := by
  refine ⟨fun pins s σ H Q I h => ?_⟩
  refine Call_ (ld_blt I hg hm bt_sorted ?_)
  refine PyProof.Rows.callWith_builtin1 (PyProof.Rows.args_cons ?_ rfl) rfl rfl
  refine Call_ (ld_blt I hg2 hm2 bt_set ?_)
  refine PyProof.Rows.callWith_type1 (PyProof.Rows.args_cons (thn (ha.run pins s σ H _ I h) fun v s1 ⟨x, H1, I1, r1, q1⟩ => PyProof.Rows.args_nil ?_) na) na rfl
  have hh := I1.ok.hd hc
  rcases q1 with q1 | q1
  · obtain ⟨l, ns, rfl, hq, hfew, q1⟩ := q1
    cases r1
    obtain ⟨its, rv, hl⟩ := seqA I1 hq
    have hlen : its.toArray.size = ns.length := by rw [List.size_toArray, ← rv.length, List.length_map]
    refine RxS.set_shell (w := X.w) (P := X.prog) (Res := fun h2 => ∃ c, SetR X.w h2 s1.heap.objs.size (fun j => decide (j ∈ ns)) c) hh hl (fun B y I2 St R h3 h4 W st off hS hk hI done => ?_) fun h2 tk ⟨c, hR⟩ hk => ?_
    · refine RxS.ints_in W s1.heap.objs.size off ns 63 hlen (fun ks h5 h6 => ?_) (by decide) (fun i v hv => ints_get rv (by simpa using hv)) (its.toArray.size - 0) 0 y rfl (Nat.zero_le _) st ⟨0, setR_new_at hS⟩ fun x c hm hR => done x hm ⟨c, hR⟩
      have := few_nodup ks (dd ns) h5 fun k hk => mem_dd.mpr (h6 k hk)
      omega
    · refine PyProof.Rows.args_nil ?_
      have I2 : Inv X pins σ H1 { s1 with heap := h2, toks := tk } := I1.kept hk
      have hc64 : c < 64 := by
        obtain ⟨o, es, ep, t, ho, hx, hd, g, nd, hm', hb', hf, hn, _⟩ := hR
        have e : (es.toList.map keyOf).length = c := by rw [List.length_map, Array.length_toList]; exact hn
        rw [← e]
        exact Nat.lt_of_le_of_lt (few_nodup _ (dd ns) nd fun k hk => mem_dd.mpr (of_decide_eq_true ((hm' k).mpr hk))) hfew
      refine sorted_set (s := { s1 with heap := h2, toks := tk }) hR hh hc64 fun s' p out c' ms k g o hp ho hi asc mem _ => ?_
      refine ep_new I2 k g o hp ?_ (vals_of_ints hi) (by simpa using ho) fun hn => q1 p ms asc (fun k => ?_) hn
      · rw [List.length_map]
        have := few_nodup ms (dd ns) (asc.imp fun h e => by omega) fun k hk => mem_dd.mpr (of_decide_eq_true ((mem k).mp hk))
        exact Nat.le_trans (by omega : ms.length ≤ 64) (by decide)
      · rw [mem k]; exact decide_eq_true_iff
  · obtain ⟨l, ks, rfl, hq, hk2, hfew, hbd, q1⟩ := q1
    cases r1
    obtain ⟨its, rv, hl⟩ := seqA I1 hq
    have hrefs : its = ks.map fun q => Value.ref q.1 := refs_of_vals rv
    have hlen : its.toArray.size = ks.length := by rw [List.size_toArray, hrefs, List.length_map]
    have none_of : ∀ b, s1.heap.objs.size ≤ b → s1.heap.get? b = none := fun b hb => by
      cases y : s1.heap.get? b with
      | none => rfl
      | some o => exact absurd (Nat.lt_of_lt_of_le (Heap.lt_size y) hb) (Nat.lt_irrefl _)
    refine RxS.set_shell (w := X.w) (P := X.prog) (Res := fun h2 => ∃ L es ep t, SetTR X.prog X.w h2 s1.heap.objs.size L es ep t ∧ Got ks ks.length L) hh hl (fun B y I2 St R h3 h4 W st off hS hk hI done => ?_) fun h2 tk ⟨L, es, ep, t, hR, got⟩ hk => ?_
    · refine set_update_tups W.toS s1.heap.objs.size off ks hlen hfew (fun i v hv => ?_) s1.heap (fun q hq => I1.isT (hk2 q hq)) (none_of _ (Nat.le_refl _)) (fun b hb => none_of b ?_) (by have := h4; omega) (its.toArray.size - 0) 0 y rfl (Nat.zero_le _) st hk ⟨[], #[], 0, _, setTR_fresh hS, Got.zero ks⟩ fun x L es ep t hm hR got hk3 => done x hm ⟨L, es, ep, t, hR, by rw [← hlen]; exact got⟩
      · have e : its.toArray[i]? = some v := hv
        rw [hrefs] at e
        simp only [List.getElem?_toArray, List.getElem?_map] at e
        cases hq : ks[i]? with
        | none => rw [hq] at e; cases e
        | some q => rw [hq] at e; exact ⟨q, rfl, (Option.some.inj e).symm⟩
      · rw [List.mem_singleton.mp hb]; exact Nat.le_of_lt hI
    · refine PyProof.Rows.args_nil ?_
      have I2 : Inv X pins σ H1 { s1 with heap := h2, toks := tk } := I1.kept hk
      have sub : ∀ q ∈ L, q ∈ ks := fun q hq => List.mem_of_mem_take (got.sub q hq)
      refine sorted_setT (s := { s1 with heap := h2, toks := tk }) (d := 2) (B := 64) hR hh (by decide) (fun q hq => hbd q (sub q hq)) fun s' p out c L' k g o hp ho hout pm pw => ?_
      have hv : Vals (L'.map fun q => V.ref q.1) out.toList := by rw [hout]; exact vals_of_refs L'
      refine ep_new I2 k g o hp ?_ hv (by simpa using ho) fun hn => q1 p L' (fun q hq => sub q (pm.mem_iff.mp hq)) (fun q hq => ?_) ((pm.map (·.2)).nodup_iff.mpr hR.nd) pw hn
      · rw [List.length_map, pm.length_eq]
        exact Nat.le_trans (Nat.le_of_lt hR.few) (by decide)
      · rw [(pm.map (·.2)).mem_iff]
        exact got.all q (by rw [List.take_length]; exact hq)

/-- data that are pairs of ints -/
theorem pairs_at {K : PySem.W.Frag} {s : S3} : ∀ {ds : List PyData} {ps : List (Int × Int)} {vs : List V}, asPairs ds = some ps → DqAll K s.F vs ds → ∃ ks : List (Addr × List Int), vs = ks.map (fun q => V.ref q.1) ∧ ks.map (·.2) = ps.map (fun p => [p.1, p.2]) ∧ ∀ q ∈ ks, SqT K s.F q.1 (q.2.map V.int)
  | [], ps, vs, e, h => by
    cases e
    cases h
    exact ⟨[], rfl, rfl, fun q hq => by cases hq⟩
  | d :: ds, ps, vs, e, h => by
    unfold asPairs at e
    split at e
    · rename_i heq
      cases heq
    · rename_i a b r heq
      cases heq
      split at e
      · rename_i ps' e'
        cases e
        cases h with
        | cons h1 h2 =>
          cases h1 with
          | tup g1 g2 =>
            cases g2 with
            | cons i1 g3 =>
              cases g3 with
              | cons i2 g4 =>
                cases g4
                cases i1
                cases i2
                rename_i ad
                obtain ⟨ks, k1, k2, k3⟩ := pairs_at e' h2
                refine ⟨(ad, [a, b]) :: ks, by rw [k1]; rfl, by simp [k2], fun q hq => ?_⟩
                rcases List.mem_cons.mp hq with y | y
                · rw [y]; exact g1
                · exact k3 q y
      · cases e
    · cases e
theorem refs_dq {K : PySem.W.Frag} {F : Hp} : ∀ (out : List (Addr × List Int)) (ps : List (Int × Int)), (∀ q ∈ out, SqT K F q.1 (q.2.map V.int)) → out.map (·.2) = ps.map (fun p => [p.1, p.2]) → DqAll K F (out.map fun q => V.ref q.1) (ps.map fun p => PyData.tuple [.int p.1, .int p.2])
  | [], [], _, _ => .nil
  | [], _ :: _, _, h => by simp at h
  | _ :: _, [], _, h => by simp at h
  | (a, l) :: out, (x, y) :: ps, hs, h => by
    simp only [List.map_cons, List.cons.injEq] at h
    obtain ⟨h1, h2⟩ := h
    subst h1
    have g := hs (a, [x, y]) List.mem_cons_self
    exact .cons (.tup g (.cons (.int x) (.cons (.int y) .nil))) (refs_dq out ps (fun q hq => hs q (List.mem_cons_of_mem _ hq)) h2)
theorem code2 (p : Int × Int) : TS.code 64 [p.1, p.2] = p.1 * 64 + p.2 := code_pair _ _
theorem rn_sset {e : Expr} {m : MM SV} {p p2 q pos : Pos} (ft : Fit X.A) (hc : X.calm = true) (h : RE X W e m) (hg : Gl X "sorted") (hm : X.mg "sorted" = none) (hg2 : Gl X "set") (hm2 : X.mg "set" = none)
    (na : starEach [e] X.env = (false, eval e X.env) :: starEach [] X.env := by rfl) : RN X W (.Call (.Name "sorted" p) [.Call (.Name "set" p2) [e] [] q] [] pos) (mSSet m) := by
  obtain ⟨t, pe, s⟩ := h
  refine ⟨_, pe_sset hc ft.un hg hm hg2 hm2 pe na, fun s0 A d σ Q hs hσ g => ?_⟩
  refine s s0 A d σ _ hs hσ (Good.mono (Good.bind g) (fun x A1 g1 s1 v p1 hs1 r1 => ?_) (fun _ _ z => z))
  cases hcnt : cont A1 x with
  | none => simp only [hcnt] at g1; exact g1.elim
  | some ds =>
    simp only [hcnt] at g1
    cases hset : setD ds with
    | none => simp only [hset] at g1; exact g1.elim
    | some r =>
      simp only [hset] at g1
      obtain ⟨pp, vs, rfl, hq, dp⟩ := cont_ok hs1 r1 hcnt
      unfold setD at hset
      cases hi : asInts ds with
      | some ns =>
        simp only [hi] at hset
        split at hset
        · rename_i h64
          cases hset
          rw [asInts_eq hi] at dp
          have ev := DqAll.ints dp
          subst ev
          refine .inl ⟨pp, ns, rfl, hq.symm, by rw [← len_setI]; exact h64, fun a out asc mem ha => ?_⟩
          have e : out = setI ns := asc_eq (R := (· < ·)) (fun a b h1 h2 => by omega) _ _ asc (asc_setI ns) fun k => by rw [mem k, mem_setI]
          rw [e]
          exact g1 s1 a _ p1 hs1 ha (DqAll.ofInts _)
        · cases hset
      | none =>
        simp only [hi] at hset
        cases hp : asPairs ds with
        | none => simp only [hp] at hset; cases hset
        | some ps =>
          simp only [hp] at hset
          split at hset
          · rename_i hok
            cases hset
            obtain ⟨ks, k1, k2, k3⟩ := pairs_at hp dp
            subst k1
            have bd : ∀ p ∈ ps, 0 ≤ p.1 ∧ p.1 < 64 ∧ 0 ≤ p.2 ∧ p.2 < 64 := fun p hp => by
              have := List.all_eq_true.mp hok.2 p hp
              simp only [Bool.and_eq_true, decide_eq_true_eq] at this
              exact ⟨this.1.1.1, this.1.1.2, this.1.2, this.2⟩
            have of_ks : ∀ q ∈ ks, ∃ p ∈ ps, q.2 = [p.1, p.2] := fun q hq => by
              have : q.2 ∈ ks.map (·.2) := List.mem_map_of_mem hq
              rw [k2] at this
              obtain ⟨p, h1, h2⟩ := List.mem_map.mp this
              exact ⟨p, h1, h2.symm⟩
            have hlen : ks.length = ps.length := by
              have := congrArg List.length k2
              simpa using this
            refine .inr ⟨pp, ks, rfl, hq.symm, fun q hq => ex_t hs1.sub (k3 q hq), by rw [hlen]; exact hok.1, fun q hq => ?_, fun a out sub all nd pw ha => ?_⟩
            · obtain ⟨p, h1, h2⟩ := of_ks q hq
              have b := bd p h1
              rw [h2]
              refine ⟨rfl, fun n hn => ?_⟩
              simp only [List.mem_cons, List.not_mem_nil, or_false] at hn
              rcases hn with rfl | rfl
              · exact ⟨b.1, b.2.1⟩
              · exact ⟨b.2.2.1, b.2.2.2⟩
            · have e : out.map (·.2) = (setP ps).map (fun p => [p.1, p.2]) := by
                refine asc_eq (R := fun u v => TS.code 64 u < TS.code 64 v) (fun a b h1 h2 => by omega) _ _ ?_ ?_ fun k => ?_
                · refine List.pairwise_map.mpr (List.Pairwise.imp_of_mem (fun {u v} hu hv h => ?_) (pw.and (List.pairwise_map.mp nd)))
                  obtain ⟨pu, u1, u2⟩ := of_ks u (sub u hu)
                  obtain ⟨pv, v1, v2⟩ := of_ks v (sub v hv)
                  obtain ⟨h1, h2⟩ := h
                  rw [u2, v2] at h1 h2 ⊢
                  rw [code2, code2] at h1 ⊢
                  have b1 := bd pu u1
                  have b2 := bd pv v1
                  have ne : ¬ (pu.1 = pv.1 ∧ pu.2 = pv.2) := fun y => h2 (by rw [y.1, y.2])
                  omega
                · refine List.pairwise_map.mpr (List.Pairwise.imp_of_mem (fun {u v} hu hv h => ?_) (asc_setP ps))
                  have b1 := bd u (mem_setP.mp hu)
                  have b2 := bd v (mem_setP.mp hv)
                  rw [code2, code2]
                  unfold pairLt at h
                  omega
                · constructor
                  · intro hk
                    obtain ⟨q, h1, rfl⟩ := List.mem_map.mp hk
                    obtain ⟨pu, u1, u2⟩ := of_ks q (sub q h1)
                    exact List.mem_map.mpr ⟨pu, mem_setP.mpr u1, u2.symm⟩
                  · intro hk
                    obtain ⟨pu, h1, rfl⟩ := List.mem_map.mp hk
                    have : [pu.1, pu.2] ∈ ks.map (·.2) := by rw [k2]; exact List.mem_map.mpr ⟨pu, mem_setP.mp h1, rfl⟩
                    obtain ⟨q, h2, h3⟩ := List.mem_map.mp this
                    rw [← h3]
                    exact all q h2
              exact g1 s1 a _ p1 hs1 ha (refs_dq out _ (fun q hq => k3 q (sub q hq)) e)
          · cases hset
end
end Rx
/-! running the mirrors by simp -/
namespace Rx
open PySem L2 PySem.Spec PyProof.Rows Evl

@[simp] theorem v_bind {T U : Type} (a : T) (A : List AO) (k : T → List AO → RR U) : (RR.ok a A).bind k = k a A := rfl
@[simp] theorem v_toZ {T : Type} (d : DSt) (a : T) (A : List AO) (k : T → List AO → RZ) : (RR.ok a A).toZ d k = k a A := rfl
@[simp] theorem v_quiet {T : Type} (a : T) (A : List AO) : (RR.ok a A).quiet = .ok a A := rfl
@[simp] theorem v_C (x : SV) (d : DSt) (A : List AO) : mC x d A = .ok x A := rfl
@[simp] theorem v_Var (i : Nat) (d : DSt) (A : List AO) : mVar i d A = match d[i]? with | some (some x) => .ok x A | _ => .bad := rfl
@[simp] theorem v_Nil (d : DSt) (A : List AO) : mNil d A = .ok [] A := rfl
@[simp] theorem v_Cons (m : MM SV) (r : MM (List SV)) (d : DSt) (A : List AO) : mCons m r d A = (m d A).bind fun x A1 => (r d A1).bind fun xs A2 => .ok (x :: xs) A2 := rfl
@[simp] theorem v_Star (m : MM SV) (r : MM (List SV)) (d : DSt) (A : List AO) : mStar m r d A = (m d A).bind fun x A1 => match cont A1 x with | some ys => (r d A1).bind fun xs A2 => .ok (ys.map SV.dat ++ xs) A2 | none => .bad := rfl
@[simp] theorem v_Op (f : F2) (a b : MM SV) (d : DSt) (A : List AO) : mOp f a b d A = (a d A).bind fun x A1 => (b d A1).bind fun y A2 => (f x y A2).quiet := rfl
@[simp] theorem v_Un (f : F1) (a : MM SV) (d : DSt) (A : List AO) : mUn f a d A = (a d A).bind fun x A1 => (f x A1).quiet := rfl
@[simp] theorem v_Call (f : FL) (a : MM (List SV)) (d : DSt) (A : List AO) : mCall f a d A = (a d A).bind fun x A1 => (f x A1).quiet := rfl
@[simp] theorem v_CallP (M : FL) (n : Nat) (a : MM (List SV)) (d : DSt) (A : List AO) : mCallP M n a d A = (a d A).bind fun x A1 => (fCallP M n x A1).quiet := rfl
@[simp] theorem v_CallN (f : List SV → List AO → RR (List PyData)) (a : MM (List SV)) (d : DSt) (A : List AO) : mCallN f a d A = (a d A).bind fun x A1 => (f x A1).quiet := rfl
@[simp] theorem v_isB (b : Bool) (A : List AO) : isB (.dat (.bool b)) A = .ok b A := rfl
@[simp] theorem v_B (a : MM SV) (d : DSt) (A : List AO) : mB a d A = (a d A).bind isB := rfl
@[simp] theorem v_And (a b : MM Bool) (d : DSt) (A : List AO) : mAnd a b d A = (a d A).bind fun c A1 => if c = true then b d A1 else .ok false A1 := rfl
@[simp] theorem v_Or (a b : MM Bool) (d : DSt) (A : List AO) : mOr a b d A = (a d A).bind fun c A1 => if c = true then .ok true A1 else b d A1 := rfl
@[simp] theorem v_Not (a : MM Bool) (d : DSt) (A : List AO) : mNot a d A = (a d A).bind fun c A1 => .ok (!c) A1 := rfl
@[simp] theorem v_Bl (a : MM Bool) (d : DSt) (A : List AO) : mBl a d A = (a d A).bind fun c A1 => .ok (.dat (.bool c)) A1 := rfl
@[simp] theorem v_If {T : Type} (c : MM Bool) (a b : MM T) (d : DSt) (A : List AO) : mIf c a b d A = (c d A).bind fun k A1 => if k = true then a d A1 else b d A1 := rfl
@[simp] theorem v_Tup (a : MM (List SV)) (d : DSt) (A : List AO) : mTup a d A = (a d A).bind fTup := rfl
@[simp] theorem v_Lst (a : MM (List SV)) (d : DSt) (A : List AO) : mLst a d A = (a d A).bind fLst := rfl
@[simp] theorem v_Frz (m : MM (List PyData)) (d : DSt) (A : List AO) : mFrz m d A = (m d A).bind fun ds A1 => .ok (.dat (.list ds)) A1 := rfl
@[simp] theorem v_Mut (m : MM (List PyData)) (d : DSt) (A : List AO) : mMut m d A = (m d A).bind fun ds A1 => .ok (.ref A1.length) (A1 ++ [.lst ds]) := rfl
@[simp] theorem v_CatL (a b : MM SV) (d : DSt) (A : List AO) : mCatL a b d A = (a d A).bind fun x A1 => (b d A1).bind fun y A2 => match toD A2 x, toD A2 y with | some (.list xs), some (.list ys) => if sz (xs.length + ys.length) then .ok (xs ++ ys) A2 else .bad | _, _ => .bad := rfl
@[simp] theorem v_Part (m : MM SV) (d : DSt) (A : List AO) : mPart m d A = (m d A).bind fun x A1 => match x with | .dat (.int i) => .ok (some i) A1 | _ => .bad := rfl
@[simp] theorem v_NoPart (d : DSt) (A : List AO) : mNoPart d A = .ok none A := rfl
@[simp] theorem v_SlT (a : MM SV) (lo hi : MM (Option Int)) (d : DSt) (A : List AO) : mSlT a lo hi d A = (a d A).bind fun x A1 => (lo d A1).bind fun i A2 => (hi d A2).bind fun j A3 => match x with | .dat (.tuple xs) => .ok (.dat (.tuple (cutD xs i j))) A3 | _ => .bad := rfl
@[simp] theorem v_SlL (a : MM SV) (lo hi : MM (Option Int)) (d : DSt) (A : List AO) : mSlL a lo hi d A = (a d A).bind fun x A1 => (lo d A1).bind fun i A2 => (hi d A2).bind fun j A3 => match toD A3 x with | some (.list xs) => .ok (cutD xs i j) A3 | _ => .bad := rfl
@[simp] theorem v_Seq (m : MM SV) (d : DSt) (A : List AO) : mSeq m d A = (m d A).bind fun x A1 => match seqD x with | some xs => .ok (xs.map .dat) A1 | none => .bad := rfl
@[simp] theorem v_seqL (xs : List PyData) : seqD (.dat (.list xs)) = some xs := rfl
@[simp] theorem v_seqT (xs : List PyData) : seqD (.dat (.tuple xs)) = some xs := rfl
@[simp] theorem v_Enum (m : MM SV) (d : DSt) (A : List AO) : mEnum m d A = (m d A).bind fun x A1 => match seqD x with | some xs => .ok (numb 0 xs) A1 | none => .bad := rfl
@[simp] theorem v_Rng (m : MM (List SV)) (d : DSt) (A : List AO) : mRng m d A = (m d A).bind fun xs A1 => match fRng xs with | some ys => .ok ys A1 | none => .bad := rfl
@[simp] theorem v_RngC (m : MM (List SV)) (d : DSt) (A : List AO) : mRngC m d A = (m d A).bind fun xs A1 => match fRngC xs with | some ys => .ok ys A1 | none => .bad := rfl
@[simp] theorem v_aLen (k : Nat) (m : MM (List SV)) (d : DSt) (A : List AO) : aLen k m d A = (m d A).bind fun xs A1 => if xs.length = k then .ok xs A1 else .bad := rfl
@[simp] theorem v_Zip (m : MM (List SV)) (d : DSt) (A : List AO) : mZip m d A = (m d A).bind fun xs A1 => match fZip xs with | some ys => .ok ys A1 | none => .bad := rfl
@[simp] theorem v_SSet (m : MM SV) (d : DSt) (A : List AO) : mSSet m d A = (m d A).bind fun x A1 => match cont A1 x with | some ds => (match setD ds with | some r => .ok r A1 | none => .bad) | none => .bad := rfl
@[simp] theorem v_Yes (d : DSt) (A : List AO) : mYes d A = .ok true A := rfl
@[simp] theorem v_toD (d : PyData) (A : List AO) : toD A (.dat d) = some d := rfl
@[simp] theorem v_contL (xs : List PyData) (A : List AO) : cont A (.dat (.list xs)) = some xs := rfl
@[simp] theorem v_contT (xs : List PyData) (A : List AO) : cont A (.dat (.tuple xs)) = some xs := rfl
@[simp] theorem v_contI (i : Int) (A : List AO) : cont A (.dat (.int i)) = none := rfl
@[simp] theorem v_tup (xs : List SV) (A : List AO) : fTup xs A = match dats xs with | some ds => if sz ds.length then .ok (.dat (.tuple ds)) A else .bad | none => .bad := rfl
@[simp] theorem v_lst (xs : List SV) (A : List AO) : fLst xs A = match dats xs with | some ds => if sz ds.length then .ok ds A else .bad | none => .bad := rfl
@[simp] theorem v_dats0 : dats [] = some [] := rfl
@[simp] theorem v_dats1 (d : PyData) (xs : List SV) : dats (.dat d :: xs) = match dats xs with | some ds => some (d :: ds) | none => none := rfl
@[simp] theorem v_zSeq (a b : MS) (d : DSt) (A : List AO) : zSeq a b d A = match a d A with | .nx d1 A1 => b d1 A1 | r => r := rfl
@[simp] theorem v_zNil (d : DSt) (A : List AO) : zNil d A = .nx d A := rfl
@[simp] theorem v_zRet (m : MM SV) (d : DSt) (A : List AO) : zRet m d A = (m d A).toZ d fun x A1 => .rt x A1 := rfl
@[simp] theorem v_zDrop (m : MM SV) (d : DSt) (A : List AO) : zDrop m d A = (m d A).toZ d fun _ A1 => .nx d A1 := rfl
@[simp] theorem v_zAsg (m : MM SV) (f : TgF) (d : DSt) (A : List AO) : zAsg m f d A = (m d A).toZ d fun x A1 => match f x d with | some d1 => .nx d1 A1 | none => .bad := rfl
@[simp] theorem v_zAsgM (m : MM (List PyData)) (i : Nat) (d : DSt) (A : List AO) : zAsgM m i d A = (m d A).toZ d fun ds A1 => .nx (d.set i (some (.ref A1.length))) (A1 ++ [.lst ds]) := rfl
@[simp] theorem v_zIf (c : MM Bool) (a b : MS) (d : DSt) (A : List AO) : zIf c a b d A = (c d A).toZ d fun k A1 => if k = true then a d A1 else b d A1 := rfl
@[simp] theorem v_zPar (i j : Nat) (m : MM (List SV)) (d : DSt) (A : List AO) : zPar i j m d A = (m d A).toZ d fun xs A1 => match xs with | [x, y] => .nx ((d.set i (some x)).set j (some y)) A1 | _ => .bad := rfl
@[simp] theorem v_zFor (mi : MM (List SV)) (f : TgF) (b : MS) (d : DSt) (A : List AO) : zFor mi f b d A = (mi d A).toZ d fun xs A1 => forLoop f b xs d A1 := rfl
@[simp] theorem v_zWhile (c : MM Bool) (b : MS) (d : DSt) (A : List AO) : zWhile c b d A = whileLoop c b fuel d A := rfl
@[simp] theorem v_gtName (i : Nat) (x : SV) (d : DSt) : gtName i x d = some (d.set i (some x)) := rfl
@[simp] theorem v_gtTup (n : Nat) (g : TgsF) (ds : List PyData) (d : DSt) : gtTup n g (.dat (.tuple ds)) d = if ds.length = n then g ds d else none := rfl
@[simp] theorem v_gtNil (d : DSt) : gtNil [] d = some d := rfl
@[simp] theorem v_gtCons (f : TgF) (g : TgsF) (x : PyData) (r : List PyData) (d : DSt) : gtCons f g (x :: r) d = match f (.dat x) d with | some d1 => g r d1 | none => none := rfl
@[simp] theorem v_Lc (vs : List Nat) (mi : MM (List SV)) (f : TgF) (tt : MM Bool) (el : MM SV) (d : DSt) (A : List AO) : mLc vs mi f tt el d A = (mi d A).bind fun xs A1 => (lcGo f tt el (dwipe d vs) xs A1).quiet.bind fun r A2 => if sz r.length then .ok r A2 else .bad := rfl
@[simp] theorem v_wipe0 (d : DSt) : dwipe d [] = d := rfl
@[simp] theorem v_wipe1 (d : DSt) (v : Nat) (vs : List Nat) : dwipe d (v :: vs) = (dwipe d vs).set v none := rfl
@[simp] theorem v_CallF (M : FL) (n : Nat) (xs : List SV) (A : List AO) : fCallF M n xs A = if xs.length = n then (M xs A).quiet else .bad := rfl
/-! on ints -/
@[simp] theorem i_add (i j : Int) (A : List AO) : fAdd (.dat (.int i)) (.dat (.int j)) A = .ok (.dat (.int (i + j))) A := rfl
@[simp] theorem i_sub (i j : Int) (A : List AO) : fSub (.dat (.int i)) (.dat (.int j)) A = .ok (.dat (.int (i - j))) A := rfl
@[simp] theorem i_mul (i j : Int) (A : List AO) : fMul (.dat (.int i)) (.dat (.int j)) A = if mulOk i j then .ok (.dat (.int (i * j))) A else .bad := rfl
@[simp] theorem i_fdv (i j : Int) (A : List AO) : fFdv (.dat (.int i)) (.dat (.int j)) A = if decide (0 < j) && decide (j.natAbs.log2 < 9000) then .ok (.dat (.int (i / j))) A else .bad := rfl
@[simp] theorem i_mod (i j : Int) (A : List AO) : fMod (.dat (.int i)) (.dat (.int j)) A = if 0 < j then .ok (.dat (.int (i % j))) A else .bad := rfl
@[simp] theorem i_neg (i : Int) (A : List AO) : fNeg (.dat (.int i)) A = .ok (.dat (.int (-i))) A := rfl
theorem okI (i : Int) : okD (.int i) = true := by
  simp [okD, PyData.plain, PyData.depth]
@[simp] theorem i_eq (i j : Int) (A : List AO) : f2D gEq (.dat (.int i)) (.dat (.int j)) A = .ok (.dat (.bool (decide (i = j)))) A := by
  simp [f2D, gEq, okI, PyData.eqv, Bool.beq_eq_decide_eq]
@[simp] theorem i_ne (i j : Int) (A : List AO) : f2D gNe (.dat (.int i)) (.dat (.int j)) A = .ok (.dat (.bool (decide (i ≠ j)))) A := by
  simp [f2D, gNe, okI, PyData.eqv, Bool.beq_eq_decide_eq]
theorem okCI (i j : Int) : okC (.int i) (.int j) = true := by
  simp [okC, okI, PySem.W.alike]
@[simp] theorem i_lt (i j : Int) (A : List AO) : f2D gLt (.dat (.int i)) (.dat (.int j)) A = .ok (.dat (.bool (decide (i < j)))) A := by
  simp [f2D, gLt, okCI, PySem.W.dataLt_int]
@[simp] theorem i_gt (i j : Int) (A : List AO) : f2D gGt (.dat (.int i)) (.dat (.int j)) A = .ok (.dat (.bool (decide (j < i)))) A := by
  simp [f2D, gGt, okCI, PySem.W.dataLt_int]
@[simp] theorem i_le (i j : Int) (A : List AO) : f2D gLe (.dat (.int i)) (.dat (.int j)) A = .ok (.dat (.bool (decide (i ≤ j)))) A := by
  simp [f2D, gLe, okCI, PySem.W.dataLt_int]
  by_cases h : i ≤ j <;> simp [h] <;> omega
@[simp] theorem i_ge (i j : Int) (A : List AO) : f2D gGe (.dat (.int i)) (.dat (.int j)) A = .ok (.dat (.bool (decide (j ≤ i)))) A := by
  simp [f2D, gGe, okCI, PySem.W.dataLt_int]
  by_cases h : j ≤ i <;> simp [h] <;> omega
@[simp] theorem i_abs (i : Int) (A : List AO) : f1D gAbs [.dat (.int i)] A = .ok (.dat (.int (if i < 0 then -i else i))) A := rfl
@[simp] theorem i_int (i : Int) (A : List AO) : f1D gInt [.dat (.int i)] A = .ok (.dat (.int i)) A := rfl
@[simp] theorem b_int (b : Bool) (A : List AO) : f1D gInt [.dat (.bool b)] A = .ok (.dat (.int (if b then 1 else 0))) A := rfl
@[simp] theorem l_len (xs : List PyData) (A : List AO) : fLen [.dat (.list xs)] A = .ok (.dat (.int (xs.length : Nat))) A := rfl
@[simp] theorem t_len (xs : List PyData) (A : List AO) : fLen [.dat (.tuple xs)] A = .ok (.dat (.int (xs.length : Nat))) A := rfl
@[simp] theorem t_isi (T : String) (d : PyData) (A : List AO) : fIsi T (.dat d) A = .ok (.dat (.bool (isD T d))) A := rfl
theorem pr_of {n : Nat} {ms : MS} {xs : List SV} {y : PyData} {A : List AO} (h : ms (xs.map some ++ List.replicate (n - xs.length) none) [] = .rt (.dat y) A) : pureRun (mfn n ms) xs = some y := by
  unfold pureRun mfn
  rw [h]
theorem fCallP_run {M : FL} {n : Nat} {xs : List SV} {y : PyData} (A : List AO) (hp : pureRun M xs = some y) (hl : xs.length = n := by rfl) (hd : xs.all isDat = true := by rfl) : fCallP M n xs A = .ok (.dat y) A := by
  unfold fCallP
  rw [if_pos ⟨hl, hd⟩, hp]
end Rx
/-! Rx 16: defs with a star parameter. -/
namespace Rx
open PySem L2 PySem.Spec PyProof.Rows Evl

/-- the promise, the number of arguments left to M -/
def spS (K : KF) (mg : Str → Option Value) (M : FL) : Sp := fun vs H Q E => ∃ (s : S3) (A : List AO) (xs : List SV), s.H = H ∧ SR K s A ∧ RVs K s xs vs ∧
  Good (M xs A) (fun x A' => ∀ (t : S3) (v : V), Post s t → SR K t A' → RV K t x v → Q v t.H) (fun x A' => ∀ t : S3, Post s t → SR K t A' → ∀ cls dd, XRep K mg x cls dd t → E cls dd t.H)
/-- what is left over behind n arguments, as one tuple -/
def fStar (n : Nat) (M : FL) : FL := fun xs A => match dats (xs.drop n) with
  | some ds => if sz ds.length = true ∧ n ≤ xs.length then M (xs.take n ++ [.dat (.tuple ds)]) A else .bad
  | none => .bad
def FnRG (P : Program) (w : World) (K : PySem.W.Frag) (mg : Str → Option Value) (base : Heap) (k : Nat) (f : Addr) (sp : Sp) : Prop :=
  ∀ (A : Around) (outer : List Env) (s : Shared) (H : Hp) (us : List Value) (vs : List V) (Q : VK) (E : XK), A.guards = some [] → Room k A → Env0 P w K mg base A outer s H → Vals vs us → sp vs H Q E →
    codeAny (model P w) A (.call (.ref f) ⟨us, []⟩) (CR (L2.CX P w) outer P w H s Q E) s
structure CalS (P : Program) (w : World) (K : KF) (mg : Str → Option Value) (base : Heap) (k : Nat) (x : Str) (M : FL) : Prop where
  ex : ∃ f, mg x = some (.ref f) ∧ PySem.W.keepIn K (.ref f) = true ∧ FnRG P w K mg base k f (spS K mg M)
/-- a def of the module with a star parameter, under its name -/
structure DfdS (K : PySem.W.Frag) (mg : Str → Option Value) (x qual : Str) (st : Stmt) (ps : List Str) (pv : Str) : Prop where
  ex : ∃ f fd, mg x = some (.ref f) ∧ Fun K x qual st f fd ∧ ∀ us rest : List Value, us.length = ps.length → bindArgs fd ⟨us ++ rest, []⟩ = (newTuple rest >>= fun t => pure (ps.zip us ++ [(pv, t)]))
theorem rvs_take {K : PySem.W.Frag} {s : S3} : ∀ (n : Nat) {xs : List SV} {vs : List V}, RVs K s xs vs → RVs K s (xs.take n) (vs.take n) ∧ RVs K s (xs.drop n) (vs.drop n)
  | 0, _, _, h => ⟨rfl, h⟩
  | n + 1, [], _, h => by
    rw [show _ = [] from h]
    exact ⟨rfl, rfl⟩
  | n + 1, x :: xs, _, ⟨v, r, e, h1, h2⟩ => by
    obtain ⟨a, b⟩ := rvs_take n h2
    subst e
    exact ⟨⟨v, r.take n, rfl, h1, a⟩, b⟩
section
variable {P : Program} {w : World} {K : KF} {mg : Str → Option Value} {base : Heap}
theorem cals_of {x qual : Str} {st : Stmt} {N ps : List Str} {pv : Str} {k : Nat} {ms : MS} (Df : DfdS K mg x qual st ps pv) (S : FnScope N (ps ++ [pv]) (defScope st))
    (hb : ∀ (f : Addr) (cdv : Value) (A : Around) (outer : List Env) (s : Shared) (H : Hp) (E : XK), A.guards = some [] → Room k (A.deeper (envOfC qual (defScope st) s.heap.objs.size f cdv)) → RSs (BX P w K mg base N qual st f cdv A outer s H E) (Wd K mg E) (defBody st) ms) :
    CalS P w K mg base (k + 1) x (fStar ps.length (mfn N.length ms)) := by
  obtain ⟨f, fd, hm, F, hbind⟩ := Df.ex
  refine ⟨f, hm, F.kp, ?_⟩
  obtain ⟨oc, od, kV, doc, pm, an, cdv, ct, osl, rfl, lk, hcd⟩ := F.ex
  intro A outer s0 H us vs Q E hg hr e0 r ⟨s, A0, xs, eH, hs, hv, g⟩
  unfold fStar at g
  split at g
  · rename_i ds hds
    split at g
    · rename_i hc
      obtain ⟨hz, hn⟩ := hc
      have lv := RVs.length hv
      obtain ⟨hv1, hv2⟩ := rvs_take ps.length hv
      have dp := dats_ok hv2 hds
      have ev : vs = vs.take ps.length ++ vs.drop ps.length := (List.take_append_drop _ _).symm
      rw [ev] at r
      obtain ⟨u1, u2, rfl, r1, r2⟩ := StX.vals_split r
      have l1 : u1.length = ps.length := by rw [← r1.length, List.length_take]; omega
      have fresh : H s0.heap.objs.size = none := e0.hok.fresh (Nat.le_refl _)
      have small : (vs.drop ps.length).length ≤ sizeLine := by rw [DqAll.length dp]; exact Nat.le_of_lt (sz_ok hz)
      subst eH
      have inK : K.K.In s0.heap := e0.mod.kin.keeps fun b o y => (e0.bs b o y).1
      refine codeAny_call_function hr.depth (inK _ _ lk) rfl S.co S.gen rfl (PySem.W.codeRec_of inK hcd) ?_
      rw [hbind u1 u2 l1]
      refine wpAny_bind (wpAny_newTuple (wpAny_pure ?_) (by rw [← r2.length]; exact small))
      let o : Obj := { cls := .type "tuple", data := .seq u2.toArray }
      let s1 : Shared := { s0 with heap := s0.heap.push o }
      have new : ObjOk P w (upd s.H s0.heap.objs.size (.tup (vs.drop ps.length))) (s0.heap.push o) s0.heap.objs.size (.tup (vs.drop ps.length)) := ⟨small, u2, r2, ⟨_, Heap.get?_push_size _ rfl, rfl, _, rfl⟩⟩
      have e2 : Env0 P w K mg base A outer s1 (upd s.H s0.heap.objs.size (.tup (vs.drop ps.length))) := StX.env0_laid e0 new
      have un := StX.un_laid (fs := frs outer) (s := s0) (o := o) (u := .tup (vs.drop ps.length)) fresh
      have nolim : s1.heap.NoLimit := e0.mod.nolimit.keeps fun b u y => (e2.bs b u y).1
      have rvals : Vals (vs.take ps.length ++ [V.ref s0.heap.objs.size]) (u1 ++ [Value.ref s0.heap.objs.size]) := r1.append (.cons rfl .nil)
      have zip : ps.zip u1 ++ [(pv, Value.ref s0.heap.objs.size)] = (ps ++ [pv]).zip (u1 ++ [Value.ref s0.heap.objs.size]) := by
        rw [List.zip_append l1.symm]; rfl
      rw [zip]
      have kinds : ∀ y ∈ (ps ++ [pv]).zip (u1 ++ [Value.ref s0.heap.objs.size]), (defScope st).names.lookup y.1 = some .local ∨ ((defScope st).names.lookup y.1 = some .cell ∧ ((cellsFrom (s1.heap.objs.size + 1) (defScope st).names []).lookup y.1).isSome = true) := fun y hy => by
        rcases S.par y.1 (List.of_mem_zip hy).1 with q | q
        · exact .inl q
        · exact .inr ⟨q, PySem.W.cellsFrom_some _ _ _ (.inl q)⟩
      refine wpAny_newFunctionEnv_cells (s := s1) S.kind kinds fun env he s2 xx => ?_
      subst he
      refine ⟨nolim.keeps xx.toInCall.keep, codeAny_func ?_⟩
      have hr2 : Room k (A.deeper (envOfC qual (defScope st) s1.heap.objs.size f cdv)) := hr.deeper _
      obtain ⟨t, ht, sm⟩ := hb f cdv A outer s1 (upd s.H s0.heap.objs.size (.tup (vs.drop ps.length))) E hg hr2
      have ll : (vs.take ps.length ++ [V.ref s0.heap.objs.size]).length = (ps ++ [pv]).length := by
        rw [List.length_append, List.length_append, List.length_take]; simp; omega
      have I : Inv (cxOf (L2.CX P w) P w K mg base N qual (defScope st) f cdv A outer s1 (upd s.H s0.heap.objs.size (.tup (vs.drop ps.length))) E) [] (L2.start N (vs.take ps.length ++ [V.ref s0.heap.objs.size])) (upd s.H s0.heap.objs.size (.tup (vs.drop ps.length))) s2 := inv_start S hr.hd e2 ll rvals xx
      -- the state with the new tuple
      have hs2 : SR K (s.newF s0.heap.objs.size (.tup (vs.drop ps.length))) A0 := hs.newF fresh _
      have p2 : Post s (s.newF s0.heap.objs.size (.tup (vs.drop ps.length))) := Post.newF hs fresh _
      have hv3 : RVs K (s.newF s0.heap.objs.size (.tup (vs.drop ps.length))) (xs.take ps.length ++ [SV.dat (PyData.tuple ds)]) (vs.take ps.length ++ [V.ref s0.heap.objs.size]) :=
        RVs.app (RVs.up p2 hv1) ⟨_, [], rfl, hs.newTup fresh dp, rfl⟩
      have hst := rst_start N.length hv3
      have run := sm _ A0 _ _ { nx := fun _ H' => Q .non H', rt := Q } hs2 hst (by
        unfold mfn at g
        cases hm2 : ms ((xs.take ps.length ++ [SV.dat (PyData.tuple ds)]).map some ++ List.replicate (N.length - (xs.take ps.length ++ [SV.dat (.tuple ds)]).length) none) A0 with
        | nx d A1 =>
          rw [hm2] at g
          exact fun t1 σ1 q1 h1 _ => g t1 .non (p2.trans q1) h1 .non
        | rt y A1 =>
          rw [hm2] at g
          exact fun t1 v q1 h1 rr => g t1 v (p2.trans q1) h1 rr
        | bk d A1 => rw [hm2] at g; exact g.elim
        | ct d A1 => rw [hm2] at g; exact g.elim
        | exc x d A1 =>
          rw [hm2] at g
          exact fun t1 σ1 q1 h1 _ => g t1 (p2.trans q1) h1
        | bad => rw [hm2] at g; exact g.elim)
      have up : ∀ (u : Value) (s' : Shared), L2.CX P w outer (upd s.H s0.heap.objs.size (.tup (vs.drop ps.length))) s1 E u s' → L2.CX P w outer s.H s0 E u s' := fun u s' => StX.cxUp outer s0 s.H _ _ E u s' un (fun b o q => Heap.get?_push_of_some _ q) rfl
      refine wpAny_mono (ht.run [] s2 _ _ _ I run) (fun fl s' h2 => ?_) fun e s' h2 => wpAny_mono h2 (fun _ s'' y => up e s'' y) fun e' s'' y => up e' s'' y
      have fin : ∀ {σ' : L2.St} {H' : Hp} {v : V} {u : Value}, Inv (cxOf (L2.CX P w) P w K mg base N qual (defScope st) f cdv A outer s1 (upd s.H s0.heap.objs.size (.tup (vs.drop ps.length))) E) [] σ' H' s' → RelV v u → Q v H' → CE outer P w s.H s0 Q u s' :=
        fun {σ' H' v u} J rv q => ⟨v, H', J.os, J.bare, un.trans J.base, J.hok, rv, q⟩
      cases fl with
      | ret u =>
        obtain ⟨v, σ', H', J, rv, q⟩ := h2
        exact fin J rv q
      | next =>
        obtain ⟨σ', H', J, q⟩ := h2
        exact fin (v := V.non) (u := Value.none) J rfl q
      | brk =>
        obtain ⟨_, _, _, q⟩ := h2
        exact q.elim
      | cont =>
        obtain ⟨_, _, _, q⟩ := h2
        exact q.elim
    · exact g.elim
  · exact g.elim
end
def fCallPS (M : FL) : FL := fun xs A1 => if xs.all isDat = true then
    match pureRun M xs with
    | some y => .ok (.dat y) A1
    | none => .bad
  else .bad
end Rx
/-! Rx 17: calls of defs with a star parameter. -/
namespace Rx
open PySem L2 PySem.Spec PyProof.Rows Evl
theorem spS_pure {K : KF} {mg : Str → Option Value} {M : FL} : CaS K (fun vs H Q => spS K.base mg M vs H Q E0) (fCallPS M) := by
  intro s A xs vs Q hs hv g
  unfold fCallPS at g
  split at g
  · rename_i hc
    refine ⟨⟨s.F, s.H, []⟩, [], xs, rfl, sr_pure hs, rvs_pure hv hc, ?_⟩
    unfold pureRun at g
    cases hm : M xs [] with
    | ok y A2 =>
      rw [hm] at g
      cases y with
      | dat y =>
        have g : Good (RR.ok (SV.dat y) A) _ _ := g
        intro t v p ht r
        obtain ⟨p2, h2⟩ := behind_pure hs p ht.sub ht.tb
        exact g ⟨t.F, t.H, s.mu⟩ v p2 h2 r
      | ref i =>
        cases hA : A2[i]? with
        | none => simp only [hA] at g; exact g.elim
        | some o =>
          cases o with
          | lst ys =>
            simp only [hA] at g
            have g : Good (RR.ok (SV.dat (.list ys)) A) _ _ := g
            rintro t v p ht ⟨a, rfl, ea⟩
            obtain ⟨ws, e1, e2⟩ := ht.obj i a ys ea hA
            have am : a ∈ t.mu := List.mem_of_getElem? ea
            have aF : t.F a = none := ht.dis a am
            have aH : s.H a = none := by
              obtain ⟨nu, e, nn⟩ := p.pre
              have e : t.mu = [] ++ nu := e
              rw [List.nil_append] at e
              exact nn a (e ▸ am)
            have p' : Post ⟨s.F, s.H, []⟩ ⟨upd t.F a (.lst ws), t.H, t.mu⟩ := by
              refine ⟨p.fx.trans (Ex.new aF), fun b o e => ?_, p.pre, p.keep, p.dom⟩
              have e : upd t.F a (.lst ws) b = some o := e
              by_cases hb : b = a
              · subst hb; exact .inr aH
              · rw [upd_ne hb] at e; exact p.fnew b o e
            have hsub : Ex (upd t.F a (.lst ws)) t.H := fun b o e => by
              by_cases hb : b = a
              · subst hb; rw [upd_same] at e; rw [e1, ← e]
              · rw [upd_ne hb] at e; exact ht.sub b o e
            obtain ⟨p2, h2⟩ := behind_pure hs p' hsub (fun q hq => (ht.tb q hq).upL aF e1)
            exact g ⟨upd t.F a (.lst ws), t.H, s.mu⟩ (.ref a) p2 h2 (.lst (sq_of (show upd t.F a (.lst ws) a = _ from upd_same)) (DqAll.up (Ex.new aF) ys e2))
      | adr a => exact g.elim
    | exc x A2 => rw [hm] at g; exact g.elim
    | bad => rw [hm] at g; exact g.elim
  · exact g.elim
section
variable {X : Cx} {W : WX}
theorem run_gS {k : Nat} {f : Addr} {sp : Sp} {pins : List (Addr × Obj)} {σ : L2.St} {H : Hp} {s : Shared} {Q : VK} {us : List Value} {vs : List V} {E : XK} (F : FnRG X.prog X.w X.K X.mg X.base k f sp) (hg : X.A.guards = some []) (hr : Room k X.A) (hx : Passes (L2.CX X.prog X.w) X E)
    (I : Inv X pins σ H s) (r : Vals vs us) (h : sp vs H Q E) : wpAny (model X.prog X.w) X.A (call (.ref f) us) (EP X pins σ Q) X.xe s := by
  refine wpAny_call (codeAny_mono (F X.A X.stack s H us vs Q E hg hr I.env0 r h) ?_)
  intro res s' hq
  cases res with
  | error e => exact hx pins σ H s e s' I hq
  | ok fl =>
    cases fl with
    | ret u => exact I.after hq
    | next => exact hq.elim
    | brk => exact hq.elim
    | cont => exact hq.elim
theorem pe_gS {k : Nat} {f : Addr} {sp : Sp} {x : Str} {p pos : Pos} {e : Expr} {es : List Expr} {t : TA} (F : FnRG X.prog X.w X.K X.mg X.base k f sp) (hgd : X.A.guards = some []) (hr : Room k X.A) (hg : Gl X x) (hm : X.mg x = some (.ref f)) (hk : PySem.W.keepIn X.K (.ref f) = true)
    (ha : PA X (e :: es) t) (hdb : (x == ("__debug__" : Str)) = false) (he : starEach (e :: es) X.env = (false, eval e X.env) :: starEach es X.env) (hpl : (backTo pos (starEach es X.env)).any (·.1) = false) :
    PE X (.Call (.Name x p) (e :: es) [] pos) (tCall sp [] E0 t) := by
  refine ⟨fun pins s σ H Q I h => ?_⟩
  have h : t σ H fun vs H1 => sp (vs ++ []) H1 Q E0 := h
  simp only [List.append_nil] at h
  refine wpAny_Call_Name_kw (ld_glob I hg hm ?_ hdb)
  refine PySem.W.callWith_K (h₀ := X.base) I.ok.mod.kin hk (thn (ha.run pos pins s σ H _ I h) ?_) he hpl
  rintro us s1 ⟨vs, H1, I1, r, q⟩
  exact ⟨I1.kIn, run_gS F hgd hr passes_E0 I1 r q⟩
/-- f(a, .., *rest) -/
theorem pe_gS2 {k : Nat} {f : Addr} {sp : Sp} {x : Str} {p pos : Pos} {e : Expr} {es : List Expr} {t : TA} (F : FnRG X.prog X.w X.K X.mg X.base k f sp) (hgd : X.A.guards = some []) (hr : Room k X.A) (hg : Gl X x) (hm : X.mg x = some (.ref f)) (hk : PySem.W.keepIn X.K (.ref f) = true)
    (ha : PA X (e :: es) t) (hdb : (x == ("__debug__" : Str)) = false) (he : starEach (e :: es) X.env = (false, eval e X.env) :: starEach es X.env) (hst : (backTo pos (starEach es X.env)).any (·.1) = true) :
    PE X (.Call (.Name x p) (e :: es) [] pos) (tCall sp [] E0 t) := by
  refine ⟨fun pins s σ H Q I h => ?_⟩
  have h : t σ H fun vs H1 => sp (vs ++ []) H1 Q E0 := h
  simp only [List.append_nil] at h
  refine wpAny_Call_Name_kw (ld_glob I hg hm ?_ hdb)
  refine PySem.W.callWith_S2 (h₀ := X.base) I.ok.mod.kin hk (thn (ha.run pos pins s σ H _ I h) ?_) he hst
  rintro us s1 ⟨vs, H1, I1, r, q⟩
  exact ⟨I1.kIn, run_gS F hgd hr passes_E0 I1 r q⟩
theorem re_cS {k : Nat} {x : Str} {M : FL} {p pos : Pos} {e : Expr} {es : List Expr} {ma : MM (List SV)} (C : CalS X.prog X.w (kf X W).base X.mg X.base k x M) (hgd : X.A.guards = some []) (hr : Room k X.A) (ha : RA X W (e :: es) ma) (hg : Gl X x) (hdb : (x == ("__debug__" : Str)) = false)
    (he : starEach (e :: es) X.env = (false, eval e X.env) :: starEach es X.env := by rfl) (hpl : (backTo pos (starEach es X.env)).any (·.1) = false := by rfl) : RE X W (.Call (.Name x p) (e :: es) [] pos) (mCall (fCallPS M) ma) := by
  obtain ⟨f, hm, hk, F⟩ := C.ex
  obtain ⟨t, pa, sa⟩ := ha
  exact ⟨_, pe_gS F hgd hr hg hm hk pa hdb he hpl, sim_call spS_pure sa⟩
theorem re_cS2 {k : Nat} {x : Str} {M : FL} {p pos : Pos} {e : Expr} {es : List Expr} {ma : MM (List SV)} (C : CalS X.prog X.w (kf X W).base X.mg X.base k x M) (hgd : X.A.guards = some []) (hr : Room k X.A) (ha : RA X W (e :: es) ma) (hg : Gl X x) (hdb : (x == ("__debug__" : Str)) = false)
    (he : starEach (e :: es) X.env = (false, eval e X.env) :: starEach es X.env := by rfl) (hst : (backTo pos (starEach es X.env)).any (·.1) = true := by rfl) : RE X W (.Call (.Name x p) (e :: es) [] pos) (mCall (fCallPS M) ma) := by
  obtain ⟨f, hm, hk, F⟩ := C.ex
  obtain ⟨t, pa, sa⟩ := ha
  exact ⟨_, pe_gS2 F hgd hr hg hm hk pa hdb he hst, sim_call spS_pure sa⟩
end
end Rx
/-! Rx 18: sorted({k: True for ..}), the keys ints. -/
namespace Rx
open PySem L2 PySem.Spec PyProof.Rows Evl

theorem ints_at : ∀ {us : List Value} {ks : List Int}, us.length = ks.length → (∀ (j : Nat) (v : Value), us[j]? = some v → ∃ (x : Int) (t : Tok), ks[j]? = some x ∧ v = Value.int x t) → IntsAre us ks
  | [], [], _, _ => .nil
  | u :: us, k :: ks, hl, h => by
    obtain ⟨x, t, e1, e2⟩ := h 0 u rfl
    have e1' : k = x := Option.some.inj e1
    subst e1'
    subst e2
    refine .cons _ _ (ints_at (by simpa using hl) fun j v e => ?_)
    obtain ⟨x, t, a, b⟩ := h (j + 1) v (by simpa using e)
    exact ⟨x, t, by simpa using a, b⟩
  | [], _ :: _, hl, _ => by simp at hl
  | _ :: _, [], hl, _ => by simp at hl
def rSortDI : List V → Hp → VK → Prop := fun xs H Q => ∃ (a : Addr) (kvs : List (Key × V)) (ks : List Int), xs = [.ref a] ∧ Rd H a (.dK kvs) ∧ kvs.map (·.1) = ks.map Sum.inl ∧ ks.length < 64 ∧
    ∀ (ys : List Int) (p : Addr), ys.Perm ks → ys.Pairwise (· ≤ ·) → H p = none → Q (.ref p) (upd H p (.lst (ys.map V.int)))
/-- sorted(d) of a dict with fewer than 64 keys, all ints -/
theorem call_sortedDI {X : Cx} (hcalm : X.calm = true) : CallR X (.builtin "sorted") rSortDI := by
  intro pins s σ H xs us Q I r q
  obtain ⟨a, kvs, ks, ex, hd, hks, h64, q⟩ := q
  subst ex
  obtain ⟨u, eu, rx⟩ := vals1 r
  subst eu
  cases rx
  obtain ⟨z, lo, vs, rel, dd⟩ := dk_rd I.hok hd
  obtain ⟨ep, hat⟩ := dd.dictAt
  have hkeys : vs.map (·.1) = ks.map Sum.inl := rel.keys.symm.trans hks
  have hl : vs.length = ks.length := by
    have e := congrArg List.length hkeys
    rw [List.length_map, List.length_map] at e
    exact e
  have h16 : vs.length ≤ sizeLine := by rw [hl, sizeLine_eq]; omega
  refine Calls.call_function_entry PyProof.Rows.kind_sorted PyProof.Rows.plain_sorted PyProof.Rows.entry_sorted (PyProof.Rows.args_sorted1 _) ?_
  unfold Builtin.«sorted»
  refine wpAny_bind (m := checkCount "sorted" 1 1 _) (wpAny_pure ?_)
  refine wpAny_bind (PySem.W.kdu_collect (A := X.A.in1) (PySem.W.kdl_dict (knd := mixKind X.prog X.w) (kvs := vs) (ep := ep) lo) (I.ok.hd hcalm) hat h16 fun h' tk acc hk hacc => ?_)
  have hal : acc.toList.length = ks.length := by rw [Array.length_toList, hacc.1, hl]
  have hS : IntsAre acc.toList ks := ints_at hal fun j v e => by
    obtain ⟨k, x, e1, e2⟩ := hacc.2 j v (by rw [← Array.getElem?_toList]; exact e)
    have e3 : (vs.map (·.1))[j]? = some k := by rw [List.getElem?_map, e1]; all_goals rfl
    rw [hkeys, List.getElem?_map] at e3
    cases e4 : ks[j]? with
    | none => rw [e4] at e3; cases e3
    | some y =>
      rw [e4] at e3
      have e5 : Sum.inl y = k := Option.some.inj e3
      subst e5
      obtain ⟨t, ev⟩ := Value.isInt_shape (k := y) (v := v) e2
      exact ⟨y, t, rfl, ev⟩
  have I1 : Inv X pins σ H { s with heap := h', toks := tk } := I.kept hk
  refine wpAny_bind (wpAny_newList ?_ (by rw [hal, sizeLine_eq]; omega))
  have hoL : (h'.push (seqObj "list" acc.toList.toArray 0)).get? h'.objs.size = some (seqObj "list" acc.toList.toArray 0) := Heap.get?_push_size _ rfl
  show wpAny _ _ _ _ _ { s with heap := h'.push (seqObj "list" acc.toList.toArray 0), toks := tk }
  refine wpAny_bind (wpAny_holding (wpAny_call_entry PyProof.Rows.slot_list_sort ⟨_, hoL, rfl⟩ PyProof.Rows.entry_list_sort
    (list_sort_tree (s := { s with heap := h'.push (seqObj "list" acc.toList.toArray 0), toks := tk }) hoL hS (by rw [hal]; exact h64) fun out ys g1 g2 g3 => ⟨_, rfl, ?_⟩)
    (PyProof.Rows.args_list_sort _)))
  obtain ⟨e', he'⟩ := PyProof.Rows.sortedHeap_at (vs := acc.toList) (out := out) hoL
  have hlen : (ys.map V.int).length ≤ sizeLine := by
    rw [List.length_map, g2.length_eq]
    exact Nat.le_trans (Nat.le_of_lt h64) (by decide)
  refine wpAny_pure ⟨_, rfl, .ref h'.objs.size, upd H h'.objs.size (.lst (ys.map V.int)), I1.laid (t' := tk) (fun b u e => ?_) (Nat.le_refl _)
    (show ObjOk X.prog X.w _ _ _ (.lst (ys.map V.int)) from ⟨hlen, out.toList, e', vals_of_ints g1, by rw [Array.toArray_toList]; exact he'⟩), rfl, q ys _ g2 g3 (I1.hok.fresh (Nat.le_refl _))⟩
  have hb : b < h'.objs.size := Heap.lt_size e
  rw [PyProof.Rows.sortedHeap_old (Nat.ne_of_lt hb) (by rw [size_push']; exact Nat.lt_succ_of_lt hb)]
  exact Heap.get?_push_of_some _ e

/-! ### the dict that the comprehension makes -/
def kvI (ns : List Int) : List (Key × V) := ns.foldl (fun a k => putK a (Sum.inl k) (.bl true)) []
theorem kvI_snoc (ns : List Int) (k : Int) : kvI (ns ++ [k]) = putK (kvI ns) (Sum.inl k) (.bl true) := by
  unfold kvI
  rw [List.foldl_append]
  rfl
theorem keys_put (kvs : List (Key × V)) (k : Key) (v : V) : (k ∈ kvs.map (·.1) → (putK kvs k v).map (·.1) = kvs.map (·.1)) ∧ (k ∉ kvs.map (·.1) → (putK kvs k v).map (·.1) = kvs.map (·.1) ++ [k]) := by
  unfold putK
  have e : (kvs.any fun kv => decide (kv.1 = k)) = true ↔ k ∈ kvs.map (·.1) := by
    rw [List.any_eq_true, List.mem_map]
    constructor
    · rintro ⟨x, h1, h2⟩
      exact ⟨x, h1, of_decide_eq_true h2⟩
    · rintro ⟨x, h1, h2⟩
      exact ⟨x, h1, decide_eq_true h2⟩
  refine ⟨fun h => ?_, fun h => ?_⟩
  · rw [if_pos (e.mpr h), List.map_map]
    refine List.map_congr_left fun x _ => ?_
    show (if x.1 = k then (x.1, v) else x).1 = x.1
    split <;> rfl
  · rw [if_neg (fun z => h (e.mp z)), List.map_append]
    rfl
theorem kvI_go : ∀ (ns : List Int) (a : List (Key × V)) (ks : List Int), a.map (·.1) = ks.map Sum.inl → ks.Nodup →
    ∃ ls : List Int, (ns.foldl (fun a k => putK a (Sum.inl k) (.bl true)) a).map (·.1) = ls.map Sum.inl ∧ ls.Nodup ∧ ∀ k, k ∈ ls ↔ k ∈ ks ∨ k ∈ ns
  | [], a, ks, h, n => ⟨ks, h, n, fun k => by simp⟩
  | m :: ns, a, ks, h, n => by
    have e := keys_put a (Sum.inl m) (.bl true)
    rw [h] at e
    by_cases hm : m ∈ ks
    · have hm' : (Sum.inl m : Key) ∈ ks.map Sum.inl := List.mem_map_of_mem hm
      have e := e.1 hm'
      obtain ⟨ls, h1, h2, h3⟩ := kvI_go ns _ ks e n
      refine ⟨ls, h1, h2, fun k => ?_⟩
      rw [h3 k, List.mem_cons]
      constructor
      · rintro (z | z)
        · exact .inl z
        · exact .inr (.inr z)
      · rintro (z | z | z)
        · exact .inl z
        · subst z; exact .inl hm
        · exact .inr z
    · have hm' : (Sum.inl m : Key) ∉ ks.map Sum.inl := fun z => by
        obtain ⟨x, hx, ex⟩ := List.mem_map.mp z
        cases ex
        exact hm hx
      have e := e.2 hm'
      have e2 : (putK a (Sum.inl m) (.bl true)).map (·.1) = (ks ++ [m]).map Sum.inl := by rw [e, List.map_append]; rfl
      have n2 : (ks ++ [m]).Nodup := by
        rw [List.nodup_append]
        exact ⟨n, by simp, fun x hx y hy => by rw [List.mem_singleton] at hy; subst hy; exact fun z => hm (z ▸ hx)⟩
      obtain ⟨ls, h1, h2, h3⟩ := kvI_go ns _ (ks ++ [m]) e2 n2
      refine ⟨ls, h1, h2, fun k => ?_⟩
      rw [h3 k]
      simp only [List.mem_append, List.mem_cons, List.not_mem_nil, or_false, or_assoc]
theorem kvI_keys (ns : List Int) : ∃ ls : List Int, (kvI ns).map (·.1) = ls.map Sum.inl ∧ ls.Nodup ∧ ∀ k, k ∈ ls ↔ k ∈ ns := by
  obtain ⟨ls, h1, h2, h3⟩ := kvI_go ns [] [] rfl List.nodup_nil
  exact ⟨ls, h1, h2, fun k => by rw [h3 k]; simp⟩
theorem kvI_len : ∀ ns : List Int, (kvI ns).length ≤ ns.length := fun ns => by
  have go : ∀ (ns : List Int) (a : List (Key × V)), (ns.foldl (fun a k => putK a (Sum.inl k) (.bl true)) a).length ≤ a.length + ns.length := by
    intro ns
    induction ns with
    | nil => intro a; exact Nat.le_refl _
    | cons m ns ih =>
      intro a
      have h1 := ih (putK a (Sum.inl m) (.bl true))
      have h2 := length_putK a (Sum.inl m) (.bl true)
      rw [List.foldl_cons, List.length_cons]
      omega
  have := go ns []
  simpa [kvI] using this

/-! ### the loop -/
theorem asInts_cons {e : PyData} {r : List PyData} {ns : List Int} (h : asInts (e :: r) = some ns) : ∃ k is, e = .int k ∧ asInts r = some is ∧ ns = k :: is := by
  cases e with
  | int k =>
    have h : (match asInts r with | some is => some (k :: is) | none => none) = some ns := h
    cases hr : asInts r with
    | none => rw [hr] at h; cases h
    | some is =>
      rw [hr] at h
      cases h
      exact ⟨k, is, rfl, rfl, rfl⟩
  | _ => cases h
section
variable {K : KF} {W : WX}
theorem dc_loop {g : TG} {tt : TT} {tk : TE} {js vs : List Nat} {f : TgF} {mt : MM Bool} {el : MM SV} (hg : SimT K js g f) (hj : ∀ j ∈ js, j ∈ vs) (ht : Sim K (NoK K) same tt mt) (he : Sim K (NoK K) (RV K) tk el)
    {s : S3} {A : List AO} {d : DSt} {σ : L2.St} {D : Addr} {xs : List SV} {J : It} {acc : List Int} {Fin : Hp → Prop} (hs : SR K s A) (hσ : RSt K s d σ) (hD : s.H D = none) (hw : Walks K s xs J)
    (h : Good (lcGo f mt el (dwipe d vs) xs A) (fun r A' => ∃ ns, asInts r = some ns ∧ sz (acc ++ ns).length = true ∧ ∀ (t : S3), Post s t → SR K t A' → t.H D = none → Fin (upd t.H D (.dK (kvI (acc ++ ns))))) NoX) :
    ∃ W : Nat → Nat → Hp → Prop, (∃ m, W 0 m (upd s.H D (.dK (kvI acc)))) ∧ ∀ i m H, W i m H →
      (J.stop i H ∧ Fin H) ∨ (J.go i H ∧ ∃ Nx : Hp → Prop, (∀ H', Nx H' → ∃ m', m' < m ∧ W (i + 1) m' H') ∧ ∀ x H', J.yld i H x H' → g x (L2.wipe σ vs) H' fun σ2 H2 => L2.wipe σ2 vs = L2.wipe σ vs ∧ tt σ2 H2 fun b H3 =>
        if b = true then tk σ2 H3 fun y H4 => tC (.bl true) σ2 H4 fun z H5 => ∃ kvs k, y = kV k ∧ H5 D = some (.dK kvs) ∧ kvs.length < sizeLine ∧ Nx (upd H5 D (.dK (putK kvs k z))) else Nx H3) := by
  let Inv1 : Nat → Hp → Prop := fun i H => ∃ (s' : S3) (A' : List AO) (acc' : List Int), H = (s'.newH D (.dK (kvI acc'))).H ∧ Post s s' ∧ SR K s' A' ∧ s'.H D = none ∧
    Good (lcGo f mt el (dwipe d vs) (xs.drop i) A') (fun r A'' => ∃ ns, asInts r = some ns ∧ sz (acc' ++ ns).length = true ∧ ∀ (t : S3), Post s' t → SR K t A'' → t.H D = none → Fin (upd t.H D (.dK (kvI (acc' ++ ns))))) NoX
  refine ⟨fun i m H => m = xs.length - i ∧ i ≤ xs.length ∧ Inv1 i H, ⟨xs.length, by simp, Nat.zero_le _, s, A, acc, rfl, Post.refl _, hs, hD, h⟩, ?_⟩
  rintro i m _ ⟨rfl, hle, s', A', acc', rfl, p', hs', hD', h'⟩
  have hsD : SR K (s'.newH D (.dK (kvI acc'))) A' := hs'.newH hD' _
  have pD : Post s' (s'.newH D (.dK (kvI acc'))) := Post.newH hD' _
  obtain ⟨wy, wstop⟩ := hw i (s'.newH D (.dK (kvI acc'))) A' (p'.trans pD).fx hsD
  by_cases hlt : i < xs.length
  · have hx : xs[i]? = some xs[i] := List.getElem?_eq_getElem hlt
    have hdrop : xs.drop i = xs[i] :: xs.drop (i + 1) := List.drop_eq_getElem_cons hlt
    rw [hdrop] at h'
    obtain ⟨go, yl⟩ := wy _ hx
    refine .inr ⟨go, Inv1 (i + 1), fun H2 q => ⟨xs.length - (i + 1), by omega, rfl, hlt, q⟩, fun v H2 y => ?_⟩
    obtain ⟨u, rfl, pu, hu, ru⟩ := yl v H2 y
    unfold lcGo at h'
    cases hf : f xs[i] (dwipe d vs) with
    | none => simp only [hf] at h'; exact h'.elim
    | some d1 =>
      simp only [hf] at h'
      have hσu : RSt K u (dwipe d vs) (L2.wipe σ vs) := (((hσ.up p').up pD).up pu).wipe vs
      refine hg u A' _ v _ d1 _ _ hu hσu ru hf fun σ3 hσ3 off => ⟨wipe_off off hj, ?_⟩
      refine ht u A' d1 σ3 _ hu hσ3 (Good.mono (Good.qb h') (fun b A1 h1 u1 b' p1 hu1 r1 => ?_) (fun _ _ z => z.elim))
      have r1 : b = b' := r1
      subst r1
      cases b with
      | false =>
        have h1 : Good (lcGo f mt el (dwipe d vs) (xs.drop (i + 1)) A1) _ _ := h1
        show Inv1 (i + 1) u1.H
        obtain ⟨e1, q1, hs1, e2⟩ := aside hs' hD' (pu.trans p1) hu1
        refine ⟨⟨u1.F, rem u1.H D, u1.mu⟩, A1, acc', congrArg S3.H e2, p'.trans q1, hs1, rem_same, Good.mono h1 (fun r A'' ⟨ns, z1, z2, z3⟩ => ⟨ns, z1, z2, fun t pt => z3 t (q1.trans pt)⟩) (fun _ _ z => z)⟩
      | true =>
        have h1 : Good ((el d1 A1).quiet.bind _) _ _ := h1
        show tk σ3 u1.H _
        refine he u1 A1 d1 σ3 _ hu1 (hσ3.up p1) (Good.mono (Good.qb h1) (fun y A2 h2 u2 w p2 hu2 r2 => ?_) (fun _ _ z => z.elim))
        cases y with
        | dat e =>
          obtain ⟨e1, q1, hs1, e2⟩ := aside hs' hD' ((pu.trans p1).trans p2) hu2
          have h2 : Good ((lcGo f mt el (dwipe d vs) (xs.drop (i + 1)) A2).bind fun r A3 => .ok (e :: r) A3) _ _ := h2
          have h3 := Good.bind h2
          have hk : ∃ k : Int, e = .int k ∧ acc'.length < sizeLine := by
            cases hr : lcGo f mt el (dwipe d vs) (xs.drop (i + 1)) A2 with
            | ok r A3 =>
              rw [hr] at h3
              obtain ⟨ns, z1, z2, z3⟩ := h3
              have z := sz_ok z2
              obtain ⟨k, is, rfl, hr2, rfl⟩ := asInts_cons z1
              rw [List.length_append, List.length_cons] at z
              exact ⟨k, rfl, by omega⟩
            | exc x A3 => rw [hr] at h3; exact h3.elim
            | bad => rw [hr] at h3; exact h3.elim
          obtain ⟨k, rfl, hz⟩ := hk
          have r2 : Dq K u2.F w (.int k) := r2
          cases r2
          refine ⟨kvI acc', Sum.inl k, rfl, e1, Nat.lt_of_le_of_lt (kvI_len acc') hz, ?_⟩
          refine ⟨⟨u2.F, rem u2.H D, u2.mu⟩, A2, acc' ++ [k], ?_, p'.trans q1, hs1, rem_same, Good.mono h3 (fun r A'' z => ?_) (fun _ _ z => z)⟩
          · show upd u2.H D _ = upd (rem u2.H D) D _
            rw [upd_rem, kvI_snoc]
          · obtain ⟨ns, z1, z2, z3⟩ := z
            obtain ⟨k', is, ek, hr, rfl⟩ := asInts_cons z1
            cases ek
            have er : acc' ++ [k] ++ is = acc' ++ k :: is := by simp
            exact ⟨is, hr, by rw [er]; exact z2, fun t pt => by rw [er]; exact z3 t (q1.trans pt)⟩
        | ref j => exact h2.elim
        | adr a => exact h2.elim
  · have e : i = xs.length := by omega
    subst e
    rw [List.drop_length] at h'
    obtain ⟨ns, z1, z2, z3⟩ := (show ∃ ns, asInts [] = some ns ∧ _ from h')
    cases z1
    refine .inl ⟨wstop (Nat.le_refl _), ?_⟩
    have := z3 s' (Post.refl _) hs' hD'
    rw [List.append_nil] at this
    exact this
/-- sorted({k: True for ..}), the keys as the comprehension of a list would have them -/
def mDSrt (m : MM (List PyData)) : MM (List PyData) := fun d A => (m d A).bind fun ds A1 => match asInts ds with
  | some ns => if (setI ns).length < 64 then .ok ((setI ns).map .int) A1 else .bad
  | none => .bad
theorem simN_dsrt {wi : TI} {g : TG} {tt : TT} {tk : TE} {js vs : List Nat} {mi : MM (List SV)} {f : TgF} {mt : MM Bool} {el : MM SV} (hi : Sim K W (Walks K) wi mi) (hg : SimT K js g f) (hj : ∀ j ∈ js, j ∈ vs) (ht : Sim K (NoK K) same tt mt) (he : Sim K (NoK K) (RV K) tk el) :
    SimN K W (tCB rSortDI (tCons (tDc wi g tt tk (tC (.bl true)) vs) tNil)) (mDSrt (mLc vs mi f mt el)) := fun s A d σ Q hs hσ h => by
  have h := Good.bind h
  unfold mLc at h
  have h := Good.bind h
  refine hi s A d σ _ hs hσ (Good.mono h (fun xs A1 h1 s1 J p1 hs1 w1 D hD => ?_) (fun _ _ z => z))
  refine dc_loop (acc := []) hg hj ht he hs1 (hσ.up p1) hD w1 ?_
  cases hr : lcGo f mt el (dwipe d vs) xs A1 with
  | ok r A2 =>
    rw [hr] at h1
    have h1 : Good (if sz r.length then RR.ok r A2 else .bad) _ _ := h1
    by_cases hz : sz r.length = true
    · rw [if_pos hz] at h1
      have h1 : Good (match asInts r with | some ns => if (setI ns).length < 64 then RR.ok ((setI ns).map PyData.int) A2 else .bad | none => .bad) _ _ := h1
      cases hn : asInts r with
      | none => rw [hn] at h1; exact h1.elim
      | some ns =>
        rw [hn] at h1
        have h1 : Good (if (setI ns).length < 64 then RR.ok ((setI ns).map PyData.int) A2 else .bad) _ _ := h1
        by_cases h64 : (setI ns).length < 64
        · rw [if_pos h64] at h1
          have el : r.length = ns.length := by rw [asInts_eq hn, List.length_map]
          refine ⟨ns, hn, by rw [List.nil_append, ← el]; exact hz, fun t pt ht' hD' => ?_⟩
          rw [List.nil_append]
          obtain ⟨ls, k1, k2, k3⟩ := kvI_keys ns
          refine ⟨D, kvI ns, ls, rfl, .inl upd_same, k1, ?_, fun ys p pm pw hp => ?_⟩
          · refine Nat.lt_of_le_of_lt (few_nodup ls (setI ns) k2 fun k hk => ?_) h64
            rw [mem_setI]; exact (k3 k).mp hk
          · have asc : ys.Pairwise (· < ·) := by
              have n : ys.Nodup := pm.nodup_iff.mpr k2
              exact (pw.and n).imp fun {a b} h => by
                have := h.1
                have := h.2
                omega
            have e : ys = setI ns := asc_eq (R := (· < ·)) (fun a b h1 h2 => by omega) _ _ asc (asc_setI ns) fun k => by rw [pm.mem_iff, k3 k, mem_setI]
            rw [e]
            have hsD := ht'.newH hD' (.dK (kvI ns))
            have pD : Post t (t.newH D (.dK (kvI ns))) := Post.newH hD' _
            exact h1 (t.newH D (.dK (kvI ns))) p _ ((p1.trans pt).trans pD) hsD hp (DqAll.ofInts _)
        · rw [if_neg h64] at h1; exact h1.elim
    · rw [if_neg hz] at h1; exact h1.elim
  | exc x A2 => rw [hr] at h1; exact h1.elim
  | bad => rw [hr] at h1; exact h1.elim
end
section
variable {X : Cx} {W : WX}
theorem rn_dsrt {elt tg iter : Expr} {ifs : List Expr} {scope : Scope} {own : List (Str × Nat)} {pos p q bp : Pos} {bj : Nat} {mi : MM (List SV)} {js : List Nat} {f : TgF} {mt : MM Bool} {el : MM SV} (hc : X.calm = true) (hN : X.N.Nodup) (hi : RI X W tg iter mi) (ok : BlkOk X.N X.env.scope scope own)
    (hg : AllB X scope fun Y => RG Y tg js f) (hj : ∀ j ∈ js, j ∈ own.map (·.2)) (ht : AllB X scope fun Y => RTs Y W.no ifs mt) (he : AllB X scope fun Y => RE Y W.no elt el) (hgs : Gl X "sorted") (hm : X.mg "sorted" = none) (hs : ∀ x, foldedSetIterable iter X.env x = pure x := by intro _; rfl) :
    RN X W (.Call (.Name "sorted" p) [.DictComp elt (.Constant (.bool true) bj bp) [⟨tg, iter, ifs, 0⟩] scope pos] [] q) (mDSrt (mLc (own.map (·.2)) mi f mt el)) := by
  obtain ⟨wi, pi, si⟩ := hi
  exact ⟨_, pe_callB (call_sortedDI hc) hgs hm (by rfl) (pa_cons (pe_dc hc hN pi ok (fun s H C cl fp => (hg s H C cl fp).pe W.T W.F0 W.M0) (fun s H C cl fp => (ht s H C cl fp).pe) (fun s H C cl fp => (he s H C cl fp).pe) (fun s H C cl fp => pe_bl) hs) pa_nil), simN_dsrt si gOf_sim hj tOf_sim tOf_sim⟩
end
end Rx
/-! Rx 19: len(set(x)), x ints. -/
namespace Rx
open PySem L2 PySem.Spec PyProof.Rows Evl
section
variable {X : Cx} {W : WX} {K : KF}
theorem pe_lset {a : Expr} {ta : TE} {p p2 q pos : Pos} (hc : X.calm = true) (hg : Gl X "len") (hm : X.mg "len" = none) (hg2 : Gl X "set") (hm2 : X.mg "set" = none) (ha : PE X a ta)
    (na : starEach [a] X.env = (false, eval a X.env) :: starEach [] X.env := by rfl) : PE X (.Call (.Name "len" p) [.Call (.Name "set" p2) [a] [] q] [] pos)
      (fun σ H Q => ta σ H fun x H1 => ∃ (l : Addr) (ns : List Int), x = .ref l ∧ SqA X.K H1 l (ns.map V.int) ∧ (dd ns).length < 64 ∧ Q (.int ((dd ns).length : Nat)) H1) := by
  refine ⟨fun pins s σ H Q I h => ?_⟩
  refine Call_ (ld_blt I hg hm boot_len ?_)
  refine PyProof.Rows.callWith_builtin1 (PyProof.Rows.args_cons ?_ rfl) rfl rfl
  refine Call_ (ld_blt I hg2 hm2 bt_set ?_)
  refine PyProof.Rows.callWith_type1 (PyProof.Rows.args_cons (thn (ha.run pins s σ H _ I h) fun v s1 ⟨x, H1, I1, r1, q1⟩ => PyProof.Rows.args_nil ?_) na) na rfl
  have hh := I1.ok.hd hc
  obtain ⟨l, ns, rfl, hq, hfew, q1⟩ := q1
  cases r1
  obtain ⟨its, rv, hl⟩ := seqA I1 hq
  have hlen : its.toArray.size = ns.length := by rw [List.size_toArray, ← rv.length, List.length_map]
  refine RxS.set_shell (w := X.w) (P := X.prog) (Res := fun h2 => ∃ c, SetR X.w h2 s1.heap.objs.size (fun j => decide (j ∈ ns)) c) hh hl (fun B y I2 St R h3 h4 W st off hS hk hI done => ?_) fun h2 tk ⟨c, hR⟩ hk => ?_
  · refine RxS.ints_in W s1.heap.objs.size off ns 63 hlen (fun ks h5 h6 => ?_) (by decide) (fun i v hv => ints_get rv (by simpa using hv)) (its.toArray.size - 0) 0 y rfl (Nat.zero_le _) st ⟨0, setR_new_at hS⟩ fun x c hm hR => done x hm ⟨c, hR⟩
    have := few_nodup ks (dd ns) h5 fun k hk => mem_dd.mpr (h6 k hk)
    omega
  · refine PyProof.Rows.args_nil ?_
    have I2 : Inv X pins σ H1 { s1 with heap := h2, toks := tk } := I1.kept hk
    obtain ⟨o, es, ep, t, ho, hx, hd, g, nd, hm', hb', hf, hn, _⟩ := hR
    have e : (es.toList.map keyOf).length = c := by rw [List.length_map, Array.length_toList]; exact hn
    have ec : c = (dd ns).length := by
      have h1 := few_nodup _ (dd ns) nd fun k hk => mem_dd.mpr (of_decide_eq_true ((hm' k).mpr hk))
      have h2 := few_nodup (dd ns) (es.toList.map keyOf) (nodup_dd ns) fun k hk => (hm' k).mp (decide_eq_true (mem_dd.mp hk))
      omega
    have en : es.size = (dd ns).length := by rw [← ec]; exact hn
    refine call_len_set ho hx hd hf (by rw [en] <;> omega) ⟨.int ((dd ns).length : Nat), H1, I2.tok _, ⟨_, by rw [en]⟩, q1⟩
def mLenSet (m : MM SV) : MM SV := fun d A => (m d A).bind fun x A1 => match cont A1 x with
  | some ds => match asInts ds with
    | some ns => if (dd ns).length < 64 then .ok (.dat (.int ((dd ns).length : Nat))) A1 else .bad
    | none => .bad
  | none => .bad
theorem re_lset {e : Expr} {m : MM SV} {p p2 q pos : Pos} (hc : X.calm = true) (h : RE X W e m) (hg : Gl X "len") (hm : X.mg "len" = none) (hg2 : Gl X "set") (hm2 : X.mg "set" = none)
    (na : starEach [e] X.env = (false, eval e X.env) :: starEach [] X.env := by rfl) : RE X W (.Call (.Name "len" p) [.Call (.Name "set" p2) [e] [] q] [] pos) (mLenSet m) := by
  obtain ⟨t, pe, s⟩ := h
  refine ⟨_, pe_lset hc hg hm hg2 hm2 pe na, fun s0 A d σ Q hs hσ g => ?_⟩
  refine s s0 A d σ _ hs hσ (Good.mono (Good.bind g) (fun x A1 g1 s1 v p1 hs1 r1 => ?_) (fun _ _ z => z))
  cases hcnt : cont A1 x with
  | none => simp only [hcnt] at g1; exact g1.elim
  | some ds =>
    simp only [hcnt] at g1
    obtain ⟨pp, vs, rfl, hq, dp⟩ := cont_ok hs1 r1 hcnt
    cases hi : asInts ds with
    | none => simp only [hi] at g1; exact g1.elim
    | some ns =>
      simp only [hi] at g1
      split at g1
      · rename_i h64
        rw [asInts_eq hi] at dp
        have ev := DqAll.ints dp
        subst ev
        exact ⟨pp, ns, rfl, hq.symm, h64, g1 s1 _ p1 hs1 (.int _)⟩
      · exact g1.elim
end

/-! ### what a def with a star parameter binds -/
theorem bindS0 {fd : FuncData} {pv : Str} (h0 : bindArgs fd ⟨[], []⟩ = (newTuple [] >>= fun t => pure [(pv, t)])) (h1 : ∀ r rs, bindArgs fd ⟨r :: rs, []⟩ = (newTuple (r :: rs) >>= fun t => pure [(pv, t)])) :
    ∀ us rest : List Value, us.length = ([] : List Str).length → bindArgs fd ⟨us ++ rest, []⟩ = (newTuple rest >>= fun t => pure (([] : List Str).zip us ++ [(pv, t)]))
  | [], [], _ => h0
  | [], r :: rs, _ => h1 r rs
theorem bindS1 {fd : FuncData} {p1 pv : Str} (h0 : ∀ a, bindArgs fd ⟨[a], []⟩ = (newTuple [] >>= fun t => pure [(p1, a), (pv, t)])) (h1 : ∀ a r rs, bindArgs fd ⟨a :: r :: rs, []⟩ = (newTuple (r :: rs) >>= fun t => pure [(p1, a), (pv, t)])) :
    ∀ us rest : List Value, us.length = [p1].length → bindArgs fd ⟨us ++ rest, []⟩ = (newTuple rest >>= fun t => pure ([p1].zip us ++ [(pv, t)])) := StX.bind_star1 (B := fun xs => bindArgs fd ⟨xs, []⟩) h0 h1
theorem bindS2 {fd : FuncData} {p1 p2 pv : Str} (h0 : ∀ a b, bindArgs fd ⟨[a, b], []⟩ = (newTuple [] >>= fun t => pure [(p1, a), (p2, b), (pv, t)])) (h1 : ∀ a b r rs, bindArgs fd ⟨a :: b :: r :: rs, []⟩ = (newTuple (r :: rs) >>= fun t => pure [(p1, a), (p2, b), (pv, t)])) :
    ∀ us rest : List Value, us.length = [p1, p2].length → bindArgs fd ⟨us ++ rest, []⟩ = (newTuple rest >>= fun t => pure ([p1, p2].zip us ++ [(pv, t)])) := StX.bind_star2 (B := fun xs => bindArgs fd ⟨xs, []⟩) h0 h1
end Rx
/-! Rx 20: sorted(x), whatever x is walked. -/
namespace Rx
open PySem L2 PySem.Spec PyProof.Rows Evl
section
variable {X : Cx} {W : WX} {K : KF}
theorem sorted_coll (ft : Fit X.A) {pins : List (Addr × Obj)} {σ : L2.St} {H : Hp} {s : Shared} {Q : VK} {a : Addr} {us : List Value} {vs : List V} {ds : List PyData} (I : Inv X pins σ H s) (rv : Vals vs us) (hd : DqAll X.K H vs ds) (hok : okS ds = true)
    (hcol : ∀ (Qc : List Value → Shared → Prop) (E : Value → Shared → Prop), (∀ h' tk, (∀ b o, s.heap.get? b = some o → h'.get? b = some o) → Qc us { s with heap := h', toks := tk }) → wpAny (model X.prog X.w) X.A.in1 (collect (.ref a)) Qc E s)
    (q : ∀ (ws : List V) (p : Addr), (∀ F, DqAll X.K F vs ds → DqAll X.K F ws (srt ds)) → H p = none → Q (.ref p) (upd H p (.lst ws))) :
    wpAny (model X.prog X.w) X.A (call (.builtin "sorted") [.ref a]) (EP X pins σ Q) X.xe s := by
  obtain ⟨c1, c2, c3, c4⟩ := okS_ok hok
  have hz : (vs.zip ds).map Prod.snd = ds := zip_snd hd
  have hlen : (vs.zip ds).length = ds.length := by rw [← hz]; simp
  have hun := ft.un
  have hal : PySem.W.AllAlike ((vs.zip ds).map Prod.snd) := by rw [hz]; exact c1
  have hso : PySem.W.Sortable ((vs.zip ds).map Prod.snd) := by rw [hz]; exact c4
  have hL : (vs.zip ds).length ≤ sizeLine := by rw [hlen]; exact Nat.le_of_lt (Nat.lt_of_le_of_lt c3 (by decide))
  have hal2 : us.length = ds.length := by rw [← rv.length, DqAll.length hd]
  refine Calls.call_function_entry PyProof.Rows.kind_sorted PyProof.Rows.plain_sorted PyProof.Rows.entry_sorted (PyProof.Rows.args_sorted1 _) ?_
  unfold Builtin.«sorted»
  refine wpAny_bind (m := checkCount "sorted" 1 1 _) (wpAny_pure ?_)
  refine wpAny_bind (hcol _ _ fun h' tk hk => ?_)
  have I1 : Inv X pins σ H { s with heap := h', toks := tk } := I.kept hk
  obtain ⟨e1, e2⟩ := each_zip I1 hd rv
  refine wpAny_bind (wpAny_newList ?_ (by rw [hal2]; exact Nat.le_of_lt (Nat.lt_of_le_of_lt c3 (by decide))))
  have hoL : (h'.push (seqObj "list" us.toArray 0)).get? h'.objs.size = some (seqObj "list" us.toArray 0) := Heap.get?_push_size _ rfl
  show wpAny _ _ _ _ _ { s with heap := h'.push (seqObj "list" us.toArray 0), toks := tk }
  refine wpAny_bind (wpAny_holding (PySem.W.list_sort_data (enc := Prod.snd) (s := { s with heap := h'.push (seqObj "list" us.toArray 0), toks := tk }) hoL e1 (e2.mono fun v b hr => ?_) hal hso hL (fun b hb => ?_) fun out ho eo => ?_))
  · obtain ⟨as, r⟩ := hr
    refine ⟨as, PyProof.Rows.Reads.keeps (fun b o e => Heap.get?_push_of_some _ e) r, fun hm => ?_⟩
    obtain ⟨o, ho⟩ := PyProof.On.reads_mem_get r _ hm
    exact absurd (Heap.lt_size ho) (Nat.lt_irrefl _)
  · have hm : b.2 ∈ ds := by rw [← hz]; exact List.mem_map_of_mem hb
    have := depth_mem hm
    show X.A.units + 1 + 1 + b.2.depth < cLine
    omega
  · obtain ⟨n, hn⟩ := PyProof.Rows.sortedHeap_at (vs := us) (out := out.toArray) hoL
    have rv2 := vals_each eo
    refine wpAny_pure ⟨_, rfl, .ref h'.objs.size, _, I1.laid (t' := tk) (a := h'.objs.size) (o := .lst (((vs.zip ds).mergeSort (PySem.W.dataLe false Prod.snd)).map Prod.fst)) (fun b u e => ?_) (Nat.le_refl _) (show ObjOk X.prog X.w _ _ _ (.lst _) from ⟨?_, out, n, rv2, hn⟩), rfl, q _ _ (fun F hF => ?_) (I1.hok.fresh (Nat.le_refl _))⟩
    · have hb : b < h'.objs.size := Heap.lt_size e
      rw [PyProof.Rows.sortedHeap_old (Nat.ne_of_lt hb) (by rw [size_push']; exact Nat.lt_succ_of_lt hb)]
      exact Heap.get?_push_of_some _ e
    · rw [List.length_map, List.length_mergeSort]; exact hL
    · have hm : ((vs.zip ds).mergeSort (PySem.W.dataLe false Prod.snd)).map Prod.snd = srt ds := by
        rw [srt_eq]
        conv => rhs; rw [← hz]
        exact PySem.W.sort_maps Prod.snd fun a _ b _ => rfl
      rw [← hm]
      refine dq_maps _ fun b hb => zip_dq hF b ?_
      exact (List.mergeSort_perm _ _).mem_iff.mp hb
/-- sorted(x), x a list or a tuple -/
def rSrtA (K : PySem.W.Frag) : List V → Hp → VK → Prop := fun xs H Q => ∃ a vs ds, xs = [.ref a] ∧ SqA K H a vs ∧ DqAll K H vs ds ∧ okS ds = true ∧
  ∀ (ws : List V) (p : Addr), (∀ F, DqAll K F vs ds → DqAll K F ws (srt ds)) → H p = none → Q (.ref p) (upd H p (.lst ws))
theorem cr_srtA (ft : Fit X.A) : CallR X (.builtin "sorted") (rSrtA X.K) := by
  intro pins s σ H xs us Q I r ⟨a, vs, ds, e, hl, hd, hok, q⟩
  subst e
  rw [Vals.ref1 r]
  obtain ⟨its, rv, hs⟩ := seqA I hl
  obtain ⟨c1, c2, c3, c4⟩ := okS_ok hok
  have hz : its.toArray.size ≤ sizeLine := by
    rw [List.size_toArray, ← rv.length, DqAll.length hd]
    exact Nat.le_of_lt (Nat.lt_of_le_of_lt c3 (by decide))
  refine sorted_coll ft I rv hd hok (fun Qc E h => ?_) q
  rcases hs with ⟨o, ho, hc, n, hdd⟩ | ⟨o, ho, hc, n, hdd⟩
  · exact wpAny_collect_seq a (.inl rfl) ho hc hdd (fun h' hk => by simpa using h h' s.toks hk) hz
  · exact wpAny_collect_seq a (.inr rfl) ho hc hdd (fun h' hk => by simpa using h h' s.toks hk) hz
def fSrtA (xs : List SV) (A : List AO) : RR (List PyData) := match xs with
  | [x] => match cont A x with
    | some ds => if okS ds then .ok (srt ds) A else .bad
    | _ => .bad
  | _ => .bad
theorem caN_srtA : CaN K (rSrtA K) fSrtA := by
  intro s A dx vs Q hs rx h
  unfold fSrtA at h
  split at h
  · rename_i x
    obtain ⟨v, rfl, r⟩ := rvs_one rx
    split at h
    · rename_i ds hd
      split at h
      · rename_i hok
        obtain ⟨a, us, rfl, h1, h2⟩ := cont_ok hs r hd
        exact ⟨a, us, ds, rfl, h1.symm, DqAll.up hs.sub _ h2, hok, fun ws p hw hp => h s p ws (Post.refl _) hs hp (hw _ h2)⟩
      · exact h.elim
    · exact h.elim
  · exact h.elim
end
end Rx
/-! Rx 21: x.index(k), x.count(k): x a list of ints. -/
namespace Rx
open PySem L2 PySem.Spec PyProof.Rows Evl
def idxI (ns : List Int) (k : Int) : Option Nat := ns.findIdx? fun n => n == k
def fLIdx : F2 := fun x y A => match toD A x with
  | some (.list ds) => match asInts ds with
    | some ns => match y with
      | .dat (.int k) => match idxI ns k with
        | some j => .ok (.dat (.int (j : Nat))) A
        | none => .bad
      | _ => .bad
    | none => .bad
  | _ => .bad
def fLCnt : F2 := fun x y A => match toD A x with
  | some (.list ds) => match asInts ds with
    | some ns => match y with
      | .dat (.int k) => .ok (.dat (.int (ns.count k : Nat))) A
      | _ => .bad
    | none => .bad
  | _ => .bad
section
variable {X : Cx} {W : WX} {K : KF}
/-- what is seen in H of a list told -/
theorem toD_ints {s : S3} {A : List AO} {x : SV} {v : V} {ds : List PyData} {ns : List Int} (hs : SR K s A) (r : RV K s x v) (e : toD A x = some (.list ds)) (hn : asInts ds = some ns) : ∃ a, v = .ref a ∧ SqL K s.H a (ns.map V.int) := by
  obtain ⟨a, vs, e1, h1, h2⟩ := toD_lst hs r e
  rw [asInts_eq hn] at h2
  exact ⟨a, e1, by rw [← DqAll.ints h2]; exact h1⟩
theorem find_int : ∀ {ns : List Int} {k : Int} {j : Nat}, idxI ns k = some j → ns[j]? = some k ∧ ∀ m : Nat, m < j → ns[m]? ≠ some k
  | [], _, _, h => by cases h
  | n :: ns, k, j, h => by
    unfold idxI at h
    rw [List.findIdx?_cons] at h
    by_cases hk : (n == k) = true
    · rw [if_pos hk] at h
      cases h
      exact ⟨by rw [eq_of_beq hk]; rfl, fun m hm => absurd hm (Nat.not_lt_zero m)⟩
    · rw [if_neg hk] at h
      cases hq : List.findIdx? (fun n => n == k) ns with
      | none => rw [hq] at h; cases h
      | some i =>
        rw [hq] at h
        cases h
        obtain ⟨h1, h2⟩ := find_int (ns := ns) hq
        refine ⟨by simpa using h1, fun m hm => ?_⟩
        cases m with
        | zero => exact fun z => hk (by have z : some n = some k := z; cases z; simp)
        | succ m => simpa using h2 m (Nat.lt_of_succ_lt_succ hm)
def isLst (A : List AO) (x : SV) : Bool := match toD A x with
  | some (.list _) => true
  | _ => false
theorem isLst_ok {s : S3} {A : List AO} {x : SV} {v : V} (hs : SR K s A) (r : RV K s x v) (h : isLst A x = true) : tyV K "list" v s.H := by
  unfold isLst at h
  split at h
  · rename_i ds hd
    obtain ⟨a, vs, rfl, h1, h2⟩ := toD_lst hs r hd
    exact .inl ⟨rfl, vs, h1⟩
  · cases h
/-- x.m(e) -/
def mMt (f : F2) (a b : MM SV) : MM SV := fun d A => (a d A).bind fun x A1 => if isLst A1 x = true then (b d A1).bind fun y A2 => (f x y A2).quiet else .bad
theorem sim_mt {r : V → List V → Hp → VK → Prop} {f : F2} {to : TE} {t : TA} {mo m : MM SV} {ml : MM (List SV)} (ho : Sim K W (RV K) to mo) (hm : Sim K W (RVs K) t (mCons m mNil)) (hf : OpS K (fun x y H Q => r x [y] H Q) f) : Sim K W (RV K) (tBM K "list" r to t) (mMt f mo m) := fun s A d σ Q hs hσ h =>
  ho.then hs hσ h fun x A1 s1 v p1 hs1 r1 hσ1 h1 => by
    split at h1
    · rename_i hl
      refine ⟨isLst_ok hs1 r1 hl, ?_⟩
      have h2 : Good ((mCons m mNil d A1).bind fun ys A2 => match ys with | [y] => (f x y A2).quiet | _ => .bad) (fun x A' => ∀ (t' : S3) (v : V), Post s1 t' → SR K t' A' → RV K t' x v → Q v t'.H) (fun x A' => ∀ t' : S3, Post s1 t' → SR K t' A' → W.w x σ t') := by
        unfold mCons mNil
        cases hq : m d A1 with
        | ok y A2 => rw [hq] at h1; exact h1
        | exc e A2 => rw [hq] at h1; exact h1
        | bad => rw [hq] at h1; exact h1
      refine hm.then hs1 hσ1 h2 fun ys A2 s2 us p2 hs2 r2 hσ2 h3 => ?_
      match ys, us, r2 with
      | [y], _, ⟨u, _, rfl, ru, rfl⟩ => exact hf s2 A2 x y v u Q hs2 (r1.up p2) ru (Good.quiet h3)
      | [], _, _ => exact h3.elim
      | _ :: _ :: _, _, _ => exact h3.elim
    · exact h1.elim
theorem opS_idx : OpS K (fun x y H Q => rIndex K x [y] H Q) fLIdx := by
  intro s A dx dy x y Q hs rx ry h
  unfold fLIdx at h
  split at h
  · rename_i ds hd
    split at h
    · rename_i ns hn
      split at h
      · rename_i k
        split at h
        · rename_i j hj
          obtain ⟨a, rfl, h1⟩ := toD_ints hs rx hd hn
          cases ry
          obtain ⟨f1, f2⟩ := find_int hj
          refine ⟨a, ns.map V.int, .int k, j, .int k, rfl, rfl, h1, rfl, ?_, by rw [List.getElem?_map, f1]; rfl, beq_self_eq_true k, fun m z hm hz => ?_, h s _ (Post.refl _) hs (.int _)⟩
          · rw [List.all_map]; exact List.all_eq_true.mpr fun _ _ => rfl
          · rw [List.getElem?_map] at hz
            cases hq : ns[m]? with
            | none => rw [hq] at hz; cases hz
            | some n =>
              rw [hq] at hz
              cases hz
              exact beq_eq_false_iff_ne.mpr fun e => f2 m hm (by rw [hq, e])
        · exact h.elim
      · exact h.elim
    · exact h.elim
  · exact h.elim
theorem opS_cnt : OpS K (fun x y H Q => rCntI K x [y] H Q) fLCnt := by
  intro s A dx dy x y Q hs rx ry h
  unfold fLCnt at h
  split at h
  · rename_i ds hd
    split at h
    · rename_i ns hn
      split at h
      · rename_i k
        obtain ⟨a, rfl, h1⟩ := toD_ints hs rx hd hn
        cases ry
        exact ⟨a, ns, k, rfl, rfl, h1, h s _ (Post.refl _) hs (.int _)⟩
      · exact h.elim
    · exact h.elim
  · exact h.elim
variable {i : Nat} {x : Str} {px apos cpos : Pos} {e : Expr}
theorem re_lidx {m : MM SV} (h : RE X W e m) (hN : X.N[i]? = some x) (hv : Vis X.env.scope x) (hd : (x == ("__debug__" : Str)) = false := by decide) (hcd : (x == ("__classdict__" : Str)) = false := by decide)
    (hbase : attributeBase (.Name x px) "index" X.env (eval (.Name x px) X.env) = eval (.Name x px) X.env := by rfl)
    (few : ((backTo cpos (starEach [e] X.env)).all (fun x => !x.1) && (backToKw cpos (keywordEach [] X.env)).all (fun x => x.1.isSome) && decide ([e].length + ([] : List Keyword).length + (if ([] : List Keyword).isEmpty then 0 else 1) < 30)) = true := by rfl)
    (line : (apos.endLine == cpos.line) = true := by rfl) (each : starEach [e] X.env = (false, eval e X.env) :: starEach [] X.env := by rfl) (plain : (backTo cpos (starEach [] X.env)).any (·.1) = false := by rfl) :
    RE X W (.Call (.Attribute (.Name x px) "index" apos) [e] [] cpos) (mMt fLIdx (mVar i) m) := by
  obtain ⟨t, p, s⟩ := ra_cons h ra_nil each
  obtain ⟨to, po, so⟩ := (re_var (W := W) (pos := px) hN hv hd hcd)
  exact ⟨_, pe_bm PySem.F.plainAttrs_list PySem.F.slot_list_index PySem.F.type_list_index mt_index po p hbase few line each plain, sim_mt (ml := mNil) so s opS_idx⟩
theorem re_lcnt {m : MM SV} (h : RE X W e m) (hN : X.N[i]? = some x) (hv : Vis X.env.scope x) (hd : (x == ("__debug__" : Str)) = false := by decide) (hcd : (x == ("__classdict__" : Str)) = false := by decide)
    (hbase : attributeBase (.Name x px) "count" X.env (eval (.Name x px) X.env) = eval (.Name x px) X.env := by rfl)
    (few : ((backTo cpos (starEach [e] X.env)).all (fun x => !x.1) && (backToKw cpos (keywordEach [] X.env)).all (fun x => x.1.isSome) && decide ([e].length + ([] : List Keyword).length + (if ([] : List Keyword).isEmpty then 0 else 1) < 30)) = true := by rfl)
    (line : (apos.endLine == cpos.line) = true := by rfl) (each : starEach [e] X.env = (false, eval e X.env) :: starEach [] X.env := by rfl) (plain : (backTo cpos (starEach [] X.env)).any (·.1) = false := by rfl) :
    RE X W (.Call (.Attribute (.Name x px) "count" apos) [e] [] cpos) (mMt fLCnt (mVar i) m) := by
  obtain ⟨t, p, s⟩ := ra_cons h ra_nil each
  obtain ⟨to, po, so⟩ := (re_var (W := W) (pos := px) hN hv hd hcd)
  exact ⟨_, pe_bm PySem.F.plainAttrs_list PySem.F.slot_list_count PySem.F.type_list_count mt_lcount po p hbase few line each plain, sim_mt (ml := mNil) so s opS_cnt⟩
end
end Rx
/-! Rx 22: a call that changes a list handed to it: what it made itself is forgotten, a new list that it gives is data. -/
namespace Rx
open PySem L2 PySem.Spec PyProof.Rows Evl
def fCallFD (M : FL) (n : Nat) : FL := fun xs A => if xs.length = n then match M xs A with
  | .ok (.dat y) A2 => .ok (.dat y) (A2.take A.length)
  | .ok (.ref i) A2 => if A.length ≤ i then (match A2[i]? with | some (.lst ys) => .ok (.dat (.list ys)) (A2.take A.length) | none => .bad) else .bad
  | _ => .bad
  else .bad
theorem behind_full {K : KF} {s t : S3} {A A2 : List AO} (hs : SR K s A) (p : Post s t) (ht : SR K t A2) : Post s ⟨t.F, t.H, s.mu⟩ ∧ SR K ⟨t.F, t.H, s.mu⟩ (A2.take A.length) := by
  obtain ⟨nu, e, nn⟩ := p.pre
  have hl : A.length ≤ A2.length := by
    rw [← hs.len, ← ht.len, e, List.length_append]
    omega
  have mem : ∀ a, a ∈ s.mu → a ∈ t.mu := fun a ha => by rw [e]; exact List.mem_append_left _ ha
  refine ⟨⟨p.fx, p.fnew, ⟨[], by simp, by simp⟩, p.keep, p.dom⟩, ⟨ht.sub, fun a ha => ht.dis a (mem a ha), hs.nd, ?_, fun a ha => ht.on a (mem a ha), fun i a xs e1 e2 => ?_, ht.tb, hs.bs.trans p.fx, hs.mb⟩⟩
  · show s.mu.length = _
    rw [List.length_take, hs.len]
    omega
  · refine ht.obj i a xs (p.mu_get e1) ?_
    rw [List.getElem?_take] at e2
    split at e2
    · exact e2
    · cases e2
theorem spM_fullD {K : KF} {mg : Str → Option Value} {M : FL} {n : Nat} : CaS K (fun vs H Q => spM K.base mg n M vs H Q E0) (fCallFD M n) := by
  intro s A xs vs Q hs hv g
  unfold fCallFD at g
  split at g
  · rename_i hc
    refine ⟨s, A, xs, rfl, hs.base, hv, hc, ?_⟩
    cases hm : M xs A with
    | ok y A2 =>
      rw [hm] at g
      cases y with
      | dat y =>
        have g : Good (RR.ok (SV.dat y) (A2.take A.length)) _ _ := g
        intro t v p ht r
        obtain ⟨p2, h2⟩ := behind_full hs p (hs.re p ht)
        exact g ⟨t.F, t.H, s.mu⟩ v p2 h2 r
      | ref i =>
        have g : Good (if A.length ≤ i then (match A2[i]? with | some (.lst ys) => RR.ok (SV.dat (.list ys)) (A2.take A.length) | none => .bad) else .bad) _ _ := g
        split at g
        · rename_i hi
          cases hA : A2[i]? with
          | none => simp only [hA] at g; exact g.elim
          | some o =>
            cases o with
            | lst ys =>
              simp only [hA] at g
              have g : Good (RR.ok (SV.dat (.list ys)) (A2.take A.length)) _ _ := g
              rintro t v p ht ⟨a, rfl, ea⟩
              obtain ⟨ws, e1, e2⟩ := ht.obj i a ys ea hA
              have am : a ∈ t.mu := List.mem_of_getElem? ea
              have aF : t.F a = none := ht.dis a am
              obtain ⟨nu, e, nn⟩ := p.pre
              have an : a ∈ nu := by
                rw [e, List.getElem?_append_right (by rw [hs.len]; exact hi)] at ea
                exact List.mem_of_getElem? ea
              have aH : s.H a = none := nn a an
              have ans : a ∉ s.mu := fun z => by
                obtain ⟨o, eo⟩ := hs.on a z
                rw [aH] at eo; cases eo
              obtain ⟨p1, h1⟩ := behind_full hs p (hs.re p ht)
              have p2 : Post s ⟨upd t.F a (.lst ws), t.H, s.mu⟩ := by
                refine ⟨p1.fx.trans (Ex.new aF), fun b o e => ?_, p1.pre, p1.keep, p1.dom⟩
                have e : upd t.F a (.lst ws) b = some o := e
                by_cases hb : b = a
                · subst hb; exact .inr aH
                · rw [upd_ne hb] at e; exact p.fnew b o e
              have h2 : SR K ⟨upd t.F a (.lst ws), t.H, s.mu⟩ (A2.take A.length) := by
                refine ⟨fun b o e => ?_, fun b hb => ?_, h1.nd, h1.len, h1.on, fun i b xs q1 q2 => ?_, fun q hq => (h1.tb q hq).upL aF e1, h1.bs.trans (Ex.new aF), h1.mb⟩
                · have e : upd t.F a (.lst ws) b = some o := e
                  by_cases hb : b = a
                  · subst hb; rw [upd_same] at e; rw [← e]; exact e1
                  · rw [upd_ne hb] at e; exact ht.sub b o e
                · show upd t.F a (.lst ws) b = none
                  rw [upd_ne (fun z : b = a => ans (by rw [← z]; exact hb))]
                  exact h1.dis b hb
                · obtain ⟨us, q3, q4⟩ := h1.obj i b xs q1 q2
                  exact ⟨us, q3, DqAll.up (Ex.new aF) xs q4⟩
              exact g ⟨upd t.F a (.lst ws), t.H, s.mu⟩ (.ref a) p2 h2 (.lst (sq_of (show upd t.F a (.lst ws) a = _ from upd_same)) (DqAll.up (Ex.new aF) ys e2))
        · exact g.elim
      | adr a => exact g.elim
    | exc x A2 => rw [hm] at g; exact g.elim
    | bad => rw [hm] at g; exact g.elim
  · exact g.elim
section
variable {X : Cx} {W : WX}
theorem re_cFD {k n : Nat} {x : Str} {ps : List Str} {M : FL} {p pos : Pos} {e : Expr} {es : List Expr} {ma : MM (List SV)} (C : Cal X.prog X.w (kf X W).base X.mg X.base k x ps M) (hgd : X.A.guards = some []) (hr : Room k X.A) (ha : RA X W (e :: es) ma) (hg : Gl X x) (hdb : (x == ("__debug__" : Str)) = false) (hn : ps.length = n := by rfl)
    (he : starEach (e :: es) X.env = (false, eval e X.env) :: starEach es X.env := by rfl) (hpl : (backTo pos (starEach es X.env)).any (·.1) = false := by rfl) : RE X W (.Call (.Name x p) (e :: es) [] pos) (mCall (fCallFD M n) ma) := by
  subst hn
  obtain ⟨f, fd, hm, hk, hb, F⟩ := C.ex
  obtain ⟨t, pa, sa⟩ := ha
  exact ⟨_, pe_g F hgd hr hg hm hk hb pa hdb he hpl, sim_call spM_fullD sa⟩
end
end Rx
/-! Rx 23: repr(x), x a bool, None, too. -/
namespace Rx
open PySem L2 PySem.Spec PyProof.Rows Evl
section
variable {X : Cx} {K : KF}
def gReprX (d : PyData) : Option PyData := match d with
  | .bool b => some (.str (if b then "True" else "False"))
  | .none => some (.str "None")
  | .str x => if (reprText x).length ≤ 16000000 then some (.str (reprText x)) else none
  | d => gReprR d
theorem scReprX (d r : PyData) (h : gReprX d = some r) : ∃ v, Scal r v := by
  cases d with
  | bool b => cases h; exact ⟨_, scal_str _⟩
  | none => cases h; exact ⟨_, scal_str _⟩
  | list ds => exact scReprR (.list ds) _ h
  | tuple ds => exact scReprR (.tuple ds) _ h
  | int i => exact scReprR (.int i) _ h
  | str x =>
    have h : (if (reprText x).length ≤ 16000000 then some (PyData.str (reprText x)) else none) = some r := h
    split at h
    · cases h; exact ⟨_, scal_str _⟩
    · cases h
  | dict _ => cases h
theorem cr_reprH (ft : FitR X.A) : CallR X (.builtin "repr") (r1D gReprX X.K) := by
  intro pins s σ H xs us Q I r ⟨x, d, y, v, e, hd, hg, hv, q⟩
  have same : gReprX d = gReprR d → wpAny (model X.prog X.w) X.A (call (.builtin "repr") us) (EP X pins σ Q) X.xe s := fun h =>
    cr_reprX ft pins s σ H xs us Q I r ⟨x, d, y, v, e, hd, h ▸ hg, hv, q⟩
  cases d with
  | bool b =>
    subst e
    cases hd
    obtain ⟨u, rfl, ru⟩ := vals1 r
    cases ru
    cases hg
    have ev := scal_v hv (scal_str _)
    subst ev
    exact PySem.P.repr_of_bool ⟨.str _, H, I.tok _, ⟨_, rfl⟩, q⟩
  | none =>
    subst e
    cases hd
    obtain ⟨u, rfl, ru⟩ := vals1 r
    cases ru
    cases hg
    have ev := scal_v hv (scal_str _)
    subst ev
    exact PySem.P.repr_of_none ⟨.str _, H, I.tok _, ⟨_, rfl⟩, q⟩
  | str z =>
    subst e
    cases hd
    obtain ⟨u, rfl, ru⟩ := vals1 r
    obtain ⟨tk, rfl⟩ := ru
    have hg : (if (reprText z).length ≤ 16000000 then some (PyData.str (reprText z)) else none) = some y := hg
    split at hg
    · rename_i hz
      cases hg
      have ev := scal_v hv (scal_str _)
      subst ev
      exact PySem.P.repr_of_str ⟨.str _, H, I.tok _, ⟨_, rfl⟩, q⟩ (Nat.le_trans hz (by rw [sizeLine_eq]; omega))
    · cases hg
  | _ => exact same rfl
theorem cr_reprY (ft : Fit X.A) : CallR X (.builtin "repr") (r1D gReprX X.K) := cr_reprH ft.r
theorem ca_reprX : CaS K (r1D gReprX K) (f1D gReprX) := caS_1D scReprX
theorem gReprX_of {d : PyData} {y : PyData} (h : gReprR d = some y) : gReprX d = some y := by
  cases d with
  | bool _ => cases h
  | none => cases h
  | str _ => cases h
  | _ => exact h
end
end Rx
/-! Rx 24: a dict whose keys are tuples of ints, made by a comprehension; its keys, sorted. -/
namespace Rx
open PySem L2 PySem.Spec PyProof.Rows Evl
/-- the dict's own object -/
def RawT (P : Program) (w : World) (D : Addr) (xs : List (List Key × Addr × Value)) (h : Heap) : Prop :=
  (D == sysModules) = false ∧ ∃ (o : Obj) (es : Array DictEntry) (ep : Nat), h.get? D = some o ∧ o.ExactDict ∧ o.data = .dict es ep ∧ es.toList = xs.map (entryOfKey (tupleKind (mixKind P w))) ∧ (xs.map (·.1)).Nodup
def dictX (P : Program) (w : World) (D : Addr) (xs : List (List Key × Addr × Value)) : HO := .ext (RawT P w D xs)
section
variable {P : Program} {w : World} {H : Hp} {h : Heap}
theorem RawT.ok {D : Addr} {xs : List (List Key × Addr × Value)} (r : RawT P w D xs h) : ObjOk P w H h D (dictX P w D xs) := by
  refine ⟨r, ?_, fun h1 h2 r1 k => ?_⟩
  · obtain ⟨_, o, _, _, e, _⟩ := r
    exact ⟨o, e⟩
  · obtain ⟨lo, o, es, ep, e, z⟩ := r1
    exact ⟨lo, o, es, ep, k o e, z⟩
theorem rawT_of {D : Addr} {xs : List (List Key × Addr × Value)} (ok : HOk P w H h) (e : H D = some (dictX P w D xs)) : RawT P w D xs h := (ok D _ e).1
/-- a tuple of ints, wherever it comes from, is a key -/
theorem key_seq {K : PySem.W.Frag} {b : Addr} {ks : List Key} (ok : HOk P w H h) (kin : K.In h) (e : SqT K H b (ks.map kV)) : (tupleKind (mixKind P w)).is h ks b := by
  rcases e with e | ⟨o, its, n, h1, h2, h3, h4, h5⟩
  · obtain ⟨_, its, r, o, g1, g2, n, g3⟩ := (show ObjOk P w H h b (.tup (ks.map kV)) from rd_of ok e)
    exact ⟨o, its.toArray, n, g1, g2, g3, by simpa using items_are r⟩
  · exact ⟨o, its, n, kin b o h1, h2, h3, items_are h5⟩
/-- the keys of xs stand in H -/
def KeysAt (K : PySem.W.Frag) (H : Hp) (xs : List (List Key × Addr × Value)) : Prop := ∀ x ∈ xs, SqT K H x.2.1 (x.1.map kV)
theorem ofH {K : PySem.W.Frag} {D : Addr} {xs : List (List Key × Addr × Value)} (ok : HOk P w H h) (kin : K.In h) (r : RawT P w D xs h) (k : KeysAt K H xs) : h.DictOfH (tupleKind (mixKind P w)) D xs := by
  obtain ⟨_, o, es, ep, a1, a2, a3, a4, a5⟩ := r
  exact ⟨o, es, ep, a1, a2, a3, a4, fun x hx => key_seq ok kin (k x hx), a5⟩
theorem raw_of {D : Addr} {xs : List (List Key × Addr × Value)} (lo : (D == sysModules) = false) (r : h.DictOfH (tupleKind (mixKind P w)) D xs) : RawT P w D xs h := by
  obtain ⟨o, es, ep, a1, a2, a3, a4, _, a5⟩ := r
  exact ⟨lo, o, es, ep, a1, a2, a3, a4, a5⟩
end
section
variable {X : Cx} {pins : List (Addr × Obj)} {σ : L2.St} {H : Hp} {s : Shared}
/-- d[t] = v, d such a dict -/
theorem d_setX {E : Value → Shared → Prop} {Q : Unit → Shared → Prop} {D b : Addr} {xs : List (List Key × Addr × Value)} {ks : List Key} {v : Value} (hu : X.A.units < cLine) (I : Inv X pins σ H s) (hD : H D = some (dictX X.prog X.w D xs)) (hk : KeysAt X.K H xs) (hz : xs.length ≤ sizeLine) (hb : SqT X.K H b (ks.map kV))
    (h : ∀ s', Inv X pins σ (upd H D (dictX X.prog X.w D (storedH xs ks b v))) s' → Q () s') : wpAny (model X.prog X.w) X.A (dictSet D (.ref b) v) Q E s := by
  have d := ofH I.hok I.kIn (rawT_of I.hok hD) hk
  refine wpAny_dictSet_heap hu (key_seq I.hok I.kIn hb) d (fun h' d' sb => h _ ?_) hz
  have r := raw_of (rawT_of I.hok hD).1 d'
  have he : ∃ q, h'.get? D = some q := by
    obtain ⟨_, o, _, _, e, _⟩ := r
    exact ⟨o, e⟩
  exact d_write I (by rw [hD]; exact True.intro) sb he r.ok
/-- sorted of such a dict's keys -/
def rSortX (P : Program) (w : World) (K : PySem.W.Frag) : List V → Hp → VK → Prop := fun vs H Q => ∃ (D : Addr) (xs : List (List Key × Addr × Value)) (ds : List PyData), vs = [.ref D] ∧ H D = some (dictX P w D xs) ∧ DqAll K H (xs.map fun x => V.ref x.2.1) ds ∧ okS ds = true ∧
  ∀ (ws : List V) (p : Addr), (∀ F, DqAll K F (xs.map fun x => V.ref x.2.1) ds → DqAll K F ws (srt ds)) → H p = none → Q (.ref p) (upd H p (.lst ws))
theorem cr_sortX (ft : Fit X.A) (hcalm : X.calm = true) : CallR X (.builtin "sorted") (rSortX X.prog X.w X.K) := by
  intro pins s σ H vs us Q I r ⟨D, xs, ds, e, hD, hd, hok, q⟩
  subst e
  rw [Vals.ref1 r]
  obtain ⟨lo, o, es, ep, g1, g2, g3, g4, g5⟩ := rawT_of I.hok hD
  obtain ⟨c1, c2, c3, c4⟩ := okS_ok hok
  have hl : es.size = xs.length := by
    have := congrArg List.length g4
    rw [Array.length_toList, List.length_map] at this
    exact this
  have hdl : ds.length = xs.length := by rw [← DqAll.length hd, List.length_map]
  have rv : Vals (xs.map fun x => V.ref x.2.1) (xs.map fun x => Value.ref x.2.1) := by
    clear hD hd q g4 hl hdl g5
    induction xs with
    | nil => exact .nil
    | cons x xs ih => exact .cons rfl ih
  refine sorted_coll ft I rv hd hok (fun Qc E h => ?_) q
  refine PySem.W.kdu_collect (KdlSrc.rawDict (es := es) (ep := ep) lo) (I.ok.hd hcalm) ⟨o, g1, g2, g3⟩ (by rw [hl, ← hdl, sizeLine_eq]; omega) fun h' tk acc hk hacc => ?_
  have e : acc.toList = xs.map fun x => Value.ref x.2.1 := by
    refine List.ext_getElem (by rw [Array.length_toList, hacc.1, hl, List.length_map]) fun i h1 h2 => ?_
    have h1' : i < acc.size := by simpa using h1
    obtain ⟨hi, hv⟩ := hacc.2 i acc[i] (Array.getElem?_eq_getElem h1')
    have ex : es.toList[i]? = (xs.map (entryOfKey (tupleKind (mixKind X.prog X.w))))[i]? := by rw [g4]
    rw [List.getElem_map, Array.getElem_toList, hv]
    have hx : i < xs.length := by omega
    rw [Array.getElem?_toList, Array.getElem?_eq_getElem hi, List.getElem?_map, List.getElem?_eq_getElem hx] at ex
    rw [Option.some.inj ex]
    rfl
  rw [e]
  exact h h' tk hk
end
end Rx
/-! Rx 24b: the comprehension that makes such a dict. -/
namespace Rx
open PySem L2 PySem.Spec PyProof.Rows Evl
/-- a key is put in, with True -/
def putsX (P : Program) (w : World) (K : PySem.W.Frag) (D : Addr) (Nx : Hp → Prop) : VK := fun y H => ∃ (xs : List (List Key × Addr × Value)) (ks : List Key) (b : Addr), y = .ref b ∧ H D = some (dictX P w D xs) ∧ KeysAt K H xs ∧ xs.length ≤ sizeLine ∧ SqT K H b (ks.map kV) ∧ Nx (upd H D (dictX P w D (storedH xs ks b (.bool true))))
def tDx (P : Program) (w : World) (K : PySem.W.Frag) (wi : TI) (g : TG) (tt : TT) (tk : TE) (vs : List Nat) : TE := fun σ H Q => wi σ H fun J H1 => ∀ D, H1 D = none → ∃ W : Nat → Nat → Hp → Prop, (∃ m, W 0 m (upd H1 D (dictX P w D []))) ∧
  ∀ i m H, W i m H → (J.stop i H ∧ Q (.ref D) H) ∨ (J.go i H ∧ ∃ Nx : Hp → Prop, (∀ H', Nx H' → ∃ m', m' < m ∧ W (i + 1) m' H') ∧
    ∀ x H', J.yld i H x H' → g x (L2.wipe σ vs) H' fun σ2 H2 => L2.wipe σ2 vs = L2.wipe σ vs ∧ tt σ2 H2 fun b H3 => if b = true then tk σ2 H3 (putsX P w K D Nx) else Nx H3)
theorem newX {P : Program} {w : World} {H : Hp} (h : Heap) (hb : sysModules < h.objs.size) : ObjOk P w H (h.push { cls := .type "dict", data := .dict #[] }) h.objs.size (dictX P w h.objs.size []) :=
  RawT.ok ⟨beq_eq_false_iff_ne.mpr (Ne.symm (Nat.ne_of_lt hb)), _, #[], 0, Heap.get?_push_size _ rfl, ⟨rfl, rfl, rfl⟩, rfl, rfl, List.nodup_nil⟩
section
variable {X : Cx}
theorem pe_dcX {kx tg iter : Expr} {ifs : List Expr} {scope : Scope} {own : List (Str × Nat)} {pos bp : Pos} {bj : Nat} {wi : TI} {g : TG} {tt : TT} {tk : TE} (hu : X.A.units < cLine) (hc : X.calm = true) (hN : X.N.Nodup) (hi : PI X tg iter wi) (ok : BlkOk X.N X.env.scope scope own)
    (hg : ∀ s H C cl fp, PG (X.blk s H scope (compEnvC scope cl C X.env) fp) tg g) (ht : ∀ s H C cl fp, PTs (X.blk s H scope (compEnvC scope cl C X.env) fp) ifs tt) (hk : ∀ s H C cl fp, PE (X.blk s H scope (compEnvC scope cl C X.env) fp) kx tk)
    (hs : ∀ x, foldedSetIterable iter X.env x = pure x := by intro _; rfl) : PE X (.DictComp kx (.Constant (.bool true) bj bp) [⟨tg, iter, ifs, 0⟩] scope pos) (tDx X.prog X.w X.K wi g tt tk (own.map (·.2))) := ⟨fun pins s σ H Q I h => by
  rw [arm_eval_DictComp]
  have caps : ∀ z ∈ scope.names, z.2 = .free → ∃ c, X.env.cells.lookup z.1 = some c := fun z hz e => (ok.free z hz e).elim (fun k => I.ok.has _ (.inl k)) fun k => I.ok.has _ (.inr k)
  refine wpAny_comprehension_free (use := none) rfl hs (closure_ok caps) ok.kind (fun z hz e => (ok.uniq z hz).trans (by rw [e])) (thn (hi.run pins s σ H _ I h) fun xv sa hx => thn hx fun itv sb hb => ?_)
  obtain ⟨it, fp, tn, J, Hb, rfl, Ib, T, stb, fb, q⟩ := hb
  refine wpAny_newObj_type (newEnv_comp ?_)
  have free0 : Hb sb.heap.objs.size = none := Ib.hok.fresh (Nat.le_refl _)
  obtain ⟨W, ⟨m0, w0⟩, turn⟩ := q _ free0
  let D := sb.heap.objs.size
  let sc : Shared := { sb with heap := sb.heap.push { cls := .type "dict", data := .dict #[] } }
  let Hc : Hp := upd Hb D (dictX X.prog X.w D [])
  have up : ∀ b o, sb.heap.get? b = some o → sc.heap.get? b = some o := fun b o e => Heap.get?_push_of_some _ e
  have Ic : Inv X pins σ Hc sc := Ib.laid (t' := sb.toks) up (Nat.le_refl _) (newX sb.heap Ib.big)
  have small : ∀ b ∈ fp, b < D := fun b hb => let ⟨o, e, _⟩ := T.obj _ _ stb b hb; Heap.lt_size e
  have fc : ∀ b ∈ fp, FpOk X pins Hc b ∧ b < sc.heap.objs.size := fun b hb => ⟨⟨(upd_ne (Nat.ne_of_lt (small b hb))).trans (fb b hb).1, (fb b hb).2⟩, Nat.lt_trans (small b hb) (by show _ < (sb.heap.push _).objs.size; rw [Heap.size_push]; exact Nat.lt_succ_self _)⟩
  have Id := block_start Ic ok hN fc
  let C := sc.heap.objs.size
  let cl := cellsFrom (C + 1) scope.names (cloFrom X.env.cells scope.names [])
  let Y := X.blk sc Hc scope (compEnvC scope cl C X.env) fp
  let sd : Shared := { sc with heap := pushCells (sc.heap.push { cls := .type "dict", data := .dict #[] }) scope.names }
  have Id : Inv Y [] (L2.wipe σ (own.map (·.2))) Hc sd := Id
  have pg := hg sc Hc C cl fp
  have pt := ht sc Hc C cl fp
  have pk := hk sc Hc C cl fp
  have std : tn 0 sd.heap := T.keep _ _ _ stb fun b _ o e => pushCells_keeps _ _ _ _ (Heap.get?_push_of_some _ (up b o e))
  have apart : ∀ {σ' : L2.St} {H' : Hp} {z : Shared}, Inv Y [] σ' H' z → (∀ b ∈ fp, H' b = none) → ∀ b ∈ fp, FpOk Y [] H' b := fun {σ' H' z} J' nf b hb =>
    ⟨nf b hb, (J'.ok.exf b hb).1, J'.ok.exfs b hb, .inl hb, fun x c e => (J'.ok.exf b hb).2 x c e, fun r hr => by
      have hr : r ∈ ([] : List (Addr × Obj)) ++ [] := hr
      simp at hr⟩
  have body : codeAny (model X.prog X.w) X.A (.compLoop (.DictComp kx (.Constant (.bool true) bj bp) [⟨tg, iter, ifs, 0⟩] scope pos) 0 (.ref it) (.ref D) (compEnvC scope cl C X.env)) (compPost (model X.prog X.w) X.A X.xe none (EP X pins σ Q) (.ref D) C) sd := by
    refine compLoop_anyD (fun n z => ∃ i H', Inv Y [] (L2.wipe σ (own.map (·.2))) H' z ∧ tn i z.heap ∧ (∀ b ∈ fp, H' b = none) ∧ W i n H') (fun n z hz => ?_) m0 ⟨0, Hc, Id, std, fun b hb => (fc b hb).1.1, w0⟩
    obtain ⟨i, Hz, Iz, stz, nz, wz⟩ := hz
    rcases turn i n Hz wz with ⟨stop, qq⟩ | ⟨go, Nx, hNx, step⟩
    · have dn := T.done Y rfl rfl rfl hc i [] z _ Hz (fun _ _ => False) Iz (apart Iz nz) stz stop
      refine thnF dn fun r y ⟨hr, Iy⟩ => ?_
      subst hr
      have back : Inv X pins σ Hz y := Ic.call' (ch := fp) Iy.os Iy.base Iy.hok Iy.bare fun b hb => let f := (fc b hb).1.2; ⟨f.2.2.1, f.1, f.2.2.2.1, f.2.2.2.2⟩
      have nC : Hz C = none := Iy.free
      obtain ⟨m, hm, _⟩ := Iy.loc
      have fo := Ic.fpOk (H' := Hz) (Nat.le_refl _) nC
      refine ⟨m, hm, fun h'' keep => ⟨.ref D, Hz, back.turned (t' := y.toks) (fun b o hb e => (keep.2 b hb).trans e) fo.1 fo.2.1 fo.2.2.2.1 fo.2.2.2.2.1 fo.2.2.2.2.2, rfl, qq⟩⟩
    · have itm := T.item Y rfl rfl rfl hc i [] z _ Hz (fun _ _ => False) Iz (apart Iz nz) stz go
      refine thnF itm fun r y ⟨u, hr, hy⟩ => ?_
      subst hr
      refine thnF hy fun _ y2 ⟨x, H2, I2, r2, yl, st2, n2⟩ => ?_
      have I3 := I2.pinned (apart I2 n2) (T.obj _ _ st2)
      refine thnF (pg.run _ y2 _ H2 x u _ I3 r2 (step x H2 yl)) fun _ y3 ⟨σ3, H3, I4, hw3, q3⟩ => ?_
      refine thnF (pt.run _ y3 σ3 H3 _ I4 q3) fun b y4 ⟨H4, I5, q4⟩ => ?_
      have close : ∀ {v : Shared} {H' : Hp}, Inv Y ([] ++ pinsAt fp y2.heap) σ3 H' v → Nx H' → ∃ m, m < n ∧ ∃ i H', Inv Y [] (L2.wipe σ (own.map (·.2))) H' v ∧ tn i v.heap ∧ (∀ b ∈ fp, H' b = none) ∧ W i m H' := fun {v H'} Iv nx => by
        obtain ⟨m', hlt, w'⟩ := hNx H' nx
        have still : ∀ b ∈ fp, ∀ o, y2.heap.get? b = some o → v.heap.get? b = some o ∧ H' b = none := fun b hb o e =>
          ⟨(Iv.pin (b, o) (List.mem_append_right _ (List.mem_append_right _ (mem_pinsAt hb e)))).1, (Iv.pin (b, o) (List.mem_append_right _ (List.mem_append_right _ (mem_pinsAt hb e)))).2.1⟩
        refine ⟨m', hlt, i + 1, H', (Iv.unpinned (pins := [])).weak (by rw [← hw3, wipe_length]) (fun j v e => (wipe_some (by rw [hw3]; exact e)).1), T.keep _ _ _ st2 fun b hb o e => (still b hb o e).1, fun b hb => ?_, w'⟩
        obtain ⟨o, e, _⟩ := T.obj _ _ st2 b hb
        exact (still b hb o e).2
      cases b with
      | false => exact close I5 q4
      | true =>
        refine thnF (pk.run _ y4 σ3 H4 _ I5 q4) fun kv y5 ⟨yk, H5, I6, r5, xs, ks, a, ey, hD, hK, hz, hT, nx⟩ => ?_
        subst ey
        have r5 : kv = .ref a := r5
        subst r5
        refine thnF ((pe_bl (X := Y) (b := true)).run _ y5 σ3 H5 (fun y H => y = .bl true ∧ H = H5) I6 ⟨rfl, rfl⟩) fun tv y5' ⟨yt, H6, I6b, r6, e1, e2⟩ => ?_
        subst e1; subst e2
        have r6 : tv = .bool true := r6
        subst r6
        exact d_setX (X := Y) hu I6b hD hK hz hT fun y6 I7 => close I7 nx
  exact codeAny_compStart_dict body (T.self X.A 0 _ _ _ std body)⟩
end
end Rx
/-! Rx 24c: sorted({t: True for ..}), t tuples of ints. -/
namespace Rx
open PySem L2 PySem.Spec PyProof.Rows Evl
def rowD (ns : List Int) : PyData := .tuple (ns.map .int)
def asRow (d : PyData) : Option (List Int) := match d with
  | .tuple ds => asInts ds
  | _ => none
def asRows : List PyData → Option (List (List Int))
  | [] => some []
  | d :: ds => match asRow d with
    | some r => match asRows ds with
      | some rs => some (r :: rs)
      | none => none
    | none => none
def addR (a : List (List Int)) (k : List Int) : List (List Int) := if k ∈ a then a else a ++ [k]
def keyR (ns : List Int) : List Key := ns.map Sum.inl
theorem asRow_ok {d : PyData} {r : List Int} (h : asRow d = some r) : d = rowD r := by
  cases d with
  | tuple ds =>
    have h : asInts ds = some r := h
    show PyData.tuple ds = _
    rw [asInts_eq h]
    rfl
  | _ => cases h
theorem asRows_cons {d : PyData} {ds : List PyData} {rs : List (List Int)} (h : asRows (d :: ds) = some rs) : ∃ r rs', asRow d = some r ∧ asRows ds = some rs' ∧ rs = r :: rs' := by
  unfold asRows at h
  cases h1 : asRow d with
  | none => rw [h1] at h; cases h
  | some r =>
    rw [h1] at h
    cases h2 : asRows ds with
    | none => rw [h2] at h; cases h
    | some rs' =>
      rw [h2] at h
      cases h
      exact ⟨r, rs', rfl, rfl, rfl⟩
/-- xs has the rows acc as its keys -/
structure Ks (K : PySem.W.Frag) (H : Hp) (xs : List (List Key × Addr × Value)) (acc : List (List Int)) : Prop where
  ks : xs.map (·.1) = acc.map keyR
  at' : KeysAt K H xs
theorem keyR_inj {a b : List Int} (h : keyR a = keyR b) : a = b := by
  unfold keyR at h
  induction a generalizing b with
  | nil => cases b with
    | nil => rfl
    | cons _ _ => cases h
  | cons x a ih => cases b with
    | nil => cases h
    | cons y b =>
      rw [List.map_cons, List.map_cons] at h
      cases List.cons.inj h with
      | intro h1 h2 =>
        cases h1
        rw [ih h2]
theorem kV_row (ns : List Int) : (keyR ns).map kV = ns.map V.int := by
  unfold keyR
  rw [List.map_map]
  rfl
theorem Ks.put {K : PySem.W.Frag} {H : Hp} {xs : List (List Key × Addr × Value)} {acc : List (List Int)} {b : Addr} {k : List Int} {v : Value} (h : Ks K H xs acc) (hb : SqT K H b (k.map V.int)) : Ks K H (storedH xs (keyR k) b v) (addR acc k) := by
  have hmem : keyR k ∈ xs.map (·.1) ↔ k ∈ acc := by
    rw [h.ks]
    constructor
    · intro q
      obtain ⟨r, hr, e⟩ := List.mem_map.mp q
      rwa [keyR_inj e] at hr
    · exact fun q => List.mem_map_of_mem q
  have iff : (atKey xs (keyR k)).isSome = true ↔ k ∈ acc := by
    rw [← hmem]
    unfold atKey
    rw [Option.isSome_map, List.find?_isSome, List.mem_map]
    constructor
    · rintro ⟨x, h1, h2⟩
      exact ⟨x, h1, of_decide_eq_true h2⟩
    · rintro ⟨x, h1, h2⟩
      exact ⟨x, h1, decide_eq_true h2⟩
  have same : ∀ x : List Key × Addr × Value, (PySem.putAt (keyR k) v x).1 = x.1 ∧ (PySem.putAt (keyR k) v x).2.1 = x.2.1 := fun x => by
    unfold PySem.putAt
    split <;> exact ⟨rfl, rfl⟩
  unfold storedH addR
  by_cases hk : k ∈ acc
  · rw [if_pos (iff.mpr hk), if_pos hk]
    refine ⟨?_, fun x hx => ?_⟩
    · rw [List.map_map, ← h.ks]
      exact List.map_congr_left fun x _ => (same x).1
    · obtain ⟨y, hy, rfl⟩ := List.mem_map.mp hx
      rw [(same y).1, (same y).2]
      exact h.at' y hy
  · rw [if_neg (fun q => hk (iff.mp q)), if_neg hk]
    refine ⟨?_, fun x hx => ?_⟩
    · rw [List.map_append, List.map_append, h.ks]
      rfl
    · rcases List.mem_append.mp hx with hx | hx
      · exact h.at' x hx
      · rw [List.mem_singleton.mp hx]
        show SqT K H b ((keyR k).map kV)
        rw [kV_row]
        exact hb
/-- the keys as data -/
theorem Ks.dq {K : PySem.W.Frag} {H : Hp} : ∀ {xs : List (List Key × Addr × Value)} {acc : List (List Int)}, Ks K H xs acc → DqAll K H (xs.map fun x => V.ref x.2.1) (acc.map rowD)
  | [], [], _ => .nil
  | [], _ :: _, h => by have := h.ks; cases this
  | _ :: _, [], h => by have := h.ks; cases this
  | x :: xs, r :: acc, h => by
    have e := h.ks
    rw [List.map_cons, List.map_cons] at e
    obtain ⟨e1, e2⟩ := List.cons.inj e
    have hx := h.at' x List.mem_cons_self
    rw [e1, kV_row] at hx
    exact .cons (.tup hx (DqAll.ofInts _)) (Ks.dq ⟨e2, fun y hy => h.at' y (List.mem_cons_of_mem _ hy)⟩)
end Rx
/-! Rx 24d: the loop of such a comprehension. -/
namespace Rx
open PySem L2 PySem.Spec PyProof.Rows Evl
theorem ks_of {K : PySem.W.Frag} {G : Hp} : ∀ {ys : List (List Key × Addr × Value)} {acc : List (List Int)}, ys.map (·.1) = acc.map keyR → DqAll K G (ys.map fun x => V.ref x.2.1) (acc.map rowD) → KeysAt K G ys
  | [], _, _, _ => fun _ h => by cases h
  | _ :: _, [], e, _ => by cases e
  | y :: ys, r :: acc, e, h => by
    rw [List.map_cons, List.map_cons] at e h
    obtain ⟨e1, e2⟩ := List.cons.inj e
    cases h with
    | cons h1 h2 =>
      cases h1 with
      | tup a b =>
        intro x hx
        rcases List.mem_cons.mp hx with rfl | hx
        · rw [e1, kV_row, ← DqAll.ints b]
          exact a
        · exact ks_of e2 h2 x hx
theorem Ks.up {K : PySem.W.Frag} {F G : Hp} {ys : List (List Key × Addr × Value)} {acc : List (List Int)} (h : Ks K F ys acc) (e : Ex F G) : Ks K G ys acc := ⟨h.ks, ks_of h.ks (DqAll.up e _ h.dq)⟩
theorem row_up {K : PySem.W.Frag} {F G : Hp} {b : Addr} {k : List Int} (h : SqT K F b (k.map V.int)) (e : Ex F G) : SqT K G b (k.map V.int) := by
  have := Dq.up e (rowD k) (.tup h (DqAll.ofInts k))
  cases this with
  | tup a c => rw [← DqAll.ints c]; exact a
section
variable {K : KF} {W : WX} {P : Program} {w : World}
theorem dcX_loop {g : TG} {tt : TT} {tk : TE} {js vs : List Nat} {f : TgF} {mt : MM Bool} {el : MM SV} (hg : SimT K js g f) (hj : ∀ j ∈ js, j ∈ vs) (ht : Sim K (NoK K) same tt mt) (he : Sim K (NoK K) (RV K) tk el)
    {s : S3} {A : List AO} {d : DSt} {σ : L2.St} {D : Addr} {xs : List SV} {J : It} {acc : List (List Int)} {ys : List (List Key × Addr × Value)} {Fin : Hp → Prop} (hs : SR K s A) (hσ : RSt K s d σ) (hD : s.H D = none) (hw : Walks K s xs J) (hK : Ks K s.F ys acc)
    (h : Good (lcGo f mt el (dwipe d vs) xs A) (fun r A' => ∃ ns, asRows r = some ns ∧ sz (acc.length + ns.length) = true ∧ ∀ (t : S3) (zs : List (List Key × Addr × Value)), Post s t → SR K t A' → t.H D = none → Ks K t.F zs (ns.foldl addR acc) → Fin (upd t.H D (dictX P w D zs))) NoX) :
    ∃ W : Nat → Nat → Hp → Prop, (∃ m, W 0 m (upd s.H D (dictX P w D ys))) ∧ ∀ i m H, W i m H → (J.stop i H ∧ Fin H) ∨ (J.go i H ∧ ∃ Nx : Hp → Prop, (∀ H', Nx H' → ∃ m', m' < m ∧ W (i + 1) m' H') ∧
      ∀ x H', J.yld i H x H' → g x (L2.wipe σ vs) H' fun σ2 H2 => L2.wipe σ2 vs = L2.wipe σ vs ∧ tt σ2 H2 fun b H3 => if b = true then tk σ2 H3 (putsX P w K D Nx) else Nx H3) := by
  let Inv1 : Nat → Hp → Prop := fun i H => ∃ (s' : S3) (A' : List AO) (acc' : List (List Int)) (ys' : List (List Key × Addr × Value)), H = (s'.newH D (dictX P w D ys')).H ∧ Post s s' ∧ SR K s' A' ∧ s'.H D = none ∧ Ks K s'.F ys' acc' ∧
    Good (lcGo f mt el (dwipe d vs) (xs.drop i) A') (fun r A'' => ∃ ns, asRows r = some ns ∧ sz (acc'.length + ns.length) = true ∧ ∀ (t : S3) (zs : List (List Key × Addr × Value)), Post s' t → SR K t A'' → t.H D = none → Ks K t.F zs (ns.foldl addR acc') → Fin (upd t.H D (dictX P w D zs))) NoX
  refine ⟨fun i m H => m = xs.length - i ∧ i ≤ xs.length ∧ Inv1 i H, ⟨xs.length, by simp, Nat.zero_le _, s, A, acc, ys, rfl, Post.refl _, hs, hD, hK, h⟩, ?_⟩
  rintro i m _ ⟨rfl, hle, s', A', acc', ys', rfl, p', hs', hD', hK', h'⟩
  have hsD : SR K (s'.newH D (dictX P w D ys')) A' := hs'.newH hD' _
  have pD : Post s' (s'.newH D (dictX P w D ys')) := Post.newH hD' _
  obtain ⟨wy, wstop⟩ := hw i (s'.newH D (dictX P w D ys')) A' (p'.trans pD).fx hsD
  by_cases hlt : i < xs.length
  · have hx : xs[i]? = some xs[i] := List.getElem?_eq_getElem hlt
    have hdrop : xs.drop i = xs[i] :: xs.drop (i + 1) := List.drop_eq_getElem_cons hlt
    rw [hdrop] at h'
    obtain ⟨go, yl⟩ := wy _ hx
    refine .inr ⟨go, Inv1 (i + 1), fun H2 q => ⟨xs.length - (i + 1), by omega, rfl, hlt, q⟩, fun v H2 y => ?_⟩
    obtain ⟨u, rfl, pu, hu, ru⟩ := yl v H2 y
    unfold lcGo at h'
    cases hf : f xs[i] (dwipe d vs) with
    | none => simp only [hf] at h'; exact h'.elim
    | some d1 =>
      simp only [hf] at h'
      have hσu : RSt K u (dwipe d vs) (L2.wipe σ vs) := (((hσ.up p').up pD).up pu).wipe vs
      refine hg u A' _ v _ d1 _ _ hu hσu ru hf fun σ3 hσ3 off => ⟨wipe_off off hj, ?_⟩
      refine ht u A' d1 σ3 _ hu hσ3 (Good.mono (Good.qb h') (fun b A1 h1 u1 b' p1 hu1 r1 => ?_) (fun _ _ z => z.elim))
      have r1 : b = b' := r1
      subst r1
      cases b with
      | false =>
        have h1 : Good (lcGo f mt el (dwipe d vs) (xs.drop (i + 1)) A1) _ _ := h1
        show Inv1 (i + 1) u1.H
        obtain ⟨e1, q1, hs1, e2⟩ := aside hs' hD' (pu.trans p1) hu1 (fun _ z => by unfold dictX at z; cases z)
        refine ⟨⟨u1.F, rem u1.H D, u1.mu⟩, A1, acc', ys', congrArg S3.H e2, p'.trans q1, hs1, rem_same, hK'.up q1.fx, Good.mono h1 (fun r A'' ⟨ns, z1, z2, z3⟩ => ⟨ns, z1, z2, fun t zs pt => z3 t zs (q1.trans pt)⟩) (fun _ _ z => z)⟩
      | true =>
        have h1 : Good ((el d1 A1).quiet.bind _) _ _ := h1
        show tk σ3 u1.H _
        refine he u1 A1 d1 σ3 _ hu1 (hσ3.up p1) (Good.mono (Good.qb h1) (fun y A2 h2 u2 w2 p2 hu2 r2 => ?_) (fun _ _ z => z.elim))
        cases y with
        | dat e =>
          obtain ⟨e1, q1, hs1, e2⟩ := aside hs' hD' ((pu.trans p1).trans p2) hu2 (fun _ z => by unfold dictX at z; cases z)
          have h2 : Good ((lcGo f mt el (dwipe d vs) (xs.drop (i + 1)) A2).bind fun r A3 => .ok (e :: r) A3) _ _ := h2
          have h3 := Good.bind h2
          have hk : ∃ k : List Int, asRow e = some k ∧ acc'.length ≤ sizeLine := by
            cases hr : lcGo f mt el (dwipe d vs) (xs.drop (i + 1)) A2 with
            | ok r A3 =>
              rw [hr] at h3
              obtain ⟨ns, z1, z2, z3⟩ := h3
              have z := sz_ok z2
              obtain ⟨k, is, hk, hr2, rfl⟩ := asRows_cons z1
              rw [List.length_cons] at z
              exact ⟨k, hk, by omega⟩
            | exc x A3 => rw [hr] at h3; exact h3.elim
            | bad => rw [hr] at h3; exact h3.elim
          obtain ⟨k, hk, hz⟩ := hk
          have r2 : Dq K u2.F w2 e := r2
          rw [asRow_ok hk] at r2
          cases r2 with
          | tup t1 t2 =>
            rename_i b vs2
            have t3 : SqT K u2.F b (k.map V.int) := by rw [← DqAll.ints t2]; exact t1
            have hl : ys'.length = acc'.length := by
              have := congrArg List.length hK'.ks
              rwa [List.length_map, List.length_map] at this
            refine ⟨ys', keyR k, b, rfl, e1, (hK'.up (fun a o q => hu2.sub a o (q1.fx a o q))).at', by rw [hl]; exact hz, by rw [kV_row]; exact row_up t3 hu2.sub, ?_⟩
            refine ⟨⟨u2.F, rem u2.H D, u2.mu⟩, A2, addR acc' k, storedH ys' (keyR k) b (.bool true), ?_, p'.trans q1, hs1, rem_same, (hK'.up q1.fx).put t3, Good.mono h3 (fun r A'' z => ?_) (fun _ _ z => z)⟩
            · show upd u2.H D _ = upd (rem u2.H D) D _
              rw [upd_rem]
            · obtain ⟨ns, z1, z2, z3⟩ := z
              obtain ⟨k', is, ek, hr, rfl⟩ := asRows_cons z1
              rw [hk] at ek
              cases ek
              have la : (addR acc' k).length ≤ acc'.length + 1 := by unfold addR; split <;> simp
              refine ⟨is, hr, ?_, fun t zs pt => z3 t zs (q1.trans pt)⟩
              have z : acc'.length + (k :: is).length ≤ 16000000 := of_decide_eq_true z2
              rw [List.length_cons] at z
              exact decide_eq_true (show _ ≤ 16000000 by omega)
        | ref j => exact h2.elim
        | adr a => exact h2.elim
  · have e : i = xs.length := by omega
    subst e
    rw [List.drop_length] at h'
    obtain ⟨ns, z1, z2, z3⟩ := (show ∃ ns, asRows [] = some ns ∧ _ from h')
    cases z1
    exact .inl ⟨wstop (Nat.le_refl _), z3 s' ys' (Post.refl _) hs' hD' hK'⟩
end
end Rx
/-! Rx 24e: sorted({t: True for ..}), t tuples of ints. -/
namespace Rx
open PySem L2 PySem.Spec PyProof.Rows Evl
def mDSrtT (m : MM (List PyData)) : MM (List PyData) := fun d A => (m d A).bind fun r A1 => match asRows r with
  | some ns => if okS ((ns.foldl addR []).map rowD) = true then .ok (srt ((ns.foldl addR []).map rowD)) A1 else .bad
  | none => .bad
section
variable {K : KF} {W : WX} {P : Program} {w : World}
theorem simN_dsrtT {wi : TI} {g : TG} {tt : TT} {tk : TE} {js vs : List Nat} {mi : MM (List SV)} {f : TgF} {mt : MM Bool} {el : MM SV} (hi : Sim K W (Walks K) wi mi) (hg : SimT K js g f) (hj : ∀ j ∈ js, j ∈ vs) (ht : Sim K (NoK K) same tt mt) (he : Sim K (NoK K) (RV K) tk el) :
    SimN K W (tCB (rSortX P w K) (tCons (tDx P w K wi g tt tk vs) tNil)) (mDSrtT (mLc vs mi f mt el)) := fun s A d σ Q hs hσ h => by
  have h := Good.bind h
  unfold mLc at h
  have h := Good.bind h
  refine hi s A d σ _ hs hσ (Good.mono h (fun xs A1 h1 s1 J p1 hs1 w1 D hD => ?_) (fun _ _ z => z))
  refine dcX_loop (acc := []) (ys := []) hg hj ht he hs1 (hσ.up p1) hD w1 ⟨rfl, fun _ h => by cases h⟩ ?_
  cases hr : lcGo f mt el (dwipe d vs) xs A1 with
  | ok r A2 =>
    rw [hr] at h1
    have h1 : Good (if sz r.length then RR.ok r A2 else .bad) _ _ := h1
    by_cases hz : sz r.length = true
    · rw [if_pos hz] at h1
      have h1 : Good (match asRows r with | some ns => if okS ((ns.foldl addR []).map rowD) = true then RR.ok (srt ((ns.foldl addR []).map rowD)) A2 else .bad | none => .bad) _ _ := h1
      cases hn : asRows r with
      | none => rw [hn] at h1; exact h1.elim
      | some ns =>
        rw [hn] at h1
        have h1 : Good (if okS ((ns.foldl addR []).map rowD) = true then RR.ok (srt ((ns.foldl addR []).map rowD)) A2 else .bad) _ _ := h1
        have len : ∀ (r : List PyData) (ns : List (List Int)), asRows r = some ns → r.length = ns.length := by
          intro r
          induction r with
          | nil => intro ns h; cases h; rfl
          | cons d ds ih =>
            intro ns h
            obtain ⟨k, is, _, h2, rfl⟩ := asRows_cons h
            rw [List.length_cons, List.length_cons, ih _ h2]
        by_cases hok : okS ((ns.foldl addR []).map rowD) = true
        · rw [if_pos hok] at h1
          refine ⟨ns, hn, by rw [List.length_nil, Nat.zero_add, ← len _ _ hn]; exact hz, fun t zs pt ht' hD' hKs => ?_⟩
          have hsD := ht'.newH hD' (dictX P w D zs)
          have pD : Post t (t.newH D (dictX P w D zs)) := Post.newH hD' _
          refine ⟨D, zs, _, rfl, upd_same, DqAll.up hsD.sub _ hKs.dq, hok, fun ws p hws hp => ?_⟩
          exact h1 (t.newH D (dictX P w D zs)) p ws ((p1.trans pt).trans pD) hsD hp (hws _ hKs.dq)
        · rw [if_neg hok] at h1; exact h1.elim
    · rw [if_neg hz] at h1; exact h1.elim
  | exc x A2 => rw [hr] at h1; exact h1.elim
  | bad => rw [hr] at h1; exact h1.elim
end
section
variable {X : Cx} {W : WX}
theorem rn_dsrtT {elt tg iter : Expr} {ifs : List Expr} {scope : Scope} {own : List (Str × Nat)} {pos p q bp : Pos} {bj : Nat} {mi : MM (List SV)} {js : List Nat} {f : TgF} {mt : MM Bool} {el : MM SV} (ft : Fit X.A) (hc : X.calm = true) (hN : X.N.Nodup) (hi : RI X W tg iter mi) (ok : BlkOk X.N X.env.scope scope own)
    (hg : AllB X scope fun Y => RG Y tg js f) (hj : ∀ j ∈ js, j ∈ own.map (·.2)) (ht : AllB X scope fun Y => RTs Y W.no ifs mt) (he : AllB X scope fun Y => RE Y W.no elt el) (hgs : Gl X "sorted") (hm : X.mg "sorted" = none) (hs : ∀ x, foldedSetIterable iter X.env x = pure x := by intro _; rfl) :
    RN X W (.Call (.Name "sorted" p) [.DictComp elt (.Constant (.bool true) bj bp) [⟨tg, iter, ifs, 0⟩] scope pos] [] q) (mDSrtT (mLc (own.map (·.2)) mi f mt el)) := by
  obtain ⟨wi, pi, si⟩ := hi
  exact ⟨_, pe_callB (cr_sortX ft hc) hgs hm (by rfl) (pa_cons (pe_dcX (show X.A.units < cLine by have := ft.un; omega) hc hN pi ok (fun s H C cl fp => (hg s H C cl fp).pe W.T W.F0 W.M0) (fun s H C cl fp => (ht s H C cl fp).pe) (fun s H C cl fp => (he s H C cl fp).pe) hs) pa_nil), simN_dsrtT si gOf_sim hj tOf_sim tOf_sim⟩
end
end Rx
/-! Rx 25: classes of exceptions that keep what they are given: __init__(self, f): super().__init__(f); self.f = f. -/
namespace Rx
open PySem PySem.Calls PyProof.Rows Builtin Builtin.ObjectAttr
abbrev posN (p : List Pos) (i : Nat) : Pos := p.getD i ⟨0, 0, 0, 0⟩
/-- the body of such an __init__ -/
def initB (f : Str) (p : List Pos) : List Stmt :=
  [.Expr (.Call (.Attribute (.Call (.Name "super" (posN p 0)) [] [] (posN p 1)) "__init__" (posN p 2)) [.Name f (posN p 3)] [] (posN p 4)) (posN p 5), .Assign [.Attribute (.Name "self" (posN p 6)) f (posN p 7)] (.Name f (posN p 8)) (posN p 9)]
abbrev supE (p : List Pos) : Expr := .Call (.Name "super" (posN p 0)) [] [] (posN p 1)
/-- the call's own reading (it asks where the parts stand) -/
def CallLine (f : Str) (p : List Pos) : Prop := ∃ pl : Sem Bool, ∀ env : Env, eval (.Call (.Attribute (supE p) "__init__" (posN p 2)) [.Name f (posN p 3)] [] (posN p 4)) env = (do
  let ov ← attributeBase (supE p) "__init__" env (eval (supE p) env)
  standAt (posN p 2).atName
  let (q, first) ← holding [ov] (getMethod ov "__init__" pl)
  callWith (posN p 4) q first (backTo (posN p 4) (starEach [.Name f (posN p 3)] env)) [])
/-- its names -/
structure InitS (f : Str) (sc : Scope) : Prop where
  kind : sc.kind = .function
  co : sc.isCoroutine = false
  gen : sc.isGenerator = false
  cell : ∀ y ∈ sc.names, y.2 ≠ .cell
  self : sc.names.lookup ("self" : Str) = some .local
  fld : sc.names.lookup f = some .local
  sup : sc.names.lookup ("super" : Str) = some .globalImplicit
  cls : sc.names.lookup ("__class__" : Str) = some .free
/-- what the written part says of such an __init__ at fI, of its code object at ca -/
structure InitF (prog : Program) (K : PySem.W.Frag) (C fI : Addr) (f : Str) : Prop where
  ex : ∃ (ca cc : Addr) (qual file : Str) (ps : Arguments) (body : List Stmt) (sc : Scope) (dV kV doc pm ct oc ccl cl : Value) (an od cdd cld : Option Addr) (osl ccs csl : Array (Option Value)) (vs : Array Value) (tf : Tok) (p : List Pos) (ar : Arg),
    K.lookup fI = some ⟨oc, od, .func (PySem.W.ksFn "__init__" qual ps body sc dV kV doc pm an (.ref ca) ct cc), osl⟩ ∧ PySem.W.codeIn K (.ref ca) qual = true ∧ K.lookup ca = some ⟨ccl, cdd, .fields vs, ccs⟩ ∧ vs[2]? = some (.str file tf) ∧ ((prog.main.file : Str) == file) = true ∧
    K.lookup cc = some ⟨cl, cld, .cell (some (.ref C)), csl⟩ ∧ body = initB f p ∧ CallLine f p ∧ InitS f sc ∧ (ps.posonlyargs ++ ps.args).head? = some ar ∧ ar.arg = "self" ∧
    (∀ (s : Shared) (u v : Value), BindsTo s (PySem.W.ksFn "__init__" qual ps body sc dV kV doc pm an (.ref ca) ct cc) ⟨[u, v], []⟩ [("self", u), (f, v)])
/-- such a class -/
structure ExI (prog : Program) (K : PySem.W.Frag) (mg : Str → Option Value) (C : Addr) (nm f : Str) (B newId initId : String) (bmB : List Value) : Prop where
  FB : ExcBaseFacts B newId initId bmB
  KF : PySem.W.KxsFacts B initId
  SF : StoreFacts B bmB "object.__setattr__" "object"
  gC : mg nm = some (.ref C)
  notSelf : f ≠ "self"
  dbg : (f == ("__debug__" : Str)) = false
  noS : mg "super" = none
  top : (prog.main.scope.names.lookup ("super" : Str)).isSome = false
  any : PySem.W.nsIn K cStatics "thirdparty.any" = some none
  ini : PySem.W.excInitIn K C bmB newId = true
  kC : PySem.W.keepIn K (.ref C) = true
  exC : PySem.W.subIn K (.ref C) (.type "BaseException") = some true
  tyC : PySem.W.typeIn K (.ref C) = some (.type "type")
  over : PySem.W.excOver K C bmB = true
  tkr : PySem.W.takerIn K C f = some none
  noN : PySem.W.findIn K (.ref C) f = some none
  hdC : PySem.W.hasDictIn K C = true
  sa : PySem.W.findIn K (.ref C) "__setattr__" = some (some (.builtin "object.__setattr__"))
  ga : PySem.W.findIn K (.ref C) "__getattribute__" = some (some (.builtin "BaseException.__getattribute__"))
  gg : PySem.W.findIn K (.ref C) "__getattr__" = some none
  sup : PySem.W.ks_superIn K C C "__init__" = some (some (.builtin initId))
  subB : PySem.W.subIn K (.ref C) (.type B) = some true
  mro : PySem.W.mroIn K C (.ref C) = some true
  init : ∃ fI, PySem.W.findIn K (.ref C) "__init__" = some (some (.ref fI)) ∧ PySem.W.typeIn K (.ref fI) = some (.type "function") ∧ InitF prog K C fI f
/-- what __init__ leaves of a fresh exception at x -/
structure Inited (h h' : Heap) (x C dx t1 : Addr) (f : Str) (v : Value) : Prop where
  keep : ∀ b o, b ≠ x → h.get? b = some o → h'.get? b = some o
  obj : h'.get? x = some { cls := .ref C, dict := some dx, data := .fields #[.ref t1, .none, .none, .none, .bool false, .none] }
  dbig : h.objs.size ≤ dx
  dne : dx ≠ x
  ns : h'.Ns1 dx (fun y => if y = f then some v else none)
section
variable {prog : Program} {w : World} {A : Around} {E : Value → Shared → Prop} {R : Result → Shared → Prop} {K : PySem.W.Frag} {mg mb : Str → Option Value} {C fI : Addr} {nm f : Str} {B newId initId : String} {bmB : List Value}
/-- the first store -/
theorem store_first {hp : Heap} {g : Array GenState} {d : Drawn} {t : Nat} {os : OsState} {name : Str} {tk : Tok} {v : Value} {x : Addr} {fv : Array Value} {cd : ClassData} (SF : StoreFacts B bmB "object.__setattr__" "object")
    (X : K.In hp) (hx : hp.get? x = some { cls := .ref C, data := .fields fv }) (ho : PySem.W.excOver K C bmB = true) (ht : PySem.W.takerIn K C name = some none) (hcd : PySem.W.clsIn K C = some cd) (hh : cd.hasDict = true)
    (hq : ∀ h' tk' dx, (∀ b o, b ≠ x → hp.get? b = some o → h'.get? b = some o) → hp.objs.size ≤ dx → dx ≠ x → h'.get? x = some { cls := .ref C, dict := some dx, data := .fields fv } →
      h'.Ns1 dx (fun y => if y = name then some v else none) → R (.ok (.ret .none)) ⟨h', g, d, tk', os⟩) :
    codeAny (model prog w) A (.call (.builtin "object.__setattr__") ⟨[.ref x, .str name tk, v], []⟩) R ⟨hp, g, d, t, os⟩ := by
  have I : PySem.W.InstAt hp x { cls := .ref C, data := .fields fv } C none := ⟨hx, rfl, rfl, trivial⟩
  have xlt : x ≠ hp.objs.size := Nat.ne_of_lt (Heap.lt_size hx)
  refine PySem.W.osa_openX (s := ⟨hp, g, d, t, os⟩) (od := none) SF X I ho ht fun b => ?_
  have cls : PySem.W.Looks (model prog w) hp (classData C) cd := PySem.W.looks_clsIn X hcd
  obtain ⟨nm, bs, mro, ns, qn, hd, sn, sb, ab, col, del⟩ := cd
  dsimp only at hh
  subst hh
  show wpAny _ _ (storeInOwnDict (.ref x) (.ref C) (.str name tk) name v b) _ _ _
  unfold storeInOwnDict ownDictForStores
  repeat (first | with_reducible refine HandSPX.store_in_new ?_ ?_ | with_reducible refine wpAny_loadPart_at hx ?_ | with_reducible refine cls.at ?_ | wp_step)
  · exact ⟨_, #[], _, (Heap.get?_update_ne _ _ _ _ xlt.symm).trans (Heap.get?_push_at rfl rfl), rfl, fun e he => absurd he (by simp), fun _ => rfl⟩
  · intro h' tk' hn' hs
    have x1 : (hp.push { cls := .type "dict", data := .dict #[] }).get? x = some { cls := .ref C, data := .fields fv } := Heap.get?_push_of_some _ hx
    refine hq h' tk' hp.objs.size (fun b o hb ho => ?_) (Nat.le_refl _) xlt.symm ?_ hn'
    · exact (hs.2 b (Nat.ne_of_lt (Heap.lt_size ho))).trans ((Heap.get?_update_ne _ _ _ _ hb).trans (Heap.get?_push_of_some _ ho))
    · exact (hs.2 x xlt).trans (Heap.get?_update_self _ x1 rfl)
/-- what stands of the top -/
structure TopA (mg mb : Str → Option Value) (h : Heap) : Prop where
  g : h.Ns mainGlobals mg
  b : h.Ns builtinsNs mb
  bb : ∀ y : Str, y ≠ "__name__" → mb y = bootBuiltins y
theorem TopA.keeps {h h' : Heap} (T : TopA mg mb h) (k : ∀ b o, h.get? b = some o → h'.get? b = some o) : TopA mg mb h' := ⟨T.g.keeps k, T.b.keeps k, T.bb⟩
theorem init_run (T : ExI prog K mg C nm f B newId initId bmB) (F : InitF prog K C fI f) {s : Shared} {x t0 : Addr} {v : Value} (hK : K.In s.heap) (hT : TopA mg mb s.heap) (hlim : s.heap.NoLimit) (hx : s.heap.get? x = some (HandSPX.excO C t0)) (hnx : K.lookup x = none) (hroom : A.depth < recursionLimit)
    (hq : ∀ h' tk dx t1, Inited s.heap h' x C dx t1 f v → R (.ok (.ret .none)) { s with heap := h', toks := tk }) : codeAny (model prog w) A (.call (.ref fI) ⟨[.ref x, v], []⟩) R s := by
  obtain ⟨ca, cc, qual, file, ps, body, sc, dV, kV, doc, pm, ct, oc, ccl, cl, an, od, cdd, cld, osl, ccs, csl, vs, tf, p, ar, lk, hcd, lca, hvs, hfile, lcc, rfl, ⟨pl, hline⟩, S, hhead, har, hbind⟩ := F.ex
  refine PySem.ks_codeAny_call_defAt (fd := PySem.W.ksFn "__init__" qual ps (initB f p) sc dV kV doc pm an (.ref ca) ct cc) (body := initB f p) (binds := [("self", .ref x), (f, v)]) hroom (hK _ _ lk) rfl hlim (PySem.W.codeRec_of hK hcd) rfl (hbind s (.ref x) v) S.cell (fun y hy => ?_) (fun h₀ hns keep => ?_) S.co S.gen S.kind
  · rcases List.mem_cons.mp hy with rfl | hy
    · exact S.self
    · rcases List.mem_cons.mp hy with rfl | hy
      · exact S.fld
      · cases hy
  -- the base: all but the exception
  let G := PySem.W.hideAll s.heap [x]
  have xG : G.get? x = none := PySem.W.hideAll_none _ (List.mem_singleton.mpr rfl)
  have toG : ∀ b o, b ≠ x → s.heap.get? b = some o → G.get? b = some o := fun b o hb e => PySem.W.hideAll_get _ e (fun z => hb (List.mem_singleton.mp z))
  have ofG : ∀ b o, G.get? b = some o → s.heap.get? b = some o := fun b o e => PySem.W.of_hideAll _ e
  have KG : K.In G := fun b o e => toG b o (fun z => by rw [z, hnx] at e; cases e) (hK b o e)
  have notx : ∀ {b : Addr} {m : Str → Option Value}, s.heap.Ns b m → G.Ns b m := fun {b m} ⟨o, es, ep, e, hd, y⟩ => ⟨o, es, ep, toG b o (fun z => by
    rw [z, hx] at e
    cases e
    cases hd) e, hd, y⟩
  have TG : TopA mg mb G := ⟨notx hT.g, notx hT.b, hT.bb⟩
  have FR : Fr G s.heap.objs.size h₀ (fun y => [(("self" : Str), Value.ref x), (f, v)].reverse.lookup y) := ⟨hns, fun b o e => keep b o (ofG b o e), Nat.le_of_eq (PySem.W.hideAll_size _ _)⟩
  have NW : News G s.heap.objs.size h₀ [(x, PySem.W.excObj C t0 none .none)] := fun q hq => by
    rw [List.mem_singleton.mp hq]
    exact ⟨keep x _ hx, Nat.ne_of_lt (Heap.lt_size hx), xG⟩
  let m : Str → Option Value := fun y => [(("self" : Str), Value.ref x), (f, v)].reverse.lookup y
  have FR : Fr G s.heap.objs.size h₀ m := FR
  have mf : m f = some v := by
    show List.lookup f [(f, v), (("self" : Str), Value.ref x)] = some v
    simp [List.lookup]
  by_cases hfs : f = "self"
  · exact (T.notSelf hfs).elim
  have ms : m "self" = some (.ref x) := by
    show List.lookup ("self" : Str) [(f, v), (("self" : Str), Value.ref x)] = some (.ref x)
    have q : (("self" : Str) == f) = false := by simpa using Ne.symm hfs
    simp [List.lookup, q]
  obtain ⟨cd, hcd, hdict⟩ := PySem.W.any_some T.hdC
  have kindS : (callEnv (PySem.W.ksFn "__init__" qual ps (initB f p) sc dV kV doc pm an (.ref ca) ct cc) s.heap.objs.size fI).scope.kind = .function := S.kind
  -- super().__init__(f)
  refine PySem.ks_wpAt_execs_cons (PySem.ks_wpAt_Expr_any (PySem.ks_wpAt_MethodCall (pl := pl) ?_ (hline _)) (by unfold interactive; rw [kindS]; rfl))
  refine PySem.ks_wpAt_super_base (ar := ar) (f := fI) (cc := ca) S.sup S.cls (by decide) rfl (keep _ _ (hK _ _ lk)) rfl hhead rfl (keep _ _ (hK _ _ lca)) rfl hvs hfile T.top ?_
  have envK : (callEnv (PySem.W.ksFn "__init__" qual ps (initB f p) sc dV kV doc pm an (.ref ca) ct cc) s.heap.objs.size fI).kindOf "super" = some .globalImplicit := S.sup
  have T0 : TopA mg mb h₀ := TG.keeps FR.keep
  refine PySem.W.ks_loadName_global kindS envK (loadGlobal_builtin T0.g T.noS T0.b ((T0.bb _ (by decide +kernel)).trans (by first | rfl | kernel_rfl)) ⟨rfl, ?_⟩)
  refine wpAny_loadName_free kindS S.cls rfl ⟨_, keep _ _ (hK _ _ lcc), rfl⟩ ?_
  rw [har]
  refine wpAny_loadName_local kindS S.self FR.ns ms ?_
  obtain ⟨oC, hC1, hC2⟩ : ∃ oC, h₀.get? C = some oC ∧ oC.data = .cls cd := by
    unfold PySem.W.clsIn at hcd
    split at hcd
    · rename_i c0 d0 cd' sl ho
      cases hcd
      exact ⟨_, keep _ _ (hK _ _ ho), rfl⟩
    · cases hcd
  have K0 : K.In h₀ := hK.keeps keep
  have I0 : PySem.W.InstAt h₀ x (PySem.W.excObj C t0 none .none) C none := ⟨keep _ _ hx, rfl, rfl, trivial⟩
  refine PySem.ks_wpAny_isType_cls hC1 hC2 ⟨rfl, ?_⟩
  refine PySem.ks_wpAny_call_super hC1 hC2 I0.at_ I0.cls (fun c e => by cases e) (PySem.W.looks_mroIn K0 T.mro) (fun h' e k => ?_)
  obtain ⟨F1, N1, l1⟩ := PySem.W.ks_newsPush (s := ⟨h₀, s.gens, s.drawn, s.toks + [(("self" : Str), Value.ref x), (f, v)].length, s.os⟩) FR NW rfl e k
  have hx1 : (x, PySem.W.excObj C t0 none .none) ∈ (h₀.objs.size, PySem.W.ks_superObj C x C) :: [(x, PySem.W.excObj C t0 none .none)] := by simp
  refine PySem.W.kxs_method (K := K) (C := C) (B := B) T.KF F1 KG N1 (so := h₀.objs.size) (by simp) (PySem.W.InstAt.of_exc0 N1 hx1) T.any T.sup T.subB (by decide) fun q h2 F2 N2 l2 => ?_
  refine PySem.W.kxs_callWith1 (i := initId) (x := x) (u := q) N2 (by simp) ?_
  refine PySem.Calls.spliced_cons ?_
  refine wpAny_Name (wpAny_loadName_local kindS S.fld F2.ns mf ?_) T.dbg
  refine PySem.Calls.spliced_nil ⟨PySem.W.kxs_at N2 (by simp), ?_⟩
  have so_x : h₀.objs.size ≠ x := Nat.ne_of_gt (l1 (x, PySem.W.excObj C t0 none .none) (by simp))
  have q_x : q ≠ x := Nat.ne_of_gt (l2 (x, PySem.W.excObj C t0 none .none) (by simp))
  refine PySem.W.kxs_call (t := t0) (dv := none) (c2 := .none) F2 KG N2 T.FB T.ini (by simp) (.tail q_x (.tail so_x (.head fun _ h => nomatch h))) (by show 1 ≤ sizeLine; rw [sizeLine_eq]; omega) fun t1 h3 F3 N3 l3 => ?_
  -- self.f = f
  refine PySem.ks_wpAt_execs_cons (PySem.ks_wpAt_Assign_Attr ?_ (by rfl))
  refine PySem.wpAt_of_wpAny (wpAny_Name (wpAny_loadName_local kindS S.fld F3.ns mf ?_) T.dbg)
  refine wpAny_Name (wpAny_loadName_local kindS S.self F3.ns ms ?_) (by decide)
  have hx3 : h3.get? x = some (PySem.W.excObj C t1 none .none) := (N3 (x, PySem.W.excObj C t1 none .none) (by simp)).1
  have K3 : K.In h3 := KG.keeps F3.keep
  refine PySem.W.set_plain K3 (ox := PySem.W.excObj C t1 none .none) (od := none) ⟨hx3, rfl, rfl, trivial⟩ T.sa ?_
  refine store_first T.SF K3 hx3 T.over T.tkr hcd hdict (fun h4 tk4 dx k4 dn dne hx4 hn4 => ?_)
  refine PySem.wpAt_of_wpAny (wpAny_execs_nil ?_)
  exact hq h4 tk4 dx t1 ⟨fun b o hb e => k4 b o hb (F3.keep b o (toG b o hb e)), hx4, Nat.le_of_lt (Nat.lt_of_lt_of_le F3.ns.lt dn), dne, hn4⟩
/-- a made exception of such a class -/
structure MadeI (h h' : Heap) (e C d : Addr) (f : Str) (v : Value) : Prop where
  keep : ∀ b o, h.get? b = some o → h'.get? b = some o
  new : h.objs.size ≤ e
  obj : ∃ oe vs, h'.get? e = some oe ∧ oe.cls = .ref C ∧ oe.dict = some d ∧ oe.data = .fields vs ∧ vs[1]? = some .none
  dbig : h.objs.size ≤ d
  dne : d ≠ e
  ns : h'.Ns1 d (fun y => if y = f then some v else none)
theorem made_run (T : ExI prog K mg C nm f B newId initId bmB) {s : Shared} {v : Value} (hK : K.In s.heap) (hT : TopA mg mb s.heap) (hlim : s.heap.NoLimit) (hroom : A.depth + 1 < recursionLimit)
    (hq : ∀ h' tk e d, MadeI s.heap h' e C d f v → R (.ok (.ret (.ref e))) { s with heap := h', toks := tk }) : codeAny (model prog w) A (.call (.ref C) ⟨[v], []⟩) R s := by
  obtain ⟨nm', N', qn, bs, bm, hdct, sn, sub, ab, col, dd, k0, k1, k2, k3, k5, hC, hTl⟩ := PySem.W.excInit_of hK T.ini
  obtain ⟨fI, iC, tI, F⟩ := T.init
  obtain ⟨hp, g, dr, tk, os⟩ := s
  have k : ∀ b o, hp.get? b = some o → ((hp.push (PySem.W.kdv_tup [v])).push (HandSPX.excO C hp.objs.size)).get? b = some o := fun b o e => Heap.get?_push_of_some _ (Heap.get?_push_of_some _ e)
  have hget : ((hp.push (PySem.W.kdv_tup [v])).push (HandSPX.excO C hp.objs.size)).get? (hp.objs.size + 1) = some (HandSPX.excO C hp.objs.size) := by heap_get
  have off : K.lookup (hp.objs.size + 1) = none := by
    cases e : K.lookup (hp.objs.size + 1) with
    | none => rfl
    | some o =>
      have z : hp.get? (hp.objs.size + 1) = some o := hK _ _ e
      exact absurd (Nat.lt_of_succ_lt (Heap.lt_size z)) (Nat.lt_irrefl _)
  refine HandSPX.call_own T.FB hTl hC (PySem.W.looks_findIn hK iC) (fun self => PySem.W.bind_fn hK self tI) (by show 1 ≤ sizeLine; rw [sizeLine_eq]; omega) ?_
  refine init_run (mb := mb) T F (s := ⟨(hp.push (PySem.W.kdv_tup [v])).push (HandSPX.excO C hp.objs.size), g, dr, tk, os⟩) (hK.keeps k) (hT.keeps k) (hlim.keeps k) hget off hroom fun h' tk' dx t1 I => ?_
  have old : ∀ b o, hp.get? b = some o → h'.get? b = some o := fun b o e => I.keep b o (Nat.ne_of_lt (Nat.lt_succ_of_lt (Heap.lt_size e))) (k b o e)
  have z : hp.objs.size + 1 + 1 ≤ dx := by
    have q := I.dbig
    simpa only [Heap.size_push] using q
  exact ⟨rfl, hq h' tk' (hp.objs.size + 1) dx ⟨old, Nat.le_succ _, ⟨_, _, I.obj, rfl, rfl, rfl, rfl⟩, Nat.le_trans (Nat.le_trans (Nat.le_succ _) (Nat.le_succ _)) z, I.dne, I.ns⟩⟩
end
end Rx
namespace Rx
open PySem L2 PySem.Spec PyProof.Rows Evl
theorem relO_fld {f : Str} {v : V} {u : Value} (r : RelV v u) (g : Str) : RelO (List.lookup g [(f, v)]) (if g = f then some u else none) := by
  by_cases h : g = f
  · subst h
    rw [if_pos rfl]
    have q : List.lookup g [(g, v)] = some v := by simp [List.lookup]
    rw [q]
    exact r
  · rw [if_neg h]
    have q1 : (g == f) = false := by simpa using h
    have q2 : List.lookup g [(f, v)] = none := by simp [List.lookup, q1]
    rw [q2]
    trivial
section
variable {X : Cx} {C : Addr} {nm f : Str} {B newId initId : String} {bmB : List Value}
/-- C(e) -/
def tMkI (C : Addr) (f : Str) (ta : TA) : L2.St → Hp → XK → Prop := fun σ H Q => ta σ H fun vs H1 => ∃ v, vs = [v] ∧ ∀ d, H1 d = none → Q (.ref C) (some d) (upd H1 d (.xd [(f, v)]))
theorem pmk_I {a : Expr} {ta : TA} {p pos : Pos} {k : Nat} (T : ExI X.prog X.K X.mg C nm f B newId initId bmB) (hr : Room k X.A) (ha : PA X [a] ta) (hg : Gl X nm) (hdb : (nm == ("__debug__" : Str)) = false)
    (he : starEach (a :: []) X.env = (false, eval a X.env) :: starEach [] X.env := by rfl) (hpl : (backTo pos (starEach [] X.env)).any (·.1) = false := by rfl) : PMk X (.Call (.Name nm p) [a] [] pos) (tMkI C f ta) := by
  intro pins s σ H Q I h
  refine wpAny_Call_Name_kw (ld_glob I hg T.gC ?_ hdb)
  refine PySem.W.callWith_K (h₀ := X.base) I.ok.mod.kin T.kC (thn (ha.run pos pins s σ H _ I h) fun us s1 hh => ?_) he hpl
  obtain ⟨vs, H1, I1, r1, v, ev, q1⟩ := hh
  subst ev
  refine ⟨I1.kIn, ?_⟩
  cases r1 with
  | cons rv rn =>
    rename_i u us'
    cases rn
    show wpAny _ _ (call (.ref C) [u]) _ _ _
    have hlim := I1.nolimit
    obtain ⟨mb, hB, hBB⟩ := I1.ok.mod.blt
    have hT : TopA X.mg mb s1.heap := ⟨I1.ok.mod.glob.keeps I1.bk, hB.keeps I1.bk, hBB⟩
    obtain ⟨hp, g, dr, tk, os⟩ := s1
    refine wpAny_call (made_run T I1.kIn hT hlim (by have := hr.dp; omega) fun h' tk' e d M => ?_)
    show MkP X pins σ Q (.ref e) ⟨h', g, dr, tk', os⟩
    obtain ⟨oe, fv, hoe, hc, hd, hdat, h1⟩ := M.obj
    have hns := M.ns
    obtain ⟨G, g1, g2⟩ := restrict h' fun b => decide (b ≠ e)
    have gk : ∀ b, b ≠ e → G.get? b = h'.get? b := fun b hb => g1 b (decide_eq_true hb)
    have ge : G.get? e = none := g2 e (by simp)
    have old : ∀ b o, hp.get? b = some o → G.get? b = some o := fun b o q => (gk b (Nat.ne_of_lt (Nat.lt_of_lt_of_le (Heap.lt_size q) M.new))).trans (M.keep b o q)
    have ob : ObjOk X.prog X.w (upd H1 d (.xd [(f, v)])) G d (.xd [(f, v)]) := ⟨_, hns.at (fun o q => (gk d M.dne).trans q), fun g => relO_fld rv g⟩
    have J : Inv X pins σ (upd H1 d (.xd [(f, v)])) ⟨G, g, dr, tk', os⟩ := I1.laid (t' := tk') old M.dbig ob
    refine ⟨e, oe, fv, ⟨G, g, dr, tk', os⟩, _, .ref C, some d, rfl, J, fun b o q => ?_, ge, hoe, ⟨hc, hd⟩, hdat, h1, ?_, rfl, I1.bare, raises_own T.exC T.tyC, q1 d (I1.hok.fresh M.dbig)⟩
    · by_cases hb : b = e
      · have q' : G.get? b = some o := q
        rw [hb, ge] at q'; cases q'
      · exact (gk b hb).symm.trans q
    · rw [upd_ne (Ne.symm M.dne)]
      exact I1.hok.fresh M.new
end
end Rx
/-! Rx 26: raise; calls that may raise. -/
namespace Rx
open PySem L2 PySem.Spec PyProof.Rows Evl
/-- a class of exceptions without an own __init__ -/
structure ExO (K : PySem.W.Frag) (mg : Str → Option Value) (C : Addr) (nm : Str) (B newId initId : String) (bmB : List Value) : Prop where
  FB : ExcBaseFacts B newId initId bmB
  ini : PySem.W.excIn K C bmB newId = true
  gC : mg nm = some (.ref C)
  kC : PySem.W.keepIn K (.ref C) = true
  exC : PySem.W.subIn K (.ref C) (.type "BaseException") = some true
  tyC : PySem.W.typeIn K (.ref C) = some (.type "type")
def zRaise0 (c : Nat) : MS := fun d A => .exc ⟨c, .none⟩ d A
def zRaise1 (c : Nat) (m : MM SV) : MS := fun d A => (m d A).toZ d fun x A1 => match x with
  | .dat p => .exc ⟨c, p⟩ d A1
  | _ => .bad
section
variable {X : Cx} {W : WX}
theorem rs_raise0 {x m : Str} {j : Nat} {p p2 pos pos2 : Pos} {C : Addr} {B newId initId : String} {bmB : List Value} {c : Nat} (hc : X.calm = true) (L : Lets X W) (T : ExO X.K X.mg C x B newId initId bmB) (hn : exNames[c]? = some (x, none)) (hg : Gl X x) (hdb : (x == ("__debug__" : Str)) = false) :
    RS X W (.Raise (some (.Call (.Name x p) [.Constant (.str m) j p2] [] pos)) none pos2) (zRaise0 c) := by
  obtain ⟨Wl, tk, hW⟩ := L
  refine ⟨_, ps_raise hc tk (pmk_own T.FB T.ini T.gC T.kC (raises_own T.exC T.tyC) hg hdb), fun s A d σ D hs hσ h => ?_⟩
  exact hW ⟨c, .none⟩ σ s (.ref C) none (h s σ (Post.refl _) hs hσ) ⟨x, none, C, hn, T.gC, rfl, fun f e => by cases e⟩
theorem rs_raise1 {x f : Str} {e : Expr} {p pos pos2 : Pos} {C : Addr} {B newId initId : String} {bmB : List Value} {c k : Nat} {m : MM SV} (hc : X.calm = true) (L : Lets X W) (T : ExI X.prog X.K X.mg C x f B newId initId bmB) (hr : Room k X.A) (hn : exNames[c]? = some (x, some f)) (he : RE X W e m)
    (hg : Gl X x) (hdb : (x == ("__debug__" : Str)) = false) (hst : starEach (e :: []) X.env = (false, eval e X.env) :: starEach [] X.env := by rfl) (hpl : (backTo pos (starEach [] X.env)).any (·.1) = false := by rfl) :
    RS X W (.Raise (some (.Call (.Name x p) [e] [] pos)) none pos2) (zRaise1 c m) := by
  obtain ⟨Wl, tk, hW⟩ := L
  obtain ⟨t, pe, se⟩ := he
  refine ⟨_, ps_raise hc tk (pmk_I T hr (pa_cons pe pa_nil hst) hg hdb hst hpl), fun s A d σ D hs hσ h => ?_⟩
  refine se.thenZ hs hσ h fun y A1 s1 v p1 hs1 r1 hσ1 h1 => ?_
  cases y with
  | dat y =>
    refine ⟨v, rfl, fun dx hdx => ?_⟩
    have h1 : GZ (kf X W) W s1 D (.exc ⟨c, y⟩ d A1) := h1
    have po := Post.newF hs1 hdx (.xd [(f, v)])
    exact hW ⟨c, y⟩ σ (s1.newF dx (.xd [(f, v)])) (.ref C) (some dx) (h1 _ σ po (hs1.newF hdx _) (hσ1.up po)) ⟨x, some f, C, hn, T.gC, rfl, fun g eg => by
      cases eg
      exact ⟨dx, v, rfl, upd_same, Dq.up po.fx y r1⟩⟩
  | ref i => exact h1.elim
  | adr a => exact h1.elim

/-! ### calls -/
def fCallX (M : FL) (n : Nat) : FL := fun xs A1 => if xs.length = n ∧ xs.all isDat = true then
    match M xs [] with
    | .ok (.dat y) _ => .ok (.dat y) A1
    | .ok (.ref i) A2 => match A2[i]? with
      | some (.lst ys) => .ok (.dat (.list ys)) A1
      | none => .bad
    | .exc x _ => .exc x A1
    | _ => .bad
  else .bad
def fCallXS (M : FL) : FL := fun xs A1 => if xs.all isDat = true then
    match M xs [] with
    | .ok (.dat y) _ => .ok (.dat y) A1
    | .ok (.ref i) A2 => match A2[i]? with
      | some (.lst ys) => .ok (.dat (.list ys)) A1
      | none => .bad
    | .exc x _ => .exc x A1
    | _ => .bad
  else .bad
def mCallX (f : FL) (a : MM (List SV)) : MM SV := fun d A => (a d A).bind fun xs A1 => f xs A1
/-- behind a call on data alone, whatever it gives -/
theorem pure_any {K : KF} {mg : Str → Option Value} {M : FL} {s : S3} {A : List AO} {xs : List SV} {Q : VK} {E : XK} {f : FL} (hf : f xs A = (match M xs [] with
    | .ok (.dat y) _ => .ok (.dat y) A
    | .ok (.ref i) A2 => match A2[i]? with
      | some (.lst ys) => .ok (.dat (.list ys)) A
      | none => .bad
    | .exc x _ => .exc x A
    | _ => .bad)) (hs : SR K s A)
    (g : Good (f xs A) (fun x A' => ∀ (t : S3) (v : V), Post s t → SR K t A' → RV K t x v → Q v t.H) (fun x A' => ∀ t : S3, Post s t → SR K t A' → ∀ cls dd, XRep K mg x cls dd t → E cls dd t.H)) :
    Good (M xs []) (fun x A' => ∀ (t : S3) (v : V), Post ⟨s.F, s.H, []⟩ t → SR K t A' → RV K t x v → Q v t.H) (fun x A' => ∀ t : S3, Post ⟨s.F, s.H, []⟩ t → SR K t A' → ∀ cls dd, XRep K mg x cls dd t → E cls dd t.H) := by
  rw [hf] at g
  cases hm : M xs [] with
  | ok y A2 =>
    rw [hm] at g
    cases y with
    | dat y =>
      have g : Good (RR.ok (SV.dat y) A) _ _ := g
      intro t v p ht r
      obtain ⟨p2, h2⟩ := behind_pure hs p ht.sub ht.tb
      exact g ⟨t.F, t.H, s.mu⟩ v p2 h2 r
    | ref i =>
      cases hA : A2[i]? with
      | none => simp only [hA] at g; exact g.elim
      | some o =>
        cases o with
        | lst ys =>
          simp only [hA] at g
          have g : Good (RR.ok (SV.dat (.list ys)) A) _ _ := g
          rintro t v p ht ⟨a, rfl, ea⟩
          obtain ⟨ws, e1, e2⟩ := ht.obj i a ys ea hA
          have am : a ∈ t.mu := List.mem_of_getElem? ea
          have aF : t.F a = none := ht.dis a am
          have aH : s.H a = none := by
            obtain ⟨nu, e, nn⟩ := p.pre
            have e : t.mu = [] ++ nu := e
            rw [List.nil_append] at e
            exact nn a (e ▸ am)
          have p' : Post ⟨s.F, s.H, []⟩ ⟨upd t.F a (.lst ws), t.H, t.mu⟩ := by
            refine ⟨p.fx.trans (Ex.new aF), fun b o e => ?_, p.pre, p.keep, p.dom⟩
            have e : upd t.F a (.lst ws) b = some o := e
            by_cases hb : b = a
            · subst hb; exact .inr aH
            · rw [upd_ne hb] at e; exact p.fnew b o e
          have hsub : Ex (upd t.F a (.lst ws)) t.H := fun b o e => by
            by_cases hb : b = a
            · subst hb; rw [upd_same] at e; rw [e1, ← e]
            · rw [upd_ne hb] at e; exact ht.sub b o e
          obtain ⟨p2, h2⟩ := behind_pure hs p' hsub (fun q hq => (ht.tb q hq).upL aF e1)
          exact g ⟨upd t.F a (.lst ws), t.H, s.mu⟩ (.ref a) p2 h2 (.lst (sq_of (show upd t.F a (.lst ws) a = _ from upd_same)) (DqAll.up (Ex.new aF) ys e2))
    | adr a => exact g.elim
  | exc x A2 =>
    rw [hm] at g
    have g : Good (RR.exc x A) _ _ := g
    intro t p ht cls dd r
    obtain ⟨p2, h2⟩ := behind_pure hs p ht.sub ht.tb
    exact g ⟨t.F, t.H, s.mu⟩ p2 h2 cls dd r
  | bad => rw [hm] at g; exact g.elim
theorem run_gx {k : Nat} {f : Addr} {fd : FuncData} {ps : List Str} {sp : Sp} {pins : List (Addr × Obj)} {σ : L2.St} {H : Hp} {s : Shared} {Q : VK} {us : List Value} {vs : List V} {E : XK} (F : FnG X.prog X.w X.K X.mg X.base k f fd ps sp) (hg : X.A.guards = some []) (hr : Room k X.A) (hb : Binds X.K fd ps []) (hx : PassesAt (L2.CX X.prog X.w) X σ E)
    (I : Inv X pins σ H s) (r : Vals vs us) (h : sp vs H Q E) : wpAny (model X.prog X.w) X.A (call (.ref f) us) (EP X pins σ Q) X.xe s := by
  have hl : (us ++ []).length = ps.length := by rw [List.append_nil, ← r.length]; exact F.len _ _ _ _ h
  have bd := hb s us I.kIn hl
  rw [List.append_nil] at bd
  refine wpAny_call (codeAny_mono (F.run X.A X.stack s H ⟨us, []⟩ us vs Q E hg hr I.env0 bd r h) ?_)
  intro res s' hq
  cases res with
  | error e => exact hx pins H s e s' I hq
  | ok fl =>
    cases fl with
    | ret u => exact I.after hq
    | next => exact hq.elim
    | brk => exact hq.elim
    | cont => exact hq.elim
theorem pe_gx {k : Nat} {f : Addr} {fd : FuncData} {ps : List Str} {sp : Sp} {x : Str} {p pos : Pos} {e : Expr} {es : List Expr} {t : TA} {E : L2.St → XK} (F : FnG X.prog X.w X.K X.mg X.base k f fd ps sp) (hgd : X.A.guards = some []) (hr : Room k X.A) (hg : Gl X x) (hm : X.mg x = some (.ref f)) (hk : PySem.W.keepIn X.K (.ref f) = true) (hb : Binds X.K fd ps [])
    (hx : ∀ σ, PassesAt (L2.CX X.prog X.w) X σ (E σ)) (ha : PA X (e :: es) t) (hdb : (x == ("__debug__" : Str)) = false) (he : starEach (e :: es) X.env = (false, eval e X.env) :: starEach es X.env) (hpl : (backTo pos (starEach es X.env)).any (·.1) = false) :
    PE X (.Call (.Name x p) (e :: es) [] pos) (fun σ H Q => t σ H fun vs H1 => sp vs H1 Q (E σ)) := by
  refine ⟨fun pins s σ H Q I h => ?_⟩
  refine wpAny_Call_Name_kw (ld_glob I hg hm ?_ hdb)
  refine PySem.W.callWith_K (h₀ := X.base) I.ok.mod.kin hk (thn (ha.run pos pins s σ H _ I h) ?_) he hpl
  rintro us s1 ⟨vs, H1, I1, r, q⟩
  exact ⟨I1.kIn, run_gx F hgd hr hb (hx σ) I1 r q⟩
theorem re_callX {k n : Nat} {x : Str} {ps : List Str} {M : FL} {p pos : Pos} {e : Expr} {es : List Expr} {ma : MM (List SV)} (L : Lets X W) (C : Cal X.prog X.w (kf X W).base X.mg X.base k x ps M) (hgd : X.A.guards = some []) (hr : Room k X.A) (ha : RA X W (e :: es) ma) (hg : Gl X x) (hdb : (x == ("__debug__" : Str)) = false) (hn : ps.length = n := by rfl)
    (he : starEach (e :: es) X.env = (false, eval e X.env) :: starEach es X.env := by rfl) (hpl : (backTo pos (starEach es X.env)).any (·.1) = false := by rfl) : RE X W (.Call (.Name x p) (e :: es) [] pos) (mCallX (fCallX M n) ma) := by
  subst hn
  obtain ⟨f, fd, hm, hk, hb, F⟩ := C.ex
  obtain ⟨t, pa, sa⟩ := ha
  obtain ⟨Wl, tk, hW⟩ := L
  refine ⟨_, pe_gx (E := fun σ cls dd H' => Wl cls dd σ H') F hgd hr hg hm hk hb (fun σ => passAt tk σ) pa hdb he hpl, fun s A d σ Q hs hσ h => ?_⟩
  refine sa.then hs hσ h fun xs A1 s1 vs p1 hs1 r1 hσ1 g => ?_
  by_cases hc : xs.length = ps.length ∧ xs.all isDat = true
  · refine ⟨⟨s1.F, s1.H, []⟩, [], xs, rfl, sr_pure hs1, rvs_pure r1 hc.2, hc.1, ?_⟩
    refine pure_any (f := fCallX M ps.length) (by unfold fCallX; rw [if_pos hc]) hs1.base (Good.mono g (fun _ _ z t' u p' h' => z t' u p' (hs1.re p' h')) (fun y A' z t' p' h' cls dd rp => ?_))
    exact hW y σ t' cls dd (z t' p' (hs1.re p' h')) rp
  · have g : Good (fCallX M ps.length xs A1) _ _ := g
    unfold fCallX at g
    rw [if_neg hc] at g
    exact g.elim
theorem run_gSx {k : Nat} {f : Addr} {sp : Sp} {pins : List (Addr × Obj)} {σ : L2.St} {H : Hp} {s : Shared} {Q : VK} {us : List Value} {vs : List V} {E : XK} (F : FnRG X.prog X.w X.K X.mg X.base k f sp) (hg : X.A.guards = some []) (hr : Room k X.A) (hx : PassesAt (L2.CX X.prog X.w) X σ E)
    (I : Inv X pins σ H s) (r : Vals vs us) (h : sp vs H Q E) : wpAny (model X.prog X.w) X.A (call (.ref f) us) (EP X pins σ Q) X.xe s := by
  refine wpAny_call (codeAny_mono (F X.A X.stack s H us vs Q E hg hr I.env0 r h) ?_)
  intro res s' hq
  cases res with
  | error e => exact hx pins H s e s' I hq
  | ok fl =>
    cases fl with
    | ret u => exact I.after hq
    | next => exact hq.elim
    | brk => exact hq.elim
    | cont => exact hq.elim
theorem pe_gSx {k : Nat} {f : Addr} {sp : Sp} {x : Str} {p pos : Pos} {e : Expr} {es : List Expr} {t : TA} {E : L2.St → XK} (F : FnRG X.prog X.w X.K X.mg X.base k f sp) (hgd : X.A.guards = some []) (hr : Room k X.A) (hg : Gl X x) (hm : X.mg x = some (.ref f)) (hk : PySem.W.keepIn X.K (.ref f) = true)
    (hx : ∀ σ, PassesAt (L2.CX X.prog X.w) X σ (E σ)) (ha : PA X (e :: es) t) (hdb : (x == ("__debug__" : Str)) = false) (he : starEach (e :: es) X.env = (false, eval e X.env) :: starEach es X.env) (hpl : (backTo pos (starEach es X.env)).any (·.1) = false ∨ (backTo pos (starEach es X.env)).any (·.1) = true) :
    PE X (.Call (.Name x p) (e :: es) [] pos) (fun σ H Q => t σ H fun vs H1 => sp vs H1 Q (E σ)) := by
  refine ⟨fun pins s σ H Q I h => ?_⟩
  refine wpAny_Call_Name_kw (ld_glob I hg hm ?_ hdb)
  rcases hpl with hpl | hst
  · refine PySem.W.callWith_K (h₀ := X.base) I.ok.mod.kin hk (thn (ha.run pos pins s σ H _ I h) ?_) he hpl
    rintro us s1 ⟨vs, H1, I1, r, q⟩
    exact ⟨I1.kIn, run_gSx F hgd hr (hx σ) I1 r q⟩
  · refine PySem.W.callWith_S2 (h₀ := X.base) I.ok.mod.kin hk (thn (ha.run pos pins s σ H _ I h) ?_) he hst
    rintro us s1 ⟨vs, H1, I1, r, q⟩
    exact ⟨I1.kIn, run_gSx F hgd hr (hx σ) I1 r q⟩
theorem re_callXS {k : Nat} {x : Str} {M : FL} {p pos : Pos} {e : Expr} {es : List Expr} {ma : MM (List SV)} (L : Lets X W) (C : CalS X.prog X.w (kf X W).base X.mg X.base k x M) (hgd : X.A.guards = some []) (hr : Room k X.A) (ha : RA X W (e :: es) ma) (hg : Gl X x) (hdb : (x == ("__debug__" : Str)) = false)
    (hpl : (backTo pos (starEach es X.env)).any (·.1) = false ∨ (backTo pos (starEach es X.env)).any (·.1) = true) (he : starEach (e :: es) X.env = (false, eval e X.env) :: starEach es X.env := by rfl) : RE X W (.Call (.Name x p) (e :: es) [] pos) (mCallX (fCallXS M) ma) := by
  obtain ⟨f, hm, hk, F⟩ := C.ex
  obtain ⟨t, pa, sa⟩ := ha
  obtain ⟨Wl, tk, hW⟩ := L
  refine ⟨_, pe_gSx (E := fun σ cls dd H' => Wl cls dd σ H') F hgd hr hg hm hk (fun σ => passAt tk σ) pa hdb he hpl, fun s A d σ Q hs hσ h => ?_⟩
  refine sa.then hs hσ h fun xs A1 s1 vs p1 hs1 r1 hσ1 g => ?_
  by_cases hc : xs.all isDat = true
  · refine ⟨⟨s1.F, s1.H, []⟩, [], xs, rfl, sr_pure hs1, rvs_pure r1 hc, ?_⟩
    refine pure_any (f := fCallXS M) (by unfold fCallXS; rw [if_pos hc]) hs1.base (Good.mono g (fun _ _ z t' u p' h' => z t' u p' (hs1.re p' h')) (fun y A' z t' p' h' cls dd rp => ?_))
    exact hW y σ t' cls dd (z t' p' (hs1.re p' h')) rp
  · have g : Good (fCallXS M xs A1) _ _ := g
    unfold fCallXS at g
    rw [if_neg hc] at g
    exact g.elim
end
end Rx
/-! Rx 27: try: .. except X: .. except Y as e: .. -/
namespace Rx
open PySem L2 PySem.Spec PyProof.Rows Evl
def RZ.quiet (r : RZ) : RZ := match r with
  | .exc _ _ _ => .bad
  | r => r
/-- behind a clause whose name was in slot i -/
def RZ.gone (i : Nat) (r : RZ) : RZ := match r with
  | .nx d A => .nx (d.set i none) A
  | .bk d A => .bk (d.set i none) A
  | .ct d A => .ct (d.set i none) A
  | .rt x A => .rt x A
  | _ => .bad
/-- a clause: the class, the name's slot, what its suite does -/
structure Hd where
  c : Nat
  slot : Option Nat
  ms : Addr → EV → MS
def Hd.run (h : Hd) (x : EV) (d : DSt) (A : List AO) : RZ := match h.slot with
  | none => (h.ms 0 x d A).quiet
  | some i => if i < d.length then (h.ms 0 x (d.set i (some (.adr 0))) A).gone i else .bad
def hdRun : List Hd → EV → DSt → List AO → RZ
  | [], x, d, A => .exc x d A
  | h :: r, x, d, A => if x.c = h.c then h.run x d A else hdRun r x d A
def zTry (mb : MS) (hs : List Hd) : MS := fun d A => match mb d A with
  | .exc x d1 A1 => hdRun hs x d1 A1
  | r => r
section
variable {K : KF} {W : WX} {s t : S3} {A : List AO}
theorem SR.known (h : SR K s A) : SR ⟨K.K, K.T, s.F, s.mu⟩ s A := ⟨h.sub, h.dis, h.nd, h.len, h.on, h.obj, h.tb, Ex.refl _, ⟨[], by simp⟩⟩
theorem XRep.up {K : PySem.W.Frag} {mg : Str → Option Value} {x : EV} {cls : Value} {dd : Option Addr} (h : XRep K mg x cls dd s) (e : Ex s.F t.F) : XRep K mg x cls dd t := by
  obtain ⟨nm, fo, C, h1, h2, h3, h4⟩ := h
  refine ⟨nm, fo, C, h1, h2, h3, fun f ef => ?_⟩
  obtain ⟨dx, v, q1, q2, q3⟩ := h4 f ef
  exact ⟨dx, v, q1, e _ _ q2, Dq.up e _ q3⟩
/-- the ends of a suite, for what stands at its entry -/
theorem gz_known {D : Ends} {r : RZ} (hs : SR K s A) (h : GZ K W s D r.quiet) : GZ ⟨K.K, K.T, s.F, s.mu⟩ ⟨K.T, s.F, s.mu, fun _ _ _ => False⟩ s D r := by
  have back : ∀ {t : S3} {B : List AO}, Post s t → SR ⟨K.K, K.T, s.F, s.mu⟩ t B → SR K t B := fun {t B} p q => ⟨q.sub, q.dis, q.nd, q.len, q.on, q.obj, q.tb, hs.bs.trans p.fx, by
    obtain ⟨n1, e1⟩ := hs.mb
    obtain ⟨n2, e2, _⟩ := p.pre
    exact ⟨n1 ++ n2, by rw [e2, e1, List.append_assoc]⟩⟩
  cases r with
  | nx d A => exact fun t σ p q r => h t σ p (back p q) r
  | rt x A => exact fun t σ p q r => h t σ p (back p q) r
  | bk d A => exact fun t σ p q r => h t σ p (back p q) r
  | ct d A => exact fun t σ p q r => h t σ p (back p q) r
  | exc x d A => exact h.elim
  | bad => exact h.elim
abbrev goneD (i : Nat) (D : Ends) : Ends := { nx := fun σ H => D.nx (σ.set i none) H, rt := D.rt, bk := fun σ H => D.bk (σ.set i none) H, ct := fun σ H => D.ct (σ.set i none) H }
theorem gz_gone {D : Ends} {r : RZ} {i : Nat} (h : GZ K W s D (r.gone i)) : GZ K W s (goneD i D) r.quiet := by
  cases r with
  | nx d A => exact fun t σ p q r => h t _ p q (r.unset i)
  | rt x A => exact fun t σ p q r => h t σ p q r
  | bk d A => exact fun t σ p q r => h t _ p q (r.unset i)
  | ct d A => exact fun t σ p q r => h t _ p q (r.unset i)
  | exc x d A => exact h.elim
  | bad => exact h.elim
end
/-- the clauses of a try, with what they do -/
inductive HdsR (X : Cx) (W : WX) : List ExceptHandler → List Hd → Prop
  | nil : HdsR X W [] []
  | plain {x : Str} {C : Addr} {b0 : Stmt} {suite : List Stmt} {np hp : Pos} {hds : List ExceptHandler} {l : List Hd} {c : Nat} {ms : Addr → EV → MS} (hx : Gl X x) (hd : (x == ("__debug__" : Str)) = false) (hm : X.mg x = some (.ref C))
      (ht : ∀ (y : EV) (cls : Value) (dd : Option Addr) (t : S3), XRep X.K X.mg y cls dd t → PySem.W.exmOne X.K cls (.ref C) = some (decide (y.c = c)))
      (hsu : ∀ (a : Addr) (oe : Obj) (y : EV) (cls : Value) (dd : Option Addr) (pn : List (Addr × Obj)) (t : S3), Zc cls dd oe → (∃ vs, oe.data = .fields vs) → XRep X.K X.mg y cls dd t → RSs (X.suite a ((a, oe) :: pn)) ⟨W.T, t.F, t.mu, fun _ _ _ => False⟩ (b0 :: suite) (ms a y))
      (hi : ∀ (a : Addr) (y : EV) (d : DSt) (A : List AO), ms a y d A = ms 0 y d A)
      (r : HdsR X W hds l) : HdsR X W (.ExceptHandler (some (.Name x np)) none (b0 :: suite) hp :: hds) (⟨c, none, ms⟩ :: l)
  | named {x n : Str} {C : Addr} {b0 : Stmt} {suite : List Stmt} {np hp : Pos} {hds : List ExceptHandler} {l : List Hd} {c i : Nat} {ms : Addr → EV → MS} (hx : Gl X x) (hd : (x == ("__debug__" : Str)) = false) (hm : X.mg x = some (.ref C))
      (hN : X.N[i]? = some n) (hl : X.env.kindOf n = some .local)
      (ht : ∀ (y : EV) (cls : Value) (dd : Option Addr) (t : S3), XRep X.K X.mg y cls dd t → PySem.W.exmOne X.K cls (.ref C) = some (decide (y.c = c)))
      (hsu : ∀ (a : Addr) (oe : Obj) (y : EV) (cls : Value) (dd : Option Addr) (pn : List (Addr × Obj)) (t : S3), Zc cls dd oe → (∃ vs, oe.data = .fields vs) → XRep X.K X.mg y cls dd t → RSs (X.suite a ((a, oe) :: pn)) ⟨W.T, t.F, t.mu, fun _ _ _ => False⟩ (b0 :: suite) (ms a y))
      (hi : ∀ (a : Addr) (y : EV) (d : DSt) (A : List AO), i < d.length → (ms a y (d.set i (some (.adr a))) A).gone i = (ms 0 y (d.set i (some (.adr 0))) A).gone i)
      (r : HdsR X W hds l) : HdsR X W (.ExceptHandler (some (.Name x np)) (some n) (b0 :: suite) hp :: hds) (⟨c, some i, ms⟩ :: l)
/-- what meets an exception of the body -/
abbrev meet (X : Cx) (pins : List (Addr × Obj)) (D : Ends) (hds : List ExceptHandler) : Value → Shared → Prop := fun u z => wpAny (model X.prog X.w) X.A (noteFrame u X.env)
  (fun _ z1 => wpAny (model X.prog X.w) X.A (setFlight u none) (fun _ z2 => wpAny (model X.prog X.w) X.A (handleBy u X.env hds) (SP X pins D) X.xe z2) X.xe z1) X.xe z
section
variable {X : Cx} {W : WX} {pins : List (Addr × Obj)}
theorem meet_ok {D : Ends} {hds : List ExceptHandler} {l : List Hd} {Wl : L2.WX} (okX : X.Ok) (hst : X.stack = X.env :: X.outer) (hfr : X.env.frame = some X.env.locals) (hNd : X.N.Nodup) (tk : Takes X Wl)
    (hW : ∀ (x : EV) (σ : L2.St) (t : S3) (cls : Value) (dd : Option Addr), W.w x σ t → XRep X.K X.mg x cls dd t → Wl cls dd σ t.H) (hl : HdsR X W hds l) {pn : List (Addr × Obj)} {xe : Value → Shared → Prop} (hpn : pn = X.pn ++ pins) :
    ∀ u z, XE (X.tr pn xe) (fun cls dd σ H => ∃ (x : EV) (t : S3) (B : List AO) (d : DSt), t.H = H ∧ SR (kf X W) t B ∧ RSt X.K t d σ ∧ XRep X.K X.mg x cls dd t ∧ GZ (kf X W) W t D (hdRun l x d B)) u z → meet X pins D hds u z := by
  intro u z ⟨a, G, sI, pz, σ, H, cls, dd, eu, J0, onG, up, sky, fresh, hos, hbare, x, t, B, d, eH, hs, hσ, rep, gz⟩
  subst eu hpn
  have frm : X.A.frames = some (X.env :: X.outer) := by rw [okX.frames, hst]
  have J : Inv X pins σ H sI := J0.ofTry okX
  have sky1 : Sky G (X.env :: X.outer) a (Zc cls dd) X.env.locals z.heap := by rw [← hst]; exact sky
  refine Sky.land Zc.steady frm hfr sky1 fun g1 fly1 upA => ?_
  have J1 : Inv X pins σ H { z with heap := g1 } := J.landed onG fly1.1 (up.trans upA) hos hbare
  obtain ⟨o1, f1, at1, zc1, fd1⟩ := fly1.there
  have aFr : a ∉ frs (X.env :: X.outer) := by
    intro hm
    obtain ⟨_, o', e', hnf⟩ := fly1.2.2.1.mem hm
    rw [at1] at e'
    cases e'
    exact hnf _ fd1
  have aL : a ≠ X.env.locals := fun q => aFr (List.mem_filterMap.mpr ⟨X.env, List.mem_cons_self, by rw [hfr, q]⟩)
  have aF : a ∉ X.fs := by
    intro hm
    obtain ⟨env, he, q⟩ := List.mem_filterMap.mp hm
    exact aFr (List.mem_filterMap.mpr ⟨env, List.mem_cons_of_mem _ he, q⟩)
  have hot1 := J1.suite at1 fd1 fresh aL aF
  -- clause by clause
  induction hl with
  | nil =>
    refine wpAny_handleBy_nil ?_
    obtain ⟨_, _, _, oe, vs, tb, oT, ts, he, hz, hd, h1, _⟩ := id fly1
    unfold PySem.passOn
    refine wpAny_bind (wpAny_field he hd h1 ?_)
    rw [if_neg (show ¬ ((Value.ref tb == Value.none) = true) from by simp)]
    have gz : ∀ (t' : S3) (σ' : L2.St), Post t t' → SR (kf X W) t' B → RSt X.K t' d σ' → W.w x σ' t' := gz
    have last : wpAny (model X.prog X.w) X.A (setFlight (.ref a) X.env.frame) (fun _ z4 => wpAny (model X.prog X.w) X.A (throw (.ref a) : Sem Flow) (SP X pins D) X.xe z4) X.xe { z with heap := g1 } := by
      rw [hfr]
      refine HandSPX.setFlight_upZ fly1 fun g2 held up2 => wpAny_throw (tk _ _ ⟨a, G, sI, pins, σ, H, cls, dd, rfl, J, onG, (up.trans upA).trans up2, .inr (.inr (by rw [hst]; exact held)), fresh, hos, hbare, ?_⟩)
      have q := hW x σ t cls dd (gz t σ (Post.refl _) hs hσ) rep
      rw [eH] at q
      exact q
    first
      | exact wpAny_bind (wpAny_pure (wpAny_bind last))
      | exact wpAny_bind last
  | @plain nm C b0 suite np hp hds l c ms hx hdb hm ht hsu hi r ih =>
    refine wpAny_handleBy_cons (codeAny_handlers_test ?_) (by intro q; cases q)
    have LT : PySem.W.Looks (model X.prog X.w) g1 (typeOf (.ref a)) cls := fun A Q E s k q => wpAny_typeOf_ref (k _ _ at1) (by rw [zc1.1]; exact q)
    have LM := PySem.W.exm_one (M := model X.prog X.w) J1.kIn LT (ht x cls dd t rep)
    refine ld_glob (X := X.suite a ((a, o1) :: (X.pn ++ pins))) hot1 hx hm (LM.here ?_) hdb
    by_cases hc : x.c = c
    · rw [decide_eq_true hc]
      have gz : GZ (kf X W) W t D (if x.c = c then (ms 0 x d B).quiet else hdRun l x d B) := gz
      rw [if_pos hc, ← hi a] at gz
      refine codeAny_handlers_suite ?_
      refine HandSPX.lands_againZ fly1 fun g2 fly2 up2 => ?_
      have J2 : Inv X pins σ H { z with heap := g2 } := J.landed onG fly2.1 ((up.trans upA).trans up2) hos hbare
      obtain ⟨o2, f2, at2, zc2, fd2⟩ := fly2.there
      obtain ⟨ts, ps, sim⟩ := hsu a o2 x cls dd (X.pn ++ pins) t zc2 ⟨_, fd2⟩ rep
      have rd := sim t B d σ D hs.known hσ (gz_known hs gz)
      rw [eH] at rd
      refine wpAny_mono (ps.run [] _ _ H _ (J2.suite at2 fd2 fresh aL aF) rd) (fun fl z6 q => ?_) (fun _ _ q => False.elim q)
      cases fl with
      | next => obtain ⟨σ6, H6, S6, q⟩ := q; exact ⟨_, _, S6.unsuite okX, q⟩
      | brk => obtain ⟨σ6, H6, S6, q⟩ := q; exact ⟨_, _, S6.unsuite okX, q⟩
      | cont => obtain ⟨σ6, H6, S6, q⟩ := q; exact ⟨_, _, S6.unsuite okX, q⟩
      | ret v => obtain ⟨v6, σ6, H6, S6, rv, q⟩ := q; exact ⟨_, _, _, S6.unsuite okX, rv, q⟩
    · rw [decide_eq_false hc]
      have gz : GZ (kf X W) W t D (if x.c = c then (ms 0 x d B).quiet else hdRun l x d B) := gz
      rw [if_neg hc] at gz
      exact ih gz
  | @named nm n C b0 suite np hp hds l c i ms hx hdb hm hN hln ht hsu hi r ih =>
    refine wpAny_handleBy_cons (codeAny_handlers_test ?_) (by intro q; cases q)
    have LT : PySem.W.Looks (model X.prog X.w) g1 (typeOf (.ref a)) cls := fun A Q E s k q => wpAny_typeOf_ref (k _ _ at1) (by rw [zc1.1]; exact q)
    have LM := PySem.W.exm_one (M := model X.prog X.w) J1.kIn LT (ht x cls dd t rep)
    refine ld_glob (X := X.suite a ((a, o1) :: (X.pn ++ pins))) hot1 hx hm (LM.here ?_) hdb
    by_cases hc : x.c = c
    · rw [decide_eq_true hc]
      have gz : GZ (kf X W) W t D (if x.c = c then (if i < d.length then (ms 0 x (d.set i (some (.adr 0))) B).gone i else .bad) else hdRun l x d B) := gz
      rw [if_pos hc] at gz
      by_cases hid : i < d.length
      · rw [if_pos hid, ← hi a x d B hid] at gz
        refine codeAny_handlers_suite_as ?_
        refine HandSPX.lands_againZ fly1 fun g2 fly2 up2 => ?_
        have J2 : Inv X pins σ H { z with heap := g2 } := J.landed onG fly2.1 ((up.trans upA).trans up2) hos hbare
        obtain ⟨o2, f2, at2, zc2, fd2⟩ := fly2.there
        refine store_ok (X := X.suite a ((a, o2) :: (X.pn ++ pins))) (v := .ref a) (J2.suite at2 fd2 fresh aL aF) hNd hN (.inl hln) rfl (fun z5 S5 => ?_) (.inr hln)
        obtain ⟨ts, ps, sim⟩ := hsu a o2 x cls dd (X.pn ++ pins) t zc2 ⟨_, fd2⟩ rep
        have rd := sim t B (d.set i (some (.adr a))) (σ.set i (some (.ref a))) (goneD i D) hs.known (hσ.set i rfl) (gz_known hs (gz_gone gz))
        rw [eH] at rd
        refine wpAny_mono (ps.run [] z5 _ H _ S5 rd) (fun fl z6 q => ?_) (fun _ _ q => False.elim q)
        have drop : ∀ {σ6 : L2.St} {H6 : Hp} {Q : Shared → Prop}, Inv (X.suite a ((a, o2) :: (X.pn ++ pins))) [] σ6 H6 z6 → (∀ z7, Inv X pins (σ6.set i none) H6 z7 → Q z7) →
            wpAny (model X.prog X.w) X.A (do bindName X.env n .none; unbindBehindTheSuite X.env n hp) (fun _ z7 => Q z7) X.xe z6 := fun {σ6 H6 Q} S6 hq => gone_ok (S6.unsuite okX) hNd hN hln hq
        cases fl with
        | next => obtain ⟨σ6, H6, S6, q⟩ := q; exact drop S6 fun z7 J7 => ⟨_, _, J7, q⟩
        | brk => obtain ⟨σ6, H6, S6, q⟩ := q; exact drop S6 fun z7 J7 => ⟨_, _, J7, q⟩
        | cont => obtain ⟨σ6, H6, S6, q⟩ := q; exact drop S6 fun z7 J7 => ⟨_, _, J7, q⟩
        | ret v => obtain ⟨v6, σ6, H6, S6, rv, q⟩ := q; exact drop S6 fun z7 J7 => ⟨_, _, _, J7, rv, q⟩
      · rw [if_neg hid] at gz
        exact gz.elim
    · rw [decide_eq_false hc]
      have gz : GZ (kf X W) W t D (if x.c = c then (if i < d.length then (ms 0 x (d.set i (some (.adr 0))) B).gone i else .bad) else hdRun l x d B) := gz
      rw [if_neg hc] at gz
      exact ih gz
/-- the reading of a try -/
def tTryR (X : Cx) (W : WX) (m : MS) : TS := fun D σ H => ∃ (s : S3) (A : List AO) (d : DSt), s.H = H ∧ SR (kf X W) s A ∧ RSt X.K s d σ ∧ GZ (kf X W) W s D (m d A)
theorem rs_try {body : List Stmt} {h0 : ExceptHandler} {hds : List ExceptHandler} {l : List Hd} {pos : Pos} {mb : MS} (hst : X.stack = X.env :: X.outer) (hfr : X.env.frame = some X.env.locals) (hNd : X.N.Nodup) (L : Lets X W)
    (hb : ∀ (W' : WX) (pn : List (Addr × Obj)) (xe : Value → Shared → Prop), W'.T = W.T → W'.F0 = W.F0 → W'.M0 = W.M0 → Lets (X.tr pn xe) W' → PassesOwn (model X.prog X.w) X.A X.env xe → RSs (X.tr pn xe) W' body mb) (hl : HdsR X W (h0 :: hds) l) :
    RS X W (.Try body (h0 :: hds) [] [] pos) (zTry mb l) := by
  obtain ⟨Wl, tk, hW⟩ := L
  refine ⟨tTryR X W (zTry mb l), ⟨fun pins z σ H D I h => ?_⟩, fun s A d σ D hs hσ g => ⟨s, A, d, rfl, hs, hσ, g⟩⟩
  obtain ⟨s, A, d, rfl, hs, hσ, g⟩ := h
  have okX := I.ok
  refine wpAny_Try_except ?_
  let Wb : L2.WX := fun cls dd σ H => ∃ (x : EV) (t : S3) (B : List AO) (d : DSt), t.H = H ∧ SR (kf X W) t B ∧ RSt X.K t d σ ∧ XRep X.K X.mg x cls dd t ∧ GZ (kf X W) W t D (hdRun l x d B)
  let W1 : WX := ⟨W.T, W.F0, W.M0, fun x σ t => ∃ (B : List AO) (d : DSt), SR (kf X W) t B ∧ RSt X.K t d σ ∧ GZ (kf X W) W t D (hdRun l x d B)⟩
  obtain ⟨tb, pb, sb⟩ := hb W1 (X.pn ++ pins) (meet X pins D (h0 :: hds)) rfl rfl rfl ⟨Wb, meet_ok okX hst hfr hNd tk hW hl rfl, fun x σ t cls dd ⟨B, d, h1, h2, h3⟩ r => ⟨x, t, B, d, rfl, h1, h2, r, h3⟩⟩ PassesOwn.looking
  have rd := sb s A d σ D hs hσ (by
    unfold zTry at g
    cases hm : mb d A with
    | exc x d1 A1 =>
      rw [hm] at g
      exact fun t σ1 p h1 h2 => ⟨A1, d1, h1, h2, GZ.up p g⟩
    | nx d1 A1 => rw [hm] at g; exact g
    | rt x A1 => rw [hm] at g; exact g
    | bk d1 A1 => rw [hm] at g; exact g
    | ct d1 A1 => rw [hm] at g; exact g
    | bad => rw [hm] at g; exact g)
  refine wpAny_mono (pb.run [] z σ s.H D (I.toTry _) rd) (fun fl z1 q => ?_) (fun _ _ q => q)
  cases fl with
  | next => obtain ⟨σ', H', J, q⟩ := q; exact wpAny_execs_nil ⟨σ', H', J.ofTry okX, q⟩
  | brk => obtain ⟨σ', H', J, q⟩ := q; exact ⟨σ', H', J.ofTry okX, q⟩
  | cont => obtain ⟨σ', H', J, q⟩ := q; exact ⟨σ', H', J.ofTry okX, q⟩
  | ret v => obtain ⟨v', σ', H', J, rv, q⟩ := q; exact ⟨v', σ', H', J.ofTry okX, rv, q⟩
end
end Rx
/-! Rx 28: lambdas handed to a def; what a caught exception keeps; {}. -/
namespace Rx
open PySem L2 PySem.Spec PyProof.Rows Evl
/-! ### the lambda is made -/
section
variable {X : Cx} {W : WX}
theorem lam_mk {c P : Addr} {q : Str} {params : Arguments} {body : Expr} {scope : Scope} {pos : Pos} {pins : List (Addr × Obj)} {σ : L2.St} {s : S3} {A : List AO} {z : Shared} {E Q : Value → Shared → Prop} (eq : q = X.env.qual ++ "<lambda>")
    (I : Inv X pins σ s.H z) (hs : SR (kf X W) s A) (TB : LamX.TabB X.base X.mg c P) (hcode : X.env.code = .ref c) (hmT : (P, q) ∈ W.T) (hu : ∀ p ∈ W.T, p.1 = P → p.2 = q) (hdef : defaultsOf params X.env = ([], [])) (hfree : ∀ y ∈ scope.names, y.2 = .free → ∃ c, X.env.cells.lookup y.1 = some c)
    (h : ∀ (f c' : Addr) (pm ctv : Value) (t : S3) (z' : Shared), Inv X pins σ t.H z' → Post s t → SR (kf X W) t A → z'.heap.get? f = some (PySem.W.kla_obj "<lambda>" q params body scope (cloFrom X.env.cells scope.names []) pm c' ctv) → t.H f = none → f ∉ frs X.stack → t.F c' = some (LamX.CodeO c' q) → Q (.ref f) z') :
    wpAny (model X.prog X.w) X.A (eval (.Lambda params body scope pos) X.env) Q E z := by
  subst eq
  obtain ⟨fP, ps, hP, tri, among⟩ := hs.tb _ hmT
  have bAt : z.heap.BuiltinsAt X.mg P := TB.bm.keeps I.bk
  have oP : z.heap.get? P = some { cls := .none, data := .fields ps } := I.hok P _ hP
  have far : ∀ f, z.heap.objs.size ≤ f → f ∉ frs X.stack := by
    intro f hf hm
    rcases List.mem_cons.mp (I.stkSub _ hm) with e | e
    · have l1 := I.lt
      rw [← e] at l1
      exact absurd (Nat.lt_of_lt_of_le l1 hf) (Nat.lt_irrefl _)
    · exact I.nofs hf e
  refine PySem.W.kla_eval hdef ?_
  cases hc : codeAmong pos ps.toList with
  | some cv =>
    obtain ⟨c', rfl, fc⟩ := among pos cv hc
    refine PySem.W.kla_makeFunctionHit (mg := X.mg) (c := c) (P := P) (ps := ps) (closure_ok hfree) I.ok.glob (I.mod.glob.keeps I.bk) hcode (TB.code.keeps I.bk) oP tri hc bAt fun ctv hp tk hx hsz => ?_
    refine h hp.objs.size c' ((X.mg "__name__").getD .none) ctv s _ (I.kept fun b o e => Heap.get?_push_of_some _ (hx b o e)) (Post.refl s) hs (Heap.get?_push_size _ rfl) (I.hok.fresh hsz) (far _ hsz) fc
  | none =>
    refine PySem.W.kla_makeFunction (mg := X.mg) (c := c) (P := P) (ps := ps) (closure_ok hfree) I.ok.glob (I.mod.glob.keeps I.bk) hcode (TB.code.keeps I.bk) oP tri hc TB.gP bAt fun c' ctv hp tk hx hge hlt hrec htb => ?_
    obtain ⟨c2, oc, vs, t, e2, hoc, hd, hv⟩ := hrec
    cases e2
    have big : z.heap.objs.size ≤ hp.objs.size := by omega
    have nC : s.H c' = none := I.hok.fresh hge
    have nF : s.F c' = none := hs.nof nC
    have nM : c' ∉ s.mu := hs.nomu nC
    have neP : P ≠ c' := fun y => by rw [y, nC] at hP; cases hP
    let more : Array Value := #[rawInt pos.line, rawInt pos.col, .ref c']
    let co : HO := LamX.CodeO c' (X.env.qual ++ "<lambda>")
    let t : S3 := ⟨upd s.F c' co, upd (upd s.H P (.tbl (ps ++ more))) c' co, s.mu⟩
    have I1 := LamX.inv_table (t' := tk) (more := more) (h' := hp.push (PySem.W.kla_obj "<lambda>" (X.env.qual ++ "<lambda>") params body scope (cloFrom X.env.cells scope.names []) ((X.mg "__name__").getD .none) c' ctv)) I hP
      (fun b o hb e => Heap.get?_push_of_some _ (hx b o hb e)) (Heap.get?_push_of_some _ htb) hge ⟨oc, vs, _, Heap.get?_push_of_some _ hoc, hd, hv⟩
    have hH : ∀ b, b ≠ c' → b ≠ P → t.H b = s.H b := fun b h1 h2 => by
      show upd (upd s.H P (.tbl (ps ++ more))) c' co b = _
      rw [upd_ne h1, upd_ne h2]
    have tP : t.H P = some (.tbl (ps ++ more)) := by
      show upd (upd s.H P (.tbl (ps ++ more))) c' co P = _
      rw [upd_ne neP, upd_same]
    have tC : t.H c' = some co := upd_same
    have tF : ∀ b, b ≠ c' → t.F b = s.F b := fun b h1 => upd_ne h1
    have onH : ∀ b o, s.H b = some o → b ≠ c' := fun b o e y => by rw [y, nC] at e; cases e
    have notT : ∀ b o, s.H b = some o → (∀ ps, o ≠ .tbl ps) → b ≠ P := fun b o e n y => by
      rw [y, hP] at e
      exact n ps (Option.some.inj e).symm
    have po : Post s t := by
      refine ⟨Ex.new nF, fun b o e => ?_, ⟨[], by simp [t], by simp⟩, fun b o e _ n => ?_, fun b e => ?_⟩
      · by_cases hb : b = c'
        · exact .inr (hb ▸ nC)
        · exact .inl ((tF b hb).symm.trans e)
      · exact (hH b (onH b o e) (notT b o e n)).trans e
      · by_cases hb : b = c'
        · exact hb ▸ nC
        · by_cases hb2 : b = P
          · rw [hb2, tP] at e; cases e
          · exact (hH b hb hb2).symm.trans e
    have lst : ∀ b ∈ s.mu, ∃ vs, s.H b = some (.lst vs) := fun b hb => by
      obtain ⟨i, hi⟩ := List.mem_iff_getElem?.mp hb
      exact hs.lst hi
    have st : SR (kf X W) t A := by
      refine ⟨fun b o e => ?_, fun b hb => ?_, hs.nd, hs.len, fun b hb => ?_, fun i b xs e1 e2 => ?_, fun p hp => ?_, hs.bs.trans po.fx, hs.mb⟩
      · by_cases hb : b = c'
        · subst hb
          have e : upd s.F b co b = some o := e
          rw [upd_same] at e
          exact tC.trans e
        · have e' := (tF b hb).symm.trans e
          exact (hH b hb (fun y => by rw [y, fP] at e'; cases e')).trans (hs.sub b o e')
      · exact (tF b (fun y => nM (y ▸ hb))).trans (hs.dis b hb)
      · obtain ⟨vs, e⟩ := lst b hb
        exact ⟨_, (hH b (onH b _ e) (notT b _ e (fun _ y => by cases y))).trans e⟩
      · obtain ⟨vs, e3, e4⟩ := hs.obj i b xs e1 e2
        exact ⟨vs, (hH b (onH b _ e3) (notT b _ e3 (fun _ y => by cases y))).trans e3, DqAll.up po.fx xs e4⟩
      · by_cases hb : p.1 = P
        · have el : (ps ++ more).toList = ps.toList ++ [rawInt pos.line, rawInt pos.col, .ref c'] := by simp [more]
          rw [hu p hp hb, hb]
          refine ⟨(tF P neP).trans fP, ps ++ more, tP, by rw [el]; exact PySem.TriplesOk_snoc _ _ _ _ tri, fun p2 cv hcv => ?_⟩
          rw [el] at hcv
          rcases LamX.among_app _ tri hcv with y | y
          · obtain ⟨c0, e1, e2⟩ := among p2 cv y
            exact ⟨c0, e1, po.fx _ _ e2⟩
          · exact ⟨c', y, upd_same⟩
        · have q := hs.tb p hp
          obtain ⟨_, qs, e, _⟩ := id q
          exact q.up po.fx (fun y => (tF _ (onH _ _ e)).trans y) fun qs' e' => (hH _ (onH _ _ e') hb).trans e'
    have n1 : hp.objs.size ≠ c' := Nat.ne_of_gt hlt
    have n2 : hp.objs.size ≠ P := (Nat.ne_of_lt (Nat.lt_of_lt_of_le (Heap.lt_size oP) big)).symm
    exact h hp.objs.size c' ((X.mg "__name__").getD .none) ctv t _ I1 po st (Heap.get?_push_size _ rfl) ((hH _ n1 n2).trans (I.hok.fresh big)) (far _ big) upd_same
end
/-! ### the lambda is called -/
/-- call() in the def that got it at slot i: f the function, ml what it does -/
def mAct (i : Nat) (f : Addr) (ml : List AO → RR SV) : MM SV := fun d A => match d[i]? with
  | some (some (.adr g)) => if g = f then ml A else .bad
  | _ => .bad
section
variable {X : Cx} {W : WX}
theorem act_ok {CXg : CXT} {Eg : XK} {Ng : List Str} {qg : Str} {sg : Scope} {g f c' : Addr} {cdg pm ctv : Value} {params : Arguments} {body : Expr} {scope : Scope} {k i : Nat} {a q : Str} {pn : List (Addr × Obj)} {xe : Value → Shared → Prop} {p1 p2 : Pos} {pins : List (Addr × Obj)} {σ : L2.St} {z : Shared}
    {t : S3} {d : DSt} {m : MM SV} {W2 : WX} (eq : q = X.env.qual ++ "<lambda>") (I : Inv X pins σ t.H z) (L : LamX.LamS X.env.scope scope) (hf : z.heap.get? f = some (PySem.W.kla_obj "<lambda>" q params body scope (cloFrom X.env.cells scope.names []) pm c' ctv)) (hfn : t.H f = none) (hfr : f ∉ frs X.stack) (hco : t.F c' = some (LamX.CodeO c' q))
    (hbind : bindArgs (PySem.W.kla_fn "<lambda>" q params body scope (cloFrom X.env.cells scope.names []) pm (.ref c') ctv) ⟨[], []⟩ = pure []) (hσ : RSt X.K t d σ)
    (hr : Room (k + 1) (X.A.deeper (envOfC qg sg z.heap.objs.size g cdg))) (hgd : X.A.guards = some [])
    (hbody : ∀ (A : Around) (outer : List Env) (z : Shared) (H : Hp) (E : XK), A.guards = some [] → Room k (A.deeper (LamX.lamEnv X scope z.heap.objs.size f c')) → RE (LamX.lamCx X A outer z H E scope f c') (Wd (kf X W).base X.mg E) body m)
    (hN : Ng[i]? = some a) (hv : Vis sg a) (hT : W2.T = W.T) (hF0 : W2.F0 = t.F) (hM0 : W2.M0 = t.mu) (Le : Lets ((cxOf CXg X.prog X.w X.K X.mg X.base Ng qg sg g cdg X.A X.stack z t.H Eg).tr pn xe) W2)
    (hd : (a == ("__debug__" : Str)) = false := by decide) (hcd : (a == ("__classdict__" : Str)) = false := by decide) :
    RE ((cxOf CXg X.prog X.w X.K X.mg X.base Ng qg sg g cdg X.A X.stack z t.H Eg).tr pn xe) W2 (.Call (.Name a p1) [] [] p2) (mAct i f (m d)) := by
  subst eq
  let Z : Cx := (cxOf CXg X.prog X.w X.K X.mg X.base Ng qg sg g cdg X.A X.stack z t.H Eg).tr pn xe
  obtain ⟨Wl, tk, hW⟩ := Le
  refine ⟨fun σZ HZ Q => ∃ (s : S3) (A : List AO) (dZ : DSt), s.H = HZ ∧ SR (kf Z W2) s A ∧ RSt Z.K s dZ σZ ∧ Good (mAct i f (m d) dZ A) (fun x A' => ∀ (t' : S3) (v : V), Post s t' → SR (kf Z W2) t' A' → RV Z.K t' x v → Q v t'.H) (fun x A' => ∀ t' : S3, Post s t' → SR (kf Z W2) t' A' → W2.w x σZ t'),
    ⟨fun pinsZ zZ σZ HZ Q IZ h => ?_⟩, fun s A dZ σZ Q h1 h2 h3 => ⟨s, A, dZ, rfl, h1, h2, h3⟩⟩
  obtain ⟨s, A, dZ, rfl, hs, hσZ, g0⟩ := h
  unfold mAct at g0
  split at g0
  · rename_i g1 eg1
    split at g0
    · rename_i ee
      subst ee
      obtain ⟨v0, ev0, rv0⟩ := hσZ.val i _ eg1
      have rv0 : v0 = .ref g1 := rv0
      subst rv0
      refine wpAny_Call_Name_kw (thn ((pe_var (X := Z) (pos := p1) (i := i) hN hv hd hcd).run pinsZ zZ σZ s.H (fun v H1 => v = .ref g1 ∧ H1 = s.H) IZ ⟨.ref g1, ev0, rfl, rfl⟩) fun u s1 hh => ?_)
      obtain ⟨v, H1, I1, r1, e1, e2⟩ := hh
      subst e1
      subst e2
      obtain rfl : u = Value.ref g1 := r1
      have at1 := I1.base.keep g1 _ hf hfn hfr (fun y => nomatch (show g1 ∈ ([] : List Addr) from y))
      refine PySem.W.callWith_F0 ⟨_, _, _, _, at1⟩ ?_
      have fxt : Ex t.F s.F := by
        have := hs.bs
        have h0 : Ex W2.F0 s.F := this
        rw [hF0] at h0
        exact h0
      have un : Un (frs X.stack) [] t.H s.H z.heap s1.heap := I1.base
      obtain ⟨⟨oc, vs, tk0, hoc, hdc, hvc⟩, _, _⟩ := I1.hok c' _ (hs.sub _ _ (fxt _ _ hco))
      let Eσ : XK := fun cls dd H' => Wl cls dd σZ H'
      have hσ2 : RSt X.K s d σ := by
        refine ⟨hσ.len, fun j x ex => ?_⟩
        obtain ⟨v, e1, r⟩ := hσ.val j x ex
        refine ⟨v, e1, ?_⟩
        cases x with
        | dat y => exact Dq.up fxt y r
        | adr b => exact r
        | ref b =>
          obtain ⟨a0, e2, e3⟩ := r
          obtain ⟨nu, e4⟩ := hs.mb
          have e4 : s.mu = W2.M0 ++ nu := e4
          rw [hM0] at e4
          refine ⟨a0, e2, ?_⟩
          rw [e4, List.getElem?_append_left (List.getElem?_eq_some_iff.mp e3).1]
          exact e3
      have base2 : SR (kf X W).base s A := by
        have b0 := hs.base
        show SR ⟨X.K, W.T, fun _ => none, []⟩ s A
        rw [← hT]
        exact b0
      have rc : codeAny (model X.prog X.w) (X.A.deeper (envOfC qg sg z.heap.objs.size g cdg)) (.call (.ref g1) ⟨[], []⟩) (CR (L2.CX X.prog X.w) (envOfC qg sg z.heap.objs.size g cdg :: X.stack) X.prog X.w s.H s1 Q Eσ) s1 := by
        refine PySem.W.kla_callFunE hr.depth at1 rfl L.co L.gen rfl ⟨c', oc, vs, tk0, rfl, hoc, hdc, hvc⟩ ?_
        rw [hbind]
        refine wpAny_pure (wpAny_newFunctionEnv (fun y hy => (L.own y hy).2) (fun y hy => absurd hy (by simp)) (fun hp hns hsb => ⟨I1.nolimit.fresh _ hsb, ?_⟩) L.kind)
        show codeAny _ _ (.expr body (LamX.lamEnv X scope s1.heap.objs.size g1 c')) _ _
        have kp : ∀ b o, s1.heap.get? b = some o → hp.get? b = some o := fun b o e => hsb.extBut b o (Nat.ne_of_lt (Heap.lt_size e)) (Heap.get?_push_of_some _ e)
        have J := LamX.lam_start2 (E := Eσ) (f := g1) (c' := c') (A := X.A.deeper (envOfC qg sg z.heap.objs.size g cdg)) (outer := envOfC qg sg z.heap.objs.size g cdg :: X.stack) (tk := s1.toks + ([] : List (Str × Value)).length) I L I1.env0 hr.hd un hns kp
        obtain ⟨tb, pb, sb⟩ := hbody (X.A.deeper (envOfC qg sg z.heap.objs.size g cdg)) (envOfC qg sg z.heap.objs.size g cdg :: X.stack) s1 s.H Eσ hgd (hr.deeper _)
        have rd : tb σ s.H Q := by
          refine sb s A d σ Q base2 hσ2 (Good.mono g0 (fun x A' w t' v p1 h1 r1 => w t' v p1 (hs.re p1 ?_) r1) (fun x A' w t' p1 h1 cls dd xr => hW x σZ t' cls dd (w t' p1 (hs.re p1 ?_)) xr))
          · show SR ⟨X.K, W2.T, fun _ => none, []⟩ t' A'
            rw [hT]; exact h1
          · show SR ⟨X.K, W2.T, fun _ => none, []⟩ t' A'
            rw [hT]; exact h1
        refine PySem.W.kla_codeExpr (wpAny_mono (pb.run [] _ _ s.H Q J rd) (fun v s' hq => ?_) fun e s' hq => hq)
        obtain ⟨w', H', J', rv, qq⟩ := hq
        exact ⟨w', H', J'.os, J'.bare, J'.base, J'.hok, rv, qq⟩
      refine wpAny_call (codeAny_mono rc fun r s' hq => ?_)
      cases r with
      | error e => exact passAt tk σZ pinsZ s.H s1 e s' I1 hq
      | ok fl =>
        cases fl with
        | ret u => exact I1.after hq
        | next => exact hq.elim
        | brk => exact hq.elim
        | cont => exact hq.elim
    · exact g0.elim
  · exact g0.elim
/-! ### x(lambda: e) -/
def mLamC (n : Nat) (M : Addr → (List AO → RR SV) → MS) (m : MM SV) : MM SV := fun d A => (mfn n (M 0 (m d)) [.adr 0] A).quiet
/-- a def of one parameter that calls what it got -/
def Gives (P : Program) (w : World) (K : PySem.W.Frag) (mg : Str → Option Value) (base : Heap) (T : List (Addr × Str)) (N : List Str) (a qual : Str) (st : Stmt) (k : Nat) (M : Addr → (List AO → RR SV) → MS) : Prop :=
  ∀ (g : Addr) (cdg : Value) (A : Around) (outer : List Env) (z : Shared) (H : Hp) (F0 : Hp) (M0 : List Addr) (f : Addr) (ml : List AO → RR SV), A.guards = some [] → Room k (A.deeper (envOfC qual (defScope st) z.heap.objs.size g cdg)) →
    (∀ (W2 : WX) (pn : List (Addr × Obj)) (xe : Value → Shared → Prop) (p1 p2 : Pos), W2.T = T → W2.F0 = F0 → W2.M0 = M0 → Lets ((BX P w K mg base N qual st g cdg A outer z H E0).tr pn xe) W2 → RE ((BX P w K mg base N qual st g cdg A outer z H E0).tr pn xe) W2 (.Call (.Name a p1) [] [] p2) (mAct 0 f ml)) →
    RSs (BX P w K mg base N qual st g cdg A outer z H E0) ⟨T, F0, M0, fun _ _ _ => False⟩ (defBody st) (M f ml)
theorem re_lam {x a qual : Str} {st : Stmt} {N : List Str} {k n : Nat} {c P : Addr} {M : Addr → (List AO → RR SV) → MS} {m : MM SV} {params : Arguments} {body : Expr} {scope : Scope} {p lpos pos : Pos} {q : Str} (Df : Dfd X.K X.mg x qual st [a]) (S : FnScope N [a] (defScope st)) (hNa : N[0]? = some a) (hva : Vis (defScope st) a) (hn : N.length = n)
    (hG : Gives X.prog X.w X.K X.mg X.base W.T N a qual st (k + 1) M) (hi : ∀ (f : Addr) (ml : List AO → RR SV) (A : List AO), mfn n (M f ml) [.adr f] A = mfn n (M 0 ml) [.adr 0] A)
    (TB : LamX.TabB X.base X.mg c P) (hcode : X.env.code = .ref c) (eq : q = X.env.qual ++ "<lambda>") (hmT : (P, q) ∈ W.T) (hu : ∀ p ∈ W.T, p.1 = P → p.2 = q) (hgd : X.A.guards = some []) (hr : Room (k + 2) X.A) (L : LamX.LamS X.env.scope scope) (hdef : defaultsOf params X.env = ([], []))
    (hbind : ∀ (q : Str) (cl : List (Str × Addr)) (pm cv ctv : Value), bindArgs (PySem.W.kla_fn "<lambda>" q params body scope cl pm cv ctv) ⟨[], []⟩ = pure [])
    (hbody : ∀ (A : Around) (outer : List Env) (z : Shared) (H : Hp) (E : XK) (f c' : Addr), A.guards = some [] → Room k (A.deeper (LamX.lamEnv X scope z.heap.objs.size f c')) → RE (LamX.lamCx X A outer z H E scope f c') (Wd (kf X W).base X.mg E) body m)
    (hg : Gl X x) (hdb : (x == ("__debug__" : Str)) = false := by decide) (hd : (a == ("__debug__" : Str)) = false := by decide) (hcd : (a == ("__classdict__" : Str)) = false := by decide) :
    RE X W (.Call (.Name x p) [.Lambda params body scope lpos] [] pos) (mLamC n M m) := by
  subst hn
  obtain ⟨g, fdg, hm, Fu, hbnd⟩ := Df.ex
  obtain ⟨oc, od, kV, doc, pm0, an, cdv, ct, osl, rfl, lk, hcg⟩ := Fu.ex
  refine ⟨fun σ H Q => ∃ (s : S3) (A : List AO) (d : DSt), s.H = H ∧ SR (kf X W) s A ∧ RSt X.K s d σ ∧ Good (mLamC N.length M m d A) (fun x A' => ∀ (t' : S3) (v : V), Post s t' → SR (kf X W) t' A' → RV X.K t' x v → Q v t'.H) (fun x A' => ∀ t' : S3, Post s t' → SR (kf X W) t' A' → W.w x σ t'),
    ⟨fun pins z σ H Q I h => ?_⟩, fun s A d σ Q h1 h2 h3 => ⟨s, A, d, rfl, h1, h2, h3⟩⟩
  obtain ⟨s, A, d, rfl, hs, hσ, h⟩ := h
  refine wpAny_Call_Name_kw (ld_glob I hg hm ?_ hdb)
  refine PySem.W.callWith_K (h₀ := X.base) I.ok.mod.kin Fu.kp ?_ (by rfl) (by rfl)
  show wpAny _ _ (spliced ((false, eval (.Lambda params body scope lpos) X.env) :: backTo pos (starEach [] X.env))) _ _ z
  refine Calls.spliced_cons (lam_mk eq I hs TB hcode hmT hu hdef (L.has I.ok) fun f c' pm ctv t z1 I1 p1 ht hf hfn hfr hco => ?_)
  refine Calls.spliced_nil ⟨I1.kIn, ?_⟩
  have rc : codeAny (model X.prog X.w) X.A (.call (.ref g) ⟨[.ref f], []⟩) (CR (L2.CX X.prog X.w) X.stack X.prog X.w t.H z1 Q E0) z1 := by
    refine LamX.run_ofS (N := N) (ps := [a]) (us := [.ref f]) (vs := [.ref f]) lk hcg S hr I1.env0 (hbnd z1 [.ref f] I1.kIn rfl) (.cons rfl .nil) rfl fun hr' => ?_
    obtain ⟨tb, pb, sb⟩ := hG g cdv X.A X.stack z1 t.H t.F t.mu f (m d) hgd hr' fun W2 pn xe q1 q2 e1 e2 e3 Le =>
      act_ok (i := 0) (W := W) eq I1 L hf hfn hfr hco (hbind _ _ _ _ _) (hσ.up p1) hr' hgd (fun A outer z H E hgA hrA => hbody A outer z H E f c' hgA hrA) hNa hva e1 e2 e3 Le hd hcd
    refine ⟨tb, pb, ?_⟩
    have hvs : RVs X.K t [.adr f] [V.ref f] := ⟨_, _, rfl, rfl, rfl⟩
    have hst := rst_start (K := kf X W) N.length hvs
    have kn : SR ⟨X.K, W.T, t.F, t.mu⟩ t A := ht.known
    refine sb t A _ _ _ kn hst ?_
    have back : ∀ {u : S3} {B : List AO}, Post t u → SR ⟨X.K, W.T, t.F, t.mu⟩ u B → SR (kf X W) u B := fun p q => ht.re p q.base
    have h : Good (mfn N.length (M 0 (m d)) [.adr 0] A).quiet _ _ := h
    rw [← hi f (m d) A] at h
    unfold mfn at h
    cases hm : M f (m d) (List.map some [SV.adr f] ++ List.replicate (N.length - [SV.adr f].length) none) A with
    | nx d1 A1 =>
      rw [hm] at h
      exact fun u σ1 p2 h1 _ => h u .non (p1.trans p2) (back p2 h1) .non
    | rt y A1 =>
      rw [hm] at h
      exact fun u v p2 h1 r1 => h u v (p1.trans p2) (back p2 h1) r1
    | bk d1 A1 => rw [hm] at h; exact h.elim
    | ct d1 A1 => rw [hm] at h; exact h.elim
    | exc x1 d1 A1 => rw [hm] at h; exact h.elim
    | bad => rw [hm] at h; exact h.elim
  refine wpAny_call (codeAny_mono rc fun r s2 hq => ?_)
  cases r with
  | error e => exact passes_E0 pins σ t.H z1 e s2 I1 hq
  | ok fl =>
    cases fl with
    | ret u => exact I1.after hq
    | next => exact hq.elim
    | brk => exact hq.elim
    | cont => exact hq.elim
end
/-! ### what the caught one keeps -/
/-- the name in slot i holds the caught one, of class c -/
def mBy (i : Nat) (a : Addr) (c : Nat) (y : EV) : MM SV := fun d A => if y.c = c then (match d[i]? with
  | some (some (.adr b)) => if b = a then .ok (.dat y.p) A else .bad
  | _ => .bad) else .bad
section
variable {X : Cx} {W : WX}
theorem re_by {a : Addr} {oe : Obj} {y : EV} {cls : Value} {dd : Option Addr} {pn : List (Addr × Obj)} {t : S3} {C : Addr} {nm f e : Str} {B newId initId : String} {bmB : List Value} {c i : Nat} {p pos : Pos} (T : ExI X.prog X.K X.mg C nm f B newId initId bmB) (hn : exNames[c]? = some (nm, some f))
    (hz : Zc cls dd oe) (hf : ∃ vs, oe.data = .fields vs) (xr : XRep X.K X.mg y cls dd t) (hF : W.F0 = t.F) (hN : X.N[i]? = some e) (hv : Vis X.env.scope e) (hd : (e == ("__debug__" : Str)) = false) (hcd : (e == ("__classdict__" : Str)) = false)
    (hb : attributeBase (.Name e p) f X.env (eval (.Name e p) X.env) = eval (.Name e p) X.env := by rfl) : RE (X.suite a ((a, oe) :: pn)) W (.Attribute (.Name e p) f pos) (mBy i a c y) := by
  let Z := X.suite a ((a, oe) :: pn)
  refine ⟨fun σ H Q => ∃ (s : S3) (A : List AO) (d : DSt), s.H = H ∧ SR (kf Z W) s A ∧ RSt Z.K s d σ ∧ Good (mBy i a c y d A) (fun x A' => ∀ (t' : S3) (v : V), Post s t' → SR (kf Z W) t' A' → RV Z.K t' x v → Q v t'.H) (fun x A' => ∀ t' : S3, Post s t' → SR (kf Z W) t' A' → W.w x σ t'),
    ⟨fun pins z σ H Q I h => ?_⟩, fun s A d σ Q h1 h2 h3 => ⟨s, A, d, rfl, h1, h2, h3⟩⟩
  obtain ⟨s, A, d, rfl, hs, hσ, g⟩ := h
  unfold mBy at g
  by_cases hyc : y.c = c
  · rw [if_pos hyc] at g
    split at g
    · rename_i b eb
      split at g
      · rename_i eab
        subst eab
        obtain ⟨v0, ev0, rv0⟩ := hσ.val i _ eb
        have rv0 : v0 = .ref b := rv0
        subst rv0
        refine attr_of hb (thn ((pe_var (X := Z) (pos := p) (i := i) hN hv hd hcd).run pins z σ s.H (fun v H1 => v = .ref b ∧ H1 = s.H) I ⟨.ref b, ev0, rfl, rfl⟩) fun u s1 hh => ?_)
        obtain ⟨x, H1, I1, rx, ex, eH⟩ := hh
        subst ex
        subst eH
        obtain rfl : u = Value.ref b := rx
        obtain ⟨nm', fo, C', x1, x2, x3, x4⟩ := xr
        rw [hyc, hn] at x1
        cases x1
        obtain ⟨dx, v, y1, y2, y3⟩ := x4 f rfl
        rw [T.gC] at x2
        cases x2
        subst x3
        subst y1
        have fx : Ex t.F s.F := by
          have h0 : Ex W.F0 s.F := hs.bs
          rw [hF] at h0
          exact h0
        obtain ⟨here, _⟩ := I1.pin (b, oe) (List.mem_append_left _ List.mem_cons_self)
        obtain ⟨vs, hdt⟩ := hf
        obtain ⟨mA, hns, hrel⟩ : ObjOk X.prog X.w s.H s1.heap dx (.xd [(f, v)]) := I1.hok dx _ (hs.sub _ _ (fx _ _ y2))
        obtain ⟨od, hod, hlk⟩ := lookIn_ns hns
        have l1 : List.lookup f [(f, v)] = some v := by simp [List.lookup]
        obtain ⟨u, hu, ru⟩ := RelO.some_of (v := v) (o := mA f) (by rw [← l1]; exact hrel f)
        have J : PySem.W.InstAt s1.heap b oe C (some od) := ⟨here, hz.1, by unfold PySem.W.notCls; rw [hdt] <;> rfl, by rw [hz.2]; exact hod⟩
        exact HandSPX.exc_get I1.kIn J T.ga T.gg T.exC (PySem.W.findObj_own T.hdC T.noN rfl (by rw [hlk, hu])) (handed_of ru) ⟨v, s.H, I1.tok _, ru, g s v (Post.refl s) hs (Dq.up fx _ y3)⟩
      · exact g.elim
    · exact g.elim
  · rw [if_neg hyc] at g
    exact g.elim
/-! ### {} -/
theorem re_dnil {pos : Pos} : RE X W (.Dict [] [] pos) (mC (.dat (.dict []))) := by
  refine ⟨_, pe_dnewK, fun s A d σ Q hs hσ h => ?_⟩
  intro p hp
  exact h (s.newF p (.dK [])) (.ref p) (Post.newF hs hp _) (hs.newF hp _) (.dct upd_same .nil)
end
end Rx
/-! Rx 29: the facts about classes of exceptions; words for try and lambdas. -/
namespace Rx
open PySem L2 PySem.Spec PyProof.Rows Evl
/-! ### where the classes stand, which clause takes which -/
def ExAt (mg : Str → Option Value) : List (Str × Option Str) → List (Option Addr) → Prop
  | [], [] => True
  | (nm, _) :: r, o :: l => mg nm = o.map Value.ref ∧ ExAt mg r l
  | _, _ => False
theorem ExAt.get {mg : Str → Option Value} : ∀ {es : List (Str × Option Str)} {l : List (Option Addr)} {i : Nat} {nm : Str} {fo : Option Str}, ExAt mg es l → es[i]? = some (nm, fo) → ∃ o, l[i]? = some o ∧ mg nm = o.map Value.ref
  | [], _, _, _, _, _, e => by simp at e
  | (n, f) :: r, [], _, _, _, h, _ => h.elim
  | (n, f) :: r, o :: l, 0, _, _, h, e => by
    simp at e
    obtain ⟨rfl, rfl⟩ := e
    exact ⟨o, rfl, h.1⟩
  | (n, f) :: r, o :: l, i + 1, nm, fo, h, e => by
    obtain ⟨o', h1, h2⟩ := ExAt.get (i := i) h.2 (by simpa using e)
    exact ⟨o', by simpa using h1, h2⟩
def exMat (K : PySem.W.Frag) (l : List (Option Addr)) : Bool := (List.range 14).all fun i => (List.range 14).all fun j => match l[i]?, l[j]? with
  | some (some C), some (some D) => PySem.W.exmOne K (.ref C) (.ref D) == some (decide (i = j))
  | _, _ => true
structure XM (K : PySem.W.Frag) (mg : Str → Option Value) : Prop where
  ex : ∃ l, ExAt mg exNames l ∧ exMat K l = true
theorem XM.ht {K : PySem.W.Frag} {mg : Str → Option Value} (h : XM K mg) {j : Nat} {nm' : Str} {fo' : Option Str} {C' : Addr} (hj : exNames[j]? = some (nm', fo')) (hm : mg nm' = some (.ref C')) (y : EV) (cls : Value) (dd : Option Addr) (t : S3) (xr : XRep K mg y cls dd t) :
    PySem.W.exmOne K cls (.ref C') = some (decide (y.c = j)) := by
  obtain ⟨l, h1, h2⟩ := h.ex
  obtain ⟨nm, fo, C, x1, x2, x3, _⟩ := xr
  obtain ⟨o, a1, a2⟩ := h1.get x1
  obtain ⟨o', b1, b2⟩ := h1.get hj
  have ey : y.c < 14 := (List.getElem?_eq_some_iff.mp x1).1
  have ej : j < 14 := (List.getElem?_eq_some_iff.mp hj).1
  rw [x2] at a2
  rw [hm] at b2
  cases o with
  | none => cases a2
  | some D =>
    cases o' with
    | none => cases b2
    | some D' =>
      cases a2
      cases b2
      have h3 := List.all_eq_true.mp h2 y.c (List.mem_range.mpr ey)
      have h4 := List.all_eq_true.mp h3 j (List.mem_range.mpr ej)
      rw [a1, b1] at h4
      subst x3
      exact beq_iff_eq.mp h4
/-! ### an __init__ that keeps what it gets -/
def posOf : List Stmt → List Pos
  | [.Expr (.Call (.Attribute (.Call (.Name _ a) [] [] b) _ c) [.Name _ d] [] e) g, .Assign [.Attribute (.Name _ h) _ i] (.Name _ j) k] => [a, b, c, d, e, g, h, i, j, k]
  | _ => []
def initSB (f : Str) (sc : Scope) : Bool := decide (sc.kind = .function) && !sc.isCoroutine && !sc.isGenerator && sc.names.all (fun y => !decide (y.2 = .cell)) && decide (sc.names.lookup ("self" : Str) = some .local) && decide (sc.names.lookup f = some .local) &&
  decide (sc.names.lookup ("super" : Str) = some .globalImplicit) && decide (sc.names.lookup ("__class__" : Str) = some .free)
theorem initS_by {f : Str} {sc : Scope} (h : initSB f sc = true) : InitS f sc := by
  unfold initSB at h
  simp only [Bool.and_eq_true, decide_eq_true_eq, Bool.not_eq_true', List.all_eq_true, decide_eq_false_iff_not] at h
  obtain ⟨⟨⟨⟨⟨⟨⟨h1, h2⟩, h3⟩, h4⟩, h5⟩, h6⟩, h7⟩, h8⟩ := h
  exact ⟨h1, h2, h3, h4, h5, h6, h7, h8⟩
/-! ### contexts -/
theorem lets_false {X : Cx} {T : List (Addr × Str)} {F0 : Hp} {M0 : List Addr} : Lets X ⟨T, F0, M0, fun _ _ _ => False⟩ := ⟨fun _ _ _ _ => False, LamX.takes0, fun _ _ _ _ _ h _ => h⟩
theorem lets_lam {X : Cx} {A : Around} {outer : List Env} {s : Shared} {H : Hp} {E : XK} {scope : Scope} {f c' : Addr} {W : WX} : Lets (LamX.lamCx X A outer s H E scope f c') (Wd (kf X W).base X.mg E) :=
  ⟨fun cls d _ H => E cls d H, takes_of rfl rfl rfl rfl, fun x σ t cls dd h r => h cls dd r⟩
theorem fitR_suite {X : Cx} {a : Addr} {pn : List (Addr × Obj)} (h : FitR X.A) : FitR (X.suite a pn).A := ⟨h.un, h.gd⟩
/-! ### a clause's name, wherever the caught one stands -/
def ByI (i : Nat) (e : Addr → EV → MM SV) : Prop := ∀ (a : Addr) (y : EV) (d : DSt) (A : List AO), i < d.length → e a y (d.set i (some (.adr a))) A = e 0 y (d.set i (some (.adr 0))) A
def ByL (i : Nat) (e : Addr → EV → MM (List SV)) : Prop := ∀ (a : Addr) (y : EV) (d : DSt) (A : List AO), i < d.length → e a y (d.set i (some (.adr a))) A = e 0 y (d.set i (some (.adr 0))) A
theorem ByI.by {i c : Nat} : ByI i (fun a y => mBy i a c y) := fun a y d A h => by
  unfold mBy
  try dsimp only
  rw [List.getElem?_set_self h, List.getElem?_set_self h]
  simp
theorem ByI.c {i : Nat} {x : SV} : ByI i (fun _ _ => mC x) := fun _ _ _ _ _ => rfl
theorem ByL.nil {i : Nat} : ByL i (fun _ _ => mNil) := fun _ _ _ _ _ => rfl
theorem ByL.cons {i : Nat} {e : Addr → EV → MM SV} {r : Addr → EV → MM (List SV)} (h1 : ByI i e) (h2 : ByL i r) : ByL i (fun a y => mCons (e a y) (r a y)) := fun a y d A hl => by
  unfold mCons
  try dsimp only
  rw [h1 a y d A hl]
  congr 1
  funext x A1
  rw [h2 a y d A1 hl]
theorem ByI.tup {i : Nat} {r : Addr → EV → MM (List SV)} (h : ByL i r) : ByI i (fun a y => mTup (r a y)) := fun a y d A hl => by
  unfold mTup
  try dsimp only
  rw [h a y d A hl]
theorem ByI.call {i : Nat} {f : FL} {r : Addr → EV → MM (List SV)} (h : ByL i r) : ByI i (fun a y => mCall f (r a y)) := fun a y d A hl => by
  unfold mCall
  try dsimp only
  rw [h a y d A hl]
theorem ByI.ret {i : Nat} {e : Addr → EV → MM SV} (h : ByI i e) (a : Addr) (y : EV) (d : DSt) (A : List AO) (hl : i < d.length) : (zRet (e a y) (d.set i (some (.adr a))) A).gone i = (zRet (e 0 y) (d.set i (some (.adr 0))) A).gone i := by
  unfold zRet
  rw [h a y d A hl]
  cases e 0 y (d.set i (some (.adr 0))) A <;> rfl
/-! ### a giver's mirror, wherever the lambda stands -/
def RZ.out (r : RZ) : RR SV := match r with
  | .nx _ A' => .ok (.dat .none) A'
  | .rt x A' => .ok x A'
  | .exc x _ A' => .exc x A'
  | _ => .bad
def Ind0 (m : MM SV) : Prop := ∀ (u u' : Option SV) (r : DSt) (A : List AO), m (u :: r) A = m (u' :: r) A
def InL0 (m : MM (List SV)) : Prop := ∀ (u u' : Option SV) (r : DSt) (A : List AO), m (u :: r) A = m (u' :: r) A
theorem Ind0.c {x : SV} : Ind0 (mC x) := fun _ _ _ _ => rfl
theorem Ind0.by {i c : Nat} {a : Addr} {y : EV} : Ind0 (mBy (i + 1) a c y) := fun _ _ _ _ => rfl
theorem InL0.nil : InL0 mNil := fun _ _ _ _ => rfl
theorem InL0.cons {e : MM SV} {r : MM (List SV)} (h1 : Ind0 e) (h2 : InL0 r) : InL0 (mCons e r) := fun u u' d A => by
  unfold mCons
  try dsimp only
  rw [h1 u u' d A]
  congr 1
  funext x A1
  rw [h2 u u' d A1]
theorem Ind0.tup {r : MM (List SV)} (h : InL0 r) : Ind0 (mTup r) := fun u u' d A => by
  unfold mTup
  try dsimp only
  rw [h u u' d A]
theorem Ind0.call {f : FL} {r : MM (List SV)} (h : InL0 r) : Ind0 (mCall f r) := fun u u' d A => by
  unfold mCall
  try dsimp only
  rw [h u u' d A]
def HdO (hs : List Hd) : Prop := ∀ (x : EV) (u u' : Option SV) (r : DSt) (A : List AO), (hdRun hs x (u :: r) A).out = (hdRun hs x (u' :: r) A).out
theorem HdO.nil : HdO [] := fun _ _ _ _ _ => rfl
theorem HdO.plain {c : Nat} {e : Addr → EV → MM SV} {l : List Hd} (h : ∀ y, Ind0 (e 0 y)) (hl : HdO l) : HdO (⟨c, none, fun a y => zRet (e a y)⟩ :: l) := fun x u u' r A => by
  show (if x.c = c then (zRet (e 0 x) (u :: r) A).quiet else hdRun l x (u :: r) A).out = (if x.c = c then (zRet (e 0 x) (u' :: r) A).quiet else hdRun l x (u' :: r) A).out
  by_cases hc : x.c = c
  · rw [if_pos hc, if_pos hc]
    unfold zRet
    rw [h x u u' r A]
    cases e 0 x (u' :: r) A <;> rfl
  · rw [if_neg hc, if_neg hc]
    exact hl x u u' r A
theorem HdO.named {c i : Nat} {e : Addr → EV → MM SV} {l : List Hd} (h : ∀ y, Ind0 (e 0 y)) (hl : HdO l) : HdO (⟨c, some (i + 1), fun a y => zRet (e a y)⟩ :: l) := fun x u u' r A => by
  show (if x.c = c then (if i + 1 < (u :: r).length then (zRet (e 0 x) (u :: r.set i (some (.adr 0))) A).gone (i + 1) else .bad) else hdRun l x (u :: r) A).out = (if x.c = c then (if i + 1 < (u' :: r).length then (zRet (e 0 x) (u' :: r.set i (some (.adr 0))) A).gone (i + 1) else .bad) else hdRun l x (u' :: r) A).out
  by_cases hc : x.c = c
  · rw [if_pos hc, if_pos hc]
    have e1 : (u :: r).length = (u' :: r).length := rfl
    rw [e1]
    split
    · unfold zRet
      rw [h x u u' _ A]
      cases e 0 x (u' :: r.set i (some (.adr 0))) A <;> rfl
    · rfl
  · rw [if_neg hc, if_neg hc]
    exact hl x u u' r A
def Lam0 (e : Addr → MM SV) : Prop := ∀ (f : Addr) (r : DSt) (A : List AO), e f (some (.adr f) :: r) A = e 0 (some (.adr 0) :: r) A
def LaL0 (e : Addr → MM (List SV)) : Prop := ∀ (f : Addr) (r : DSt) (A : List AO), e f (some (.adr f) :: r) A = e 0 (some (.adr 0) :: r) A
theorem Lam0.act {ml : List AO → RR SV} : Lam0 (fun f => mAct 0 f ml) := fun f r A => by
  unfold mAct
  simp
theorem Lam0.c {x : SV} : Lam0 (fun _ => mC x) := fun _ _ _ => rfl
theorem LaL0.nil : LaL0 (fun _ => mNil) := fun _ _ _ => rfl
theorem LaL0.cons {e : Addr → MM SV} {r : Addr → MM (List SV)} (h1 : Lam0 e) (h2 : LaL0 r) : LaL0 (fun f => mCons (e f) (r f)) := fun f d A => by
  unfold mCons
  try dsimp only
  rw [h1 f d A]
  congr 1
  funext x A1
  rw [h2 f d A1]
theorem Lam0.tup {r : Addr → MM (List SV)} (h : LaL0 r) : Lam0 (fun f => mTup (r f)) := fun f d A => by
  unfold mTup
  try dsimp only
  rw [h f d A]
theorem hi_try {n : Nat} {e : Addr → MM SV} {hs : List Hd} (h : Lam0 e) (ho : HdO hs) (f : Addr) (A : List AO) : mfn n (zTry (zRet (e f)) hs) [.adr f] A = mfn n (zTry (zRet (e 0)) hs) [.adr 0] A := by
  show (zTry (zRet (e f)) hs (some (.adr f) :: List.replicate (n - 1) none) A).out = (zTry (zRet (e 0)) hs (some (.adr 0) :: List.replicate (n - 1) none) A).out
  unfold zTry zRet
  rw [h f _ A]
  cases e 0 (some (.adr 0) :: List.replicate (n - 1) none) A with
  | ok x A1 => rfl
  | bad => rfl
  | exc x A1 => exact ho x _ _ _ A1
end Rx
namespace Lib
open PySem L2 PySem.Spec PyProof.Rows Evl Rx
def c_ALL : Str := "all"
def c_EXACT : Str := "exact"
def c_GAP : Str := "gap"
def c_GREAT : Int := 1000000000000000000000000000000000000000000000000000000000000
def c_MAX_STEP : Int := 24
def c_MAX_WHOLE : Int := 5040
def c_MOST_CLASSES : Int := 12
def c_NUMBER : Str := "number"
def z_is_int : MS := (zRet (mBl (mAnd (mB (mUn (fIsi "int") (mVar 0))) (mNot (mB (mUn (fIsi "bool") (mVar 0)))))))
def M_is_int : FL := mfn 1 z_is_int
def z_common_of : MS := (zSeq (zPar 2 3 (mCons (mCall (f1D gAbs) (mCons (mVar 0) mNil)) (mCons (mCall (f1D gAbs) (mCons (mVar 1) mNil)) mNil)))
  (zSeq (zWhile (mB (mOp (f2D gNe) (mVar 3) (mC (.dat (.int 0))))) (zPar 2 3 (mCons (mVar 3) (mCons (mOp fMod (mVar 2) (mVar 3)) mNil))))
  (zRet (mVar 2))))
def M_common_of : FL := mfn 4 z_common_of
def z_has_number : MS := (zRet (mOp (f2D gEq) (mOp fMod (mOp fSub (mVar 1) (mOp fIx (mVar 0) (mC (.dat (.int 1))))) (mOp fIx (mVar 0) (mC (.dat (.int 0))))) (mC (.dat (.int 0)))))
def M_has_number : FL := mfn 2 z_has_number
def z_parts_of : MS := (zSeq (zAsg (mVar 0) (gtTup 2 (gtCons (gtName 2) (gtCons (gtName 3) gtNil))))
  (zRet (mFrz (mLc [4] (mRng (aLen 1 (mCons (mVar 1) mNil))) (gtName 4) mYes (mTup (mCons (mOp fMul (mVar 2) (mVar 1)) (mCons (mOp fAdd (mVar 3) (mOp fMul (mVar 2) (mVar 4))) mNil)))))))
def M_parts_of : FL := mfn 5 z_parts_of
def z__law_jar : MS := (zSeq (zAsg (mIf (mB (mOp (f2D gLt) (mVar 1) (mCall fLen (mCons (mVar 0) mNil)))) (mCall (f1D gInt) (mCons (mOp fIx (mVar 0) (mVar 1)) mNil)) (mOp fAdd (mOp fMul (mC (.dat (.int 113))) (mVar 1)) (mC (.dat (.int 59))))) (gtName 2))
  (zSeq (zAsg (mOp fMod (mCall fMax2 (mCons (mC (.dat (.int 0))) (mCons (mOp fSub (mCall (f1D gAbs) (mCons (mVar 2) mNil)) (mOp fPow (mC (.dat (.int 10))) (mC (.dat (.int 17))))) mNil))) (mOp fMul (mOp fPow (mC (.dat (.int 10))) (mC (.dat (.int 58)))) (mOp fPow (mC (.dat (.int 10))) (mC (.dat (.int 59)))))) (gtName 3))
  (zRet (mMut (mLst (mCons (mVar 3) (mCons (mOp fAdd (mOp fAdd (mOp fAdd (mOp fMul (mOp fMod (mCall (f1D gAbs) (mCons (mVar 2) mNil)) (mC (.dat (.int 1152921504606847009)))) (mC (.dat (.int 103)))) (mOp fMul (mC (.dat (.int 1013))) (mVar 1))) (mOp fMul (mC (.dat (.int 71))) (mCall (f1D gInt) (mCons (mOp (f2D gLt) (mVar 2) (mC (.dat (.int 0)))) mNil)))) (mC (.dat (.int 13)))) (mCons (mC (.dat (.int 0))) mNil))))))))
def M__law_jar : FL := mfn 4 z__law_jar
def z__law_dip : MS := (zSeq (zIf (mB (mOp (f2D gGt) (mOp fIx (mVar 0) (mC (.dat (.int 0)))) (mC (.dat (.int 0))))) (zSeq (zAsg (mOp fMod (mCall (f1D gInt) (mCons (mOp fIx (mVar 0) (mC (.dat (.int 0)))) mNil)) (mVar 1)) (gtName 2))
  (zSeq (zSetI 0 (mC (.dat (.int 0))) (mOp fFdv (mOp fIx (mVar 0) (mC (.dat (.int 0)))) (mVar 1)))
  (zRet (mVar 2)))) zNil)
  (zSeq (zSetI 0 (mC (.dat (.int 2))) (mOp fAdd (mOp fIx (mVar 0) (mC (.dat (.int 2)))) (mC (.dat (.int 1)))))
  (zSeq (zAsg (mOp fMod (mCall (f1D gInt) (mCons (mOp fAdd (mOp fIx (mVar 0) (mC (.dat (.int 1)))) (mOp fMul (mC (.dat (.int 67867967))) (mOp fIx (mVar 0) (mC (.dat (.int 2)))))) mNil)) (mC (.dat (.int 2305843009213693951)))) (gtName 3))
  (zSeq (zAsg (mOp fAdd (mOp fMul (mOp fMod (mCall (f1D gInt) (mCons (mOp fAdd (mOp fMul (mVar 3) (mVar 3)) (mOp fMul (mC (.dat (.int 109))) (mOp fIx (mVar 0) (mC (.dat (.int 2)))))) mNil)) (mC (.dat (.int 2305843009213693921)))) (mC (.dat (.int 5999993)))) (mVar 3)) (gtName 4))
  (zRet (mOp fMod (mCall (f1D gInt) (mCons (mOp fFdv (mVar 4) (mC (.dat (.int 65537)))) mNil)) (mVar 1)))))))
def M__law_dip : FL := mfn 5 z__law_dip
def e__law_met (f : Addr) (ml : List AO → RR SV) : MM SV := (mTup (mCons (mC (.dat (.str "told"))) (mCons (mAct 0 f ml) mNil)))
def h__law_met : List Hd := (⟨0, none, fun a y => zRet (mTup (mCons (mC (.dat (.str "lot"))) mNil))⟩ :: (⟨1, none, fun a y => zRet (mTup (mCons (mC (.dat (.str "row"))) mNil))⟩ :: (⟨3, none, fun a y => zRet (mTup (mCons (mC (.dat (.str "book"))) mNil))⟩ :: (⟨4, none, fun a y => zRet (mTup (mCons (mC (.dat (.str "report"))) mNil))⟩ :: (⟨7, none, fun a y => zRet (mTup (mCons (mC (.dat (.str "operation"))) mNil))⟩ :: (⟨9, some 1, fun a y => zRet (mTup (mCons (mC (.dat (.str "number"))) (mCons (mCall (f1D gReprX) (mCons (mBy 1 a 9 y) mNil)) mNil)))⟩ :: (⟨12, some 1, fun a y => zRet (mTup (mCons (mC (.dat (.str "many"))) (mCons (mBy 1 a 12 y) mNil)))⟩ :: (⟨13, some 1, fun a y => zRet (mTup (mCons (mC (.dat (.str "refused"))) (mCons (mBy 1 a 13 y) mNil)))⟩ :: []))))))))
def z__law_met (f : Addr) (ml : List AO → RR SV) : MS := zTry (zRet (e__law_met f ml)) h__law_met
def z_is_whole : MS := (zRet (mBl (mAnd (mB (mCallP M_is_int 1 (mCons (mVar 0) mNil))) (mB (mChain (f2D gLt) (f2D gLt) (mUn fNeg (mC (.dat (.int c_GREAT)))) (mVar 0) (mC (.dat (.int c_GREAT))))))))
def M_is_whole : FL := mfn 1 z_is_whole
def z_lowest : MS := (zSeq (zAsg (mCallP M_common_of 2 (mCons (mVar 0) (mCons (mVar 1) mNil))) (gtName 2))
  (zSeq (zAsg (mIf (mB (mOp (f2D gGt) (mVar 1) (mC (.dat (.int 0))))) (mC (.dat (.int 1))) (mUn fNeg (mC (.dat (.int 1))))) (gtName 3))
  (zRet (mTup (mCons (mOp fFdv (mOp fMul (mVar 3) (mVar 0)) (mVar 2)) (mCons (mOp fFdv (mOp fMul (mVar 3) (mVar 1)) (mVar 2)) mNil))))))
def M_lowest : FL := mfn 4 z_lowest
def z_least_common : MS := (zRet (mOp fMul (mOp fFdv (mVar 0) (mCallP M_common_of 2 (mCons (mVar 0) (mCons (mVar 1) mNil)))) (mVar 1)))
def M_least_common : FL := mfn 2 z_least_common
def z_homes_in : MS := (zRet (mCall fTuple (mCons (mFrz (mLc [2, 3] (mEnum (mVar 0)) (gtTup 2 (gtCons (gtName 2) (gtCons (gtName 3) gtNil))) (mB (mCallP M_has_number 2 (mCons (mVar 3) (mCons (mVar 1) mNil)))) (mVar 2))) mNil)))
def M_homes_in : FL := mfn 4 z_homes_in
def z_joined_of : MS := (zSeq (zAsg (mTup (mCons (mOp fIx (mOp fIx (mVar 0) (mC (.dat (.int 0)))) (mC (.dat (.int 0)))) (mCons (mCall fLen (mCons (mVar 0) mNil)) mNil))) (gtTup 2 (gtCons (gtName 1) (gtCons (gtName 2) gtNil))))
  (zSeq (zIf (mOr (mB (mOp (f2D gNe) (mOp fMod (mVar 1) (mVar 2)) (mC (.dat (.int 0))))) (mB (mCall (f1D gAny) (mCons (mFrz (mLc [4, 5] (mSeq (mVar 0)) (gtTup 2 (gtCons (gtName 4) (gtCons (gtName 5) gtNil))) mYes (mOp (f2D gNe) (mVar 4) (mVar 1)))) mNil)))) (zRet (mC (.dat .none))) zNil)
  (zSeq (zAsg (mTup (mCons (mOp fFdv (mVar 1) (mVar 2)) (mCons (mOp fMod (mOp fIx (mOp fIx (mVar 0) (mC (.dat (.int 0)))) (mC (.dat (.int 1)))) (mOp fFdv (mVar 1) (mVar 2))) mNil))) (gtName 3))
  (zRet (mIf (mB (mOp (f2D gEq) (mFrz (mCallN fSrtA (mCons (mCallP M_parts_of 2 (mCons (mVar 3) (mCons (mVar 2) mNil))) mNil))) (mFrz (mCallN fSrtA (mCons (mVar 0) mNil))))) (mVar 3) (mC (.dat .none)))))))
def M_joined_of : FL := mfn 6 z_joined_of
def z__law_one : MS := (zRet (mOp fIx (mVar 1) (mCall (fCallFD M__law_dip 2) (mCons (mVar 0) (mCons (mCall fLen (mCons (mVar 1) mNil)) mNil)))))
def M__law_one : FL := mfn 2 z__law_one
def z_is_within : MS := (zRet (mBl (mAnd (mB (mCallP M_is_whole 1 (mCons (mVar 0) mNil))) (mB (mChain (f2D gLe) (f2D gLe) (mVar 1) (mVar 0) (mVar 2))))))
def M_is_within : FL := mfn 3 z_is_within
def z_whole_in : MS := (zSeq (zAsg (mC (.dat (.int 1))) (gtName 1))
  (zSeq (zFor (mSeq (mVar 0)) (gtTup 2 (gtCons (gtName 2) (gtCons (gtName 3) gtNil))) (zAsg (mCallP M_least_common 2 (mCons (mVar 1) (mCons (mVar 2) mNil))) (gtName 1)))
  (zRet (mVar 1))))
def M_whole_in : FL := mfn 4 z_whole_in
def z_common_in : MS := (zSeq (zAsg (mVar 0) (gtTup 2 (gtCons (gtName 2) (gtCons (gtName 3) gtNil))))
  (zSeq (zIf (mB (mOp (f2D gNe) (mOp fMod (mOp fSub (mOp fIx (mVar 1) (mC (.dat (.int 1)))) (mVar 3)) (mCallP M_common_of 2 (mCons (mVar 2) (mCons (mOp fIx (mVar 1) (mC (.dat (.int 0)))) mNil)))) (mC (.dat (.int 0))))) (zRet (mC (.dat .none))) zNil)
  (zSeq (zWhile (mB (mOp (f2D gNe) (mOp fMod (mOp fSub (mVar 3) (mOp fIx (mVar 1) (mC (.dat (.int 1))))) (mOp fIx (mVar 1) (mC (.dat (.int 0))))) (mC (.dat (.int 0))))) (zAug 3 fIadd (mVar 2)))
  (zSeq (zAsg (mCallP M_least_common 2 (mCons (mVar 2) (mCons (mOp fIx (mVar 1) (mC (.dat (.int 0)))) mNil))) (gtName 4))
  (zRet (mTup (mCons (mVar 4) (mCons (mOp fMod (mVar 3) (mVar 4)) mNil))))))))
def M_common_in : FL := mfn 5 z_common_in
def z_require_number : MS := (zIf (mNot (mB (mCallP M_is_whole 1 (mCons (mVar 0) mNil)))) (zRaise1 9 (mVar 0)) zNil)
def M_require_number : FL := mfn 1 z_require_number
def z_is_class_in : MS := (zSeq (zIf (mOr (mNot (mB (mUn (fIsi "tuple") (mVar 0)))) (mOr (mB (mOp (f2D gNe) (mCall fLen (mCons (mVar 0) mNil)) (mC (.dat (.int 2))))) (mNot (mB (mCallP M_is_within 3 (mCons (mOp fIx (mVar 0) (mC (.dat (.int 0)))) (mCons (mC (.dat (.int 1))) (mCons (mC (.dat (.int c_MAX_STEP))) mNil)))))))) (zRet (mC (.dat (.bool false)))) zNil)
  (zRet (mCallP M_is_within 3 (mCons (mOp fIx (mVar 0) (mC (.dat (.int 1)))) (mCons (mC (.dat (.int 0))) (mCons (mOp fSub (mOp fIx (mVar 0) (mC (.dat (.int 0)))) (mC (.dat (.int 1)))) mNil))))))
def M_is_class_in : FL := mfn 1 z_is_class_in
def z_are_indices_in : MS := (zSeq (zIf (mOr (mNot (mB (mUn (fIsi "tuple") (mVar 1)))) (mNot (mB (mCall (f1D gAll) (mCons (mFrz (mLc [2] (mSeq (mVar 1)) (gtName 2) mYes (mCallP M_is_within 3 (mCons (mVar 2) (mCons (mC (.dat (.int 0))) (mCons (mOp fSub (mCall fLen (mCons (mVar 0) mNil)) (mC (.dat (.int 1)))) mNil)))))) mNil))))) (zRet (mC (.dat (.bool false)))) zNil)
  (zRet (mCall (f1D gAll) (mCons (mFrz (mLc [3, 4] (mZip (mCons (mVar 1) (mCons (mSlT (mVar 1) (mPart (mC (.dat (.int 1)))) mNoPart) mNil))) (gtTup 2 (gtCons (gtName 3) (gtCons (gtName 4) gtNil))) mYes (mOp (f2D gLt) (mVar 3) (mVar 4)))) mNil))))
def M_are_indices_in : FL := mfn 5 z_are_indices_in
def z_counts_in : MS := (zSeq (zAsgM (mRepL (mLst (mCons (mC (.dat (.int 0))) mNil)) (mCallP M_whole_in 1 (mCons (mVar 0) mNil))) 1)
  (zSeq (zFor (mSeq (mVar 0)) (gtTup 2 (gtCons (gtName 2) (gtCons (gtName 3) gtNil))) (zFor (mRngC (mCons (mVar 3) (mCons (mCall fLen (mCons (mVar 1) mNil)) (mCons (mVar 2) mNil)))) (gtName 4) (zAugI 1 fIadd (mVar 4) (mC (.dat (.int 1))))))
  (zRet (mVar 1))))
def M_counts_in : FL := mfn 5 z_counts_in
def z_sum_in : MS := (zSeq (zAsg (mCallP M_whole_in 1 (mCons (mVar 0) mNil)) (gtName 1))
  (zRet (mCallP M_lowest 2 (mCons (mCall (f1D gSum) (mCons (mFrz (mLc [2, 3] (mSeq (mVar 0)) (gtTup 2 (gtCons (gtName 2) (gtCons (gtName 3) gtNil))) mYes (mOp fFdv (mVar 1) (mVar 2)))) mNil)) (mCons (mVar 1) mNil)))))
def M_sum_in : FL := mfn 4 z_sum_in
def z_is_book_in : MS := (zSeq (zIf (mOr (mNot (mB (mUn (fIsi "tuple") (mVar 0)))) (mNot (mB (mChain (f2D gLe) (f2D gLe) (mC (.dat (.int 1))) (mCall fLen (mCons (mVar 0) mNil)) (mC (.dat (.int c_MOST_CLASSES))))))) (zRet (mC (.dat (.bool false)))) zNil)
  (zSeq (zIf (mNot (mB (mCall (f1D gAll) (mCons (mFrz (mLc [1] (mSeq (mVar 0)) (gtName 1) mYes (mCallP M_is_class_in 1 (mCons (mVar 1) mNil)))) mNil)))) (zRet (mC (.dat (.bool false)))) zNil)
  (zRet (mBl (mAnd (mB (mCall (f1D gAll) (mCons (mFrz (mLc [1, 2] (mZip (mCons (mVar 0) (mCons (mSlT (mVar 0) (mPart (mC (.dat (.int 1)))) mNoPart) mNil))) (gtTup 2 (gtCons (gtName 1) (gtCons (gtName 2) gtNil))) mYes (mOp (f2D gLt) (mVar 1) (mVar 2)))) mNil))) (mB (mOp (f2D gLe) (mCallP M_whole_in 1 (mCons (mVar 0) mNil)) (mC (.dat (.int c_MAX_WHOLE))))))))))
def M_is_book_in : FL := mfn 3 z_is_book_in
def z_covered_in : MS := (zRet (mCall fLen (mCons (mFrz (mLc [1] (mSeq (mCallP M_counts_in 1 (mCons (mVar 0) mNil))) (gtName 1) (mB (mOp (f2D gGt) (mVar 1) (mC (.dat (.int 0))))) (mVar 1))) mNil)))
def M_covered_in : FL := mfn 2 z_covered_in
def z_gap_in : MS := (zSeq (zAsg (mCallP M_counts_in 1 (mCons (mVar 0) mNil)) (gtName 1))
  (zRet (mIf (mB (mOp (f2D gIn) (mC (.dat (.int 0))) (mVar 1))) (mMt fLIdx (mVar 1) (mC (.dat (.int 0)))) (mC (.dat .none)))))
def M_gap_in : FL := mfn 2 z_gap_in
def z_needed_in : MS := (zSeq (zAsg (mCallP M_counts_in 1 (mCons (mVar 0) mNil)) (gtName 1))
  (zSeq (zAsgM (mLst mNil) 2)
  (zSeq (zFor (mEnum (mVar 0)) (gtTup 2 (gtCons (gtName 3) (gtCons (gtTup 2 (gtCons (gtName 4) (gtCons (gtName 5) gtNil))) gtNil))) (zIf (mB (mCall (f1D gAny) (mCons (mFrz (mLc [6] (mRngC (mCons (mVar 5) (mCons (mCall fLen (mCons (mVar 1) mNil)) (mCons (mVar 4) mNil)))) (gtName 6) mYes (mOp (f2D gEq) (mOp fIx (mVar 1) (mVar 6)) (mC (.dat (.int 1)))))) mNil))) (zDrop (mApp 2 (mVar 3))) zNil))
  (zRet (mVar 2)))))
def M_needed_in : FL := mfn 7 z_needed_in
def z_require_class : MS := (zIf (mNot (mB (mCall (f1D gAll) (mCons (mFrz (mLc [1] (mSeq (mVar 0)) (gtName 1) mYes (mCallP M_is_class_in 1 (mCons (mVar 1) mNil)))) mNil)))) (zRaise0 3) zNil)
def M_require_class : FL := mfn 2 z_require_class
def z_is_class : MS := (zRet (mCallP M_is_class_in 1 (mCons (mVar 0) mNil)))
def M_is_class : FL := mfn 1 z_is_class
def z_left_in : MS := (zSeq (zAsg (mVar 0) (gtName 1))
  (zSeq (zWhile (mB (mOp (f2D gLt) (mCall fLen (mCons (mCallP M_needed_in 1 (mCons (mVar 1) mNil)) mNil)) (mCall fLen (mCons (mVar 1) mNil)))) (zSeq (zAsg (mCallP M_needed_in 1 (mCons (mVar 1) mNil)) (gtName 2))
  (zSeq (zAsg (mOp fIx (mFrz (mLc [4] (mRng (aLen 1 (mCons (mCall fLen (mCons (mVar 1) mNil)) mNil))) (gtName 4) (mB (mOp (f2D gNotIn) (mVar 4) (mVar 2))) (mVar 4))) (mC (.dat (.int 0)))) (gtName 3))
  (zAsg (mTup (mStar (mSlT (mVar 1) mNoPart (mPart (mVar 3))) (mStar (mSlT (mVar 1) (mPart (mOp fAdd (mVar 3) (mC (.dat (.int 1))))) mNoPart) mNil))) (gtName 1)))))
  (zRet (mVar 1))))
def M_left_in : FL := mfn 5 z_left_in
def z_require_book : MS := (zIf (mNot (mB (mCallP M_is_book_in 1 (mCons (mVar 0) mNil)))) (zRaise0 3) zNil)
def M_require_book : FL := mfn 1 z_require_book
def z_is_book : MS := (zRet (mCallP M_is_book_in 1 (mCons (mVar 0) mNil)))
def M_is_book : FL := mfn 1 z_is_book
def z_is_in : MS := (zSeq (zDrop (mCallX (fCallXS (fStar 0 M_require_class)) (mCons (mVar 0) mNil)))
  (zSeq (zDrop (mCallX (fCallX M_require_number 1) (mCons (mVar 1) mNil)))
  (zRet (mCallP M_has_number 2 (mCons (mVar 0) (mCons (mVar 1) mNil))))))
def M_is_in : FL := mfn 2 z_is_in
def z_common_class : MS := (zSeq (zDrop (mCallX (fCallXS (fStar 0 M_require_class)) (mCons (mVar 0) (mCons (mVar 1) mNil))))
  (zRet (mCallP M_common_in 2 (mCons (mVar 0) (mCons (mVar 1) mNil)))))
def M_common_class : FL := mfn 2 z_common_class
def z_whole : MS := (zSeq (zDrop (mCallX (fCallX M_require_book 1) (mCons (mVar 0) mNil)))
  (zRet (mCallP M_whole_in 1 (mCons (mVar 0) mNil))))
def M_whole : FL := mfn 1 z_whole
def z_counts : MS := (zSeq (zDrop (mCallX (fCallX M_require_book 1) (mCons (mVar 0) mNil)))
  (zRet (mCall fTuple (mCons (mCallP M_counts_in 1 (mCons (mVar 0) mNil)) mNil))))
def M_counts : FL := mfn 1 z_counts
def z_book_paper : MS := (zSeq (zDrop (mCallX (fCallX M_require_book 1) (mCons (mVar 0) mNil)))
  (zSeq (zAsg (mCallP M_gap_in 1 (mCons (mVar 0) mNil)) (gtName 1))
  (zRet (mIf (mB (mOp (fIs false) (mVar 1) (mC (.dat .none)))) (mTup (mCons (mC (.dat (.str c_ALL))) (mCons (mCallP M_whole_in 1 (mCons (mVar 0) mNil)) mNil))) (mTup (mCons (mC (.dat (.str c_GAP))) (mCons (mVar 1) mNil)))))))
def M_book_paper : FL := mfn 2 z_book_paper
def z_is_book_paper : MS := (zSeq (zDrop (mCallX (fCallX M_require_book 1) (mCons (mVar 0) mNil)))
  (zSeq (zIf (mOr (mNot (mB (mUn (fIsi "tuple") (mVar 1)))) (mOr (mB (mOp (f2D gNe) (mCall fLen (mCons (mVar 1) mNil)) (mC (.dat (.int 2))))) (mNot (mB (mUn (fIsi "str") (mOp fIx (mVar 1) (mC (.dat (.int 0))))))))) (zRet (mC (.dat (.bool false)))) zNil)
  (zSeq (zIf (mOr (mNot (mB (mUn (fIsi "int") (mOp fIx (mVar 1) (mC (.dat (.int 1))))))) (mB (mUn (fIsi "bool") (mOp fIx (mVar 1) (mC (.dat (.int 1))))))) (zRet (mC (.dat (.bool false)))) zNil)
  (zSeq (zIf (mB (mOp (f2D gEq) (mOp fIx (mVar 1) (mC (.dat (.int 0)))) (mC (.dat (.str c_ALL))))) (zRet (mBl (mAnd (mB (mOp (fIs false) (mCallP M_gap_in 1 (mCons (mVar 0) mNil)) (mC (.dat .none)))) (mB (mOp (f2D gEq) (mOp fIx (mVar 1) (mC (.dat (.int 1)))) (mCallP M_whole_in 1 (mCons (mVar 0) mNil))))))) zNil)
  (zRet (mBl (mAnd (mB (mOp (f2D gEq) (mOp fIx (mVar 1) (mC (.dat (.int 0)))) (mC (.dat (.str c_GAP))))) (mB (mOp (f2D gEq) (mCallP M_homes_in 2 (mCons (mVar 0) (mCons (mOp fIx (mVar 1) (mC (.dat (.int 1)))) mNil))) (mTup mNil))))))))))
def M_is_book_paper : FL := mfn 2 z_is_book_paper
def z_first_gap : MS := (zSeq (zDrop (mCallX (fCallX M_require_book 1) (mCons (mVar 0) mNil)))
  (zRet (mCallP M_gap_in 1 (mCons (mVar 0) mNil))))
def M_first_gap : FL := mfn 1 z_first_gap
def z_does_cover : MS := (zSeq (zDrop (mCallX (fCallX M_require_book 1) (mCons (mVar 0) mNil)))
  (zSeq (zDrop (mCallX (fCallX M_require_number 1) (mCons (mVar 1) mNil)))
  (zSeq (zIf (mNot (mB (mCallP M_is_within 3 (mCons (mVar 2) (mCons (mC (.dat (.int 1))) (mCons (mC (.dat (.int c_MAX_WHOLE))) mNil)))))) (zRaise1 9 (mVar 2)) zNil)
  (zSeq (zAsg (mCallP M_counts_in 1 (mCons (mVar 0) mNil)) (gtName 3))
  (zRet (mCall (f1D gAll) (mCons (mFrz (mLc [4] (mRng (aLen 1 (mCons (mVar 2) mNil))) (gtName 4) mYes (mOp (f2D gGt) (mOp fIx (mVar 3) (mOp fMod (mOp fAdd (mVar 1) (mVar 4)) (mCall fLen (mCons (mVar 3) mNil)))) (mC (.dat (.int 0)))))) mNil)))))))
def M_does_cover : FL := mfn 5 z_does_cover
def z_share : MS := (zSeq (zDrop (mCallX (fCallX M_require_book 1) (mCons (mVar 0) mNil)))
  (zRet (mCallP M_lowest 2 (mCons (mCallP M_covered_in 1 (mCons (mVar 0) mNil)) (mCons (mCallP M_whole_in 1 (mCons (mVar 0) mNil)) mNil)))))
def M_share : FL := mfn 1 z_share
def z_sum_of_shares : MS := (zSeq (zDrop (mCallX (fCallX M_require_book 1) (mCons (mVar 0) mNil)))
  (zRet (mCallP M_sum_in 1 (mCons (mVar 0) mNil))))
def M_sum_of_shares : FL := mfn 1 z_sum_of_shares
def z_needed : MS := (zSeq (zDrop (mCallX (fCallX M_require_book 1) (mCons (mVar 0) mNil)))
  (zRet (mCall fTuple (mCons (mCallP M_needed_in 1 (mCons (mVar 0) mNil)) mNil))))
def M_needed : FL := mfn 1 z_needed
def z_left_of_book : MS := (zSeq (zDrop (mCallX (fCallX M_require_book 1) (mCons (mVar 0) mNil)))
  (zRet (mCallP M_left_in 1 (mCons (mVar 0) mNil))))
def M_left_of_book : FL := mfn 1 z_left_of_book
def z_exact_paper : MS := (zSeq (zDrop (mCallX (fCallX M_require_book 1) (mCons (mVar 0) mNil)))
  (zSeq (zAsg (mFrz (mLc [2, 3] (mEnum (mCallP M_counts_in 1 (mCons (mVar 0) mNil))) (gtTup 2 (gtCons (gtName 2) (gtCons (gtName 3) gtNil))) (mB (mOp (f2D gNe) (mVar 3) (mC (.dat (.int 1))))) (mVar 2))) (gtName 1))
  (zRet (mIf (mB (mOp (f2D gEq) (mVar 1) (mFrz (mLst mNil)))) (mTup (mCons (mC (.dat (.str c_EXACT))) mNil)) (mTup (mCons (mC (.dat (.str c_NUMBER))) (mCons (mOp fIx (mVar 1) (mC (.dat (.int 0)))) (mCons (mCallP M_homes_in 2 (mCons (mVar 0) (mCons (mOp fIx (mVar 1) (mC (.dat (.int 0)))) mNil))) mNil))))))))
def M_exact_paper : FL := mfn 4 z_exact_paper
def z_is_exact_paper : MS := (zSeq (zDrop (mCallX (fCallX M_require_book 1) (mCons (mVar 0) mNil)))
  (zSeq (zIf (mOr (mNot (mB (mUn (fIsi "tuple") (mVar 1)))) (mOr (mB (mOp (f2D gNotIn) (mCall fLen (mCons (mVar 1) mNil)) (mTup (mCons (mC (.dat (.int 1))) (mCons (mC (.dat (.int 3))) mNil))))) (mNot (mB (mUn (fIsi "str") (mOp fIx (mVar 1) (mC (.dat (.int 0))))))))) (zRet (mC (.dat (.bool false)))) zNil)
  (zSeq (zIf (mB (mOp (f2D gEq) (mCall fLen (mCons (mVar 1) mNil)) (mC (.dat (.int 1))))) (zRet (mBl (mAnd (mB (mOp (f2D gEq) (mOp fIx (mVar 1) (mC (.dat (.int 0)))) (mC (.dat (.str c_EXACT))))) (mB (mCall (f1D gAll) (mCons (mFrz (mLc [2] (mSeq (mCallP M_counts_in 1 (mCons (mVar 0) mNil))) (gtName 2) mYes (mOp (f2D gEq) (mVar 2) (mC (.dat (.int 1)))))) mNil)))))) zNil)
  (zSeq (zIf (mOr (mB (mOp (f2D gNe) (mOp fIx (mVar 1) (mC (.dat (.int 0)))) (mC (.dat (.str c_NUMBER))))) (mOr (mNot (mB (mUn (fIsi "int") (mOp fIx (mVar 1) (mC (.dat (.int 1))))))) (mB (mUn (fIsi "bool") (mOp fIx (mVar 1) (mC (.dat (.int 1)))))))) (zRet (mC (.dat (.bool false)))) zNil)
  (zSeq (zIf (mOr (mNot (mB (mCallP M_are_indices_in 2 (mCons (mVar 0) (mCons (mOp fIx (mVar 1) (mC (.dat (.int 2)))) mNil))))) (mB (mOp (f2D gEq) (mCall fLen (mCons (mOp fIx (mVar 1) (mC (.dat (.int 2)))) mNil)) (mC (.dat (.int 1)))))) (zRet (mC (.dat (.bool false)))) zNil)
  (zRet (mOp (f2D gEq) (mOp fIx (mVar 1) (mC (.dat (.int 2)))) (mCallP M_homes_in 2 (mCons (mVar 0) (mCons (mOp fIx (mVar 1) (mC (.dat (.int 1)))) mNil))))))))))
def M_is_exact_paper : FL := mfn 3 z_is_exact_paper
def z_parted : MS := (zSeq (zDrop (mCallX (fCallX M_require_book 1) (mCons (mVar 0) mNil)))
  (zSeq (zIf (mNot (mB (mCallP M_is_within 3 (mCons (mVar 1) (mCons (mC (.dat (.int 0))) (mCons (mOp fSub (mCall fLen (mCons (mVar 0) mNil)) (mC (.dat (.int 1)))) mNil)))))) (zRaise1 9 (mVar 1)) zNil)
  (zSeq (zIf (mNot (mB (mCallP M_is_within 3 (mCons (mVar 2) (mCons (mC (.dat (.int 2))) (mCons (mC (.dat (.int c_MAX_STEP))) mNil)))))) (zRaise1 9 (mVar 2)) zNil)
  (zSeq (zAsg (mFrz (mLc [5, 6] (mEnum (mVar 0)) (gtTup 2 (gtCons (gtName 5) (gtCons (gtName 6) gtNil))) (mB (mOp (f2D gNe) (mVar 5) (mVar 1))) (mVar 6))) (gtName 3))
  (zSeq (zAsg (mCall fTuple (mCons (mFrz (mCallN fSrtA (mCons (mFrz (mLst (mStar (mVar 3) (mStar (mCallP M_parts_of 2 (mCons (mOp fIx (mVar 0) (mVar 1)) (mCons (mVar 2) mNil))) mNil)))) mNil))) mNil)) (gtName 4))
  (zSeq (zIf (mNot (mB (mCallP M_is_book_in 1 (mCons (mVar 4) mNil)))) (zRaise0 7) zNil)
  (zRet (mVar 4))))))))
def M_parted : FL := mfn 7 z_parted
def z_joined : MS := (zSeq (zDrop (mCallX (fCallX M_require_book 1) (mCons (mVar 0) mNil)))
  (zSeq (zIf (mOr (mNot (mB (mCallP M_are_indices_in 2 (mCons (mVar 0) (mCons (mVar 1) mNil))))) (mB (mOp (f2D gLt) (mCall fLen (mCons (mVar 1) mNil)) (mC (.dat (.int 2)))))) (zRaise0 4) zNil)
  (zSeq (zAsg (mCallP M_joined_of 1 (mCons (mFrz (mLc [3] (mSeq (mVar 1)) (gtName 3) mYes (mOp fIx (mVar 0) (mVar 3)))) mNil)) (gtName 2))
  (zSeq (zIf (mOr (mB (mOp (fIs false) (mVar 2) (mC (.dat .none)))) (mB (mOp (f2D gIn) (mVar 2) (mVar 0)))) (zRaise0 7) zNil)
  (zRet (mCall fTuple (mCons (mFrz (mCallN fSrtA (mCons (mFrz (mLst (mCons (mVar 2) (mStar (mFrz (mLc [4, 5] (mEnum (mVar 0)) (gtTup 2 (gtCons (gtName 4) (gtCons (gtName 5) gtNil))) (mB (mOp (f2D gNotIn) (mVar 4) (mVar 1))) (mVar 5))) mNil)))) mNil))) mNil)))))))
def M_joined : FL := mfn 6 z_joined
end Lib
namespace K80
open PySem L2 PySem.Spec PyProof.Rows Evl Rx
open Lib
def z__law_of_book : MS := (zSeq (zAsgM (mLst (mCons (mLamC 2 z__law_met (mOp (fIs false) (mCallX (fCallX M_whole 1) (mCons (mVar 0) mNil)) (mC (.dat .none)))) mNil)) 1)
  (zSeq (zDrop (mApp 1 (mLamC 2 z__law_met (mOp (fIs false) (mCallX (fCallX M_counts 1) (mCons (mVar 0) mNil)) (mC (.dat .none))))))
  (zSeq (zDrop (mApp 1 (mLamC 2 z__law_met (mOp (fIs false) (mCallX (fCallX M_book_paper 1) (mCons (mVar 0) mNil)) (mC (.dat .none))))))
  (zSeq (zDrop (mApp 1 (mLamC 2 z__law_met (mCallX (fCallX M_is_book_paper 2) (mCons (mVar 0) (mCons (mC (.dat .none)) mNil))))))
  (zSeq (zDrop (mApp 1 (mLamC 2 z__law_met (mOp (f2D gEq) (mCallX (fCallX M_first_gap 1) (mCons (mVar 0) mNil)) (mC (.dat (.str "0")))))))
  (zSeq (zDrop (mApp 1 (mLamC 2 z__law_met (mOp (fIs false) (mCallX (fCallX M_share 1) (mCons (mVar 0) mNil)) (mC (.dat .none))))))
  (zSeq (zDrop (mApp 1 (mLamC 2 z__law_met (mOp (fIs false) (mCallX (fCallX M_sum_of_shares 1) (mCons (mVar 0) mNil)) (mC (.dat .none))))))
  (zSeq (zDrop (mApp 1 (mLamC 2 z__law_met (mOp (fIs false) (mCallX (fCallX M_needed 1) (mCons (mVar 0) mNil)) (mC (.dat .none))))))
  (zSeq (zDrop (mApp 1 (mLamC 2 z__law_met (mOp (fIs false) (mCallX (fCallX M_left_of_book 1) (mCons (mVar 0) mNil)) (mC (.dat .none))))))
  (zSeq (zDrop (mApp 1 (mLamC 2 z__law_met (mOp (fIs false) (mCallX (fCallX M_exact_paper 1) (mCons (mVar 0) mNil)) (mC (.dat .none))))))
  (zSeq (zDrop (mApp 1 (mLamC 2 z__law_met (mCallX (fCallX M_is_exact_paper 2) (mCons (mVar 0) (mCons (mC (.dat .none)) mNil))))))
  (zRet (mVar 1)))))))))))))
def M__law_of_book : FL := mfn 2 z__law_of_book
def z__law_right : MS := (zSeq (zAsg (mFrz (mLst (mCons (mC (.dat .none)) (mCons (mTup mNil) (mCons (mFrz (mLst (mCons (mTup (mCons (mC (.dat (.int 2))) (mCons (mC (.dat (.int 0))) mNil))) mNil))) (mCons (mTup (mCons (mTup (mCons (mC (.dat (.int 2))) (mCons (mC (.dat (.int 0))) mNil))) (mCons (mTup (mCons (mC (.dat (.int 2))) (mCons (mC (.dat (.int 0))) mNil))) mNil))) (mCons (mTup (mCons (mTup (mCons (mC (.dat (.int 3))) (mCons (mC (.dat (.int 1))) mNil))) (mCons (mTup (mCons (mC (.dat (.int 2))) (mCons (mC (.dat (.int 0))) mNil))) mNil))) (mCons (mTup (mCons (mTup (mCons (mC (.dat (.int 0))) (mCons (mC (.dat (.int 0))) mNil))) mNil)) (mCons (mTup (mCons (mTup (mCons (mC (.dat (.int 25))) (mCons (mC (.dat (.int 0))) mNil))) mNil)) (mCons (mTup (mCons (mTup (mCons (mC (.dat (.int 2))) (mCons (mC (.dat (.int 2))) mNil))) mNil)) (mCons (mTup (mCons (mTup (mCons (mC (.dat (.int 2))) (mCons (mUn fNeg (mC (.dat (.int 1)))) mNil))) mNil)) (mCons (mTup (mCons (mTup (mCons (mC (.dat (.int 2))) (mCons (mC (.dat (.bool true))) mNil))) mNil)) (mCons (mTup (mCons (mTup (mCons (mC (.dat (.int 2))) mNil)) mNil)) (mCons (mTup (mCons (mC (.dat (.int 2))) (mCons (mC (.dat (.int 0))) mNil))) (mCons (mTup (mCons (mTup (mCons (mC (.dat (.int 2))) (mCons (mC (.dat (.int 0))) (mCons (mC (.dat (.int 0))) mNil)))) mNil)) (mCons (mC (.dat (.int 0))) (mCons (mC (.dat (.dict []))) (mCons (mC (.dat (.str "20"))) mNil)))))))))))))))))) (gtName 1))
  (zSeq (zAsg (mFrz (mCatL (mVar 1) (mFrz (mLst (mCons (mCall fTuple (mCons (mFrz (mLc [14] (mRng (aLen 1 (mCons (mC (.dat (.int 13))) mNil))) (gtName 14) mYes (mTup (mCons (mC (.dat (.int 13))) (mCons (mVar 14) mNil))))) mNil)) (mCons (mTup (mCons (mTup (mCons (mC (.dat (.int 5))) (mCons (mC (.dat (.int 0))) mNil))) (mCons (mTup (mCons (mC (.dat (.int 7))) (mCons (mC (.dat (.int 0))) mNil))) (mCons (mTup (mCons (mC (.dat (.int 8))) (mCons (mC (.dat (.int 0))) mNil))) (mCons (mTup (mCons (mC (.dat (.int 9))) (mCons (mC (.dat (.int 0))) mNil))) (mCons (mTup (mCons (mC (.dat (.int 11))) (mCons (mC (.dat (.int 0))) mNil))) mNil)))))) (mCons (mTup (mCons (mTup (mCons (mC (.dat (.int 16))) (mCons (mC (.dat (.int 0))) mNil))) (mCons (mTup (mCons (mC (.dat (.int 23))) (mCons (mC (.dat (.int 0))) mNil))) (mCons (mTup (mCons (mC (.dat (.int 21))) (mCons (mC (.dat (.int 0))) mNil))) mNil)))) mNil))))))) (gtName 1))
  (zSeq (zAsg (mTup (mCons (mCall (fCallFD M__law_one 2) (mCons (mVar 0) (mCons (mVar 1) mNil))) (mCons (mTup (mCons (mTup (mCons (mC (.dat (.int 2))) (mCons (mC (.dat (.int 0))) mNil))) (mCons (mTup (mCons (mC (.dat (.int 4))) (mCons (mC (.dat (.int 1))) mNil))) (mCons (mTup (mCons (mC (.dat (.int 4))) (mCons (mC (.dat (.int 3))) mNil))) mNil)))) (mCons (mTup (mCons (mC (.dat (.str "told"))) (mCons (mC (.dat (.bool false))) mNil))) mNil)))) (gtTup 3 (gtCons (gtName 2) (gtCons (gtName 3) (gtCons (gtName 4) gtNil)))))
  (zSeq (zIf (mOr (mB (mOp (f2D gNe) (mCallP M__law_of_book 1 (mCons (mVar 2) mNil)) (mFrz (mRepL (mLst (mCons (mTup (mCons (mC (.dat (.str "book"))) mNil)) mNil)) (mC (.dat (.int 11))))))) (mOr (mB (mOp (f2D gNe) (mCallP M__law_of_book 1 (mCons (mVar 3) mNil)) (mFrz (mRepL (mLst (mCons (mVar 4) mNil)) (mC (.dat (.int 11))))))) (mOr (mB (mOp (fIs true) (mCallP M_is_book 1 (mCons (mVar 2) mNil)) (mC (.dat (.bool false))))) (mB (mOp (fIs true) (mCallP M_is_book 1 (mCons (mVar 3) mNil)) (mC (.dat (.bool true)))))))) (zRet (mC (.dat (.bool false)))) zNil)
  (zSeq (zAsg (mCall (fCallFD M__law_one 2) (mCons (mVar 0) (mCons (mFrz (mLst (mCons (mC (.dat .none)) (mCons (mTup mNil) (mCons (mTup (mCons (mC (.dat (.int 2))) mNil)) (mCons (mFrz (mLst (mCons (mC (.dat (.int 2))) (mCons (mC (.dat (.int 0))) mNil)))) (mCons (mTup (mCons (mC (.dat (.int 2))) (mCons (mC (.dat (.int 2))) mNil))) (mCons (mTup (mCons (mC (.dat (.int 0))) (mCons (mC (.dat (.int 0))) mNil))) (mCons (mTup (mCons (mC (.dat (.int 25))) (mCons (mC (.dat (.int 0))) mNil))) (mCons (mTup (mCons (mC (.dat (.int 2))) (mCons (mC (.dat (.bool true))) mNil))) (mCons (mTup (mCons (mC (.dat (.bool true))) (mCons (mC (.dat (.int 0))) mNil))) (mCons (mTup (mCons (mC (.dat (.int 2))) (mCons (mC (.dat (.int 0))) (mCons (mC (.dat (.int 0))) mNil)))) (mCons (mC (.dat (.int 0))) mNil))))))))))))) mNil))) (gtName 5))
  (zSeq (zAsg (mTup (mCons (mCall (fCallFD M__law_one 2) (mCons (mVar 0) (mCons (mFrz (mLst (mCons (mC (.dat .none)) (mCons (mC (.dat (.bool true))) (mCons (mC (.dat (.str "0"))) (mCons (mTup (mCons (mC (.dat (.int 1))) mNil)) (mCons (mOp fPow (mC (.dat (.int 10))) (mC (.dat (.int 60)))) mNil))))))) mNil))) (mCons (mCall (fCallFD M__law_one 2) (mCons (mVar 0) (mCons (mFrz (mLst (mCons (mC (.dat (.int 3))) (mCons (mUn fNeg (mC (.dat (.int 1)))) (mCons (mC (.dat .none)) (mCons (mC (.dat (.bool true))) (mCons (mC (.dat (.str "0"))) mNil))))))) mNil))) mNil))) (gtTup 2 (gtCons (gtName 6) (gtCons (gtName 7) gtNil))))
  (zSeq (zAsg (mTup (mCons (mCall (fCallFD M__law_one 2) (mCons (mVar 0) (mCons (mFrz (mLst (mCons (mC (.dat (.int 1))) (mCons (mC (.dat (.int 25))) (mCons (mC (.dat (.int 0))) (mCons (mC (.dat .none)) (mCons (mC (.dat (.bool true))) (mCons (mC (.dat (.str "2"))) mNil)))))))) mNil))) (mCons (mCall (fCallFD M__law_one 2) (mCons (mVar 0) (mCons (mFrz (mLst (mCons (mC (.dat .none)) (mCons (mTup mNil) (mCons (mTup (mCons (mC (.dat (.int 0))) mNil)) (mCons (mFrz (mLst (mCons (mC (.dat (.int 0))) (mCons (mC (.dat (.int 1))) mNil)))) (mCons (mTup (mCons (mC (.dat (.int 1))) (mCons (mC (.dat (.int 0))) mNil))) (mCons (mTup (mCons (mC (.dat (.int 0))) (mCons (mC (.dat (.int 0))) mNil))) (mCons (mTup (mCons (mC (.dat (.int 0))) (mCons (mC (.dat (.int 3))) mNil))) (mCons (mTup (mCons (mUn fNeg (mC (.dat (.int 1)))) (mCons (mC (.dat (.int 0))) mNil))) (mCons (mTup (mCons (mC (.dat (.int 0))) (mCons (mC (.dat (.bool true))) mNil))) (mCons (mC (.dat (.int 0))) mNil)))))))))))) mNil))) mNil))) (gtTup 2 (gtCons (gtName 8) (gtCons (gtName 9) gtNil))))
  (zSeq (zAsgM (mLst (mCons (mLamC 2 z__law_met (mCallX (fCallX M_is_in 2) (mCons (mVar 5) (mCons (mVar 6) mNil)))) mNil)) 10)
  (zSeq (zDrop (mApp 10 (mLamC 2 z__law_met (mCallX (fCallX M_is_in 2) (mCons (mTup (mCons (mC (.dat (.int 2))) (mCons (mC (.dat (.int 0))) mNil))) (mCons (mVar 6) mNil))))))
  (zSeq (zDrop (mApp 10 (mLamC 2 z__law_met (mCallX (fCallX M_common_class 2) (mCons (mVar 5) (mCons (mVar 5) mNil))))))
  (zSeq (zDrop (mApp 10 (mLamC 2 z__law_met (mCallX (fCallX M_common_class 2) (mCons (mTup (mCons (mC (.dat (.int 2))) (mCons (mC (.dat (.int 0))) mNil))) (mCons (mVar 5) mNil))))))
  (zSeq (zDrop (mApp 10 (mLamC 2 z__law_met (mCallX (fCallX M_does_cover 3) (mCons (mVar 2) (mCons (mVar 6) (mCons (mC (.dat (.int 0))) mNil)))))))
  (zSeq (zDrop (mApp 10 (mLamC 2 z__law_met (mCallX (fCallX M_does_cover 3) (mCons (mVar 3) (mCons (mVar 6) (mCons (mC (.dat (.int 0))) mNil)))))))
  (zSeq (zDrop (mApp 10 (mLamC 2 z__law_met (mCallX (fCallX M_does_cover 3) (mCons (mVar 3) (mCons (mC (.dat (.int 5))) (mCons (mC (.dat (.int 0))) mNil)))))))
  (zSeq (zDrop (mApp 10 (mLamC 2 z__law_met (mCallX (fCallX M_does_cover 3) (mCons (mVar 3) (mCons (mC (.dat (.int 5))) (mCons (mC (.dat (.int 5041))) mNil)))))))
  (zSeq (zDrop (mApp 10 (mLamC 2 z__law_met (mCallX (fCallX M_parted 3) (mCons (mVar 2) (mCons (mVar 7) (mCons (mVar 8) mNil)))))))
  (zSeq (zDrop (mApp 10 (mLamC 2 z__law_met (mCallX (fCallX M_parted 3) (mCons (mVar 3) (mCons (mVar 7) (mCons (mVar 8) mNil)))))))
  (zSeq (zDrop (mApp 10 (mLamC 2 z__law_met (mCallX (fCallX M_parted 3) (mCons (mVar 3) (mCons (mC (.dat (.int 0))) (mCons (mVar 8) mNil)))))))
  (zSeq (zDrop (mApp 10 (mLamC 2 z__law_met (mCallX (fCallX M_joined 2) (mCons (mVar 2) (mCons (mVar 9) mNil))))))
  (zSeq (zDrop (mApp 10 (mLamC 2 z__law_met (mCallX (fCallX M_joined 2) (mCons (mVar 3) (mCons (mVar 9) mNil))))))
  (zSeq (zDrop (mApp 10 (mLamC 2 z__law_met (mCallX (fCallX M_joined 2) (mCons (mVar 3) (mCons (mTup (mCons (mC (.dat (.int 0))) (mCons (mC (.dat (.int 1))) mNil))) mNil))))))
  (zSeq (zPar 11 12 (mCons (mTup (mCons (mC (.dat (.str "number"))) (mCons (mCall (f1D gReprX) (mCons (mVar 6) mNil)) mNil))) (mCons (mTup (mCons (mC (.dat (.str "number"))) (mCons (mCall (f1D gReprX) (mCons (mVar 7) mNil)) mNil))) mNil)))
  (zSeq (zAsg (mFrz (mLst (mCons (mTup (mCons (mC (.dat (.str "book"))) mNil)) (mCons (mVar 11) (mCons (mTup (mCons (mC (.dat (.str "book"))) mNil)) (mCons (mTup (mCons (mC (.dat (.str "book"))) mNil)) (mCons (mTup (mCons (mC (.dat (.str "book"))) mNil)) (mCons (mVar 11) (mCons (mTup (mCons (mC (.dat (.str "number"))) (mCons (mC (.dat (.str "0"))) mNil))) (mCons (mTup (mCons (mC (.dat (.str "number"))) (mCons (mC (.dat (.str "5041"))) mNil))) (mCons (mTup (mCons (mC (.dat (.str "book"))) mNil)) (mCons (mVar 12) (mCons (mTup (mCons (mC (.dat (.str "number"))) (mCons (mCall (f1D gReprX) (mCons (mVar 8) mNil)) mNil))) (mCons (mTup (mCons (mC (.dat (.str "book"))) mNil)) (mCons (mTup (mCons (mC (.dat (.str "report"))) mNil)) (mCons (mTup (mCons (mC (.dat (.str "operation"))) mNil)) mNil)))))))))))))))) (gtName 13))
  (zRet (mBl (mAnd (mB (mOp (f2D gEq) (mVar 10) (mVar 13))) (mAnd (mB (mOp (fIs false) (mCallP M_is_class 1 (mCons (mVar 5) mNil)) (mC (.dat (.bool false))))) (mB (mOp (fIs false) (mCallP M_is_class 1 (mCons (mTup (mCons (mC (.dat (.int 24))) (mCons (mC (.dat (.int 23))) mNil))) mNil)) (mC (.dat (.bool true))))))))))))))))))))))))))))))))
def M__law_right : FL := mfn 15 z__law_right
def z_law : MS := (zSeq (zFor (mRng (aLen 1 (mCons (mCall fMax2 (mCons (mC (.dat (.int 1))) (mCons (mCall fMin2 (mCons (mC (.dat (.int 2))) (mCons (mCall fLen (mCons (mVar 0) mNil)) mNil))) mNil))) mNil))) (gtName 1) (zSeq (zAsgM (mCallN (fCallN M__law_jar 2) (mCons (mVar 0) (mCons (mVar 1) mNil))) 2)
  (zFor (mRng (aLen 1 (mCons (mC (.dat (.int 6))) mNil))) (gtName 3) (zIf (mNot (mB (mCall (fCallFD M__law_right 1) (mCons (mVar 2) mNil)))) (zRet (mC (.dat (.bool false)))) zNil))))
  (zSeq (zAsg (mTup (mCons (mC (.dat (.str "operation"))) mNil)) (gtName 4))
  (zSeq (zAsgM (mLst (mCons (mLamC 2 z__law_met (mCallX (fCallX M_parted 3) (mCons (mTup (mCons (mTup (mCons (mC (.dat (.int 2))) (mCons (mC (.dat (.int 0))) mNil))) (mCons (mTup (mCons (mC (.dat (.int 4))) (mCons (mC (.dat (.int 0))) mNil))) mNil))) (mCons (mC (.dat (.int 0))) (mCons (mC (.dat (.int 2))) mNil))))) mNil)) 5)
  (zSeq (zDrop (mApp 5 (mLamC 2 z__law_met (mCallX (fCallX M_parted 3) (mCons (mTup (mCons (mTup (mCons (mC (.dat (.int 2))) (mCons (mC (.dat (.int 0))) mNil))) mNil)) (mCons (mC (.dat (.int 0))) (mCons (mC (.dat (.int 13))) mNil)))))))
  (zSeq (zDrop (mApp 5 (mLamC 2 z__law_met (mCallX (fCallX M_parted 3) (mCons (mTup (mCons (mTup (mCons (mC (.dat (.int 1))) (mCons (mC (.dat (.int 0))) mNil))) mNil)) (mCons (mC (.dat (.int 0))) (mCons (mC (.dat (.int 13))) mNil)))))))
  (zSeq (zDrop (mApp 5 (mLamC 2 z__law_met (mCallX (fCallX M_joined 2) (mCons (mTup (mCons (mTup (mCons (mC (.dat (.int 2))) (mCons (mC (.dat (.int 0))) mNil))) (mCons (mTup (mCons (mC (.dat (.int 4))) (mCons (mC (.dat (.int 0))) mNil))) (mCons (mTup (mCons (mC (.dat (.int 4))) (mCons (mC (.dat (.int 2))) mNil))) mNil)))) (mCons (mTup (mCons (mC (.dat (.int 1))) (mCons (mC (.dat (.int 2))) mNil))) mNil))))))
  (zSeq (zDrop (mApp 5 (mLamC 2 z__law_met (mCallX (fCallX M_joined 2) (mCons (mTup (mCons (mTup (mCons (mC (.dat (.int 3))) (mCons (mC (.dat (.int 0))) mNil))) (mCons (mTup (mCons (mC (.dat (.int 3))) (mCons (mC (.dat (.int 1))) mNil))) mNil))) (mCons (mTup (mCons (mC (.dat (.int 0))) (mCons (mC (.dat (.int 1))) mNil))) mNil))))))
  (zSeq (zDrop (mApp 5 (mLamC 2 z__law_met (mOp (f2D gEq) (mCallX (fCallX M_joined 2) (mCons (mTup (mCons (mTup (mCons (mC (.dat (.int 2))) (mCons (mC (.dat (.int 0))) mNil))) (mCons (mTup (mCons (mC (.dat (.int 2))) (mCons (mC (.dat (.int 1))) mNil))) mNil))) (mCons (mTup (mCons (mC (.dat (.int 0))) (mCons (mC (.dat (.int 1))) mNil))) mNil))) (mTup (mCons (mTup (mCons (mC (.dat (.int 1))) (mCons (mC (.dat (.int 0))) mNil))) mNil))))))
  (zSeq (zAsg (mFrz (mLst (mCons (mC (.dat .none)) (mCons (mC (.dat (.int 0))) (mCons (mTup mNil) (mCons (mFrz (mLst mNil)) (mCons (mC (.dat (.dict []))) (mCons (mC (.dat (.str "all"))) (mCons (mTup (mCons (mC (.dat (.str "all"))) mNil)) (mCons (mTup (mCons (mC (.dat (.str "all"))) (mCons (mC (.dat (.int 8))) mNil))) (mCons (mTup (mCons (mC (.dat (.str "gap"))) (mCons (mC (.dat (.int 0))) mNil))) (mCons (mTup (mCons (mC (.dat (.str "gap"))) (mCons (mC (.dat .none)) mNil))) (mCons (mTup (mCons (mC (.dat (.str "all"))) (mCons (mC (.dat (.bool true))) mNil))) (mCons (mTup (mCons (mC (.dat .none)) (mCons (mC (.dat (.int 4))) mNil))) (mCons (mTup (mCons (mC (.dat (.str "exact"))) mNil)) (mCons (mTup (mCons (mC (.dat (.str "number"))) (mCons (mC (.dat (.int 0))) (mCons (mTup (mCons (mC (.dat (.int 0))) mNil)) mNil)))) mNil)))))))))))))))) (gtName 6))
  (zSeq (zAsg (mFrz (mLc [8] (mSeq (mVar 6)) (gtName 8) (mB (mOp (fIs true) (mCallP M_is_book_paper 2 (mCons (mTup (mCons (mTup (mCons (mC (.dat (.int 2))) (mCons (mC (.dat (.int 0))) mNil))) (mCons (mTup (mCons (mC (.dat (.int 4))) (mCons (mC (.dat (.int 1))) mNil))) (mCons (mTup (mCons (mC (.dat (.int 4))) (mCons (mC (.dat (.int 3))) mNil))) mNil)))) (mCons (mVar 8) mNil))) (mC (.dat (.bool false))))) (mVar 8))) (gtName 7))
  (zRet (mBl (mAnd (mB (mOp (f2D gEq) (mVar 5) (mFrz (mCatL (mFrz (mRepL (mLst (mCons (mVar 4) mNil)) (mC (.dat (.int 5))))) (mFrz (mLst (mCons (mTup (mCons (mC (.dat (.str "told"))) (mCons (mC (.dat (.bool true))) mNil))) mNil))))))) (mAnd (mB (mOp (f2D gEq) (mVar 7) (mFrz (mLst mNil)))) (mB (mOp (f2D gEq) (mFrz (mLst (mCons (mC (.dat (.int c_MAX_STEP))) (mCons (mC (.dat (.int c_MOST_CLASSES))) (mCons (mC (.dat (.int c_MAX_WHOLE))) mNil))))) (mFrz (mLst (mCons (mC (.dat (.int 24))) (mCons (mC (.dat (.int 12))) (mCons (mC (.dat (.int 5040))) mNil)))))))))))))))))))))
def M_law : FL := mfn 9 z_law
end K80
namespace K80
open PySem L2 PySem.Spec PyProof.Rows Evl Rx
open Lib
def top (i : Nat) : Stmt := PySem.Challenge.pw_sumlots_k80_errors_of_books.main.body.getD i (.Pass ⟨0, 0, 0, 0⟩)
structure Txt (P : Program) (K : PySem.W.Frag) (mg : Str → Option Value) : Prop where
  b_abs : mg "abs" = none
  b_all : mg "all" = none
  b_any : mg "any" = none
  b_bool : mg "bool" = none
  b_enumerate : mg "enumerate" = none
  b_int : mg "int" = none
  b_isinstance : mg "isinstance" = none
  b_len : mg "len" = none
  b_max : mg "max" = none
  b_min : mg "min" = none
  b_range : mg "range" = none
  b_repr : mg "repr" = none
  b_sorted : mg "sorted" = none
  b_str : mg "str" = none
  b_sum : mg "sum" = none
  b_tuple : mg "tuple" = none
  b_zip : mg "zip" = none
  c_ALL : ∃ t, mg "ALL" = some (.str c_ALL t)
  c_EXACT : ∃ t, mg "EXACT" = some (.str c_EXACT t)
  c_GAP : ∃ t, mg "GAP" = some (.str c_GAP t)
  c_GREAT : ∃ t, mg "GREAT" = some (.int c_GREAT t)
  c_MAX_STEP : ∃ t, mg "MAX_STEP" = some (.int c_MAX_STEP t)
  c_MAX_WHOLE : ∃ t, mg "MAX_WHOLE" = some (.int c_MAX_WHOLE t)
  c_MOST_CLASSES : ∃ t, mg "MOST_CLASSES" = some (.int c_MOST_CLASSES t)
  c_NUMBER : ∃ t, mg "NUMBER" = some (.str c_NUMBER t)
  g_InvalidBook : ∃ C, mg "InvalidBook" = some (.ref C)
  g_InvalidLot : ∃ C, mg "InvalidLot" = some (.ref C)
  g_InvalidNumber : ∃ C, mg "InvalidNumber" = some (.ref C)
  g_InvalidOperation : ∃ C, mg "InvalidOperation" = some (.ref C)
  g_InvalidReport : ∃ C, mg "InvalidReport" = some (.ref C)
  g_InvalidRow : ∃ C, mg "InvalidRow" = some (.ref C)
  g_Refused : ∃ C, mg "Refused" = some (.ref C)
  g_TooMany : ∃ C, mg "TooMany" = some (.ref C)
  e_InvalidBook : ∃ C, ExO K mg C "InvalidBook" "ValueError" "ValueError.__new__" "ValueError.__init__" [.type "ValueError", .type "Exception", .type "BaseException", .type "object"]
  e_InvalidNumber : ∃ C, ExI P K mg C "InvalidNumber" "given" "IndexError" "IndexError.__new__" "IndexError.__init__" [.type "IndexError", .type "LookupError", .type "Exception", .type "BaseException", .type "object"]
  e_InvalidOperation : ∃ C, ExO K mg C "InvalidOperation" "ValueError" "ValueError.__new__" "ValueError.__init__" [.type "ValueError", .type "Exception", .type "BaseException", .type "object"]
  e_InvalidReport : ∃ C, ExO K mg C "InvalidReport" "ValueError" "ValueError.__new__" "ValueError.__init__" [.type "ValueError", .type "Exception", .type "BaseException", .type "object"]
  e_Refused : ∃ C, ExI P K mg C "Refused" "reason" "ArithmeticError" "ArithmeticError.__new__" "ArithmeticError.__init__" [.type "ArithmeticError", .type "Exception", .type "BaseException", .type "object"]
  e_TooMany : ∃ C, ExI P K mg C "TooMany" "limit" "OverflowError" "OverflowError.__new__" "OverflowError.__init__" [.type "OverflowError", .type "ArithmeticError", .type "Exception", .type "BaseException", .type "object"]
  xm : XM K mg
theorem nd_ALL : (("ALL" : Str) == ("__debug__" : Str)) = false := by decide
theorem nc_ALL : (("ALL" : Str) == ("__classdict__" : Str)) = false := by decide
theorem nd_EXACT : (("EXACT" : Str) == ("__debug__" : Str)) = false := by decide
theorem nc_EXACT : (("EXACT" : Str) == ("__classdict__" : Str)) = false := by decide
theorem nd_GAP : (("GAP" : Str) == ("__debug__" : Str)) = false := by decide
theorem nc_GAP : (("GAP" : Str) == ("__classdict__" : Str)) = false := by decide
theorem nd_GREAT : (("GREAT" : Str) == ("__debug__" : Str)) = false := by decide
theorem nc_GREAT : (("GREAT" : Str) == ("__classdict__" : Str)) = false := by decide
theorem nd_InvalidBook : (("InvalidBook" : Str) == ("__debug__" : Str)) = false := by decide
theorem nc_InvalidBook : (("InvalidBook" : Str) == ("__classdict__" : Str)) = false := by decide
theorem nd_InvalidLot : (("InvalidLot" : Str) == ("__debug__" : Str)) = false := by decide
theorem nc_InvalidLot : (("InvalidLot" : Str) == ("__classdict__" : Str)) = false := by decide
theorem nd_InvalidNumber : (("InvalidNumber" : Str) == ("__debug__" : Str)) = false := by decide
theorem nc_InvalidNumber : (("InvalidNumber" : Str) == ("__classdict__" : Str)) = false := by decide
theorem nd_InvalidOperation : (("InvalidOperation" : Str) == ("__debug__" : Str)) = false := by decide
theorem nc_InvalidOperation : (("InvalidOperation" : Str) == ("__classdict__" : Str)) = false := by decide
theorem nd_InvalidReport : (("InvalidReport" : Str) == ("__debug__" : Str)) = false := by decide
theorem nc_InvalidReport : (("InvalidReport" : Str) == ("__classdict__" : Str)) = false := by decide
theorem nd_InvalidRow : (("InvalidRow" : Str) == ("__debug__" : Str)) = false := by decide
theorem nc_InvalidRow : (("InvalidRow" : Str) == ("__classdict__" : Str)) = false := by decide
theorem nd_MAX_STEP : (("MAX_STEP" : Str) == ("__debug__" : Str)) = false := by decide
theorem nc_MAX_STEP : (("MAX_STEP" : Str) == ("__classdict__" : Str)) = false := by decide
theorem nd_MAX_WHOLE : (("MAX_WHOLE" : Str) == ("__debug__" : Str)) = false := by decide
theorem nc_MAX_WHOLE : (("MAX_WHOLE" : Str) == ("__classdict__" : Str)) = false := by decide
theorem nd_MOST_CLASSES : (("MOST_CLASSES" : Str) == ("__debug__" : Str)) = false := by decide
theorem nc_MOST_CLASSES : (("MOST_CLASSES" : Str) == ("__classdict__" : Str)) = false := by decide
theorem nd_NUMBER : (("NUMBER" : Str) == ("__debug__" : Str)) = false := by decide
theorem nc_NUMBER : (("NUMBER" : Str) == ("__classdict__" : Str)) = false := by decide
theorem nd_Refused : (("Refused" : Str) == ("__debug__" : Str)) = false := by decide
theorem nc_Refused : (("Refused" : Str) == ("__classdict__" : Str)) = false := by decide
theorem nd_TooMany : (("TooMany" : Str) == ("__debug__" : Str)) = false := by decide
theorem nc_TooMany : (("TooMany" : Str) == ("__classdict__" : Str)) = false := by decide
theorem nd__law_dip : (("_law_dip" : Str) == ("__debug__" : Str)) = false := by decide
theorem nc__law_dip : (("_law_dip" : Str) == ("__classdict__" : Str)) = false := by decide
theorem nd__law_jar : (("_law_jar" : Str) == ("__debug__" : Str)) = false := by decide
theorem nc__law_jar : (("_law_jar" : Str) == ("__classdict__" : Str)) = false := by decide
theorem nd__law_met : (("_law_met" : Str) == ("__debug__" : Str)) = false := by decide
theorem nc__law_met : (("_law_met" : Str) == ("__classdict__" : Str)) = false := by decide
theorem nd__law_of_book : (("_law_of_book" : Str) == ("__debug__" : Str)) = false := by decide
theorem nc__law_of_book : (("_law_of_book" : Str) == ("__classdict__" : Str)) = false := by decide
theorem nd__law_one : (("_law_one" : Str) == ("__debug__" : Str)) = false := by decide
theorem nc__law_one : (("_law_one" : Str) == ("__classdict__" : Str)) = false := by decide
theorem nd__law_right : (("_law_right" : Str) == ("__debug__" : Str)) = false := by decide
theorem nc__law_right : (("_law_right" : Str) == ("__classdict__" : Str)) = false := by decide
theorem nd_above : (("above" : Str) == ("__debug__" : Str)) = false := by decide
theorem nc_above : (("above" : Str) == ("__classdict__" : Str)) = false := by decide
theorem nd_are_indices_in : (("are_indices_in" : Str) == ("__debug__" : Str)) = false := by decide
theorem nc_are_indices_in : (("are_indices_in" : Str) == ("__classdict__" : Str)) = false := by decide
theorem nd_at : (("at" : Str) == ("__debug__" : Str)) = false := by decide
theorem nc_at : (("at" : Str) == ("__classdict__" : Str)) = false := by decide
theorem nd_bad : (("bad" : Str) == ("__debug__" : Str)) = false := by decide
theorem nc_bad : (("bad" : Str) == ("__classdict__" : Str)) = false := by decide
theorem nd_below : (("below" : Str) == ("__debug__" : Str)) = false := by decide
theorem nc_below : (("below" : Str) == ("__classdict__" : Str)) = false := by decide
theorem nd_book : (("book" : Str) == ("__debug__" : Str)) = false := by decide
theorem nc_book : (("book" : Str) == ("__classdict__" : Str)) = false := by decide
theorem nd_book_paper : (("book_paper" : Str) == ("__debug__" : Str)) = false := by decide
theorem nc_book_paper : (("book_paper" : Str) == ("__classdict__" : Str)) = false := by decide
theorem nd_both : (("both" : Str) == ("__debug__" : Str)) = false := by decide
theorem nc_both : (("both" : Str) == ("__classdict__" : Str)) = false := by decide
theorem nd_cell : (("cell" : Str) == ("__debug__" : Str)) = false := by decide
theorem nc_cell : (("cell" : Str) == ("__classdict__" : Str)) = false := by decide
theorem nd_classes : (("classes" : Str) == ("__debug__" : Str)) = false := by decide
theorem nc_classes : (("classes" : Str) == ("__classdict__" : Str)) = false := by decide
theorem nd_common_class : (("common_class" : Str) == ("__debug__" : Str)) = false := by decide
theorem nc_common_class : (("common_class" : Str) == ("__classdict__" : Str)) = false := by decide
theorem nd_common_in : (("common_in" : Str) == ("__debug__" : Str)) = false := by decide
theorem nc_common_in : (("common_in" : Str) == ("__classdict__" : Str)) = false := by decide
theorem nd_common_of : (("common_of" : Str) == ("__debug__" : Str)) = false := by decide
theorem nc_common_of : (("common_of" : Str) == ("__classdict__" : Str)) = false := by decide
theorem nd_counts : (("counts" : Str) == ("__debug__" : Str)) = false := by decide
theorem nc_counts : (("counts" : Str) == ("__classdict__" : Str)) = false := by decide
theorem nd_counts_in : (("counts_in" : Str) == ("__debug__" : Str)) = false := by decide
theorem nc_counts_in : (("counts_in" : Str) == ("__classdict__" : Str)) = false := by decide
theorem nd_covered_in : (("covered_in" : Str) == ("__debug__" : Str)) = false := by decide
theorem nc_covered_in : (("covered_in" : Str) == ("__classdict__" : Str)) = false := by decide
theorem nd_does_cover : (("does_cover" : Str) == ("__debug__" : Str)) = false := by decide
theorem nc_does_cover : (("does_cover" : Str) == ("__classdict__" : Str)) = false := by decide
theorem nd_due : (("due" : Str) == ("__debug__" : Str)) = false := by decide
theorem nc_due : (("due" : Str) == ("__classdict__" : Str)) = false := by decide
theorem nd_error : (("error" : Str) == ("__debug__" : Str)) = false := by decide
theorem nc_error : (("error" : Str) == ("__classdict__" : Str)) = false := by decide
theorem nd_exact_paper : (("exact_paper" : Str) == ("__debug__" : Str)) = false := by decide
theorem nc_exact_paper : (("exact_paper" : Str) == ("__classdict__" : Str)) = false := by decide
theorem nd_far : (("far" : Str) == ("__debug__" : Str)) = false := by decide
theorem nc_far : (("far" : Str) == ("__classdict__" : Str)) = false := by decide
theorem nd_fine : (("fine" : Str) == ("__debug__" : Str)) = false := by decide
theorem nc_fine : (("fine" : Str) == ("__classdict__" : Str)) = false := by decide
theorem nd_first : (("first" : Str) == ("__debug__" : Str)) = false := by decide
theorem nc_first : (("first" : Str) == ("__classdict__" : Str)) = false := by decide
theorem nd_first_gap : (("first_gap" : Str) == ("__debug__" : Str)) = false := by decide
theorem nc_first_gap : (("first_gap" : Str) == ("__classdict__" : Str)) = false := by decide
theorem nd_found : (("found" : Str) == ("__debug__" : Str)) = false := by decide
theorem nc_found : (("found" : Str) == ("__classdict__" : Str)) = false := by decide
theorem nd_gap : (("gap" : Str) == ("__debug__" : Str)) = false := by decide
theorem nc_gap : (("gap" : Str) == ("__classdict__" : Str)) = false := by decide
theorem nd_gap_in : (("gap_in" : Str) == ("__debug__" : Str)) = false := by decide
theorem nc_gap_in : (("gap_in" : Str) == ("__classdict__" : Str)) = false := by decide
theorem nd_good : (("good" : Str) == ("__debug__" : Str)) = false := by decide
theorem nc_good : (("good" : Str) == ("__classdict__" : Str)) = false := by decide
theorem nd_great : (("great" : Str) == ("__debug__" : Str)) = false := by decide
theorem nc_great : (("great" : Str) == ("__classdict__" : Str)) = false := by decide
theorem nd_has_number : (("has_number" : Str) == ("__debug__" : Str)) = false := by decide
theorem nc_has_number : (("has_number" : Str) == ("__classdict__" : Str)) = false := by decide
theorem nd_here : (("here" : Str) == ("__debug__" : Str)) = false := by decide
theorem nc_here : (("here" : Str) == ("__classdict__" : Str)) = false := by decide
theorem nd_high : (("high" : Str) == ("__debug__" : Str)) = false := by decide
theorem nc_high : (("high" : Str) == ("__classdict__" : Str)) = false := by decide
theorem nd_homes_in : (("homes_in" : Str) == ("__debug__" : Str)) = false := by decide
theorem nc_homes_in : (("homes_in" : Str) == ("__classdict__" : Str)) = false := by decide
theorem nd_index : (("index" : Str) == ("__debug__" : Str)) = false := by decide
theorem nc_index : (("index" : Str) == ("__classdict__" : Str)) = false := by decide
theorem nd_indices : (("indices" : Str) == ("__debug__" : Str)) = false := by decide
theorem nc_indices : (("indices" : Str) == ("__classdict__" : Str)) = false := by decide
theorem nd_is_book : (("is_book" : Str) == ("__debug__" : Str)) = false := by decide
theorem nc_is_book : (("is_book" : Str) == ("__classdict__" : Str)) = false := by decide
theorem nd_is_book_in : (("is_book_in" : Str) == ("__debug__" : Str)) = false := by decide
theorem nc_is_book_in : (("is_book_in" : Str) == ("__classdict__" : Str)) = false := by decide
theorem nd_is_book_paper : (("is_book_paper" : Str) == ("__debug__" : Str)) = false := by decide
theorem nc_is_book_paper : (("is_book_paper" : Str) == ("__classdict__" : Str)) = false := by decide
theorem nd_is_class : (("is_class" : Str) == ("__debug__" : Str)) = false := by decide
theorem nc_is_class : (("is_class" : Str) == ("__classdict__" : Str)) = false := by decide
theorem nd_is_class_in : (("is_class_in" : Str) == ("__debug__" : Str)) = false := by decide
theorem nc_is_class_in : (("is_class_in" : Str) == ("__classdict__" : Str)) = false := by decide
theorem nd_is_exact_paper : (("is_exact_paper" : Str) == ("__debug__" : Str)) = false := by decide
theorem nc_is_exact_paper : (("is_exact_paper" : Str) == ("__classdict__" : Str)) = false := by decide
theorem nd_is_in : (("is_in" : Str) == ("__debug__" : Str)) = false := by decide
theorem nc_is_in : (("is_in" : Str) == ("__classdict__" : Str)) = false := by decide
theorem nd_is_int : (("is_int" : Str) == ("__debug__" : Str)) = false := by decide
theorem nc_is_int : (("is_int" : Str) == ("__classdict__" : Str)) = false := by decide
theorem nd_is_whole : (("is_whole" : Str) == ("__debug__" : Str)) = false := by decide
theorem nc_is_whole : (("is_whole" : Str) == ("__classdict__" : Str)) = false := by decide
theorem nd_is_within : (("is_within" : Str) == ("__debug__" : Str)) = false := by decide
theorem nc_is_within : (("is_within" : Str) == ("__classdict__" : Str)) = false := by decide
theorem nd_items : (("items" : Str) == ("__debug__" : Str)) = false := by decide
theorem nc_items : (("items" : Str) == ("__classdict__" : Str)) = false := by decide
theorem nd_jar : (("jar" : Str) == ("__debug__" : Str)) = false := by decide
theorem nc_jar : (("jar" : Str) == ("__classdict__" : Str)) = false := by decide
theorem nd_joined : (("joined" : Str) == ("__debug__" : Str)) = false := by decide
theorem nc_joined : (("joined" : Str) == ("__classdict__" : Str)) = false := by decide
theorem nd_joined_of : (("joined_of" : Str) == ("__debug__" : Str)) = false := by decide
theorem nc_joined_of : (("joined_of" : Str) == ("__classdict__" : Str)) = false := by decide
theorem nd_least : (("least" : Str) == ("__debug__" : Str)) = false := by decide
theorem nc_least : (("least" : Str) == ("__classdict__" : Str)) = false := by decide
theorem nd_least_common : (("least_common" : Str) == ("__debug__" : Str)) = false := by decide
theorem nc_least_common : (("least_common" : Str) == ("__classdict__" : Str)) = false := by decide
theorem nd_left_in : (("left_in" : Str) == ("__debug__" : Str)) = false := by decide
theorem nc_left_in : (("left_in" : Str) == ("__classdict__" : Str)) = false := by decide
theorem nd_left_of_book : (("left_of_book" : Str) == ("__debug__" : Str)) = false := by decide
theorem nc_left_of_book : (("left_of_book" : Str) == ("__classdict__" : Str)) = false := by decide
theorem nd_low : (("low" : Str) == ("__debug__" : Str)) = false := by decide
theorem nc_low : (("low" : Str) == ("__classdict__" : Str)) = false := by decide
theorem nd_lowest : (("lowest" : Str) == ("__debug__" : Str)) = false := by decide
theorem nc_lowest : (("lowest" : Str) == ("__classdict__" : Str)) = false := by decide
theorem nd_many : (("many" : Str) == ("__debug__" : Str)) = false := by decide
theorem nc_many : (("many" : Str) == ("__classdict__" : Str)) = false := by decide
theorem nd_met : (("met" : Str) == ("__debug__" : Str)) = false := by decide
theorem nc_met : (("met" : Str) == ("__classdict__" : Str)) = false := by decide
theorem nd_needed : (("needed" : Str) == ("__debug__" : Str)) = false := by decide
theorem nc_needed : (("needed" : Str) == ("__classdict__" : Str)) = false := by decide
theorem nd_needed_in : (("needed_in" : Str) == ("__debug__" : Str)) = false := by decide
theorem nc_needed_in : (("needed_in" : Str) == ("__classdict__" : Str)) = false := by decide
theorem nd_number : (("number" : Str) == ("__debug__" : Str)) = false := by decide
theorem nc_number : (("number" : Str) == ("__classdict__" : Str)) = false := by decide
theorem nd_odd : (("odd" : Str) == ("__debug__" : Str)) = false := by decide
theorem nc_odd : (("odd" : Str) == ("__classdict__" : Str)) = false := by decide
theorem nd_one : (("one" : Str) == ("__debug__" : Str)) = false := by decide
theorem nc_one : (("one" : Str) == ("__classdict__" : Str)) = false := by decide
theorem nd_other : (("other" : Str) == ("__debug__" : Str)) = false := by decide
theorem nc_other : (("other" : Str) == ("__classdict__" : Str)) = false := by decide
theorem nd_out : (("out" : Str) == ("__debug__" : Str)) = false := by decide
theorem nc_out : (("out" : Str) == ("__classdict__" : Str)) = false := by decide
theorem nd_parted : (("parted" : Str) == ("__debug__" : Str)) = false := by decide
theorem nc_parted : (("parted" : Str) == ("__classdict__" : Str)) = false := by decide
theorem nd_parts_of : (("parts_of" : Str) == ("__debug__" : Str)) = false := by decide
theorem nc_parts_of : (("parts_of" : Str) == ("__classdict__" : Str)) = false := by decide
theorem nd_require_book : (("require_book" : Str) == ("__debug__" : Str)) = false := by decide
theorem nc_require_book : (("require_book" : Str) == ("__classdict__" : Str)) = false := by decide
theorem nd_require_class : (("require_class" : Str) == ("__debug__" : Str)) = false := by decide
theorem nc_require_class : (("require_class" : Str) == ("__classdict__" : Str)) = false := by decide
theorem nd_require_number : (("require_number" : Str) == ("__debug__" : Str)) = false := by decide
theorem nc_require_number : (("require_number" : Str) == ("__classdict__" : Str)) = false := by decide
theorem nd_rest : (("rest" : Str) == ("__debug__" : Str)) = false := by decide
theorem nc_rest : (("rest" : Str) == ("__classdict__" : Str)) = false := by decide
theorem nd_script : (("script" : Str) == ("__debug__" : Str)) = false := by decide
theorem nc_script : (("script" : Str) == ("__classdict__" : Str)) = false := by decide
theorem nd_second : (("second" : Str) == ("__debug__" : Str)) = false := by decide
theorem nc_second : (("second" : Str) == ("__classdict__" : Str)) = false := by decide
theorem nd_share : (("share" : Str) == ("__debug__" : Str)) = false := by decide
theorem nc_share : (("share" : Str) == ("__classdict__" : Str)) = false := by decide
theorem nd_sign : (("sign" : Str) == ("__debug__" : Str)) = false := by decide
theorem nc_sign : (("sign" : Str) == ("__classdict__" : Str)) = false := by decide
theorem nd_spot : (("spot" : Str) == ("__debug__" : Str)) = false := by decide
theorem nc_spot : (("spot" : Str) == ("__classdict__" : Str)) = false := by decide
theorem nd_step : (("step" : Str) == ("__debug__" : Str)) = false := by decide
theorem nc_step : (("step" : Str) == ("__classdict__" : Str)) = false := by decide
theorem nd_sum_in : (("sum_in" : Str) == ("__debug__" : Str)) = false := by decide
theorem nc_sum_in : (("sum_in" : Str) == ("__classdict__" : Str)) = false := by decide
theorem nd_sum_of_shares : (("sum_of_shares" : Str) == ("__debug__" : Str)) = false := by decide
theorem nc_sum_of_shares : (("sum_of_shares" : Str) == ("__classdict__" : Str)) = false := by decide
theorem nd_there : (("there" : Str) == ("__debug__" : Str)) = false := by decide
theorem nc_there : (("there" : Str) == ("__classdict__" : Str)) = false := by decide
theorem nd_told : (("told" : Str) == ("__debug__" : Str)) = false := by decide
theorem nc_told : (("told" : Str) == ("__classdict__" : Str)) = false := by decide
theorem nd_turn : (("turn" : Str) == ("__debug__" : Str)) = false := by decide
theorem nc_turn : (("turn" : Str) == ("__classdict__" : Str)) = false := by decide
theorem nd_two : (("two" : Str) == ("__debug__" : Str)) = false := by decide
theorem nc_two : (("two" : Str) == ("__classdict__" : Str)) = false := by decide
theorem nd_value : (("value" : Str) == ("__debug__" : Str)) = false := by decide
theorem nc_value : (("value" : Str) == ("__classdict__" : Str)) = false := by decide
theorem nd_whole : (("whole" : Str) == ("__debug__" : Str)) = false := by decide
theorem nc_whole : (("whole" : Str) == ("__classdict__" : Str)) = false := by decide
theorem nd_whole_in : (("whole_in" : Str) == ("__debug__" : Str)) = false := by decide
theorem nc_whole_in : (("whole_in" : Str) == ("__classdict__" : Str)) = false := by decide
theorem nd_wrong : (("wrong" : Str) == ("__debug__" : Str)) = false := by decide
theorem nc_wrong : (("wrong" : Str) == ("__classdict__" : Str)) = false := by decide
end K80
namespace K80
open PySem L2 PySem.Spec PyProof.Rows Evl Rx
open Lib
abbrev s_is_int : Stmt := top 12
theorem sc_is_int : FnScope ["value"] ["value"] (defScope s_is_int) := ⟨rfl, rfl, rfl, by decide +kernel, rfl, by decide +kernel, by decide +kernel⟩
theorem ok_is_int {P : Program} {w : World} {K : PySem.W.Frag} {mg : Str → Option Value} {base : Heap} {TT : List (Addr × Str)} (T : Txt P K mg) (D : Dfd K mg "is_int" "is_int" s_is_int ["value"]) : Cal P w (KB K TT) mg base 1 "is_int" ["value"] M_is_int :=
  cal_of (K := KB K TT) (k := 0) D sc_is_int fun f cdv hmm hcv A outer s H E hg hr => by
    have ft := fit_of hg hr
    have nd := sc_is_int.nd
    have po := po_def (P := P) (w := w) (K := KB K TT) (mg := mg) (base := base) (N := ["value"]) (qual := "is_int") (st := s_is_int) (f := f) (cdv := cdv) (A := A) (outer := outer) (s := s) (H := H) (E := E)
    have L := lets_def (P := P) (w := w) (K := KB K TT) (mg := mg) (base := base) (N := ["value"]) (qual := "is_int") (st := s_is_int) (f := f) (cdv := cdv) (A := A) (outer := outer) (s := s) (H := H) (E := E)
    exact (rss_one (rs_ret (re_b (rb_and (rb_of (re_isi (T := "int") (by decide) (re_var (i := 0) rfl (Or.inl (by kernel_rfl)) nd_value nc_value) (gl (by kernel_rfl)) T.b_isinstance (gl (by kernel_rfl)) T.b_int bt_int)) (rb_one (rb_not (rb_of (re_isi (T := "bool") (by decide) (re_var (i := 0) rfl (Or.inl (by kernel_rfl)) nd_value nc_value) (gl (by kernel_rfl)) T.b_isinstance (gl (by kernel_rfl)) T.b_bool bt_bool))))))))
end K80
namespace K80
open PySem L2 PySem.Spec PyProof.Rows Evl Rx
open Lib
abbrev s_common_of : Stmt := top 15
theorem sc_common_of : FnScope ["one", "other", "first", "second"] ["one", "other"] (defScope s_common_of) := ⟨rfl, rfl, rfl, by decide +kernel, rfl, by decide +kernel, by decide +kernel⟩
theorem ok_common_of {P : Program} {w : World} {K : PySem.W.Frag} {mg : Str → Option Value} {base : Heap} {TT : List (Addr × Str)} (T : Txt P K mg) (D : Dfd K mg "common_of" "common_of" s_common_of ["one", "other"]) : Cal P w (KB K TT) mg base 1 "common_of" ["one", "other"] M_common_of :=
  cal_of (K := KB K TT) (k := 0) D sc_common_of fun f cdv hmm hcv A outer s H E hg hr => by
    have ft := fit_of hg hr
    have nd := sc_common_of.nd
    have po := po_def (P := P) (w := w) (K := KB K TT) (mg := mg) (base := base) (N := ["one", "other", "first", "second"]) (qual := "common_of") (st := s_common_of) (f := f) (cdv := cdv) (A := A) (outer := outer) (s := s) (H := H) (E := E)
    have L := lets_def (P := P) (w := w) (K := KB K TT) (mg := mg) (base := base) (N := ["one", "other", "first", "second"]) (qual := "common_of") (st := s_common_of) (f := f) (cdv := cdv) (A := A) (outer := outer) (s := s) (H := H) (E := E)
    exact (rss_cons (rs_par (i := 2) (j := 3) rfl nd rfl rfl (by decide) rfl rfl (ra_cons (re_blt cr_absX ca_abs (ra_cons (re_var (i := 0) rfl (Or.inl (by kernel_rfl)) nd_one nc_one) ra_nil) (gl (by kernel_rfl)) T.b_abs bt_abs) (ra_cons (re_blt cr_absX ca_abs (ra_cons (re_var (i := 1) rfl (Or.inl (by kernel_rfl)) nd_other nc_other) ra_nil) (gl (by kernel_rfl)) T.b_abs bt_abs) ra_nil)) rfl)
      (rss_cons (rs_while po (rt_cmp (op_neX ft) opS_ne (re_var (i := 3) rfl (Or.inl (by kernel_rfl)) nd_second nc_second) re_int (nomark _)) (rss_one (rs_par (i := 2) (j := 3) rfl nd rfl rfl (by decide) rfl rfl (ra_cons (re_var (i := 3) rfl (Or.inl (by kernel_rfl)) nd_second nc_second) (ra_cons (re_op op_mod opS_mod (re_var (i := 2) rfl (Or.inl (by kernel_rfl)) nd_first nc_first) (re_var (i := 3) rfl (Or.inl (by kernel_rfl)) nd_second nc_second)) ra_nil)) rfl)))
      (rss_one (rs_ret (re_var (i := 2) rfl (Or.inl (by kernel_rfl)) nd_first nc_first)))))
end K80
namespace K80
open PySem L2 PySem.Spec PyProof.Rows Evl Rx
open Lib
abbrev s_has_number : Stmt := top 30
theorem sc_has_number : FnScope ["one", "number"] ["one", "number"] (defScope s_has_number) := ⟨rfl, rfl, rfl, by decide +kernel, rfl, by decide +kernel, by decide +kernel⟩
theorem ok_has_number {P : Program} {w : World} {K : PySem.W.Frag} {mg : Str → Option Value} {base : Heap} {TT : List (Addr × Str)} (T : Txt P K mg) (D : Dfd K mg "has_number" "has_number" s_has_number ["one", "number"]) : Cal P w (KB K TT) mg base 1 "has_number" ["one", "number"] M_has_number :=
  cal_of (K := KB K TT) (k := 0) D sc_has_number fun f cdv hmm hcv A outer s H E hg hr => by
    have ft := fit_of hg hr
    have nd := sc_has_number.nd
    have po := po_def (P := P) (w := w) (K := KB K TT) (mg := mg) (base := base) (N := ["one", "number"]) (qual := "has_number") (st := s_has_number) (f := f) (cdv := cdv) (A := A) (outer := outer) (s := s) (H := H) (E := E)
    have L := lets_def (P := P) (w := w) (K := KB K TT) (mg := mg) (base := base) (N := ["one", "number"]) (qual := "has_number") (st := s_has_number) (f := f) (cdv := cdv) (A := A) (outer := outer) (s := s) (H := H) (E := E)
    exact (rss_one (rs_ret (re_cmp (op_eqX ft) opS_eq (re_op op_mod opS_mod (re_op op_sub opS_sub (re_var (i := 1) rfl (Or.inl (by kernel_rfl)) nd_number nc_number) (re_ix (re_var (i := 0) rfl (Or.inl (by kernel_rfl)) nd_one nc_one) re_int fun _ _ => rfl)) (re_ix (re_var (i := 0) rfl (Or.inl (by kernel_rfl)) nd_one nc_one) re_int fun _ _ => rfl)) re_int (nomark _))))
end K80
namespace K80
open PySem L2 PySem.Spec PyProof.Rows Evl Rx
open Lib
abbrev s_parts_of : Stmt := top 39
theorem sc_parts_of : FnScope ["one", "many", "step", "least", "turn"] ["one", "many"] (defScope s_parts_of) := ⟨rfl, rfl, rfl, by decide +kernel, rfl, by decide +kernel, by decide +kernel⟩
theorem ok_parts_of {P : Program} {w : World} {K : PySem.W.Frag} {mg : Str → Option Value} {base : Heap} {TT : List (Addr × Str)} (T : Txt P K mg) (D : Dfd K mg "parts_of" "parts_of" s_parts_of ["one", "many"]) : Cal P w (KB K TT) mg base 1 "parts_of" ["one", "many"] M_parts_of :=
  cal_of (K := KB K TT) (k := 0) D sc_parts_of fun f cdv hmm hcv A outer s H E hg hr => by
    have ft := fit_of hg hr
    have nd := sc_parts_of.nd
    have po := po_def (P := P) (w := w) (K := KB K TT) (mg := mg) (base := base) (N := ["one", "many", "step", "least", "turn"]) (qual := "parts_of") (st := s_parts_of) (f := f) (cdv := cdv) (A := A) (outer := outer) (s := s) (H := H) (E := E)
    have L := lets_def (P := P) (w := w) (K := KB K TT) (mg := mg) (base := base) (N := ["one", "many", "step", "least", "turn"]) (qual := "parts_of") (st := s_parts_of) (f := f) (cdv := cdv) (A := A) (outer := outer) (s := s) (H := H) (E := E)
    exact (rss_cons (rs_asg (re_var (i := 0) rfl (Or.inl (by kernel_rfl)) nd_one nc_one) (rg_tup (n := 2) rfl (rgs_cons (rg_name (i := 2) nd rfl (Or.inr (by kernel_rfl))) (rgs_cons (rg_name (i := 3) nd rfl (Or.inr (by kernel_rfl))) rgs_nil))))
      (rss_one (rs_ret (re_frz (rn_lc rfl nd (ri_range1 (ra_cons (re_var (i := 1) rfl (Or.inr (Or.inl (by kernel_rfl))) nd_many nc_many) ra_nil) (gl (by kernel_rfl)) T.b_range) (blkOk_by (own := [("turn", 4)]) (by kernel_rfl)) (fun _ _ _ _ _ => (rg_name (i := 4) nd rfl (Or.inl (by kernel_rfl)))) (by decide) (fun _ _ _ _ _ => rts_nil) (fun _ _ _ _ _ => (re_tup (ra_cons (re_op op_mulXX opS_mul (re_var (i := 2) rfl (Or.inr (Or.inl (by kernel_rfl))) nd_step nc_step) (re_var (i := 1) rfl (Or.inr (Or.inl (by kernel_rfl))) nd_many nc_many)) (ra_cons (re_op op_addX opS_add (re_var (i := 3) rfl (Or.inr (Or.inl (by kernel_rfl))) nd_least nc_least) (re_op op_mulXX opS_mul (re_var (i := 2) rfl (Or.inr (Or.inl (by kernel_rfl))) nd_step nc_step) (re_var (i := 4) rfl (Or.inl (by kernel_rfl)) nd_turn nc_turn))) ra_nil)))))))))
end K80
namespace K80
open PySem L2 PySem.Spec PyProof.Rows Evl Rx
open Lib
abbrev s__law_jar : Stmt := top 63
theorem sc__law_jar : FnScope ["script", "spot", "cell", "great"] ["script", "spot"] (defScope s__law_jar) := ⟨rfl, rfl, rfl, by decide +kernel, rfl, by decide +kernel, by decide +kernel⟩
theorem ok__law_jar {P : Program} {w : World} {K : PySem.W.Frag} {mg : Str → Option Value} {base : Heap} {TT : List (Addr × Str)} (T : Txt P K mg) (D : Dfd K mg "_law_jar" "_law_jar" s__law_jar ["script", "spot"]) : Cal P w (KB K TT) mg base 1 "_law_jar" ["script", "spot"] M__law_jar :=
  cal_of (K := KB K TT) (k := 0) D sc__law_jar fun f cdv hmm hcv A outer s H E hg hr => by
    have ft := fit_of hg hr
    have nd := sc__law_jar.nd
    have po := po_def (P := P) (w := w) (K := KB K TT) (mg := mg) (base := base) (N := ["script", "spot", "cell", "great"]) (qual := "_law_jar") (st := s__law_jar) (f := f) (cdv := cdv) (A := A) (outer := outer) (s := s) (H := H) (E := E)
    have L := lets_def (P := P) (w := w) (K := KB K TT) (mg := mg) (base := base) (N := ["script", "spot", "cell", "great"]) (qual := "_law_jar") (st := s__law_jar) (f := f) (cdv := cdv) (A := A) (outer := outer) (s := s) (H := H) (E := E)
    exact (rss_cons (rs_asg (re_if (rt_cmp (op_ltX ft) opS_lt (re_var (i := 1) rfl (Or.inl (by kernel_rfl)) nd_spot nc_spot) (re_blt L2.call_len caS_len (ra_cons (re_var (i := 0) rfl (Or.inl (by kernel_rfl)) nd_script nc_script) ra_nil) (gl (by kernel_rfl)) T.b_len bt_len) (nomark _)) (re_typ cr_intX ca_int (ra_cons (re_ix (re_var (i := 0) rfl (Or.inl (by kernel_rfl)) nd_script nc_script) (re_var (i := 1) rfl (Or.inl (by kernel_rfl)) nd_spot nc_spot) fun _ _ => rfl) ra_nil) (gl (by kernel_rfl)) T.b_int bt_int) (re_op op_addX opS_add (re_op op_mulXX opS_mul re_int (re_var (i := 1) rfl (Or.inl (by kernel_rfl)) nd_spot nc_spot)) re_int)) (rg_name (i := 2) nd rfl (Or.inl (by kernel_rfl))))
      (rss_cons (rs_asg (re_op op_mod opS_mod (re_blt (L2.call_max2 rfl) caS_max2 (ra_cons re_int (ra_cons (re_op op_sub opS_sub (re_blt cr_absX ca_abs (ra_cons (re_var (i := 2) rfl (Or.inl (by kernel_rfl)) nd_cell nc_cell) ra_nil) (gl (by kernel_rfl)) T.b_abs bt_abs) (re_op op_pow opS_pow re_int re_int)) ra_nil)) (gl (by kernel_rfl)) T.b_max bt_max) (re_op op_mulXX opS_mul (re_op op_pow opS_pow re_int re_int) (re_op op_pow opS_pow re_int re_int))) (rg_name (i := 3) nd rfl (Or.inl (by kernel_rfl))))
      (rss_one (rs_ret (re_mut (rn_lst (ra_cons (re_var (i := 3) rfl (Or.inl (by kernel_rfl)) nd_great nc_great) (ra_cons (re_op op_addX opS_add (re_op op_addX opS_add (re_op op_addX opS_add (re_op op_mulXX opS_mul (re_op op_mod opS_mod (re_blt cr_absX ca_abs (ra_cons (re_var (i := 2) rfl (Or.inl (by kernel_rfl)) nd_cell nc_cell) ra_nil) (gl (by kernel_rfl)) T.b_abs bt_abs) re_int) re_int) (re_op op_mulXX opS_mul re_int (re_var (i := 1) rfl (Or.inl (by kernel_rfl)) nd_spot nc_spot))) (re_op op_mulXX opS_mul re_int (re_typ cr_intX ca_int (ra_cons (re_cmp (op_ltX ft) opS_lt (re_var (i := 2) rfl (Or.inl (by kernel_rfl)) nd_cell nc_cell) re_int (nomark _)) ra_nil) (gl (by kernel_rfl)) T.b_int bt_int))) re_int) (ra_cons re_int ra_nil)))))))))
end K80
namespace K80
open PySem L2 PySem.Spec PyProof.Rows Evl Rx
open Lib
abbrev s__law_dip : Stmt := top 64
theorem sc__law_dip : FnScope ["jar", "many", "found", "one", "two"] ["jar", "many"] (defScope s__law_dip) := ⟨rfl, rfl, rfl, by decide +kernel, rfl, by decide +kernel, by decide +kernel⟩
theorem ok__law_dip {P : Program} {w : World} {K : PySem.W.Frag} {mg : Str → Option Value} {base : Heap} {TT : List (Addr × Str)} (T : Txt P K mg) (D : Dfd K mg "_law_dip" "_law_dip" s__law_dip ["jar", "many"]) : Cal P w (KB K TT) mg base 1 "_law_dip" ["jar", "many"] M__law_dip :=
  cal_of (K := KB K TT) (k := 0) D sc__law_dip fun f cdv hmm hcv A outer s H E hg hr => by
    have ft := fit_of hg hr
    have nd := sc__law_dip.nd
    have po := po_def (P := P) (w := w) (K := KB K TT) (mg := mg) (base := base) (N := ["jar", "many", "found", "one", "two"]) (qual := "_law_dip") (st := s__law_dip) (f := f) (cdv := cdv) (A := A) (outer := outer) (s := s) (H := H) (E := E)
    have L := lets_def (P := P) (w := w) (K := KB K TT) (mg := mg) (base := base) (N := ["jar", "many", "found", "one", "two"]) (qual := "_law_dip") (st := s__law_dip) (f := f) (cdv := cdv) (A := A) (outer := outer) (s := s) (H := H) (E := E)
    exact (rss_cons (rs_if (rt_cmp (op_gtX ft) opS_gt (re_ix (re_var (i := 0) rfl (Or.inl (by kernel_rfl)) nd_jar nc_jar) re_int fun _ _ => rfl) re_int (nomark _)) (rss_cons (rs_asg (re_op op_mod opS_mod (re_typ cr_intX ca_int (ra_cons (re_ix (re_var (i := 0) rfl (Or.inl (by kernel_rfl)) nd_jar nc_jar) re_int fun _ _ => rfl) ra_nil) (gl (by kernel_rfl)) T.b_int bt_int) (re_var (i := 1) rfl (Or.inl (by kernel_rfl)) nd_many nc_many)) (rg_name (i := 2) nd rfl (Or.inl (by kernel_rfl))))
      (rss_cons (rs_setI (i := 0) (re_op op_fdivW opS_fdv (re_ix (re_var (i := 0) rfl (Or.inl (by kernel_rfl)) nd_jar nc_jar) re_int fun _ _ => rfl) (re_var (i := 1) rfl (Or.inl (by kernel_rfl)) nd_many nc_many)) re_int rfl (Or.inl (by kernel_rfl)) nd_jar nc_jar)
      (rss_one (rs_ret (re_var (i := 2) rfl (Or.inl (by kernel_rfl)) nd_found nc_found))))) rss_nil)
      (rss_cons (rs_setI (i := 0) (re_op op_addX opS_add (re_ix (re_var (i := 0) rfl (Or.inl (by kernel_rfl)) nd_jar nc_jar) re_int fun _ _ => rfl) re_int) re_int rfl (Or.inl (by kernel_rfl)) nd_jar nc_jar)
      (rss_cons (rs_asg (re_op op_mod opS_mod (re_typ cr_intX ca_int (ra_cons (re_op op_addX opS_add (re_ix (re_var (i := 0) rfl (Or.inl (by kernel_rfl)) nd_jar nc_jar) re_int fun _ _ => rfl) (re_op op_mulXX opS_mul re_int (re_ix (re_var (i := 0) rfl (Or.inl (by kernel_rfl)) nd_jar nc_jar) re_int fun _ _ => rfl))) ra_nil) (gl (by kernel_rfl)) T.b_int bt_int) re_int) (rg_name (i := 3) nd rfl (Or.inl (by kernel_rfl))))
      (rss_cons (rs_asg (re_op op_addX opS_add (re_op op_mulXX opS_mul (re_op op_mod opS_mod (re_typ cr_intX ca_int (ra_cons (re_op op_addX opS_add (re_op op_mulXX opS_mul (re_var (i := 3) rfl (Or.inl (by kernel_rfl)) nd_one nc_one) (re_var (i := 3) rfl (Or.inl (by kernel_rfl)) nd_one nc_one)) (re_op op_mulXX opS_mul re_int (re_ix (re_var (i := 0) rfl (Or.inl (by kernel_rfl)) nd_jar nc_jar) re_int fun _ _ => rfl))) ra_nil) (gl (by kernel_rfl)) T.b_int bt_int) re_int) re_int) (re_var (i := 3) rfl (Or.inl (by kernel_rfl)) nd_one nc_one)) (rg_name (i := 4) nd rfl (Or.inl (by kernel_rfl))))
      (rss_one (rs_ret (re_op op_mod opS_mod (re_typ cr_intX ca_int (ra_cons (re_op op_fdivW opS_fdv (re_var (i := 4) rfl (Or.inl (by kernel_rfl)) nd_two nc_two) re_int) ra_nil) (gl (by kernel_rfl)) T.b_int bt_int) (re_var (i := 1) rfl (Or.inl (by kernel_rfl)) nd_many nc_many))))))))
end K80
namespace K80
open PySem L2 PySem.Spec PyProof.Rows Evl Rx
open Lib
abbrev s__law_met : Stmt := top 66
theorem sc__law_met : FnScope ["call", "error"] ["call"] (defScope s__law_met) := ⟨rfl, rfl, rfl, by decide +kernel, rfl, by decide +kernel, by decide +kernel⟩
theorem gv__law_met {k : Nat} {P : Program} {w : World} {K : PySem.W.Frag} {mg : Str → Option Value} {base : Heap} {TT : List (Addr × Str)} (T : Txt P K mg) : Gives P w K mg base TT ["call", "error"] "call" "_law_met" s__law_met k z__law_met := by
  intro f cdv A outer s H F0 M0 fl ml hg hr act
  have ft := fit_of hg hr
  have nd := sc__law_met.nd
  have po := po_def (P := P) (w := w) (K := KB K TT) (mg := mg) (base := base) (N := ["call", "error"]) (qual := "_law_met") (st := s__law_met) (f := f) (cdv := cdv) (A := A) (outer := outer) (s := s) (H := H) (E := E0)
  exact (rss_one (rs_try rfl rfl nd lets_false (fun W1 pn1 xe1 eT eF eM L po => (rss_one (rs_ret (re_tup (ra_cons re_str (ra_cons (act W1 pn1 xe1 _ _ eT eF eM L) ra_nil)))))) (HdsR.plain (gl (by kernel_rfl)) nd_InvalidLot T.g_InvalidLot.choose_spec (fun y cls dd t xr => T.xm.ht (j := 0) rfl T.g_InvalidLot.choose_spec y cls dd t xr) (fun a oe y cls dd pn t hz hf xr => rss_one (rs_ret (re_tup (ra_cons re_str ra_nil)))) (fun _ _ _ _ => rfl) (HdsR.plain (gl (by kernel_rfl)) nd_InvalidRow T.g_InvalidRow.choose_spec (fun y cls dd t xr => T.xm.ht (j := 1) rfl T.g_InvalidRow.choose_spec y cls dd t xr) (fun a oe y cls dd pn t hz hf xr => rss_one (rs_ret (re_tup (ra_cons re_str ra_nil)))) (fun _ _ _ _ => rfl) (HdsR.plain (gl (by kernel_rfl)) nd_InvalidBook T.g_InvalidBook.choose_spec (fun y cls dd t xr => T.xm.ht (j := 3) rfl T.g_InvalidBook.choose_spec y cls dd t xr) (fun a oe y cls dd pn t hz hf xr => rss_one (rs_ret (re_tup (ra_cons re_str ra_nil)))) (fun _ _ _ _ => rfl) (HdsR.plain (gl (by kernel_rfl)) nd_InvalidReport T.g_InvalidReport.choose_spec (fun y cls dd t xr => T.xm.ht (j := 4) rfl T.g_InvalidReport.choose_spec y cls dd t xr) (fun a oe y cls dd pn t hz hf xr => rss_one (rs_ret (re_tup (ra_cons re_str ra_nil)))) (fun _ _ _ _ => rfl) (HdsR.plain (gl (by kernel_rfl)) nd_InvalidOperation T.g_InvalidOperation.choose_spec (fun y cls dd t xr => T.xm.ht (j := 7) rfl T.g_InvalidOperation.choose_spec y cls dd t xr) (fun a oe y cls dd pn t hz hf xr => rss_one (rs_ret (re_tup (ra_cons re_str ra_nil)))) (fun _ _ _ _ => rfl) (HdsR.named (i := 1) (gl (by kernel_rfl)) nd_InvalidNumber T.g_InvalidNumber.choose_spec rfl (by kernel_rfl) (fun y cls dd t xr => T.xm.ht (j := 9) rfl T.g_InvalidNumber.choose_spec y cls dd t xr) (fun a oe y cls dd pn t hz hf xr => rss_one (rs_ret (re_tup (ra_cons re_str (ra_cons (re_blt (cr_reprH (fitR_suite ft.r)) ca_reprX (ra_cons (re_by (i := 1) T.e_InvalidNumber.choose_spec rfl hz hf xr rfl rfl (Or.inl (by kernel_rfl)) nd_error nc_error) ra_nil) (gl (by kernel_rfl)) T.b_repr bt_repr) ra_nil))))) (ByI.ret (e := fun a y => (mTup (mCons (mC (.dat (.str "number"))) (mCons (mCall (f1D gReprX) (mCons (mBy 1 a 9 y) mNil)) mNil)))) (ByI.tup (ByL.cons ByI.c (ByL.cons (ByI.call (ByL.cons ByI.by ByL.nil)) ByL.nil)))) (HdsR.named (i := 1) (gl (by kernel_rfl)) nd_TooMany T.g_TooMany.choose_spec rfl (by kernel_rfl) (fun y cls dd t xr => T.xm.ht (j := 12) rfl T.g_TooMany.choose_spec y cls dd t xr) (fun a oe y cls dd pn t hz hf xr => rss_one (rs_ret (re_tup (ra_cons re_str (ra_cons (re_by (i := 1) T.e_TooMany.choose_spec rfl hz hf xr rfl rfl (Or.inl (by kernel_rfl)) nd_error nc_error) ra_nil))))) (ByI.ret (e := fun a y => (mTup (mCons (mC (.dat (.str "many"))) (mCons (mBy 1 a 12 y) mNil)))) (ByI.tup (ByL.cons ByI.c (ByL.cons ByI.by ByL.nil)))) (HdsR.named (i := 1) (gl (by kernel_rfl)) nd_Refused T.g_Refused.choose_spec rfl (by kernel_rfl) (fun y cls dd t xr => T.xm.ht (j := 13) rfl T.g_Refused.choose_spec y cls dd t xr) (fun a oe y cls dd pn t hz hf xr => rss_one (rs_ret (re_tup (ra_cons re_str (ra_cons (re_by (i := 1) T.e_Refused.choose_spec rfl hz hf xr rfl rfl (Or.inl (by kernel_rfl)) nd_error nc_error) ra_nil))))) (ByI.ret (e := fun a y => (mTup (mCons (mC (.dat (.str "refused"))) (mCons (mBy 1 a 13 y) mNil)))) (ByI.tup (ByL.cons ByI.c (ByL.cons ByI.by ByL.nil)))) HdsR.nil))))))))))
theorem hi__law_met (f : Addr) (ml : List AO → RR SV) (A : List AO) : mfn 2 (z__law_met f ml) [.adr f] A = mfn 2 (z__law_met 0 ml) [.adr 0] A := hi_try (e := fun f => e__law_met f ml) (Lam0.tup (LaL0.cons Lam0.c (LaL0.cons Lam0.act LaL0.nil))) (HdO.plain (e := fun a y => (mTup (mCons (mC (.dat (.str "lot"))) mNil))) (fun y => (Ind0.tup (InL0.cons Ind0.c InL0.nil))) (HdO.plain (e := fun a y => (mTup (mCons (mC (.dat (.str "row"))) mNil))) (fun y => (Ind0.tup (InL0.cons Ind0.c InL0.nil))) (HdO.plain (e := fun a y => (mTup (mCons (mC (.dat (.str "book"))) mNil))) (fun y => (Ind0.tup (InL0.cons Ind0.c InL0.nil))) (HdO.plain (e := fun a y => (mTup (mCons (mC (.dat (.str "report"))) mNil))) (fun y => (Ind0.tup (InL0.cons Ind0.c InL0.nil))) (HdO.plain (e := fun a y => (mTup (mCons (mC (.dat (.str "operation"))) mNil))) (fun y => (Ind0.tup (InL0.cons Ind0.c InL0.nil))) (HdO.named (i := 0) (e := fun a y => (mTup (mCons (mC (.dat (.str "number"))) (mCons (mCall (f1D gReprX) (mCons (mBy 1 a 9 y) mNil)) mNil)))) (fun y => (Ind0.tup (InL0.cons Ind0.c (InL0.cons (Ind0.call (InL0.cons Ind0.by InL0.nil)) InL0.nil)))) (HdO.named (i := 0) (e := fun a y => (mTup (mCons (mC (.dat (.str "many"))) (mCons (mBy 1 a 12 y) mNil)))) (fun y => (Ind0.tup (InL0.cons Ind0.c (InL0.cons Ind0.by InL0.nil)))) (HdO.named (i := 0) (e := fun a y => (mTup (mCons (mC (.dat (.str "refused"))) (mCons (mBy 1 a 13 y) mNil)))) (fun y => (Ind0.tup (InL0.cons Ind0.c (InL0.cons Ind0.by InL0.nil)))) HdO.nil)))))))) f A
end K80
namespace K80
open PySem L2 PySem.Spec PyProof.Rows Evl Rx
open Lib
abbrev s_is_whole : Stmt := top 13
theorem sc_is_whole : FnScope ["value"] ["value"] (defScope s_is_whole) := ⟨rfl, rfl, rfl, by decide +kernel, rfl, by decide +kernel, by decide +kernel⟩
theorem ok_is_whole {P : Program} {w : World} {K : PySem.W.Frag} {mg : Str → Option Value} {base : Heap} {TT : List (Addr × Str)} (T : Txt P K mg) (D : Dfd K mg "is_whole" "is_whole" s_is_whole ["value"]) (C_is_int : Cal P w (KB K TT) mg base 1 "is_int" ["value"] M_is_int) : Cal P w (KB K TT) mg base 2 "is_whole" ["value"] M_is_whole :=
  cal_of (K := KB K TT) (k := 1) D sc_is_whole fun f cdv hmm hcv A outer s H E hg hr => by
    have ft := fit_of hg hr
    have nd := sc_is_whole.nd
    have po := po_def (P := P) (w := w) (K := KB K TT) (mg := mg) (base := base) (N := ["value"]) (qual := "is_whole") (st := s_is_whole) (f := f) (cdv := cdv) (A := A) (outer := outer) (s := s) (H := H) (E := E)
    have L := lets_def (P := P) (w := w) (K := KB K TT) (mg := mg) (base := base) (N := ["value"]) (qual := "is_whole") (st := s_is_whole) (f := f) (cdv := cdv) (A := A) (outer := outer) (s := s) (H := H) (E := E)
    exact (rss_one (rs_ret (re_b (rb_and (rb_of (re_cP C_is_int hg (hr.mono (by decide)) (ra_cons (re_var (i := 0) rfl (Or.inl (by kernel_rfl)) nd_value nc_value) ra_nil) (gl (by kernel_rfl)) nd_is_int)) (rb_one (rb_of (re_chain (op_ltX ft) (op_ltX ft) opS_lt opS_lt (re_un un_neg unS_neg (re_gint (gl (by kernel_rfl)) T.c_GREAT.choose_spec nd_GREAT)) (re_var (i := 0) rfl (Or.inl (by kernel_rfl)) nd_value nc_value) (re_gint (gl (by kernel_rfl)) T.c_GREAT.choose_spec nd_GREAT) (by with_unfolding_all rfl))))))))
end K80
namespace K80
open PySem L2 PySem.Spec PyProof.Rows Evl Rx
open Lib
abbrev s_lowest : Stmt := top 16
theorem sc_lowest : FnScope ["above", "below", "great", "sign"] ["above", "below"] (defScope s_lowest) := ⟨rfl, rfl, rfl, by decide +kernel, rfl, by decide +kernel, by decide +kernel⟩
theorem ok_lowest {P : Program} {w : World} {K : PySem.W.Frag} {mg : Str → Option Value} {base : Heap} {TT : List (Addr × Str)} (T : Txt P K mg) (D : Dfd K mg "lowest" "lowest" s_lowest ["above", "below"]) (C_common_of : Cal P w (KB K TT) mg base 1 "common_of" ["one", "other"] M_common_of) : Cal P w (KB K TT) mg base 2 "lowest" ["above", "below"] M_lowest :=
  cal_of (K := KB K TT) (k := 1) D sc_lowest fun f cdv hmm hcv A outer s H E hg hr => by
    have ft := fit_of hg hr
    have nd := sc_lowest.nd
    have po := po_def (P := P) (w := w) (K := KB K TT) (mg := mg) (base := base) (N := ["above", "below", "great", "sign"]) (qual := "lowest") (st := s_lowest) (f := f) (cdv := cdv) (A := A) (outer := outer) (s := s) (H := H) (E := E)
    have L := lets_def (P := P) (w := w) (K := KB K TT) (mg := mg) (base := base) (N := ["above", "below", "great", "sign"]) (qual := "lowest") (st := s_lowest) (f := f) (cdv := cdv) (A := A) (outer := outer) (s := s) (H := H) (E := E)
    exact (rss_cons (rs_asg (re_cP C_common_of hg (hr.mono (by decide)) (ra_cons (re_var (i := 0) rfl (Or.inl (by kernel_rfl)) nd_above nc_above) (ra_cons (re_var (i := 1) rfl (Or.inl (by kernel_rfl)) nd_below nc_below) ra_nil)) (gl (by kernel_rfl)) nd_common_of) (rg_name (i := 2) nd rfl (Or.inl (by kernel_rfl))))
      (rss_cons (rs_asg (re_if (rt_cmp (op_gtX ft) opS_gt (re_var (i := 1) rfl (Or.inl (by kernel_rfl)) nd_below nc_below) re_int (nomark _)) re_int (re_un un_neg unS_neg re_int)) (rg_name (i := 3) nd rfl (Or.inl (by kernel_rfl))))
      (rss_one (rs_ret (re_tup (ra_cons (re_op op_fdivW opS_fdv (re_op op_mulXX opS_mul (re_var (i := 3) rfl (Or.inl (by kernel_rfl)) nd_sign nc_sign) (re_var (i := 0) rfl (Or.inl (by kernel_rfl)) nd_above nc_above)) (re_var (i := 2) rfl (Or.inl (by kernel_rfl)) nd_great nc_great)) (ra_cons (re_op op_fdivW opS_fdv (re_op op_mulXX opS_mul (re_var (i := 3) rfl (Or.inl (by kernel_rfl)) nd_sign nc_sign) (re_var (i := 1) rfl (Or.inl (by kernel_rfl)) nd_below nc_below)) (re_var (i := 2) rfl (Or.inl (by kernel_rfl)) nd_great nc_great)) ra_nil)))))))
end K80
namespace K80
open PySem L2 PySem.Spec PyProof.Rows Evl Rx
open Lib
abbrev s_least_common : Stmt := top 28
theorem sc_least_common : FnScope ["one", "other"] ["one", "other"] (defScope s_least_common) := ⟨rfl, rfl, rfl, by decide +kernel, rfl, by decide +kernel, by decide +kernel⟩
theorem ok_least_common {P : Program} {w : World} {K : PySem.W.Frag} {mg : Str → Option Value} {base : Heap} {TT : List (Addr × Str)} (T : Txt P K mg) (D : Dfd K mg "least_common" "least_common" s_least_common ["one", "other"]) (C_common_of : Cal P w (KB K TT) mg base 1 "common_of" ["one", "other"] M_common_of) : Cal P w (KB K TT) mg base 2 "least_common" ["one", "other"] M_least_common :=
  cal_of (K := KB K TT) (k := 1) D sc_least_common fun f cdv hmm hcv A outer s H E hg hr => by
    have ft := fit_of hg hr
    have nd := sc_least_common.nd
    have po := po_def (P := P) (w := w) (K := KB K TT) (mg := mg) (base := base) (N := ["one", "other"]) (qual := "least_common") (st := s_least_common) (f := f) (cdv := cdv) (A := A) (outer := outer) (s := s) (H := H) (E := E)
    have L := lets_def (P := P) (w := w) (K := KB K TT) (mg := mg) (base := base) (N := ["one", "other"]) (qual := "least_common") (st := s_least_common) (f := f) (cdv := cdv) (A := A) (outer := outer) (s := s) (H := H) (E := E)
    exact (rss_one (rs_ret (re_op op_mulXX opS_mul (re_op op_fdivW opS_fdv (re_var (i := 0) rfl (Or.inl (by kernel_rfl)) nd_one nc_one) (re_cP C_common_of hg (hr.mono (by decide)) (ra_cons (re_var (i := 0) rfl (Or.inl (by kernel_rfl)) nd_one nc_one) (ra_cons (re_var (i := 1) rfl (Or.inl (by kernel_rfl)) nd_other nc_other) ra_nil)) (gl (by kernel_rfl)) nd_common_of)) (re_var (i := 1) rfl (Or.inl (by kernel_rfl)) nd_other nc_other))))
end K80
namespace K80
open PySem L2 PySem.Spec PyProof.Rows Evl Rx
open Lib
abbrev s_homes_in : Stmt := top 35
theorem sc_homes_in : FnScope ["book", "number", "index", "one"] ["book", "number"] (defScope s_homes_in) := ⟨rfl, rfl, rfl, by decide +kernel, rfl, by decide +kernel, by decide +kernel⟩
theorem ok_homes_in {P : Program} {w : World} {K : PySem.W.Frag} {mg : Str → Option Value} {base : Heap} {TT : List (Addr × Str)} (T : Txt P K mg) (D : Dfd K mg "homes_in" "homes_in" s_homes_in ["book", "number"]) (C_has_number : Cal P w (KB K TT) mg base 1 "has_number" ["one", "number"] M_has_number) : Cal P w (KB K TT) mg base 2 "homes_in" ["book", "number"] M_homes_in :=
  cal_of (K := KB K TT) (k := 1) D sc_homes_in fun f cdv hmm hcv A outer s H E hg hr => by
    have ft := fit_of hg hr
    have nd := sc_homes_in.nd
    have po := po_def (P := P) (w := w) (K := KB K TT) (mg := mg) (base := base) (N := ["book", "number", "index", "one"]) (qual := "homes_in") (st := s_homes_in) (f := f) (cdv := cdv) (A := A) (outer := outer) (s := s) (H := H) (E := E)
    have L := lets_def (P := P) (w := w) (K := KB K TT) (mg := mg) (base := base) (N := ["book", "number", "index", "one"]) (qual := "homes_in") (st := s_homes_in) (f := f) (cdv := cdv) (A := A) (outer := outer) (s := s) (H := H) (E := E)
    exact (rss_one (rs_ret (re_typ L2.call_tuple_of caS_tuple (ra_cons (re_frz (rn_lc rfl nd (ri_enum (re_var (i := 0) rfl (Or.inl (by kernel_rfl)) nd_book nc_book) (gl (by kernel_rfl)) T.b_enumerate) (blkOk_by (own := [("index", 2), ("one", 3)]) (by kernel_rfl)) (fun _ _ _ _ _ => (rg_tup (n := 2) rfl (rgs_cons (rg_name (i := 2) nd rfl (Or.inl (by kernel_rfl))) (rgs_cons (rg_name (i := 3) nd rfl (Or.inl (by kernel_rfl))) rgs_nil)))) (by decide) (fun _ _ _ _ _ => (rts_one (rt_val (re_cP C_has_number hg (hr.mono (by decide)) (ra_cons (re_var (i := 3) rfl (Or.inl (by kernel_rfl)) nd_one nc_one) (ra_cons (re_var (i := 1) rfl (Or.inr (Or.inl (by kernel_rfl))) nd_number nc_number) ra_nil)) (gl (by kernel_rfl)) nd_has_number)))) (fun _ _ _ _ _ => (re_var (i := 2) rfl (Or.inl (by kernel_rfl)) nd_index nc_index)))) ra_nil) (gl (by kernel_rfl)) T.b_tuple bt_tuple)))
end K80
namespace K80
open PySem L2 PySem.Spec PyProof.Rows Evl Rx
open Lib
abbrev s_joined_of : Stmt := top 40
theorem sc_joined_of : FnScope ["classes", "step", "many", "one", "other", "least"] ["classes"] (defScope s_joined_of) := ⟨rfl, rfl, rfl, by decide +kernel, rfl, by decide +kernel, by decide +kernel⟩
theorem ok_joined_of {P : Program} {w : World} {K : PySem.W.Frag} {mg : Str → Option Value} {base : Heap} {TT : List (Addr × Str)} (T : Txt P K mg) (D : Dfd K mg "joined_of" "joined_of" s_joined_of ["classes"]) (C_parts_of : Cal P w (KB K TT) mg base 1 "parts_of" ["one", "many"] M_parts_of) : Cal P w (KB K TT) mg base 2 "joined_of" ["classes"] M_joined_of :=
  cal_of (K := KB K TT) (k := 1) D sc_joined_of fun f cdv hmm hcv A outer s H E hg hr => by
    have ft := fit_of hg hr
    have nd := sc_joined_of.nd
    have po := po_def (P := P) (w := w) (K := KB K TT) (mg := mg) (base := base) (N := ["classes", "step", "many", "one", "other", "least"]) (qual := "joined_of") (st := s_joined_of) (f := f) (cdv := cdv) (A := A) (outer := outer) (s := s) (H := H) (E := E)
    have L := lets_def (P := P) (w := w) (K := KB K TT) (mg := mg) (base := base) (N := ["classes", "step", "many", "one", "other", "least"]) (qual := "joined_of") (st := s_joined_of) (f := f) (cdv := cdv) (A := A) (outer := outer) (s := s) (H := H) (E := E)
    exact (rss_cons (rs_asg (re_tup (ra_cons (re_ix (re_ix (re_var (i := 0) rfl (Or.inl (by kernel_rfl)) nd_classes nc_classes) re_int fun _ _ => rfl) re_int fun _ _ => rfl) (ra_cons (re_blt L2.call_len caS_len (ra_cons (re_var (i := 0) rfl (Or.inl (by kernel_rfl)) nd_classes nc_classes) ra_nil) (gl (by kernel_rfl)) T.b_len bt_len) ra_nil))) (rg_tup (n := 2) rfl (rgs_cons (rg_name (i := 1) nd rfl (Or.inr (by kernel_rfl))) (rgs_cons (rg_name (i := 2) nd rfl (Or.inl (by kernel_rfl))) rgs_nil))))
      (rss_cons (rs_if (RW.rt (rw_or (rt_cmp (op_neX ft) opS_ne (re_op op_mod opS_mod (re_var (i := 1) rfl (Or.inr (Or.inl (by kernel_rfl))) nd_step nc_step) (re_var (i := 2) rfl (Or.inl (by kernel_rfl)) nd_many nc_many)) re_int (nomark _)) (rw_or1 (rt_val (re_blt (cr_anyX ft) ca_any (ra_cons (re_frz (rn_lc rfl nd (ri_seq (re_var (i := 0) rfl (Or.inl (by kernel_rfl)) nd_classes nc_classes)) (blkOk_by (own := [("other", 4), ("least", 5)]) (by kernel_rfl)) (fun _ _ _ _ _ => (rg_tup (n := 2) rfl (rgs_cons (rg_name (i := 4) nd rfl (Or.inl (by kernel_rfl))) (rgs_cons (rg_name (i := 5) nd rfl (Or.inl (by kernel_rfl))) rgs_nil)))) (by decide) (fun _ _ _ _ _ => rts_nil) (fun _ _ _ _ _ => (re_cmp (op_neX ft) opS_ne (re_var (i := 4) rfl (Or.inl (by kernel_rfl)) nd_other nc_other) (re_var (i := 1) rfl (Or.inr (Or.inl (by kernel_rfl))) nd_step nc_step) (nomark _))))) ra_nil) (gl (by kernel_rfl)) T.b_any bt_any))))) (rss_one (rs_ret re_non)) rss_nil)
      (rss_cons (rs_asg (re_tup (ra_cons (re_op op_fdivW opS_fdv (re_var (i := 1) rfl (Or.inr (Or.inl (by kernel_rfl))) nd_step nc_step) (re_var (i := 2) rfl (Or.inl (by kernel_rfl)) nd_many nc_many)) (ra_cons (re_op op_mod opS_mod (re_ix (re_ix (re_var (i := 0) rfl (Or.inl (by kernel_rfl)) nd_classes nc_classes) re_int fun _ _ => rfl) re_int fun _ _ => rfl) (re_op op_fdivW opS_fdv (re_var (i := 1) rfl (Or.inr (Or.inl (by kernel_rfl))) nd_step nc_step) (re_var (i := 2) rfl (Or.inl (by kernel_rfl)) nd_many nc_many))) ra_nil))) (rg_name (i := 3) nd rfl (Or.inl (by kernel_rfl))))
      (rss_one (rs_ret (re_if (rt_cmp (op_eqX ft) opS_eq (re_frz (rn_blt (cr_srtA ft) caN_srtA (ra_cons (re_cP C_parts_of hg (hr.mono (by decide)) (ra_cons (re_var (i := 3) rfl (Or.inl (by kernel_rfl)) nd_one nc_one) (ra_cons (re_var (i := 2) rfl (Or.inl (by kernel_rfl)) nd_many nc_many) ra_nil)) (gl (by kernel_rfl)) nd_parts_of) ra_nil) (gl (by kernel_rfl)) T.b_sorted bt_sorted)) (re_frz (rn_blt (cr_srtA ft) caN_srtA (ra_cons (re_var (i := 0) rfl (Or.inl (by kernel_rfl)) nd_classes nc_classes) ra_nil) (gl (by kernel_rfl)) T.b_sorted bt_sorted)) (nomark _)) (re_var (i := 3) rfl (Or.inl (by kernel_rfl)) nd_one nc_one) re_non))))))
end K80
namespace K80
open PySem L2 PySem.Spec PyProof.Rows Evl Rx
open Lib
abbrev s__law_one : Stmt := top 65
theorem sc__law_one : FnScope ["jar", "items"] ["jar", "items"] (defScope s__law_one) := ⟨rfl, rfl, rfl, by decide +kernel, rfl, by decide +kernel, by decide +kernel⟩
theorem ok__law_one {P : Program} {w : World} {K : PySem.W.Frag} {mg : Str → Option Value} {base : Heap} {TT : List (Addr × Str)} (T : Txt P K mg) (D : Dfd K mg "_law_one" "_law_one" s__law_one ["jar", "items"]) (C__law_dip : Cal P w (KB K TT) mg base 1 "_law_dip" ["jar", "many"] M__law_dip) : Cal P w (KB K TT) mg base 2 "_law_one" ["jar", "items"] M__law_one :=
  cal_of (K := KB K TT) (k := 1) D sc__law_one fun f cdv hmm hcv A outer s H E hg hr => by
    have ft := fit_of hg hr
    have nd := sc__law_one.nd
    have po := po_def (P := P) (w := w) (K := KB K TT) (mg := mg) (base := base) (N := ["jar", "items"]) (qual := "_law_one") (st := s__law_one) (f := f) (cdv := cdv) (A := A) (outer := outer) (s := s) (H := H) (E := E)
    have L := lets_def (P := P) (w := w) (K := KB K TT) (mg := mg) (base := base) (N := ["jar", "items"]) (qual := "_law_one") (st := s__law_one) (f := f) (cdv := cdv) (A := A) (outer := outer) (s := s) (H := H) (E := E)
    exact (rss_one (rs_ret (re_ix (re_var (i := 1) rfl (Or.inl (by kernel_rfl)) nd_items nc_items) (re_cFD C__law_dip hg (hr.mono (by decide)) (ra_cons (re_var (i := 0) rfl (Or.inl (by kernel_rfl)) nd_jar nc_jar) (ra_cons (re_blt L2.call_len caS_len (ra_cons (re_var (i := 1) rfl (Or.inl (by kernel_rfl)) nd_items nc_items) ra_nil) (gl (by kernel_rfl)) T.b_len bt_len) ra_nil)) (gl (by kernel_rfl)) nd__law_dip) fun _ _ => rfl)))
end K80
namespace K80
open PySem L2 PySem.Spec PyProof.Rows Evl Rx
open Lib
abbrev s_is_within : Stmt := top 14
theorem sc_is_within : FnScope ["value", "low", "high"] ["value", "low", "high"] (defScope s_is_within) := ⟨rfl, rfl, rfl, by decide +kernel, rfl, by decide +kernel, by decide +kernel⟩
theorem ok_is_within {P : Program} {w : World} {K : PySem.W.Frag} {mg : Str → Option Value} {base : Heap} {TT : List (Addr × Str)} (T : Txt P K mg) (D : Dfd K mg "is_within" "is_within" s_is_within ["value", "low", "high"]) (C_is_whole : Cal P w (KB K TT) mg base 2 "is_whole" ["value"] M_is_whole) : Cal P w (KB K TT) mg base 3 "is_within" ["value", "low", "high"] M_is_within :=
  cal_of (K := KB K TT) (k := 2) D sc_is_within fun f cdv hmm hcv A outer s H E hg hr => by
    have ft := fit_of hg hr
    have nd := sc_is_within.nd
    have po := po_def (P := P) (w := w) (K := KB K TT) (mg := mg) (base := base) (N := ["value", "low", "high"]) (qual := "is_within") (st := s_is_within) (f := f) (cdv := cdv) (A := A) (outer := outer) (s := s) (H := H) (E := E)
    have L := lets_def (P := P) (w := w) (K := KB K TT) (mg := mg) (base := base) (N := ["value", "low", "high"]) (qual := "is_within") (st := s_is_within) (f := f) (cdv := cdv) (A := A) (outer := outer) (s := s) (H := H) (E := E)
    exact (rss_one (rs_ret (re_b (rb_and (rb_of (re_cP C_is_whole hg (hr.mono (by decide)) (ra_cons (re_var (i := 0) rfl (Or.inl (by kernel_rfl)) nd_value nc_value) ra_nil) (gl (by kernel_rfl)) nd_is_whole)) (rb_one (rb_of (re_chain (op_leX ft) (op_leX ft) opS_le opS_le (re_var (i := 1) rfl (Or.inl (by kernel_rfl)) nd_low nc_low) (re_var (i := 0) rfl (Or.inl (by kernel_rfl)) nd_value nc_value) (re_var (i := 2) rfl (Or.inl (by kernel_rfl)) nd_high nc_high) (by with_unfolding_all rfl))))))))
end K80
namespace K80
open PySem L2 PySem.Spec PyProof.Rows Evl Rx
open Lib
abbrev s_whole_in : Stmt := top 29
theorem sc_whole_in : FnScope ["book", "found", "step", "least"] ["book"] (defScope s_whole_in) := ⟨rfl, rfl, rfl, by decide +kernel, rfl, by decide +kernel, by decide +kernel⟩
theorem ok_whole_in {P : Program} {w : World} {K : PySem.W.Frag} {mg : Str → Option Value} {base : Heap} {TT : List (Addr × Str)} (T : Txt P K mg) (D : Dfd K mg "whole_in" "whole_in" s_whole_in ["book"]) (C_least_common : Cal P w (KB K TT) mg base 2 "least_common" ["one", "other"] M_least_common) : Cal P w (KB K TT) mg base 3 "whole_in" ["book"] M_whole_in :=
  cal_of (K := KB K TT) (k := 2) D sc_whole_in fun f cdv hmm hcv A outer s H E hg hr => by
    have ft := fit_of hg hr
    have nd := sc_whole_in.nd
    have po := po_def (P := P) (w := w) (K := KB K TT) (mg := mg) (base := base) (N := ["book", "found", "step", "least"]) (qual := "whole_in") (st := s_whole_in) (f := f) (cdv := cdv) (A := A) (outer := outer) (s := s) (H := H) (E := E)
    have L := lets_def (P := P) (w := w) (K := KB K TT) (mg := mg) (base := base) (N := ["book", "found", "step", "least"]) (qual := "whole_in") (st := s_whole_in) (f := f) (cdv := cdv) (A := A) (outer := outer) (s := s) (H := H) (E := E)
    exact (rss_cons (rs_asg re_int (rg_name (i := 1) nd rfl (Or.inl (by kernel_rfl))))
      (rss_cons (rs_for po rfl (ri_seq (re_var (i := 0) rfl (Or.inl (by kernel_rfl)) nd_book nc_book)) (rg_tup (n := 2) rfl (rgs_cons (rg_name (i := 2) nd rfl (Or.inl (by kernel_rfl))) (rgs_cons (rg_name (i := 3) nd rfl (Or.inl (by kernel_rfl))) rgs_nil))) (rss_one (rs_asg (re_cP C_least_common hg (hr.mono (by decide)) (ra_cons (re_var (i := 1) rfl (Or.inl (by kernel_rfl)) nd_found nc_found) (ra_cons (re_var (i := 2) rfl (Or.inl (by kernel_rfl)) nd_step nc_step) ra_nil)) (gl (by kernel_rfl)) nd_least_common) (rg_name (i := 1) nd rfl (Or.inl (by kernel_rfl))))))
      (rss_one (rs_ret (re_var (i := 1) rfl (Or.inl (by kernel_rfl)) nd_found nc_found)))))
end K80
namespace K80
open PySem L2 PySem.Spec PyProof.Rows Evl Rx
open Lib
abbrev s_common_in : Stmt := top 31
theorem sc_common_in : FnScope ["one", "far", "step", "least", "both"] ["one", "far"] (defScope s_common_in) := ⟨rfl, rfl, rfl, by decide +kernel, rfl, by decide +kernel, by decide +kernel⟩
theorem ok_common_in {P : Program} {w : World} {K : PySem.W.Frag} {mg : Str → Option Value} {base : Heap} {TT : List (Addr × Str)} (T : Txt P K mg) (D : Dfd K mg "common_in" "common_in" s_common_in ["one", "far"]) (C_least_common : Cal P w (KB K TT) mg base 2 "least_common" ["one", "other"] M_least_common) (C_common_of : Cal P w (KB K TT) mg base 1 "common_of" ["one", "other"] M_common_of) : Cal P w (KB K TT) mg base 3 "common_in" ["one", "far"] M_common_in :=
  cal_of (K := KB K TT) (k := 2) D sc_common_in fun f cdv hmm hcv A outer s H E hg hr => by
    have ft := fit_of hg hr
    have nd := sc_common_in.nd
    have po := po_def (P := P) (w := w) (K := KB K TT) (mg := mg) (base := base) (N := ["one", "far", "step", "least", "both"]) (qual := "common_in") (st := s_common_in) (f := f) (cdv := cdv) (A := A) (outer := outer) (s := s) (H := H) (E := E)
    have L := lets_def (P := P) (w := w) (K := KB K TT) (mg := mg) (base := base) (N := ["one", "far", "step", "least", "both"]) (qual := "common_in") (st := s_common_in) (f := f) (cdv := cdv) (A := A) (outer := outer) (s := s) (H := H) (E := E)
    exact (rss_cons (rs_asg (re_var (i := 0) rfl (Or.inl (by kernel_rfl)) nd_one nc_one) (rg_tup (n := 2) rfl (rgs_cons (rg_name (i := 2) nd rfl (Or.inl (by kernel_rfl))) (rgs_cons (rg_name (i := 3) nd rfl (Or.inl (by kernel_rfl))) rgs_nil))))
      (rss_cons (rs_if (rt_cmp (op_neX ft) opS_ne (re_op op_mod opS_mod (re_op op_sub opS_sub (re_ix (re_var (i := 1) rfl (Or.inl (by kernel_rfl)) nd_far nc_far) re_int fun _ _ => rfl) (re_var (i := 3) rfl (Or.inl (by kernel_rfl)) nd_least nc_least)) (re_cP C_common_of hg (hr.mono (by decide)) (ra_cons (re_var (i := 2) rfl (Or.inl (by kernel_rfl)) nd_step nc_step) (ra_cons (re_ix (re_var (i := 1) rfl (Or.inl (by kernel_rfl)) nd_far nc_far) re_int fun _ _ => rfl) ra_nil)) (gl (by kernel_rfl)) nd_common_of)) re_int (nomark _)) (rss_one (rs_ret re_non)) rss_nil)
      (rss_cons (rs_while po (rt_cmp (op_neX ft) opS_ne (re_op op_mod opS_mod (re_op op_sub opS_sub (re_var (i := 3) rfl (Or.inl (by kernel_rfl)) nd_least nc_least) (re_ix (re_var (i := 1) rfl (Or.inl (by kernel_rfl)) nd_far nc_far) re_int fun _ _ => rfl)) (re_ix (re_var (i := 1) rfl (Or.inl (by kernel_rfl)) nd_far nc_far) re_int fun _ _ => rfl)) re_int (nomark _)) (rss_one (rs_aug (i := 3) nd rfl (Or.inl (by kernel_rfl)) ip_add opS_iadd (re_var (i := 2) rfl (Or.inl (by kernel_rfl)) nd_step nc_step))))
      (rss_cons (rs_asg (re_cP C_least_common hg (hr.mono (by decide)) (ra_cons (re_var (i := 2) rfl (Or.inl (by kernel_rfl)) nd_step nc_step) (ra_cons (re_ix (re_var (i := 1) rfl (Or.inl (by kernel_rfl)) nd_far nc_far) re_int fun _ _ => rfl) ra_nil)) (gl (by kernel_rfl)) nd_least_common) (rg_name (i := 4) nd rfl (Or.inl (by kernel_rfl))))
      (rss_one (rs_ret (re_tup (ra_cons (re_var (i := 4) rfl (Or.inl (by kernel_rfl)) nd_both nc_both) (ra_cons (re_op op_mod opS_mod (re_var (i := 3) rfl (Or.inl (by kernel_rfl)) nd_least nc_least) (re_var (i := 4) rfl (Or.inl (by kernel_rfl)) nd_both nc_both)) ra_nil)))))))))
end K80
namespace K80
open PySem L2 PySem.Spec PyProof.Rows Evl Rx
open Lib
abbrev s_require_number : Stmt := top 43
theorem sc_require_number : FnScope ["number"] ["number"] (defScope s_require_number) := ⟨rfl, rfl, rfl, by decide +kernel, rfl, by decide +kernel, by decide +kernel⟩
theorem ok_require_number {P : Program} {w : World} {K : PySem.W.Frag} {mg : Str → Option Value} {base : Heap} {TT : List (Addr × Str)} (T : Txt P K mg) (D : Dfd K mg "require_number" "require_number" s_require_number ["number"]) (C_is_whole : Cal P w (KB K TT) mg base 2 "is_whole" ["value"] M_is_whole) : Cal P w (KB K TT) mg base 3 "require_number" ["number"] M_require_number :=
  cal_of (K := KB K TT) (k := 2) D sc_require_number fun f cdv hmm hcv A outer s H E hg hr => by
    have ft := fit_of hg hr
    have nd := sc_require_number.nd
    have po := po_def (P := P) (w := w) (K := KB K TT) (mg := mg) (base := base) (N := ["number"]) (qual := "require_number") (st := s_require_number) (f := f) (cdv := cdv) (A := A) (outer := outer) (s := s) (H := H) (E := E)
    have L := lets_def (P := P) (w := w) (K := KB K TT) (mg := mg) (base := base) (N := ["number"]) (qual := "require_number") (st := s_require_number) (f := f) (cdv := cdv) (A := A) (outer := outer) (s := s) (H := H) (E := E)
    exact (rss_one (rs_if (rt_not (rt_val (re_cP C_is_whole hg (hr.mono (by decide)) (ra_cons (re_var (i := 0) rfl (Or.inl (by kernel_rfl)) nd_number nc_number) ra_nil) (gl (by kernel_rfl)) nd_is_whole))) (rss_one (rs_raise1 (c := 9) rfl L T.e_InvalidNumber.choose_spec hr rfl (re_var (i := 0) rfl (Or.inl (by kernel_rfl)) nd_number nc_number) (gl (by kernel_rfl)) nd_InvalidNumber)) rss_nil))
end K80
namespace K80
open PySem L2 PySem.Spec PyProof.Rows Evl Rx
open Lib
abbrev s_is_class_in : Stmt := top 25
theorem sc_is_class_in : FnScope ["value"] ["value"] (defScope s_is_class_in) := ⟨rfl, rfl, rfl, by decide +kernel, rfl, by decide +kernel, by decide +kernel⟩
theorem ok_is_class_in {P : Program} {w : World} {K : PySem.W.Frag} {mg : Str → Option Value} {base : Heap} {TT : List (Addr × Str)} (T : Txt P K mg) (D : Dfd K mg "is_class_in" "is_class_in" s_is_class_in ["value"]) (C_is_within : Cal P w (KB K TT) mg base 3 "is_within" ["value", "low", "high"] M_is_within) : Cal P w (KB K TT) mg base 4 "is_class_in" ["value"] M_is_class_in :=
  cal_of (K := KB K TT) (k := 3) D sc_is_class_in fun f cdv hmm hcv A outer s H E hg hr => by
    have ft := fit_of hg hr
    have nd := sc_is_class_in.nd
    have po := po_def (P := P) (w := w) (K := KB K TT) (mg := mg) (base := base) (N := ["value"]) (qual := "is_class_in") (st := s_is_class_in) (f := f) (cdv := cdv) (A := A) (outer := outer) (s := s) (H := H) (E := E)
    have L := lets_def (P := P) (w := w) (K := KB K TT) (mg := mg) (base := base) (N := ["value"]) (qual := "is_class_in") (st := s_is_class_in) (f := f) (cdv := cdv) (A := A) (outer := outer) (s := s) (H := H) (E := E)
    exact (rss_cons (rs_if (RW.rt (rw_or (rt_not (rt_val (re_isi (T := "tuple") (by decide) (re_var (i := 0) rfl (Or.inl (by kernel_rfl)) nd_value nc_value) (gl (by kernel_rfl)) T.b_isinstance (gl (by kernel_rfl)) T.b_tuple bt_tuple))) (rw_or (rt_cmp (op_neX ft) opS_ne (re_blt L2.call_len caS_len (ra_cons (re_var (i := 0) rfl (Or.inl (by kernel_rfl)) nd_value nc_value) ra_nil) (gl (by kernel_rfl)) T.b_len bt_len) re_int (nomark _)) (rw_or1 (rt_not (rt_val (re_cP C_is_within hg (hr.mono (by decide)) (ra_cons (re_ix (re_var (i := 0) rfl (Or.inl (by kernel_rfl)) nd_value nc_value) re_int fun _ _ => rfl) (ra_cons re_int (ra_cons (re_gint (gl (by kernel_rfl)) T.c_MAX_STEP.choose_spec nd_MAX_STEP) ra_nil))) (gl (by kernel_rfl)) nd_is_within))))))) (rss_one (rs_ret re_bl)) rss_nil)
      (rss_one (rs_ret (re_cP C_is_within hg (hr.mono (by decide)) (ra_cons (re_ix (re_var (i := 0) rfl (Or.inl (by kernel_rfl)) nd_value nc_value) re_int fun _ _ => rfl) (ra_cons re_int (ra_cons (re_op op_sub opS_sub (re_ix (re_var (i := 0) rfl (Or.inl (by kernel_rfl)) nd_value nc_value) re_int fun _ _ => rfl) re_int) ra_nil))) (gl (by kernel_rfl)) nd_is_within))))
end K80
namespace K80
open PySem L2 PySem.Spec PyProof.Rows Evl Rx
open Lib
abbrev s_are_indices_in : Stmt := top 27
theorem sc_are_indices_in : FnScope ["book", "value", "index", "one", "other"] ["book", "value"] (defScope s_are_indices_in) := ⟨rfl, rfl, rfl, by decide +kernel, rfl, by decide +kernel, by decide +kernel⟩
theorem ok_are_indices_in {P : Program} {w : World} {K : PySem.W.Frag} {mg : Str → Option Value} {base : Heap} {TT : List (Addr × Str)} (T : Txt P K mg) (D : Dfd K mg "are_indices_in" "are_indices_in" s_are_indices_in ["book", "value"]) (C_is_within : Cal P w (KB K TT) mg base 3 "is_within" ["value", "low", "high"] M_is_within) : Cal P w (KB K TT) mg base 4 "are_indices_in" ["book", "value"] M_are_indices_in :=
  cal_of (K := KB K TT) (k := 3) D sc_are_indices_in fun f cdv hmm hcv A outer s H E hg hr => by
    have ft := fit_of hg hr
    have nd := sc_are_indices_in.nd
    have po := po_def (P := P) (w := w) (K := KB K TT) (mg := mg) (base := base) (N := ["book", "value", "index", "one", "other"]) (qual := "are_indices_in") (st := s_are_indices_in) (f := f) (cdv := cdv) (A := A) (outer := outer) (s := s) (H := H) (E := E)
    have L := lets_def (P := P) (w := w) (K := KB K TT) (mg := mg) (base := base) (N := ["book", "value", "index", "one", "other"]) (qual := "are_indices_in") (st := s_are_indices_in) (f := f) (cdv := cdv) (A := A) (outer := outer) (s := s) (H := H) (E := E)
    exact (rss_cons (rs_if (RW.rt (rw_or (rt_not (rt_val (re_isi (T := "tuple") (by decide) (re_var (i := 1) rfl (Or.inl (by kernel_rfl)) nd_value nc_value) (gl (by kernel_rfl)) T.b_isinstance (gl (by kernel_rfl)) T.b_tuple bt_tuple))) (rw_or1 (rt_not (rt_val (re_blt (cr_allX ft) ca_all (ra_cons (re_frz (rn_lc rfl nd (ri_seq (re_var (i := 1) rfl (Or.inl (by kernel_rfl)) nd_value nc_value)) (blkOk_by (own := [("index", 2)]) (by kernel_rfl)) (fun _ _ _ _ _ => (rg_name (i := 2) nd rfl (Or.inl (by kernel_rfl)))) (by decide) (fun _ _ _ _ _ => rts_nil) (fun _ _ _ _ _ => (re_cP C_is_within hg (hr.mono (by decide)) (ra_cons (re_var (i := 2) rfl (Or.inl (by kernel_rfl)) nd_index nc_index) (ra_cons re_int (ra_cons (re_op op_sub opS_sub (re_blt L2.call_len caS_len (ra_cons (re_var (i := 0) rfl (Or.inr (Or.inl (by kernel_rfl))) nd_book nc_book) ra_nil) (gl (by kernel_rfl)) T.b_len bt_len) re_int) ra_nil))) (gl (by kernel_rfl)) nd_is_within)))) ra_nil) (gl (by kernel_rfl)) T.b_all bt_all)))))) (rss_one (rs_ret re_bl)) rss_nil)
      (rss_one (rs_ret (re_blt (cr_allX ft) ca_all (ra_cons (re_frz (rn_lc rfl nd (ri_zip (ra_cons (re_var (i := 1) rfl (Or.inl (by kernel_rfl)) nd_value nc_value) (ra_cons (re_slT (re_var (i := 1) rfl (Or.inl (by kernel_rfl)) nd_value nc_value) (ro_some re_int) ro_none) ra_nil)) (gl (by kernel_rfl)) T.b_zip) (blkOk_by (own := [("one", 3), ("other", 4)]) (by kernel_rfl)) (fun _ _ _ _ _ => (rg_tup (n := 2) rfl (rgs_cons (rg_name (i := 3) nd rfl (Or.inl (by kernel_rfl))) (rgs_cons (rg_name (i := 4) nd rfl (Or.inl (by kernel_rfl))) rgs_nil)))) (by decide) (fun _ _ _ _ _ => rts_nil) (fun _ _ _ _ _ => (re_cmp (op_ltX ft) opS_lt (re_var (i := 3) rfl (Or.inl (by kernel_rfl)) nd_one nc_one) (re_var (i := 4) rfl (Or.inl (by kernel_rfl)) nd_other nc_other) (nomark _))))) ra_nil) (gl (by kernel_rfl)) T.b_all bt_all))))
end K80
namespace K80
open PySem L2 PySem.Spec PyProof.Rows Evl Rx
open Lib
abbrev s_counts_in : Stmt := top 32
theorem sc_counts_in : FnScope ["book", "found", "step", "least", "number"] ["book"] (defScope s_counts_in) := ⟨rfl, rfl, rfl, by decide +kernel, rfl, by decide +kernel, by decide +kernel⟩
theorem ok_counts_in {P : Program} {w : World} {K : PySem.W.Frag} {mg : Str → Option Value} {base : Heap} {TT : List (Addr × Str)} (T : Txt P K mg) (D : Dfd K mg "counts_in" "counts_in" s_counts_in ["book"]) (C_whole_in : Cal P w (KB K TT) mg base 3 "whole_in" ["book"] M_whole_in) : Cal P w (KB K TT) mg base 4 "counts_in" ["book"] M_counts_in :=
  cal_of (K := KB K TT) (k := 3) D sc_counts_in fun f cdv hmm hcv A outer s H E hg hr => by
    have ft := fit_of hg hr
    have nd := sc_counts_in.nd
    have po := po_def (P := P) (w := w) (K := KB K TT) (mg := mg) (base := base) (N := ["book", "found", "step", "least", "number"]) (qual := "counts_in") (st := s_counts_in) (f := f) (cdv := cdv) (A := A) (outer := outer) (s := s) (H := H) (E := E)
    have L := lets_def (P := P) (w := w) (K := KB K TT) (mg := mg) (base := base) (N := ["book", "found", "step", "least", "number"]) (qual := "counts_in") (st := s_counts_in) (f := f) (cdv := cdv) (A := A) (outer := outer) (s := s) (H := H) (E := E)
    exact (rss_cons (rs_asgM (i := 1) (rn_rep (rn_lst (ra_cons re_int ra_nil)) (re_cP C_whole_in hg (hr.mono (by decide)) (ra_cons (re_var (i := 0) rfl (Or.inl (by kernel_rfl)) nd_book nc_book) ra_nil) (gl (by kernel_rfl)) nd_whole_in)) nd rfl (Or.inl (by kernel_rfl)))
      (rss_cons (rs_for po rfl (ri_seq (re_var (i := 0) rfl (Or.inl (by kernel_rfl)) nd_book nc_book)) (rg_tup (n := 2) rfl (rgs_cons (rg_name (i := 2) nd rfl (Or.inl (by kernel_rfl))) (rgs_cons (rg_name (i := 3) nd rfl (Or.inl (by kernel_rfl))) rgs_nil))) (rss_one (rs_for po rfl (ri_range3 (ra_cons (re_var (i := 3) rfl (Or.inl (by kernel_rfl)) nd_least nc_least) (ra_cons (re_blt L2.call_len caS_len (ra_cons (re_var (i := 1) rfl (Or.inl (by kernel_rfl)) nd_found nc_found) ra_nil) (gl (by kernel_rfl)) T.b_len bt_len) (ra_cons (re_var (i := 2) rfl (Or.inl (by kernel_rfl)) nd_step nc_step) ra_nil))) (gl (by kernel_rfl)) T.b_range) (rg_name (i := 4) nd rfl (Or.inl (by kernel_rfl))) (rss_one (rs_augI (i := 1) re_int (re_var (i := 4) rfl (Or.inl (by kernel_rfl)) nd_number nc_number) ip_add opS_iadd rfl (Or.inl (by kernel_rfl)) nd_found nc_found)))))
      (rss_one (rs_ret (re_var (i := 1) rfl (Or.inl (by kernel_rfl)) nd_found nc_found)))))
end K80
namespace K80
open PySem L2 PySem.Spec PyProof.Rows Evl Rx
open Lib
abbrev s_sum_in : Stmt := top 38
theorem sc_sum_in : FnScope ["book", "whole", "step", "least"] ["book"] (defScope s_sum_in) := ⟨rfl, rfl, rfl, by decide +kernel, rfl, by decide +kernel, by decide +kernel⟩
theorem ok_sum_in {P : Program} {w : World} {K : PySem.W.Frag} {mg : Str → Option Value} {base : Heap} {TT : List (Addr × Str)} (T : Txt P K mg) (D : Dfd K mg "sum_in" "sum_in" s_sum_in ["book"]) (C_whole_in : Cal P w (KB K TT) mg base 3 "whole_in" ["book"] M_whole_in) (C_lowest : Cal P w (KB K TT) mg base 2 "lowest" ["above", "below"] M_lowest) : Cal P w (KB K TT) mg base 4 "sum_in" ["book"] M_sum_in :=
  cal_of (K := KB K TT) (k := 3) D sc_sum_in fun f cdv hmm hcv A outer s H E hg hr => by
    have ft := fit_of hg hr
    have nd := sc_sum_in.nd
    have po := po_def (P := P) (w := w) (K := KB K TT) (mg := mg) (base := base) (N := ["book", "whole", "step", "least"]) (qual := "sum_in") (st := s_sum_in) (f := f) (cdv := cdv) (A := A) (outer := outer) (s := s) (H := H) (E := E)
    have L := lets_def (P := P) (w := w) (K := KB K TT) (mg := mg) (base := base) (N := ["book", "whole", "step", "least"]) (qual := "sum_in") (st := s_sum_in) (f := f) (cdv := cdv) (A := A) (outer := outer) (s := s) (H := H) (E := E)
    exact (rss_cons (rs_asg (re_cP C_whole_in hg (hr.mono (by decide)) (ra_cons (re_var (i := 0) rfl (Or.inl (by kernel_rfl)) nd_book nc_book) ra_nil) (gl (by kernel_rfl)) nd_whole_in) (rg_name (i := 1) nd rfl (Or.inr (by kernel_rfl))))
      (rss_one (rs_ret (re_cP C_lowest hg (hr.mono (by decide)) (ra_cons (re_blt (cr_sumX ft rfl) ca_sum (ra_cons (re_frz (rn_lc rfl nd (ri_seq (re_var (i := 0) rfl (Or.inl (by kernel_rfl)) nd_book nc_book)) (blkOk_by (own := [("step", 2), ("least", 3)]) (by kernel_rfl)) (fun _ _ _ _ _ => (rg_tup (n := 2) rfl (rgs_cons (rg_name (i := 2) nd rfl (Or.inl (by kernel_rfl))) (rgs_cons (rg_name (i := 3) nd rfl (Or.inl (by kernel_rfl))) rgs_nil)))) (by decide) (fun _ _ _ _ _ => rts_nil) (fun _ _ _ _ _ => (re_op op_fdivW opS_fdv (re_var (i := 1) rfl (Or.inr (Or.inl (by kernel_rfl))) nd_whole nc_whole) (re_var (i := 2) rfl (Or.inl (by kernel_rfl)) nd_step nc_step))))) ra_nil) (gl (by kernel_rfl)) T.b_sum bt_sum) (ra_cons (re_var (i := 1) rfl (Or.inr (Or.inl (by kernel_rfl))) nd_whole nc_whole) ra_nil)) (gl (by kernel_rfl)) nd_lowest))))
end K80
namespace K80
open PySem L2 PySem.Spec PyProof.Rows Evl Rx
open Lib
abbrev s_is_book_in : Stmt := top 26
theorem sc_is_book_in : FnScope ["value", "one", "other"] ["value"] (defScope s_is_book_in) := ⟨rfl, rfl, rfl, by decide +kernel, rfl, by decide +kernel, by decide +kernel⟩
theorem ok_is_book_in {P : Program} {w : World} {K : PySem.W.Frag} {mg : Str → Option Value} {base : Heap} {TT : List (Addr × Str)} (T : Txt P K mg) (D : Dfd K mg "is_book_in" "is_book_in" s_is_book_in ["value"]) (C_whole_in : Cal P w (KB K TT) mg base 3 "whole_in" ["book"] M_whole_in) (C_is_class_in : Cal P w (KB K TT) mg base 4 "is_class_in" ["value"] M_is_class_in) : Cal P w (KB K TT) mg base 5 "is_book_in" ["value"] M_is_book_in :=
  cal_of (K := KB K TT) (k := 4) D sc_is_book_in fun f cdv hmm hcv A outer s H E hg hr => by
    have ft := fit_of hg hr
    have nd := sc_is_book_in.nd
    have po := po_def (P := P) (w := w) (K := KB K TT) (mg := mg) (base := base) (N := ["value", "one", "other"]) (qual := "is_book_in") (st := s_is_book_in) (f := f) (cdv := cdv) (A := A) (outer := outer) (s := s) (H := H) (E := E)
    have L := lets_def (P := P) (w := w) (K := KB K TT) (mg := mg) (base := base) (N := ["value", "one", "other"]) (qual := "is_book_in") (st := s_is_book_in) (f := f) (cdv := cdv) (A := A) (outer := outer) (s := s) (H := H) (E := E)
    exact (rss_cons (rs_if (RW.rt (rw_or (rt_not (rt_val (re_isi (T := "tuple") (by decide) (re_var (i := 0) rfl (Or.inl (by kernel_rfl)) nd_value nc_value) (gl (by kernel_rfl)) T.b_isinstance (gl (by kernel_rfl)) T.b_tuple bt_tuple))) (rw_or1 (rt_not (rt_chain (op_leX ft) (op_leX ft) opS_le opS_le re_int (re_blt L2.call_len caS_len (ra_cons (re_var (i := 0) rfl (Or.inl (by kernel_rfl)) nd_value nc_value) ra_nil) (gl (by kernel_rfl)) T.b_len bt_len) (re_gint (gl (by kernel_rfl)) T.c_MOST_CLASSES.choose_spec nd_MOST_CLASSES) (by with_unfolding_all rfl)))))) (rss_one (rs_ret re_bl)) rss_nil)
      (rss_cons (rs_if (rt_not (rt_val (re_blt (cr_allX ft) ca_all (ra_cons (re_frz (rn_lc rfl nd (ri_seq (re_var (i := 0) rfl (Or.inl (by kernel_rfl)) nd_value nc_value)) (blkOk_by (own := [("one", 1)]) (by kernel_rfl)) (fun _ _ _ _ _ => (rg_name (i := 1) nd rfl (Or.inl (by kernel_rfl)))) (by decide) (fun _ _ _ _ _ => rts_nil) (fun _ _ _ _ _ => (re_cP C_is_class_in hg (hr.mono (by decide)) (ra_cons (re_var (i := 1) rfl (Or.inl (by kernel_rfl)) nd_one nc_one) ra_nil) (gl (by kernel_rfl)) nd_is_class_in)))) ra_nil) (gl (by kernel_rfl)) T.b_all bt_all))) (rss_one (rs_ret re_bl)) rss_nil)
      (rss_one (rs_ret (re_b (rb_and (rb_of (re_blt (cr_allX ft) ca_all (ra_cons (re_frz (rn_lc rfl nd (ri_zip (ra_cons (re_var (i := 0) rfl (Or.inl (by kernel_rfl)) nd_value nc_value) (ra_cons (re_slT (re_var (i := 0) rfl (Or.inl (by kernel_rfl)) nd_value nc_value) (ro_some re_int) ro_none) ra_nil)) (gl (by kernel_rfl)) T.b_zip) (blkOk_by (own := [("one", 1), ("other", 2)]) (by kernel_rfl)) (fun _ _ _ _ _ => (rg_tup (n := 2) rfl (rgs_cons (rg_name (i := 1) nd rfl (Or.inl (by kernel_rfl))) (rgs_cons (rg_name (i := 2) nd rfl (Or.inl (by kernel_rfl))) rgs_nil)))) (by decide) (fun _ _ _ _ _ => rts_nil) (fun _ _ _ _ _ => (re_cmp (op_ltX ft) opS_lt (re_var (i := 1) rfl (Or.inl (by kernel_rfl)) nd_one nc_one) (re_var (i := 2) rfl (Or.inl (by kernel_rfl)) nd_other nc_other) (nomark _))))) ra_nil) (gl (by kernel_rfl)) T.b_all bt_all)) (rb_one (rb_of (re_cmp (op_leX ft) opS_le (re_cP C_whole_in hg (hr.mono (by decide)) (ra_cons (re_var (i := 0) rfl (Or.inl (by kernel_rfl)) nd_value nc_value) ra_nil) (gl (by kernel_rfl)) nd_whole_in) (re_gint (gl (by kernel_rfl)) T.c_MAX_WHOLE.choose_spec nd_MAX_WHOLE) (nomark _))))))))))
end K80
namespace K80
open PySem L2 PySem.Spec PyProof.Rows Evl Rx
open Lib
abbrev s_covered_in : Stmt := top 33
theorem sc_covered_in : FnScope ["book", "many"] ["book"] (defScope s_covered_in) := ⟨rfl, rfl, rfl, by decide +kernel, rfl, by decide +kernel, by decide +kernel⟩
theorem ok_covered_in {P : Program} {w : World} {K : PySem.W.Frag} {mg : Str → Option Value} {base : Heap} {TT : List (Addr × Str)} (T : Txt P K mg) (D : Dfd K mg "covered_in" "covered_in" s_covered_in ["book"]) (C_counts_in : Cal P w (KB K TT) mg base 4 "counts_in" ["book"] M_counts_in) : Cal P w (KB K TT) mg base 5 "covered_in" ["book"] M_covered_in :=
  cal_of (K := KB K TT) (k := 4) D sc_covered_in fun f cdv hmm hcv A outer s H E hg hr => by
    have ft := fit_of hg hr
    have nd := sc_covered_in.nd
    have po := po_def (P := P) (w := w) (K := KB K TT) (mg := mg) (base := base) (N := ["book", "many"]) (qual := "covered_in") (st := s_covered_in) (f := f) (cdv := cdv) (A := A) (outer := outer) (s := s) (H := H) (E := E)
    have L := lets_def (P := P) (w := w) (K := KB K TT) (mg := mg) (base := base) (N := ["book", "many"]) (qual := "covered_in") (st := s_covered_in) (f := f) (cdv := cdv) (A := A) (outer := outer) (s := s) (H := H) (E := E)
    exact (rss_one (rs_ret (re_blt L2.call_len caS_len (ra_cons (re_frz (rn_lc rfl nd (ri_seq (re_cP C_counts_in hg (hr.mono (by decide)) (ra_cons (re_var (i := 0) rfl (Or.inl (by kernel_rfl)) nd_book nc_book) ra_nil) (gl (by kernel_rfl)) nd_counts_in)) (blkOk_by (own := [("many", 1)]) (by kernel_rfl)) (fun _ _ _ _ _ => (rg_name (i := 1) nd rfl (Or.inl (by kernel_rfl)))) (by decide) (fun _ _ _ _ _ => (rts_one (rt_cmp (op_gtX ft) opS_gt (re_var (i := 1) rfl (Or.inl (by kernel_rfl)) nd_many nc_many) re_int (nomark _)))) (fun _ _ _ _ _ => (re_var (i := 1) rfl (Or.inl (by kernel_rfl)) nd_many nc_many)))) ra_nil) (gl (by kernel_rfl)) T.b_len bt_len)))
end K80
namespace K80
open PySem L2 PySem.Spec PyProof.Rows Evl Rx
open Lib
abbrev s_gap_in : Stmt := top 34
theorem sc_gap_in : FnScope ["book", "met"] ["book"] (defScope s_gap_in) := ⟨rfl, rfl, rfl, by decide +kernel, rfl, by decide +kernel, by decide +kernel⟩
theorem ok_gap_in {P : Program} {w : World} {K : PySem.W.Frag} {mg : Str → Option Value} {base : Heap} {TT : List (Addr × Str)} (T : Txt P K mg) (D : Dfd K mg "gap_in" "gap_in" s_gap_in ["book"]) (C_counts_in : Cal P w (KB K TT) mg base 4 "counts_in" ["book"] M_counts_in) : Cal P w (KB K TT) mg base 5 "gap_in" ["book"] M_gap_in :=
  cal_of (K := KB K TT) (k := 4) D sc_gap_in fun f cdv hmm hcv A outer s H E hg hr => by
    have ft := fit_of hg hr
    have nd := sc_gap_in.nd
    have po := po_def (P := P) (w := w) (K := KB K TT) (mg := mg) (base := base) (N := ["book", "met"]) (qual := "gap_in") (st := s_gap_in) (f := f) (cdv := cdv) (A := A) (outer := outer) (s := s) (H := H) (E := E)
    have L := lets_def (P := P) (w := w) (K := KB K TT) (mg := mg) (base := base) (N := ["book", "met"]) (qual := "gap_in") (st := s_gap_in) (f := f) (cdv := cdv) (A := A) (outer := outer) (s := s) (H := H) (E := E)
    exact (rss_cons (rs_asg (re_cP C_counts_in hg (hr.mono (by decide)) (ra_cons (re_var (i := 0) rfl (Or.inl (by kernel_rfl)) nd_book nc_book) ra_nil) (gl (by kernel_rfl)) nd_counts_in) (rg_name (i := 1) nd rfl (Or.inl (by kernel_rfl))))
      (rss_one (rs_ret (re_if (rt_cmp (op_inX ft) opS_in re_int (re_var (i := 1) rfl (Or.inl (by kernel_rfl)) nd_met nc_met) rfl) (re_lidx (i := 1) re_int rfl (Or.inl (by kernel_rfl)) nd_met nc_met) re_non))))
end K80
namespace K80
open PySem L2 PySem.Spec PyProof.Rows Evl Rx
open Lib
abbrev s_needed_in : Stmt := top 36
theorem sc_needed_in : FnScope ["book", "met", "found", "index", "step", "least", "number"] ["book"] (defScope s_needed_in) := ⟨rfl, rfl, rfl, by decide +kernel, rfl, by decide +kernel, by decide +kernel⟩
theorem ok_needed_in {P : Program} {w : World} {K : PySem.W.Frag} {mg : Str → Option Value} {base : Heap} {TT : List (Addr × Str)} (T : Txt P K mg) (D : Dfd K mg "needed_in" "needed_in" s_needed_in ["book"]) (C_counts_in : Cal P w (KB K TT) mg base 4 "counts_in" ["book"] M_counts_in) : Cal P w (KB K TT) mg base 5 "needed_in" ["book"] M_needed_in :=
  cal_of (K := KB K TT) (k := 4) D sc_needed_in fun f cdv hmm hcv A outer s H E hg hr => by
    have ft := fit_of hg hr
    have nd := sc_needed_in.nd
    have po := po_def (P := P) (w := w) (K := KB K TT) (mg := mg) (base := base) (N := ["book", "met", "found", "index", "step", "least", "number"]) (qual := "needed_in") (st := s_needed_in) (f := f) (cdv := cdv) (A := A) (outer := outer) (s := s) (H := H) (E := E)
    have L := lets_def (P := P) (w := w) (K := KB K TT) (mg := mg) (base := base) (N := ["book", "met", "found", "index", "step", "least", "number"]) (qual := "needed_in") (st := s_needed_in) (f := f) (cdv := cdv) (A := A) (outer := outer) (s := s) (H := H) (E := E)
    exact (rss_cons (rs_asg (re_cP C_counts_in hg (hr.mono (by decide)) (ra_cons (re_var (i := 0) rfl (Or.inl (by kernel_rfl)) nd_book nc_book) ra_nil) (gl (by kernel_rfl)) nd_counts_in) (rg_name (i := 1) nd rfl (Or.inr (by kernel_rfl))))
      (rss_cons (rs_asgM (i := 2) (rn_lst ra_nil) nd rfl (Or.inl (by kernel_rfl)))
      (rss_cons (rs_for po rfl (ri_enum (re_var (i := 0) rfl (Or.inl (by kernel_rfl)) nd_book nc_book) (gl (by kernel_rfl)) T.b_enumerate) (rg_tup (n := 2) rfl (rgs_cons (rg_name (i := 3) nd rfl (Or.inl (by kernel_rfl))) (rgs_cons (rg_tup (n := 2) rfl (rgs_cons (rg_name (i := 4) nd rfl (Or.inl (by kernel_rfl))) (rgs_cons (rg_name (i := 5) nd rfl (Or.inl (by kernel_rfl))) rgs_nil))) rgs_nil))) (rss_one (rs_if (rt_val (re_blt (cr_anyX ft) ca_any (ra_cons (re_frz (rn_lc rfl nd (ri_range3 (ra_cons (re_var (i := 5) rfl (Or.inl (by kernel_rfl)) nd_least nc_least) (ra_cons (re_blt L2.call_len caS_len (ra_cons (re_var (i := 1) rfl (Or.inr (Or.inl (by kernel_rfl))) nd_met nc_met) ra_nil) (gl (by kernel_rfl)) T.b_len bt_len) (ra_cons (re_var (i := 4) rfl (Or.inl (by kernel_rfl)) nd_step nc_step) ra_nil))) (gl (by kernel_rfl)) T.b_range) (blkOk_by (own := [("number", 6)]) (by kernel_rfl)) (fun _ _ _ _ _ => (rg_name (i := 6) nd rfl (Or.inl (by kernel_rfl)))) (by decide) (fun _ _ _ _ _ => rts_nil) (fun _ _ _ _ _ => (re_cmp (op_eqX ft) opS_eq (re_ix (re_var (i := 1) rfl (Or.inr (Or.inl (by kernel_rfl))) nd_met nc_met) (re_var (i := 6) rfl (Or.inl (by kernel_rfl)) nd_number nc_number) fun _ _ => rfl) re_int (nomark _))))) ra_nil) (gl (by kernel_rfl)) T.b_any bt_any)) (rss_one (rs_expr (re_append (i := 2) (re_var (i := 3) rfl (Or.inl (by kernel_rfl)) nd_index nc_index) rfl (Or.inl (by kernel_rfl)) nd_found nc_found))) rss_nil)))
      (rss_one (rs_ret (re_var (i := 2) rfl (Or.inl (by kernel_rfl)) nd_found nc_found))))))
end K80
namespace K80
open PySem L2 PySem.Spec PyProof.Rows Evl Rx
open Lib
abbrev s_require_class : Stmt := top 42
theorem sc_require_class : FnScope ["classes", "one"] ["classes"] (defScope s_require_class) := ⟨rfl, rfl, rfl, by decide +kernel, rfl, by decide +kernel, by decide +kernel⟩
theorem ok_require_class {P : Program} {w : World} {K : PySem.W.Frag} {mg : Str → Option Value} {base : Heap} {TT : List (Addr × Str)} (T : Txt P K mg) (D : DfdS K mg "require_class" "require_class" s_require_class [] "classes") (C_is_class_in : Cal P w (KB K TT) mg base 4 "is_class_in" ["value"] M_is_class_in) : CalS P w (KB K TT) mg base 5 "require_class" (fStar 0 M_require_class) :=
  cals_of (K := KB K TT) (k := 4) D sc_require_class fun f cdv A outer s H E hg hr => by
    have ft := fit_of hg hr
    have nd := sc_require_class.nd
    have po := po_def (P := P) (w := w) (K := KB K TT) (mg := mg) (base := base) (N := ["classes", "one"]) (qual := "require_class") (st := s_require_class) (f := f) (cdv := cdv) (A := A) (outer := outer) (s := s) (H := H) (E := E)
    have L := lets_def (P := P) (w := w) (K := KB K TT) (mg := mg) (base := base) (N := ["classes", "one"]) (qual := "require_class") (st := s_require_class) (f := f) (cdv := cdv) (A := A) (outer := outer) (s := s) (H := H) (E := E)
    exact (rss_one (rs_if (rt_not (rt_val (re_blt (cr_allX ft) ca_all (ra_cons (re_frz (rn_lc rfl nd (ri_seq (re_var (i := 0) rfl (Or.inl (by kernel_rfl)) nd_classes nc_classes)) (blkOk_by (own := [("one", 1)]) (by kernel_rfl)) (fun _ _ _ _ _ => (rg_name (i := 1) nd rfl (Or.inl (by kernel_rfl)))) (by decide) (fun _ _ _ _ _ => rts_nil) (fun _ _ _ _ _ => (re_cP C_is_class_in hg (hr.mono (by decide)) (ra_cons (re_var (i := 1) rfl (Or.inl (by kernel_rfl)) nd_one nc_one) ra_nil) (gl (by kernel_rfl)) nd_is_class_in)))) ra_nil) (gl (by kernel_rfl)) T.b_all bt_all))) (rss_one (rs_raise0 (c := 3) rfl L T.e_InvalidBook.choose_spec rfl (gl (by kernel_rfl)) nd_InvalidBook)) rss_nil))
end K80
namespace K80
open PySem L2 PySem.Spec PyProof.Rows Evl Rx
open Lib
abbrev s_is_class : Stmt := top 44
theorem sc_is_class : FnScope ["value"] ["value"] (defScope s_is_class) := ⟨rfl, rfl, rfl, by decide +kernel, rfl, by decide +kernel, by decide +kernel⟩
theorem ok_is_class {P : Program} {w : World} {K : PySem.W.Frag} {mg : Str → Option Value} {base : Heap} {TT : List (Addr × Str)} (T : Txt P K mg) (D : Dfd K mg "is_class" "is_class" s_is_class ["value"]) (C_is_class_in : Cal P w (KB K TT) mg base 4 "is_class_in" ["value"] M_is_class_in) : Cal P w (KB K TT) mg base 5 "is_class" ["value"] M_is_class :=
  cal_of (K := KB K TT) (k := 4) D sc_is_class fun f cdv hmm hcv A outer s H E hg hr => by
    have ft := fit_of hg hr
    have nd := sc_is_class.nd
    have po := po_def (P := P) (w := w) (K := KB K TT) (mg := mg) (base := base) (N := ["value"]) (qual := "is_class") (st := s_is_class) (f := f) (cdv := cdv) (A := A) (outer := outer) (s := s) (H := H) (E := E)
    have L := lets_def (P := P) (w := w) (K := KB K TT) (mg := mg) (base := base) (N := ["value"]) (qual := "is_class") (st := s_is_class) (f := f) (cdv := cdv) (A := A) (outer := outer) (s := s) (H := H) (E := E)
    exact (rss_one (rs_ret (re_cP C_is_class_in hg (hr.mono (by decide)) (ra_cons (re_var (i := 0) rfl (Or.inl (by kernel_rfl)) nd_value nc_value) ra_nil) (gl (by kernel_rfl)) nd_is_class_in)))
end K80
namespace K80
open PySem L2 PySem.Spec PyProof.Rows Evl Rx
open Lib
abbrev s_left_in : Stmt := top 37
theorem sc_left_in : FnScope ["book", "here", "due", "out", "index"] ["book"] (defScope s_left_in) := ⟨rfl, rfl, rfl, by decide +kernel, rfl, by decide +kernel, by decide +kernel⟩
theorem ok_left_in {P : Program} {w : World} {K : PySem.W.Frag} {mg : Str → Option Value} {base : Heap} {TT : List (Addr × Str)} (T : Txt P K mg) (D : Dfd K mg "left_in" "left_in" s_left_in ["book"]) (C_needed_in : Cal P w (KB K TT) mg base 5 "needed_in" ["book"] M_needed_in) : Cal P w (KB K TT) mg base 6 "left_in" ["book"] M_left_in :=
  cal_of (K := KB K TT) (k := 5) D sc_left_in fun f cdv hmm hcv A outer s H E hg hr => by
    have ft := fit_of hg hr
    have nd := sc_left_in.nd
    have po := po_def (P := P) (w := w) (K := KB K TT) (mg := mg) (base := base) (N := ["book", "here", "due", "out", "index"]) (qual := "left_in") (st := s_left_in) (f := f) (cdv := cdv) (A := A) (outer := outer) (s := s) (H := H) (E := E)
    have L := lets_def (P := P) (w := w) (K := KB K TT) (mg := mg) (base := base) (N := ["book", "here", "due", "out", "index"]) (qual := "left_in") (st := s_left_in) (f := f) (cdv := cdv) (A := A) (outer := outer) (s := s) (H := H) (E := E)
    exact (rss_cons (rs_asg (re_var (i := 0) rfl (Or.inl (by kernel_rfl)) nd_book nc_book) (rg_name (i := 1) nd rfl (Or.inl (by kernel_rfl))))
      (rss_cons (rs_while po (rt_cmp (op_ltX ft) opS_lt (re_blt L2.call_len caS_len (ra_cons (re_cP C_needed_in hg (hr.mono (by decide)) (ra_cons (re_var (i := 1) rfl (Or.inl (by kernel_rfl)) nd_here nc_here) ra_nil) (gl (by kernel_rfl)) nd_needed_in) ra_nil) (gl (by kernel_rfl)) T.b_len bt_len) (re_blt L2.call_len caS_len (ra_cons (re_var (i := 1) rfl (Or.inl (by kernel_rfl)) nd_here nc_here) ra_nil) (gl (by kernel_rfl)) T.b_len bt_len) (nomark _)) (rss_cons (rs_asg (re_cP C_needed_in hg (hr.mono (by decide)) (ra_cons (re_var (i := 1) rfl (Or.inl (by kernel_rfl)) nd_here nc_here) ra_nil) (gl (by kernel_rfl)) nd_needed_in) (rg_name (i := 2) nd rfl (Or.inr (by kernel_rfl))))
      (rss_cons (rs_asg (re_ix (re_frz (rn_lc rfl nd (ri_range1 (ra_cons (re_blt L2.call_len caS_len (ra_cons (re_var (i := 1) rfl (Or.inl (by kernel_rfl)) nd_here nc_here) ra_nil) (gl (by kernel_rfl)) T.b_len bt_len) ra_nil) (gl (by kernel_rfl)) T.b_range) (blkOk_by (own := [("index", 4)]) (by kernel_rfl)) (fun _ _ _ _ _ => (rg_name (i := 4) nd rfl (Or.inl (by kernel_rfl)))) (by decide) (fun _ _ _ _ _ => (rts_one (rt_cmp (op_notInX ft) opS_notIn (re_var (i := 4) rfl (Or.inl (by kernel_rfl)) nd_index nc_index) (re_var (i := 2) rfl (Or.inr (Or.inl (by kernel_rfl))) nd_due nc_due) rfl))) (fun _ _ _ _ _ => (re_var (i := 4) rfl (Or.inl (by kernel_rfl)) nd_index nc_index)))) re_int fun _ _ => rfl) (rg_name (i := 3) nd rfl (Or.inl (by kernel_rfl))))
      (rss_one (rs_asg (re_tup (ra_star (re_slT (re_var (i := 1) rfl (Or.inl (by kernel_rfl)) nd_here nc_here) ro_none (ro_some (re_var (i := 3) rfl (Or.inl (by kernel_rfl)) nd_out nc_out))) (ra_star (re_slT (re_var (i := 1) rfl (Or.inl (by kernel_rfl)) nd_here nc_here) (ro_some (re_op op_addX opS_add (re_var (i := 3) rfl (Or.inl (by kernel_rfl)) nd_out nc_out) re_int)) ro_none) ra_nil))) (rg_name (i := 1) nd rfl (Or.inl (by kernel_rfl))))))))
      (rss_one (rs_ret (re_var (i := 1) rfl (Or.inl (by kernel_rfl)) nd_here nc_here)))))
end K80
namespace K80
open PySem L2 PySem.Spec PyProof.Rows Evl Rx
open Lib
abbrev s_require_book : Stmt := top 41
theorem sc_require_book : FnScope ["book"] ["book"] (defScope s_require_book) := ⟨rfl, rfl, rfl, by decide +kernel, rfl, by decide +kernel, by decide +kernel⟩
theorem ok_require_book {P : Program} {w : World} {K : PySem.W.Frag} {mg : Str → Option Value} {base : Heap} {TT : List (Addr × Str)} (T : Txt P K mg) (D : Dfd K mg "require_book" "require_book" s_require_book ["book"]) (C_is_book_in : Cal P w (KB K TT) mg base 5 "is_book_in" ["value"] M_is_book_in) : Cal P w (KB K TT) mg base 6 "require_book" ["book"] M_require_book :=
  cal_of (K := KB K TT) (k := 5) D sc_require_book fun f cdv hmm hcv A outer s H E hg hr => by
    have ft := fit_of hg hr
    have nd := sc_require_book.nd
    have po := po_def (P := P) (w := w) (K := KB K TT) (mg := mg) (base := base) (N := ["book"]) (qual := "require_book") (st := s_require_book) (f := f) (cdv := cdv) (A := A) (outer := outer) (s := s) (H := H) (E := E)
    have L := lets_def (P := P) (w := w) (K := KB K TT) (mg := mg) (base := base) (N := ["book"]) (qual := "require_book") (st := s_require_book) (f := f) (cdv := cdv) (A := A) (outer := outer) (s := s) (H := H) (E := E)
    exact (rss_one (rs_if (rt_not (rt_val (re_cP C_is_book_in hg (hr.mono (by decide)) (ra_cons (re_var (i := 0) rfl (Or.inl (by kernel_rfl)) nd_book nc_book) ra_nil) (gl (by kernel_rfl)) nd_is_book_in))) (rss_one (rs_raise0 (c := 3) rfl L T.e_InvalidBook.choose_spec rfl (gl (by kernel_rfl)) nd_InvalidBook)) rss_nil))
end K80
namespace K80
open PySem L2 PySem.Spec PyProof.Rows Evl Rx
open Lib
abbrev s_is_book : Stmt := top 45
theorem sc_is_book : FnScope ["value"] ["value"] (defScope s_is_book) := ⟨rfl, rfl, rfl, by decide +kernel, rfl, by decide +kernel, by decide +kernel⟩
theorem ok_is_book {P : Program} {w : World} {K : PySem.W.Frag} {mg : Str → Option Value} {base : Heap} {TT : List (Addr × Str)} (T : Txt P K mg) (D : Dfd K mg "is_book" "is_book" s_is_book ["value"]) (C_is_book_in : Cal P w (KB K TT) mg base 5 "is_book_in" ["value"] M_is_book_in) : Cal P w (KB K TT) mg base 6 "is_book" ["value"] M_is_book :=
  cal_of (K := KB K TT) (k := 5) D sc_is_book fun f cdv hmm hcv A outer s H E hg hr => by
    have ft := fit_of hg hr
    have nd := sc_is_book.nd
    have po := po_def (P := P) (w := w) (K := KB K TT) (mg := mg) (base := base) (N := ["value"]) (qual := "is_book") (st := s_is_book) (f := f) (cdv := cdv) (A := A) (outer := outer) (s := s) (H := H) (E := E)
    have L := lets_def (P := P) (w := w) (K := KB K TT) (mg := mg) (base := base) (N := ["value"]) (qual := "is_book") (st := s_is_book) (f := f) (cdv := cdv) (A := A) (outer := outer) (s := s) (H := H) (E := E)
    exact (rss_one (rs_ret (re_cP C_is_book_in hg (hr.mono (by decide)) (ra_cons (re_var (i := 0) rfl (Or.inl (by kernel_rfl)) nd_value nc_value) ra_nil) (gl (by kernel_rfl)) nd_is_book_in)))
end K80
namespace K80
open PySem L2 PySem.Spec PyProof.Rows Evl Rx
open Lib
abbrev s_is_in : Stmt := top 47
theorem sc_is_in : FnScope ["one", "number"] ["one", "number"] (defScope s_is_in) := ⟨rfl, rfl, rfl, by decide +kernel, rfl, by decide +kernel, by decide +kernel⟩
theorem ok_is_in {P : Program} {w : World} {K : PySem.W.Frag} {mg : Str → Option Value} {base : Heap} {TT : List (Addr × Str)} (T : Txt P K mg) (D : Dfd K mg "is_in" "is_in" s_is_in ["one", "number"]) (C_require_class : CalS P w (KB K TT) mg base 5 "require_class" (fStar 0 M_require_class)) (C_require_number : Cal P w (KB K TT) mg base 3 "require_number" ["number"] M_require_number) (C_has_number : Cal P w (KB K TT) mg base 1 "has_number" ["one", "number"] M_has_number) : Cal P w (KB K TT) mg base 6 "is_in" ["one", "number"] M_is_in :=
  cal_of (K := KB K TT) (k := 5) D sc_is_in fun f cdv hmm hcv A outer s H E hg hr => by
    have ft := fit_of hg hr
    have nd := sc_is_in.nd
    have po := po_def (P := P) (w := w) (K := KB K TT) (mg := mg) (base := base) (N := ["one", "number"]) (qual := "is_in") (st := s_is_in) (f := f) (cdv := cdv) (A := A) (outer := outer) (s := s) (H := H) (E := E)
    have L := lets_def (P := P) (w := w) (K := KB K TT) (mg := mg) (base := base) (N := ["one", "number"]) (qual := "is_in") (st := s_is_in) (f := f) (cdv := cdv) (A := A) (outer := outer) (s := s) (H := H) (E := E)
    exact (rss_cons (rs_expr (re_callXS L C_require_class hg (hr.mono (by decide)) (ra_cons (re_var (i := 0) rfl (Or.inl (by kernel_rfl)) nd_one nc_one) ra_nil) (gl (by kernel_rfl)) nd_require_class (Or.inl rfl)))
      (rss_cons (rs_expr (re_callX L C_require_number hg (hr.mono (by decide)) (ra_cons (re_var (i := 1) rfl (Or.inl (by kernel_rfl)) nd_number nc_number) ra_nil) (gl (by kernel_rfl)) nd_require_number))
      (rss_one (rs_ret (re_cP C_has_number hg (hr.mono (by decide)) (ra_cons (re_var (i := 0) rfl (Or.inl (by kernel_rfl)) nd_one nc_one) (ra_cons (re_var (i := 1) rfl (Or.inl (by kernel_rfl)) nd_number nc_number) ra_nil)) (gl (by kernel_rfl)) nd_has_number)))))
end K80
namespace K80
open PySem L2 PySem.Spec PyProof.Rows Evl Rx
open Lib
abbrev s_common_class : Stmt := top 48
theorem sc_common_class : FnScope ["one", "far"] ["one", "far"] (defScope s_common_class) := ⟨rfl, rfl, rfl, by decide +kernel, rfl, by decide +kernel, by decide +kernel⟩
theorem ok_common_class {P : Program} {w : World} {K : PySem.W.Frag} {mg : Str → Option Value} {base : Heap} {TT : List (Addr × Str)} (T : Txt P K mg) (D : Dfd K mg "common_class" "common_class" s_common_class ["one", "far"]) (C_require_class : CalS P w (KB K TT) mg base 5 "require_class" (fStar 0 M_require_class)) (C_common_in : Cal P w (KB K TT) mg base 3 "common_in" ["one", "far"] M_common_in) : Cal P w (KB K TT) mg base 6 "common_class" ["one", "far"] M_common_class :=
  cal_of (K := KB K TT) (k := 5) D sc_common_class fun f cdv hmm hcv A outer s H E hg hr => by
    have ft := fit_of hg hr
    have nd := sc_common_class.nd
    have po := po_def (P := P) (w := w) (K := KB K TT) (mg := mg) (base := base) (N := ["one", "far"]) (qual := "common_class") (st := s_common_class) (f := f) (cdv := cdv) (A := A) (outer := outer) (s := s) (H := H) (E := E)
    have L := lets_def (P := P) (w := w) (K := KB K TT) (mg := mg) (base := base) (N := ["one", "far"]) (qual := "common_class") (st := s_common_class) (f := f) (cdv := cdv) (A := A) (outer := outer) (s := s) (H := H) (E := E)
    exact (rss_cons (rs_expr (re_callXS L C_require_class hg (hr.mono (by decide)) (ra_cons (re_var (i := 0) rfl (Or.inl (by kernel_rfl)) nd_one nc_one) (ra_cons (re_var (i := 1) rfl (Or.inl (by kernel_rfl)) nd_far nc_far) ra_nil)) (gl (by kernel_rfl)) nd_require_class (Or.inl rfl)))
      (rss_one (rs_ret (re_cP C_common_in hg (hr.mono (by decide)) (ra_cons (re_var (i := 0) rfl (Or.inl (by kernel_rfl)) nd_one nc_one) (ra_cons (re_var (i := 1) rfl (Or.inl (by kernel_rfl)) nd_far nc_far) ra_nil)) (gl (by kernel_rfl)) nd_common_in))))
end K80
namespace K80
open PySem L2 PySem.Spec PyProof.Rows Evl Rx
open Lib
abbrev s_whole : Stmt := top 46
theorem sc_whole : FnScope ["book"] ["book"] (defScope s_whole) := ⟨rfl, rfl, rfl, by decide +kernel, rfl, by decide +kernel, by decide +kernel⟩
theorem ok_whole {P : Program} {w : World} {K : PySem.W.Frag} {mg : Str → Option Value} {base : Heap} {TT : List (Addr × Str)} (T : Txt P K mg) (D : Dfd K mg "whole" "whole" s_whole ["book"]) (C_require_book : Cal P w (KB K TT) mg base 6 "require_book" ["book"] M_require_book) (C_whole_in : Cal P w (KB K TT) mg base 3 "whole_in" ["book"] M_whole_in) : Cal P w (KB K TT) mg base 7 "whole" ["book"] M_whole :=
  cal_of (K := KB K TT) (k := 6) D sc_whole fun f cdv hmm hcv A outer s H E hg hr => by
    have ft := fit_of hg hr
    have nd := sc_whole.nd
    have po := po_def (P := P) (w := w) (K := KB K TT) (mg := mg) (base := base) (N := ["book"]) (qual := "whole") (st := s_whole) (f := f) (cdv := cdv) (A := A) (outer := outer) (s := s) (H := H) (E := E)
    have L := lets_def (P := P) (w := w) (K := KB K TT) (mg := mg) (base := base) (N := ["book"]) (qual := "whole") (st := s_whole) (f := f) (cdv := cdv) (A := A) (outer := outer) (s := s) (H := H) (E := E)
    exact (rss_cons (rs_expr (re_callX L C_require_book hg (hr.mono (by decide)) (ra_cons (re_var (i := 0) rfl (Or.inl (by kernel_rfl)) nd_book nc_book) ra_nil) (gl (by kernel_rfl)) nd_require_book))
      (rss_one (rs_ret (re_cP C_whole_in hg (hr.mono (by decide)) (ra_cons (re_var (i := 0) rfl (Or.inl (by kernel_rfl)) nd_book nc_book) ra_nil) (gl (by kernel_rfl)) nd_whole_in))))
end K80
namespace K80
open PySem L2 PySem.Spec PyProof.Rows Evl Rx
open Lib
abbrev s_counts : Stmt := top 49
theorem sc_counts : FnScope ["book"] ["book"] (defScope s_counts) := ⟨rfl, rfl, rfl, by decide +kernel, rfl, by decide +kernel, by decide +kernel⟩
theorem ok_counts {P : Program} {w : World} {K : PySem.W.Frag} {mg : Str → Option Value} {base : Heap} {TT : List (Addr × Str)} (T : Txt P K mg) (D : Dfd K mg "counts" "counts" s_counts ["book"]) (C_require_book : Cal P w (KB K TT) mg base 6 "require_book" ["book"] M_require_book) (C_counts_in : Cal P w (KB K TT) mg base 4 "counts_in" ["book"] M_counts_in) : Cal P w (KB K TT) mg base 7 "counts" ["book"] M_counts :=
  cal_of (K := KB K TT) (k := 6) D sc_counts fun f cdv hmm hcv A outer s H E hg hr => by
    have ft := fit_of hg hr
    have nd := sc_counts.nd
    have po := po_def (P := P) (w := w) (K := KB K TT) (mg := mg) (base := base) (N := ["book"]) (qual := "counts") (st := s_counts) (f := f) (cdv := cdv) (A := A) (outer := outer) (s := s) (H := H) (E := E)
    have L := lets_def (P := P) (w := w) (K := KB K TT) (mg := mg) (base := base) (N := ["book"]) (qual := "counts") (st := s_counts) (f := f) (cdv := cdv) (A := A) (outer := outer) (s := s) (H := H) (E := E)
    exact (rss_cons (rs_expr (re_callX L C_require_book hg (hr.mono (by decide)) (ra_cons (re_var (i := 0) rfl (Or.inl (by kernel_rfl)) nd_book nc_book) ra_nil) (gl (by kernel_rfl)) nd_require_book))
      (rss_one (rs_ret (re_typ L2.call_tuple_of caS_tuple (ra_cons (re_cP C_counts_in hg (hr.mono (by decide)) (ra_cons (re_var (i := 0) rfl (Or.inl (by kernel_rfl)) nd_book nc_book) ra_nil) (gl (by kernel_rfl)) nd_counts_in) ra_nil) (gl (by kernel_rfl)) T.b_tuple bt_tuple))))
end K80
namespace K80
open PySem L2 PySem.Spec PyProof.Rows Evl Rx
open Lib
abbrev s_book_paper : Stmt := top 50
theorem sc_book_paper : FnScope ["book", "gap"] ["book"] (defScope s_book_paper) := ⟨rfl, rfl, rfl, by decide +kernel, rfl, by decide +kernel, by decide +kernel⟩
theorem ok_book_paper {P : Program} {w : World} {K : PySem.W.Frag} {mg : Str → Option Value} {base : Heap} {TT : List (Addr × Str)} (T : Txt P K mg) (D : Dfd K mg "book_paper" "book_paper" s_book_paper ["book"]) (C_require_book : Cal P w (KB K TT) mg base 6 "require_book" ["book"] M_require_book) (C_gap_in : Cal P w (KB K TT) mg base 5 "gap_in" ["book"] M_gap_in) (C_whole_in : Cal P w (KB K TT) mg base 3 "whole_in" ["book"] M_whole_in) : Cal P w (KB K TT) mg base 7 "book_paper" ["book"] M_book_paper :=
  cal_of (K := KB K TT) (k := 6) D sc_book_paper fun f cdv hmm hcv A outer s H E hg hr => by
    have ft := fit_of hg hr
    have nd := sc_book_paper.nd
    have po := po_def (P := P) (w := w) (K := KB K TT) (mg := mg) (base := base) (N := ["book", "gap"]) (qual := "book_paper") (st := s_book_paper) (f := f) (cdv := cdv) (A := A) (outer := outer) (s := s) (H := H) (E := E)
    have L := lets_def (P := P) (w := w) (K := KB K TT) (mg := mg) (base := base) (N := ["book", "gap"]) (qual := "book_paper") (st := s_book_paper) (f := f) (cdv := cdv) (A := A) (outer := outer) (s := s) (H := H) (E := E)
    exact (rss_cons (rs_expr (re_callX L C_require_book hg (hr.mono (by decide)) (ra_cons (re_var (i := 0) rfl (Or.inl (by kernel_rfl)) nd_book nc_book) ra_nil) (gl (by kernel_rfl)) nd_require_book))
      (rss_cons (rs_asg (re_cP C_gap_in hg (hr.mono (by decide)) (ra_cons (re_var (i := 0) rfl (Or.inl (by kernel_rfl)) nd_book nc_book) ra_nil) (gl (by kernel_rfl)) nd_gap_in) (rg_name (i := 1) nd rfl (Or.inl (by kernel_rfl))))
      (rss_one (rs_ret (re_if (rt_cmp (OpR.or op_isN op_is_bl) opS_is (re_var (i := 1) rfl (Or.inl (by kernel_rfl)) nd_gap nc_gap) re_non (nomark _)) (re_tup (ra_cons (re_gstr (gl (by kernel_rfl)) T.c_ALL.choose_spec nd_ALL) (ra_cons (re_cP C_whole_in hg (hr.mono (by decide)) (ra_cons (re_var (i := 0) rfl (Or.inl (by kernel_rfl)) nd_book nc_book) ra_nil) (gl (by kernel_rfl)) nd_whole_in) ra_nil))) (re_tup (ra_cons (re_gstr (gl (by kernel_rfl)) T.c_GAP.choose_spec nd_GAP) (ra_cons (re_var (i := 1) rfl (Or.inl (by kernel_rfl)) nd_gap nc_gap) ra_nil))))))))
end K80
namespace K80
open PySem L2 PySem.Spec PyProof.Rows Evl Rx
open Lib
abbrev s_is_book_paper : Stmt := top 51
theorem sc_is_book_paper : FnScope ["book", "value"] ["book", "value"] (defScope s_is_book_paper) := ⟨rfl, rfl, rfl, by decide +kernel, rfl, by decide +kernel, by decide +kernel⟩
theorem ok_is_book_paper {P : Program} {w : World} {K : PySem.W.Frag} {mg : Str → Option Value} {base : Heap} {TT : List (Addr × Str)} (T : Txt P K mg) (D : Dfd K mg "is_book_paper" "is_book_paper" s_is_book_paper ["book", "value"]) (C_require_book : Cal P w (KB K TT) mg base 6 "require_book" ["book"] M_require_book) (C_homes_in : Cal P w (KB K TT) mg base 2 "homes_in" ["book", "number"] M_homes_in) (C_gap_in : Cal P w (KB K TT) mg base 5 "gap_in" ["book"] M_gap_in) (C_whole_in : Cal P w (KB K TT) mg base 3 "whole_in" ["book"] M_whole_in) : Cal P w (KB K TT) mg base 7 "is_book_paper" ["book", "value"] M_is_book_paper :=
  cal_of (K := KB K TT) (k := 6) D sc_is_book_paper fun f cdv hmm hcv A outer s H E hg hr => by
    have ft := fit_of hg hr
    have nd := sc_is_book_paper.nd
    have po := po_def (P := P) (w := w) (K := KB K TT) (mg := mg) (base := base) (N := ["book", "value"]) (qual := "is_book_paper") (st := s_is_book_paper) (f := f) (cdv := cdv) (A := A) (outer := outer) (s := s) (H := H) (E := E)
    have L := lets_def (P := P) (w := w) (K := KB K TT) (mg := mg) (base := base) (N := ["book", "value"]) (qual := "is_book_paper") (st := s_is_book_paper) (f := f) (cdv := cdv) (A := A) (outer := outer) (s := s) (H := H) (E := E)
    exact (rss_cons (rs_expr (re_callX L C_require_book hg (hr.mono (by decide)) (ra_cons (re_var (i := 0) rfl (Or.inl (by kernel_rfl)) nd_book nc_book) ra_nil) (gl (by kernel_rfl)) nd_require_book))
      (rss_cons (rs_if (RW.rt (rw_or (rt_not (rt_val (re_isi (T := "tuple") (by decide) (re_var (i := 1) rfl (Or.inl (by kernel_rfl)) nd_value nc_value) (gl (by kernel_rfl)) T.b_isinstance (gl (by kernel_rfl)) T.b_tuple bt_tuple))) (rw_or (rt_cmp (op_neX ft) opS_ne (re_blt L2.call_len caS_len (ra_cons (re_var (i := 1) rfl (Or.inl (by kernel_rfl)) nd_value nc_value) ra_nil) (gl (by kernel_rfl)) T.b_len bt_len) re_int (nomark _)) (rw_or1 (rt_not (rt_val (re_isi (T := "str") (by decide) (re_ix (re_var (i := 1) rfl (Or.inl (by kernel_rfl)) nd_value nc_value) re_int fun _ _ => rfl) (gl (by kernel_rfl)) T.b_isinstance (gl (by kernel_rfl)) T.b_str bt_str))))))) (rss_one (rs_ret re_bl)) rss_nil)
      (rss_cons (rs_if (RW.rt (rw_or (rt_not (rt_val (re_isi (T := "int") (by decide) (re_ix (re_var (i := 1) rfl (Or.inl (by kernel_rfl)) nd_value nc_value) re_int fun _ _ => rfl) (gl (by kernel_rfl)) T.b_isinstance (gl (by kernel_rfl)) T.b_int bt_int))) (rw_or1 (rt_val (re_isi (T := "bool") (by decide) (re_ix (re_var (i := 1) rfl (Or.inl (by kernel_rfl)) nd_value nc_value) re_int fun _ _ => rfl) (gl (by kernel_rfl)) T.b_isinstance (gl (by kernel_rfl)) T.b_bool bt_bool))))) (rss_one (rs_ret re_bl)) rss_nil)
      (rss_cons (rs_if (rt_cmp (op_eqX ft) opS_eq (re_ix (re_var (i := 1) rfl (Or.inl (by kernel_rfl)) nd_value nc_value) re_int fun _ _ => rfl) (re_gstr (gl (by kernel_rfl)) T.c_ALL.choose_spec nd_ALL) (nomark _)) (rss_one (rs_ret (re_b (rb_and (rb_of (re_cmp (OpR.or op_isN op_is_bl) opS_is (re_cP C_gap_in hg (hr.mono (by decide)) (ra_cons (re_var (i := 0) rfl (Or.inl (by kernel_rfl)) nd_book nc_book) ra_nil) (gl (by kernel_rfl)) nd_gap_in) re_non (nomark _))) (rb_one (rb_of (re_cmp (op_eqX ft) opS_eq (re_ix (re_var (i := 1) rfl (Or.inl (by kernel_rfl)) nd_value nc_value) re_int fun _ _ => rfl) (re_cP C_whole_in hg (hr.mono (by decide)) (ra_cons (re_var (i := 0) rfl (Or.inl (by kernel_rfl)) nd_book nc_book) ra_nil) (gl (by kernel_rfl)) nd_whole_in) (nomark _)))))))) rss_nil)
      (rss_one (rs_ret (re_b (rb_and (rb_of (re_cmp (op_eqX ft) opS_eq (re_ix (re_var (i := 1) rfl (Or.inl (by kernel_rfl)) nd_value nc_value) re_int fun _ _ => rfl) (re_gstr (gl (by kernel_rfl)) T.c_GAP.choose_spec nd_GAP) (nomark _))) (rb_one (rb_of (re_cmp (op_eqX ft) opS_eq (re_cP C_homes_in hg (hr.mono (by decide)) (ra_cons (re_var (i := 0) rfl (Or.inl (by kernel_rfl)) nd_book nc_book) (ra_cons (re_ix (re_var (i := 1) rfl (Or.inl (by kernel_rfl)) nd_value nc_value) re_int fun _ _ => rfl) ra_nil)) (gl (by kernel_rfl)) nd_homes_in) (re_tup ra_nil) (nomark _))))))))))))
end K80
namespace K80
open PySem L2 PySem.Spec PyProof.Rows Evl Rx
open Lib
abbrev s_first_gap : Stmt := top 52
theorem sc_first_gap : FnScope ["book"] ["book"] (defScope s_first_gap) := ⟨rfl, rfl, rfl, by decide +kernel, rfl, by decide +kernel, by decide +kernel⟩
theorem ok_first_gap {P : Program} {w : World} {K : PySem.W.Frag} {mg : Str → Option Value} {base : Heap} {TT : List (Addr × Str)} (T : Txt P K mg) (D : Dfd K mg "first_gap" "first_gap" s_first_gap ["book"]) (C_require_book : Cal P w (KB K TT) mg base 6 "require_book" ["book"] M_require_book) (C_gap_in : Cal P w (KB K TT) mg base 5 "gap_in" ["book"] M_gap_in) : Cal P w (KB K TT) mg base 7 "first_gap" ["book"] M_first_gap :=
  cal_of (K := KB K TT) (k := 6) D sc_first_gap fun f cdv hmm hcv A outer s H E hg hr => by
    have ft := fit_of hg hr
    have nd := sc_first_gap.nd
    have po := po_def (P := P) (w := w) (K := KB K TT) (mg := mg) (base := base) (N := ["book"]) (qual := "first_gap") (st := s_first_gap) (f := f) (cdv := cdv) (A := A) (outer := outer) (s := s) (H := H) (E := E)
    have L := lets_def (P := P) (w := w) (K := KB K TT) (mg := mg) (base := base) (N := ["book"]) (qual := "first_gap") (st := s_first_gap) (f := f) (cdv := cdv) (A := A) (outer := outer) (s := s) (H := H) (E := E)
    exact (rss_cons (rs_expr (re_callX L C_require_book hg (hr.mono (by decide)) (ra_cons (re_var (i := 0) rfl (Or.inl (by kernel_rfl)) nd_book nc_book) ra_nil) (gl (by kernel_rfl)) nd_require_book))
      (rss_one (rs_ret (re_cP C_gap_in hg (hr.mono (by decide)) (ra_cons (re_var (i := 0) rfl (Or.inl (by kernel_rfl)) nd_book nc_book) ra_nil) (gl (by kernel_rfl)) nd_gap_in))))
end K80
namespace K80
open PySem L2 PySem.Spec PyProof.Rows Evl Rx
open Lib
abbrev s_does_cover : Stmt := top 53
theorem sc_does_cover : FnScope ["book", "number", "many", "met", "step"] ["book", "number", "many"] (defScope s_does_cover) := ⟨rfl, rfl, rfl, by decide +kernel, rfl, by decide +kernel, by decide +kernel⟩
theorem ok_does_cover {P : Program} {w : World} {K : PySem.W.Frag} {mg : Str → Option Value} {base : Heap} {TT : List (Addr × Str)} (T : Txt P K mg) (D : Dfd K mg "does_cover" "does_cover" s_does_cover ["book", "number", "many"]) (C_require_book : Cal P w (KB K TT) mg base 6 "require_book" ["book"] M_require_book) (C_require_number : Cal P w (KB K TT) mg base 3 "require_number" ["number"] M_require_number) (C_counts_in : Cal P w (KB K TT) mg base 4 "counts_in" ["book"] M_counts_in) (C_is_within : Cal P w (KB K TT) mg base 3 "is_within" ["value", "low", "high"] M_is_within) : Cal P w (KB K TT) mg base 7 "does_cover" ["book", "number", "many"] M_does_cover :=
  cal_of (K := KB K TT) (k := 6) D sc_does_cover fun f cdv hmm hcv A outer s H E hg hr => by
    have ft := fit_of hg hr
    have nd := sc_does_cover.nd
    have po := po_def (P := P) (w := w) (K := KB K TT) (mg := mg) (base := base) (N := ["book", "number", "many", "met", "step"]) (qual := "does_cover") (st := s_does_cover) (f := f) (cdv := cdv) (A := A) (outer := outer) (s := s) (H := H) (E := E)
    have L := lets_def (P := P) (w := w) (K := KB K TT) (mg := mg) (base := base) (N := ["book", "number", "many", "met", "step"]) (qual := "does_cover") (st := s_does_cover) (f := f) (cdv := cdv) (A := A) (outer := outer) (s := s) (H := H) (E := E)
    exact (rss_cons (rs_expr (re_callX L C_require_book hg (hr.mono (by decide)) (ra_cons (re_var (i := 0) rfl (Or.inl (by kernel_rfl)) nd_book nc_book) ra_nil) (gl (by kernel_rfl)) nd_require_book))
      (rss_cons (rs_expr (re_callX L C_require_number hg (hr.mono (by decide)) (ra_cons (re_var (i := 1) rfl (Or.inr (Or.inl (by kernel_rfl))) nd_number nc_number) ra_nil) (gl (by kernel_rfl)) nd_require_number))
      (rss_cons (rs_if (rt_not (rt_val (re_cP C_is_within hg (hr.mono (by decide)) (ra_cons (re_var (i := 2) rfl (Or.inl (by kernel_rfl)) nd_many nc_many) (ra_cons re_int (ra_cons (re_gint (gl (by kernel_rfl)) T.c_MAX_WHOLE.choose_spec nd_MAX_WHOLE) ra_nil))) (gl (by kernel_rfl)) nd_is_within))) (rss_one (rs_raise1 (c := 9) rfl L T.e_InvalidNumber.choose_spec hr rfl (re_var (i := 2) rfl (Or.inl (by kernel_rfl)) nd_many nc_many) (gl (by kernel_rfl)) nd_InvalidNumber)) rss_nil)
      (rss_cons (rs_asg (re_cP C_counts_in hg (hr.mono (by decide)) (ra_cons (re_var (i := 0) rfl (Or.inl (by kernel_rfl)) nd_book nc_book) ra_nil) (gl (by kernel_rfl)) nd_counts_in) (rg_name (i := 3) nd rfl (Or.inr (by kernel_rfl))))
      (rss_one (rs_ret (re_blt (cr_allX ft) ca_all (ra_cons (re_frz (rn_lc rfl nd (ri_range1 (ra_cons (re_var (i := 2) rfl (Or.inl (by kernel_rfl)) nd_many nc_many) ra_nil) (gl (by kernel_rfl)) T.b_range) (blkOk_by (own := [("step", 4)]) (by kernel_rfl)) (fun _ _ _ _ _ => (rg_name (i := 4) nd rfl (Or.inl (by kernel_rfl)))) (by decide) (fun _ _ _ _ _ => rts_nil) (fun _ _ _ _ _ => (re_cmp (op_gtX ft) opS_gt (re_ix (re_var (i := 3) rfl (Or.inr (Or.inl (by kernel_rfl))) nd_met nc_met) (re_op op_mod opS_mod (re_op op_addX opS_add (re_var (i := 1) rfl (Or.inr (Or.inl (by kernel_rfl))) nd_number nc_number) (re_var (i := 4) rfl (Or.inl (by kernel_rfl)) nd_step nc_step)) (re_blt L2.call_len caS_len (ra_cons (re_var (i := 3) rfl (Or.inr (Or.inl (by kernel_rfl))) nd_met nc_met) ra_nil) (gl (by kernel_rfl)) T.b_len bt_len)) fun _ _ => rfl) re_int (nomark _))))) ra_nil) (gl (by kernel_rfl)) T.b_all bt_all)))))))
end K80
namespace K80
open PySem L2 PySem.Spec PyProof.Rows Evl Rx
open Lib
abbrev s_share : Stmt := top 54
theorem sc_share : FnScope ["book"] ["book"] (defScope s_share) := ⟨rfl, rfl, rfl, by decide +kernel, rfl, by decide +kernel, by decide +kernel⟩
theorem ok_share {P : Program} {w : World} {K : PySem.W.Frag} {mg : Str → Option Value} {base : Heap} {TT : List (Addr × Str)} (T : Txt P K mg) (D : Dfd K mg "share" "share" s_share ["book"]) (C_require_book : Cal P w (KB K TT) mg base 6 "require_book" ["book"] M_require_book) (C_lowest : Cal P w (KB K TT) mg base 2 "lowest" ["above", "below"] M_lowest) (C_covered_in : Cal P w (KB K TT) mg base 5 "covered_in" ["book"] M_covered_in) (C_whole_in : Cal P w (KB K TT) mg base 3 "whole_in" ["book"] M_whole_in) : Cal P w (KB K TT) mg base 7 "share" ["book"] M_share :=
  cal_of (K := KB K TT) (k := 6) D sc_share fun f cdv hmm hcv A outer s H E hg hr => by
    have ft := fit_of hg hr
    have nd := sc_share.nd
    have po := po_def (P := P) (w := w) (K := KB K TT) (mg := mg) (base := base) (N := ["book"]) (qual := "share") (st := s_share) (f := f) (cdv := cdv) (A := A) (outer := outer) (s := s) (H := H) (E := E)
    have L := lets_def (P := P) (w := w) (K := KB K TT) (mg := mg) (base := base) (N := ["book"]) (qual := "share") (st := s_share) (f := f) (cdv := cdv) (A := A) (outer := outer) (s := s) (H := H) (E := E)
    exact (rss_cons (rs_expr (re_callX L C_require_book hg (hr.mono (by decide)) (ra_cons (re_var (i := 0) rfl (Or.inl (by kernel_rfl)) nd_book nc_book) ra_nil) (gl (by kernel_rfl)) nd_require_book))
      (rss_one (rs_ret (re_cP C_lowest hg (hr.mono (by decide)) (ra_cons (re_cP C_covered_in hg (hr.mono (by decide)) (ra_cons (re_var (i := 0) rfl (Or.inl (by kernel_rfl)) nd_book nc_book) ra_nil) (gl (by kernel_rfl)) nd_covered_in) (ra_cons (re_cP C_whole_in hg (hr.mono (by decide)) (ra_cons (re_var (i := 0) rfl (Or.inl (by kernel_rfl)) nd_book nc_book) ra_nil) (gl (by kernel_rfl)) nd_whole_in) ra_nil)) (gl (by kernel_rfl)) nd_lowest))))
end K80
namespace K80
open PySem L2 PySem.Spec PyProof.Rows Evl Rx
open Lib
abbrev s_sum_of_shares : Stmt := top 55
theorem sc_sum_of_shares : FnScope ["book"] ["book"] (defScope s_sum_of_shares) := ⟨rfl, rfl, rfl, by decide +kernel, rfl, by decide +kernel, by decide +kernel⟩
theorem ok_sum_of_shares {P : Program} {w : World} {K : PySem.W.Frag} {mg : Str → Option Value} {base : Heap} {TT : List (Addr × Str)} (T : Txt P K mg) (D : Dfd K mg "sum_of_shares" "sum_of_shares" s_sum_of_shares ["book"]) (C_require_book : Cal P w (KB K TT) mg base 6 "require_book" ["book"] M_require_book) (C_sum_in : Cal P w (KB K TT) mg base 4 "sum_in" ["book"] M_sum_in) : Cal P w (KB K TT) mg base 7 "sum_of_shares" ["book"] M_sum_of_shares :=
  cal_of (K := KB K TT) (k := 6) D sc_sum_of_shares fun f cdv hmm hcv A outer s H E hg hr => by
    have ft := fit_of hg hr
    have nd := sc_sum_of_shares.nd
    have po := po_def (P := P) (w := w) (K := KB K TT) (mg := mg) (base := base) (N := ["book"]) (qual := "sum_of_shares") (st := s_sum_of_shares) (f := f) (cdv := cdv) (A := A) (outer := outer) (s := s) (H := H) (E := E)
    have L := lets_def (P := P) (w := w) (K := KB K TT) (mg := mg) (base := base) (N := ["book"]) (qual := "sum_of_shares") (st := s_sum_of_shares) (f := f) (cdv := cdv) (A := A) (outer := outer) (s := s) (H := H) (E := E)
    exact (rss_cons (rs_expr (re_callX L C_require_book hg (hr.mono (by decide)) (ra_cons (re_var (i := 0) rfl (Or.inl (by kernel_rfl)) nd_book nc_book) ra_nil) (gl (by kernel_rfl)) nd_require_book))
      (rss_one (rs_ret (re_cP C_sum_in hg (hr.mono (by decide)) (ra_cons (re_var (i := 0) rfl (Or.inl (by kernel_rfl)) nd_book nc_book) ra_nil) (gl (by kernel_rfl)) nd_sum_in))))
end K80
namespace K80
open PySem L2 PySem.Spec PyProof.Rows Evl Rx
open Lib
abbrev s_needed : Stmt := top 56
theorem sc_needed : FnScope ["book"] ["book"] (defScope s_needed) := ⟨rfl, rfl, rfl, by decide +kernel, rfl, by decide +kernel, by decide +kernel⟩
theorem ok_needed {P : Program} {w : World} {K : PySem.W.Frag} {mg : Str → Option Value} {base : Heap} {TT : List (Addr × Str)} (T : Txt P K mg) (D : Dfd K mg "needed" "needed" s_needed ["book"]) (C_require_book : Cal P w (KB K TT) mg base 6 "require_book" ["book"] M_require_book) (C_needed_in : Cal P w (KB K TT) mg base 5 "needed_in" ["book"] M_needed_in) : Cal P w (KB K TT) mg base 7 "needed" ["book"] M_needed :=
  cal_of (K := KB K TT) (k := 6) D sc_needed fun f cdv hmm hcv A outer s H E hg hr => by
    have ft := fit_of hg hr
    have nd := sc_needed.nd
    have po := po_def (P := P) (w := w) (K := KB K TT) (mg := mg) (base := base) (N := ["book"]) (qual := "needed") (st := s_needed) (f := f) (cdv := cdv) (A := A) (outer := outer) (s := s) (H := H) (E := E)
    have L := lets_def (P := P) (w := w) (K := KB K TT) (mg := mg) (base := base) (N := ["book"]) (qual := "needed") (st := s_needed) (f := f) (cdv := cdv) (A := A) (outer := outer) (s := s) (H := H) (E := E)
    exact (rss_cons (rs_expr (re_callX L C_require_book hg (hr.mono (by decide)) (ra_cons (re_var (i := 0) rfl (Or.inl (by kernel_rfl)) nd_book nc_book) ra_nil) (gl (by kernel_rfl)) nd_require_book))
      (rss_one (rs_ret (re_typ L2.call_tuple_of caS_tuple (ra_cons (re_cP C_needed_in hg (hr.mono (by decide)) (ra_cons (re_var (i := 0) rfl (Or.inl (by kernel_rfl)) nd_book nc_book) ra_nil) (gl (by kernel_rfl)) nd_needed_in) ra_nil) (gl (by kernel_rfl)) T.b_tuple bt_tuple))))
end K80
namespace K80
open PySem L2 PySem.Spec PyProof.Rows Evl Rx
open Lib
abbrev s_left_of_book : Stmt := top 57
theorem sc_left_of_book : FnScope ["book"] ["book"] (defScope s_left_of_book) := ⟨rfl, rfl, rfl, by decide +kernel, rfl, by decide +kernel, by decide +kernel⟩
theorem ok_left_of_book {P : Program} {w : World} {K : PySem.W.Frag} {mg : Str → Option Value} {base : Heap} {TT : List (Addr × Str)} (T : Txt P K mg) (D : Dfd K mg "left_of_book" "left_of_book" s_left_of_book ["book"]) (C_require_book : Cal P w (KB K TT) mg base 6 "require_book" ["book"] M_require_book) (C_left_in : Cal P w (KB K TT) mg base 6 "left_in" ["book"] M_left_in) : Cal P w (KB K TT) mg base 7 "left_of_book" ["book"] M_left_of_book :=
  cal_of (K := KB K TT) (k := 6) D sc_left_of_book fun f cdv hmm hcv A outer s H E hg hr => by
    have ft := fit_of hg hr
    have nd := sc_left_of_book.nd
    have po := po_def (P := P) (w := w) (K := KB K TT) (mg := mg) (base := base) (N := ["book"]) (qual := "left_of_book") (st := s_left_of_book) (f := f) (cdv := cdv) (A := A) (outer := outer) (s := s) (H := H) (E := E)
    have L := lets_def (P := P) (w := w) (K := KB K TT) (mg := mg) (base := base) (N := ["book"]) (qual := "left_of_book") (st := s_left_of_book) (f := f) (cdv := cdv) (A := A) (outer := outer) (s := s) (H := H) (E := E)
    exact (rss_cons (rs_expr (re_callX L C_require_book hg (hr.mono (by decide)) (ra_cons (re_var (i := 0) rfl (Or.inl (by kernel_rfl)) nd_book nc_book) ra_nil) (gl (by kernel_rfl)) nd_require_book))
      (rss_one (rs_ret (re_cP C_left_in hg (hr.mono (by decide)) (ra_cons (re_var (i := 0) rfl (Or.inl (by kernel_rfl)) nd_book nc_book) ra_nil) (gl (by kernel_rfl)) nd_left_in))))
end K80
namespace K80
open PySem L2 PySem.Spec PyProof.Rows Evl Rx
open Lib
abbrev s_exact_paper : Stmt := top 58
theorem sc_exact_paper : FnScope ["book", "wrong", "number", "many"] ["book"] (defScope s_exact_paper) := ⟨rfl, rfl, rfl, by decide +kernel, rfl, by decide +kernel, by decide +kernel⟩
theorem ok_exact_paper {P : Program} {w : World} {K : PySem.W.Frag} {mg : Str → Option Value} {base : Heap} {TT : List (Addr × Str)} (T : Txt P K mg) (D : Dfd K mg "exact_paper" "exact_paper" s_exact_paper ["book"]) (C_require_book : Cal P w (KB K TT) mg base 6 "require_book" ["book"] M_require_book) (C_homes_in : Cal P w (KB K TT) mg base 2 "homes_in" ["book", "number"] M_homes_in) (C_counts_in : Cal P w (KB K TT) mg base 4 "counts_in" ["book"] M_counts_in) : Cal P w (KB K TT) mg base 7 "exact_paper" ["book"] M_exact_paper :=
  cal_of (K := KB K TT) (k := 6) D sc_exact_paper fun f cdv hmm hcv A outer s H E hg hr => by
    have ft := fit_of hg hr
    have nd := sc_exact_paper.nd
    have po := po_def (P := P) (w := w) (K := KB K TT) (mg := mg) (base := base) (N := ["book", "wrong", "number", "many"]) (qual := "exact_paper") (st := s_exact_paper) (f := f) (cdv := cdv) (A := A) (outer := outer) (s := s) (H := H) (E := E)
    have L := lets_def (P := P) (w := w) (K := KB K TT) (mg := mg) (base := base) (N := ["book", "wrong", "number", "many"]) (qual := "exact_paper") (st := s_exact_paper) (f := f) (cdv := cdv) (A := A) (outer := outer) (s := s) (H := H) (E := E)
    exact (rss_cons (rs_expr (re_callX L C_require_book hg (hr.mono (by decide)) (ra_cons (re_var (i := 0) rfl (Or.inl (by kernel_rfl)) nd_book nc_book) ra_nil) (gl (by kernel_rfl)) nd_require_book))
      (rss_cons (rs_setLc (i := 1) rfl nd rfl rfl rfl (ri_enum (re_cP C_counts_in hg (hr.mono (by decide)) (ra_cons (re_var (i := 0) rfl (Or.inl (by kernel_rfl)) nd_book nc_book) ra_nil) (gl (by kernel_rfl)) nd_counts_in) (gl (by kernel_rfl)) T.b_enumerate) (blkOk_by (own := [("number", 2), ("many", 3)]) (by kernel_rfl)) (fun _ _ _ _ _ => (rg_tup (n := 2) rfl (rgs_cons (rg_name (i := 2) nd rfl (Or.inl (by kernel_rfl))) (rgs_cons (rg_name (i := 3) nd rfl (Or.inl (by kernel_rfl))) rgs_nil)))) (by decide) (fun _ _ _ _ _ => (rts_one (rt_cmp (op_neX ft) opS_ne (re_var (i := 3) rfl (Or.inl (by kernel_rfl)) nd_many nc_many) re_int (nomark _)))) (fun _ _ _ _ _ => (re_var (i := 2) rfl (Or.inl (by kernel_rfl)) nd_number nc_number)))
      (rss_one (rs_ret (re_if (rt_cmp (op_eqX ft) opS_eq (re_var (i := 1) rfl (Or.inl (by kernel_rfl)) nd_wrong nc_wrong) (re_frz (rn_lst ra_nil)) (nomark _)) (re_tup (ra_cons (re_gstr (gl (by kernel_rfl)) T.c_EXACT.choose_spec nd_EXACT) ra_nil)) (re_tup (ra_cons (re_gstr (gl (by kernel_rfl)) T.c_NUMBER.choose_spec nd_NUMBER) (ra_cons (re_ix (re_var (i := 1) rfl (Or.inl (by kernel_rfl)) nd_wrong nc_wrong) re_int fun _ _ => rfl) (ra_cons (re_cP C_homes_in hg (hr.mono (by decide)) (ra_cons (re_var (i := 0) rfl (Or.inl (by kernel_rfl)) nd_book nc_book) (ra_cons (re_ix (re_var (i := 1) rfl (Or.inl (by kernel_rfl)) nd_wrong nc_wrong) re_int fun _ _ => rfl) ra_nil)) (gl (by kernel_rfl)) nd_homes_in) ra_nil)))))))))
end K80
namespace K80
open PySem L2 PySem.Spec PyProof.Rows Evl Rx
open Lib
abbrev s_is_exact_paper : Stmt := top 59
theorem sc_is_exact_paper : FnScope ["book", "value", "many"] ["book", "value"] (defScope s_is_exact_paper) := ⟨rfl, rfl, rfl, by decide +kernel, rfl, by decide +kernel, by decide +kernel⟩
theorem ok_is_exact_paper {P : Program} {w : World} {K : PySem.W.Frag} {mg : Str → Option Value} {base : Heap} {TT : List (Addr × Str)} (T : Txt P K mg) (D : Dfd K mg "is_exact_paper" "is_exact_paper" s_is_exact_paper ["book", "value"]) (C_require_book : Cal P w (KB K TT) mg base 6 "require_book" ["book"] M_require_book) (C_homes_in : Cal P w (KB K TT) mg base 2 "homes_in" ["book", "number"] M_homes_in) (C_are_indices_in : Cal P w (KB K TT) mg base 4 "are_indices_in" ["book", "value"] M_are_indices_in) (C_counts_in : Cal P w (KB K TT) mg base 4 "counts_in" ["book"] M_counts_in) : Cal P w (KB K TT) mg base 7 "is_exact_paper" ["book", "value"] M_is_exact_paper :=
  cal_of (K := KB K TT) (k := 6) D sc_is_exact_paper fun f cdv hmm hcv A outer s H E hg hr => by
    have ft := fit_of hg hr
    have nd := sc_is_exact_paper.nd
    have po := po_def (P := P) (w := w) (K := KB K TT) (mg := mg) (base := base) (N := ["book", "value", "many"]) (qual := "is_exact_paper") (st := s_is_exact_paper) (f := f) (cdv := cdv) (A := A) (outer := outer) (s := s) (H := H) (E := E)
    have L := lets_def (P := P) (w := w) (K := KB K TT) (mg := mg) (base := base) (N := ["book", "value", "many"]) (qual := "is_exact_paper") (st := s_is_exact_paper) (f := f) (cdv := cdv) (A := A) (outer := outer) (s := s) (H := H) (E := E)
    exact (rss_cons (rs_expr (re_callX L C_require_book hg (hr.mono (by decide)) (ra_cons (re_var (i := 0) rfl (Or.inl (by kernel_rfl)) nd_book nc_book) ra_nil) (gl (by kernel_rfl)) nd_require_book))
      (rss_cons (rs_if (RW.rt (rw_or (rt_not (rt_val (re_isi (T := "tuple") (by decide) (re_var (i := 1) rfl (Or.inl (by kernel_rfl)) nd_value nc_value) (gl (by kernel_rfl)) T.b_isinstance (gl (by kernel_rfl)) T.b_tuple bt_tuple))) (rw_or (rt_cmp (op_notInX ft) opS_notIn (re_blt L2.call_len caS_len (ra_cons (re_var (i := 1) rfl (Or.inl (by kernel_rfl)) nd_value nc_value) ra_nil) (gl (by kernel_rfl)) T.b_len bt_len) (re_tup (ra_cons re_int (ra_cons re_int ra_nil))) rfl) (rw_or1 (rt_not (rt_val (re_isi (T := "str") (by decide) (re_ix (re_var (i := 1) rfl (Or.inl (by kernel_rfl)) nd_value nc_value) re_int fun _ _ => rfl) (gl (by kernel_rfl)) T.b_isinstance (gl (by kernel_rfl)) T.b_str bt_str))))))) (rss_one (rs_ret re_bl)) rss_nil)
      (rss_cons (rs_if (rt_cmp (op_eqX ft) opS_eq (re_blt L2.call_len caS_len (ra_cons (re_var (i := 1) rfl (Or.inl (by kernel_rfl)) nd_value nc_value) ra_nil) (gl (by kernel_rfl)) T.b_len bt_len) re_int (nomark _)) (rss_one (rs_ret (re_b (rb_and (rb_of (re_cmp (op_eqX ft) opS_eq (re_ix (re_var (i := 1) rfl (Or.inl (by kernel_rfl)) nd_value nc_value) re_int fun _ _ => rfl) (re_gstr (gl (by kernel_rfl)) T.c_EXACT.choose_spec nd_EXACT) (nomark _))) (rb_one (rb_of (re_blt (cr_allX ft) ca_all (ra_cons (re_frz (rn_lc rfl nd (ri_seq (re_cP C_counts_in hg (hr.mono (by decide)) (ra_cons (re_var (i := 0) rfl (Or.inl (by kernel_rfl)) nd_book nc_book) ra_nil) (gl (by kernel_rfl)) nd_counts_in)) (blkOk_by (own := [("many", 2)]) (by kernel_rfl)) (fun _ _ _ _ _ => (rg_name (i := 2) nd rfl (Or.inl (by kernel_rfl)))) (by decide) (fun _ _ _ _ _ => rts_nil) (fun _ _ _ _ _ => (re_cmp (op_eqX ft) opS_eq (re_var (i := 2) rfl (Or.inl (by kernel_rfl)) nd_many nc_many) re_int (nomark _))))) ra_nil) (gl (by kernel_rfl)) T.b_all bt_all))))))) rss_nil)
      (rss_cons (rs_if (RW.rt (rw_or (rt_cmp (op_neX ft) opS_ne (re_ix (re_var (i := 1) rfl (Or.inl (by kernel_rfl)) nd_value nc_value) re_int fun _ _ => rfl) (re_gstr (gl (by kernel_rfl)) T.c_NUMBER.choose_spec nd_NUMBER) (nomark _)) (rw_or (rt_not (rt_val (re_isi (T := "int") (by decide) (re_ix (re_var (i := 1) rfl (Or.inl (by kernel_rfl)) nd_value nc_value) re_int fun _ _ => rfl) (gl (by kernel_rfl)) T.b_isinstance (gl (by kernel_rfl)) T.b_int bt_int))) (rw_or1 (rt_val (re_isi (T := "bool") (by decide) (re_ix (re_var (i := 1) rfl (Or.inl (by kernel_rfl)) nd_value nc_value) re_int fun _ _ => rfl) (gl (by kernel_rfl)) T.b_isinstance (gl (by kernel_rfl)) T.b_bool bt_bool)))))) (rss_one (rs_ret re_bl)) rss_nil)
      (rss_cons (rs_if (RW.rt (rw_or (rt_not (rt_val (re_cP C_are_indices_in hg (hr.mono (by decide)) (ra_cons (re_var (i := 0) rfl (Or.inl (by kernel_rfl)) nd_book nc_book) (ra_cons (re_ix (re_var (i := 1) rfl (Or.inl (by kernel_rfl)) nd_value nc_value) re_int fun _ _ => rfl) ra_nil)) (gl (by kernel_rfl)) nd_are_indices_in))) (rw_or1 (rt_cmp (op_eqX ft) opS_eq (re_blt L2.call_len caS_len (ra_cons (re_ix (re_var (i := 1) rfl (Or.inl (by kernel_rfl)) nd_value nc_value) re_int fun _ _ => rfl) ra_nil) (gl (by kernel_rfl)) T.b_len bt_len) re_int (nomark _))))) (rss_one (rs_ret re_bl)) rss_nil)
      (rss_one (rs_ret (re_cmp (op_eqX ft) opS_eq (re_ix (re_var (i := 1) rfl (Or.inl (by kernel_rfl)) nd_value nc_value) re_int fun _ _ => rfl) (re_cP C_homes_in hg (hr.mono (by decide)) (ra_cons (re_var (i := 0) rfl (Or.inl (by kernel_rfl)) nd_book nc_book) (ra_cons (re_ix (re_var (i := 1) rfl (Or.inl (by kernel_rfl)) nd_value nc_value) re_int fun _ _ => rfl) ra_nil)) (gl (by kernel_rfl)) nd_homes_in) (nomark _)))))))))
end K80
namespace K80
open PySem L2 PySem.Spec PyProof.Rows Evl Rx
open Lib
abbrev s_parted : Stmt := top 60
theorem sc_parted : FnScope ["book", "index", "many", "rest", "found", "at", "one"] ["book", "index", "many"] (defScope s_parted) := ⟨rfl, rfl, rfl, by decide +kernel, rfl, by decide +kernel, by decide +kernel⟩
theorem ok_parted {P : Program} {w : World} {K : PySem.W.Frag} {mg : Str → Option Value} {base : Heap} {TT : List (Addr × Str)} (T : Txt P K mg) (D : Dfd K mg "parted" "parted" s_parted ["book", "index", "many"]) (C_require_book : Cal P w (KB K TT) mg base 6 "require_book" ["book"] M_require_book) (C_is_within : Cal P w (KB K TT) mg base 3 "is_within" ["value", "low", "high"] M_is_within) (C_is_book_in : Cal P w (KB K TT) mg base 5 "is_book_in" ["value"] M_is_book_in) (C_parts_of : Cal P w (KB K TT) mg base 1 "parts_of" ["one", "many"] M_parts_of) : Cal P w (KB K TT) mg base 7 "parted" ["book", "index", "many"] M_parted :=
  cal_of (K := KB K TT) (k := 6) D sc_parted fun f cdv hmm hcv A outer s H E hg hr => by
    have ft := fit_of hg hr
    have nd := sc_parted.nd
    have po := po_def (P := P) (w := w) (K := KB K TT) (mg := mg) (base := base) (N := ["book", "index", "many", "rest", "found", "at", "one"]) (qual := "parted") (st := s_parted) (f := f) (cdv := cdv) (A := A) (outer := outer) (s := s) (H := H) (E := E)
    have L := lets_def (P := P) (w := w) (K := KB K TT) (mg := mg) (base := base) (N := ["book", "index", "many", "rest", "found", "at", "one"]) (qual := "parted") (st := s_parted) (f := f) (cdv := cdv) (A := A) (outer := outer) (s := s) (H := H) (E := E)
    exact (rss_cons (rs_expr (re_callX L C_require_book hg (hr.mono (by decide)) (ra_cons (re_var (i := 0) rfl (Or.inl (by kernel_rfl)) nd_book nc_book) ra_nil) (gl (by kernel_rfl)) nd_require_book))
      (rss_cons (rs_if (rt_not (rt_val (re_cP C_is_within hg (hr.mono (by decide)) (ra_cons (re_var (i := 1) rfl (Or.inr (Or.inl (by kernel_rfl))) nd_index nc_index) (ra_cons re_int (ra_cons (re_op op_sub opS_sub (re_blt L2.call_len caS_len (ra_cons (re_var (i := 0) rfl (Or.inl (by kernel_rfl)) nd_book nc_book) ra_nil) (gl (by kernel_rfl)) T.b_len bt_len) re_int) ra_nil))) (gl (by kernel_rfl)) nd_is_within))) (rss_one (rs_raise1 (c := 9) rfl L T.e_InvalidNumber.choose_spec hr rfl (re_var (i := 1) rfl (Or.inr (Or.inl (by kernel_rfl))) nd_index nc_index) (gl (by kernel_rfl)) nd_InvalidNumber)) rss_nil)
      (rss_cons (rs_if (rt_not (rt_val (re_cP C_is_within hg (hr.mono (by decide)) (ra_cons (re_var (i := 2) rfl (Or.inl (by kernel_rfl)) nd_many nc_many) (ra_cons re_int (ra_cons (re_gint (gl (by kernel_rfl)) T.c_MAX_STEP.choose_spec nd_MAX_STEP) ra_nil))) (gl (by kernel_rfl)) nd_is_within))) (rss_one (rs_raise1 (c := 9) rfl L T.e_InvalidNumber.choose_spec hr rfl (re_var (i := 2) rfl (Or.inl (by kernel_rfl)) nd_many nc_many) (gl (by kernel_rfl)) nd_InvalidNumber)) rss_nil)
      (rss_cons (rs_setLc (i := 3) rfl nd rfl rfl rfl (ri_enum (re_var (i := 0) rfl (Or.inl (by kernel_rfl)) nd_book nc_book) (gl (by kernel_rfl)) T.b_enumerate) (blkOk_by (own := [("at", 5), ("one", 6)]) (by kernel_rfl)) (fun _ _ _ _ _ => (rg_tup (n := 2) rfl (rgs_cons (rg_name (i := 5) nd rfl (Or.inl (by kernel_rfl))) (rgs_cons (rg_name (i := 6) nd rfl (Or.inl (by kernel_rfl))) rgs_nil)))) (by decide) (fun _ _ _ _ _ => (rts_one (rt_cmp (op_neX ft) opS_ne (re_var (i := 5) rfl (Or.inl (by kernel_rfl)) nd_at nc_at) (re_var (i := 1) rfl (Or.inr (Or.inl (by kernel_rfl))) nd_index nc_index) (nomark _)))) (fun _ _ _ _ _ => (re_var (i := 6) rfl (Or.inl (by kernel_rfl)) nd_one nc_one)))
      (rss_cons (rs_asg (re_typ L2.call_tuple_of caS_tuple (ra_cons (re_frz (rn_blt (cr_srtA ft) caN_srtA (ra_cons (re_frz (rn_lst (ra_star (re_var (i := 3) rfl (Or.inl (by kernel_rfl)) nd_rest nc_rest) (ra_star (re_cP C_parts_of hg (hr.mono (by decide)) (ra_cons (re_ix (re_var (i := 0) rfl (Or.inl (by kernel_rfl)) nd_book nc_book) (re_var (i := 1) rfl (Or.inr (Or.inl (by kernel_rfl))) nd_index nc_index) fun _ _ => rfl) (ra_cons (re_var (i := 2) rfl (Or.inl (by kernel_rfl)) nd_many nc_many) ra_nil)) (gl (by kernel_rfl)) nd_parts_of) ra_nil)))) ra_nil) (gl (by kernel_rfl)) T.b_sorted bt_sorted)) ra_nil) (gl (by kernel_rfl)) T.b_tuple bt_tuple) (rg_name (i := 4) nd rfl (Or.inl (by kernel_rfl))))
      (rss_cons (rs_if (rt_not (rt_val (re_cP C_is_book_in hg (hr.mono (by decide)) (ra_cons (re_var (i := 4) rfl (Or.inl (by kernel_rfl)) nd_found nc_found) ra_nil) (gl (by kernel_rfl)) nd_is_book_in))) (rss_one (rs_raise0 (c := 7) rfl L T.e_InvalidOperation.choose_spec rfl (gl (by kernel_rfl)) nd_InvalidOperation)) rss_nil)
      (rss_one (rs_ret (re_var (i := 4) rfl (Or.inl (by kernel_rfl)) nd_found nc_found)))))))))
end K80
namespace K80
open PySem L2 PySem.Spec PyProof.Rows Evl Rx
open Lib
abbrev s_joined : Stmt := top 61
theorem sc_joined : FnScope ["book", "indices", "one", "index", "at", "far"] ["book", "indices"] (defScope s_joined) := ⟨rfl, rfl, rfl, by decide +kernel, rfl, by decide +kernel, by decide +kernel⟩
theorem ok_joined {P : Program} {w : World} {K : PySem.W.Frag} {mg : Str → Option Value} {base : Heap} {TT : List (Addr × Str)} (T : Txt P K mg) (D : Dfd K mg "joined" "joined" s_joined ["book", "indices"]) (C_require_book : Cal P w (KB K TT) mg base 6 "require_book" ["book"] M_require_book) (C_joined_of : Cal P w (KB K TT) mg base 2 "joined_of" ["classes"] M_joined_of) (C_are_indices_in : Cal P w (KB K TT) mg base 4 "are_indices_in" ["book", "value"] M_are_indices_in) : Cal P w (KB K TT) mg base 7 "joined" ["book", "indices"] M_joined :=
  cal_of (K := KB K TT) (k := 6) D sc_joined fun f cdv hmm hcv A outer s H E hg hr => by
    have ft := fit_of hg hr
    have nd := sc_joined.nd
    have po := po_def (P := P) (w := w) (K := KB K TT) (mg := mg) (base := base) (N := ["book", "indices", "one", "index", "at", "far"]) (qual := "joined") (st := s_joined) (f := f) (cdv := cdv) (A := A) (outer := outer) (s := s) (H := H) (E := E)
    have L := lets_def (P := P) (w := w) (K := KB K TT) (mg := mg) (base := base) (N := ["book", "indices", "one", "index", "at", "far"]) (qual := "joined") (st := s_joined) (f := f) (cdv := cdv) (A := A) (outer := outer) (s := s) (H := H) (E := E)
    exact (rss_cons (rs_expr (re_callX L C_require_book hg (hr.mono (by decide)) (ra_cons (re_var (i := 0) rfl (Or.inr (Or.inl (by kernel_rfl))) nd_book nc_book) ra_nil) (gl (by kernel_rfl)) nd_require_book))
      (rss_cons (rs_if (RW.rt (rw_or (rt_not (rt_val (re_cP C_are_indices_in hg (hr.mono (by decide)) (ra_cons (re_var (i := 0) rfl (Or.inr (Or.inl (by kernel_rfl))) nd_book nc_book) (ra_cons (re_var (i := 1) rfl (Or.inr (Or.inl (by kernel_rfl))) nd_indices nc_indices) ra_nil)) (gl (by kernel_rfl)) nd_are_indices_in))) (rw_or1 (rt_cmp (op_ltX ft) opS_lt (re_blt L2.call_len caS_len (ra_cons (re_var (i := 1) rfl (Or.inr (Or.inl (by kernel_rfl))) nd_indices nc_indices) ra_nil) (gl (by kernel_rfl)) T.b_len bt_len) re_int (nomark _))))) (rss_one (rs_raise0 (c := 4) rfl L T.e_InvalidReport.choose_spec rfl (gl (by kernel_rfl)) nd_InvalidReport)) rss_nil)
      (rss_cons (rs_asg (re_cP C_joined_of hg (hr.mono (by decide)) (ra_cons (re_frz (rn_lc rfl nd (ri_seq (re_var (i := 1) rfl (Or.inr (Or.inl (by kernel_rfl))) nd_indices nc_indices)) (blkOk_by (own := [("index", 3)]) (by kernel_rfl)) (fun _ _ _ _ _ => (rg_name (i := 3) nd rfl (Or.inl (by kernel_rfl)))) (by decide) (fun _ _ _ _ _ => rts_nil) (fun _ _ _ _ _ => (re_ix (re_var (i := 0) rfl (Or.inr (Or.inl (by kernel_rfl))) nd_book nc_book) (re_var (i := 3) rfl (Or.inl (by kernel_rfl)) nd_index nc_index) fun _ _ => rfl)))) ra_nil) (gl (by kernel_rfl)) nd_joined_of) (rg_name (i := 2) nd rfl (Or.inl (by kernel_rfl))))
      (rss_cons (rs_if (RW.rt (rw_or (rt_cmp (OpR.or op_isN op_is_bl) opS_is (re_var (i := 2) rfl (Or.inl (by kernel_rfl)) nd_one nc_one) re_non (nomark _)) (rw_or1 (rt_cmp (op_inX ft) opS_in (re_var (i := 2) rfl (Or.inl (by kernel_rfl)) nd_one nc_one) (re_var (i := 0) rfl (Or.inr (Or.inl (by kernel_rfl))) nd_book nc_book) rfl)))) (rss_one (rs_raise0 (c := 7) rfl L T.e_InvalidOperation.choose_spec rfl (gl (by kernel_rfl)) nd_InvalidOperation)) rss_nil)
      (rss_one (rs_ret (re_typ L2.call_tuple_of caS_tuple (ra_cons (re_frz (rn_blt (cr_srtA ft) caN_srtA (ra_cons (re_frz (rn_lst (ra_cons (re_var (i := 2) rfl (Or.inl (by kernel_rfl)) nd_one nc_one) (ra_star (re_frz (rn_lc rfl nd (ri_enum (re_var (i := 0) rfl (Or.inr (Or.inl (by kernel_rfl))) nd_book nc_book) (gl (by kernel_rfl)) T.b_enumerate) (blkOk_by (own := [("at", 4), ("far", 5)]) (by kernel_rfl)) (fun _ _ _ _ _ => (rg_tup (n := 2) rfl (rgs_cons (rg_name (i := 4) nd rfl (Or.inl (by kernel_rfl))) (rgs_cons (rg_name (i := 5) nd rfl (Or.inl (by kernel_rfl))) rgs_nil)))) (by decide) (fun _ _ _ _ _ => (rts_one (rt_cmp (op_notInX ft) opS_notIn (re_var (i := 4) rfl (Or.inl (by kernel_rfl)) nd_at nc_at) (re_var (i := 1) rfl (Or.inr (Or.inl (by kernel_rfl))) nd_indices nc_indices) rfl))) (fun _ _ _ _ _ => (re_var (i := 5) rfl (Or.inl (by kernel_rfl)) nd_far nc_far)))) ra_nil)))) ra_nil) (gl (by kernel_rfl)) T.b_sorted bt_sorted)) ra_nil) (gl (by kernel_rfl)) T.b_tuple bt_tuple)))))))
end K80
namespace K80
open PySem L2 PySem.Spec PyProof.Rows Evl Rx
open Lib
abbrev s__law_of_book : Stmt := top 67
theorem sc__law_of_book : FnScope ["book", "told"] ["book"] (defScope s__law_of_book) := ⟨rfl, rfl, rfl, by decide +kernel, rfl, by decide +kernel, by decide +kernel⟩
theorem ok__law_of_book {P : Program} {w : World} {K : PySem.W.Frag} {mg : Str → Option Value} {base : Heap} {TT : List (Addr × Str)} (T : Txt P K mg) (D : Dfd K mg "_law_of_book" "_law_of_book" s__law_of_book ["book"]) (C_is_book_paper : Cal P w (KB K TT) mg base 7 "is_book_paper" ["book", "value"] M_is_book_paper) (C_is_exact_paper : Cal P w (KB K TT) mg base 7 "is_exact_paper" ["book", "value"] M_is_exact_paper) (C_whole : Cal P w (KB K TT) mg base 7 "whole" ["book"] M_whole) (C_counts : Cal P w (KB K TT) mg base 7 "counts" ["book"] M_counts) (C_book_paper : Cal P w (KB K TT) mg base 7 "book_paper" ["book"] M_book_paper) (C_first_gap : Cal P w (KB K TT) mg base 7 "first_gap" ["book"] M_first_gap) (C_share : Cal P w (KB K TT) mg base 7 "share" ["book"] M_share) (C_sum_of_shares : Cal P w (KB K TT) mg base 7 "sum_of_shares" ["book"] M_sum_of_shares) (C_needed : Cal P w (KB K TT) mg base 7 "needed" ["book"] M_needed) (C_left_of_book : Cal P w (KB K TT) mg base 7 "left_of_book" ["book"] M_left_of_book) (C_exact_paper : Cal P w (KB K TT) mg base 7 "exact_paper" ["book"] M_exact_paper) {c0 P0 : Addr} (Dg : Dfd K mg "_law_met" "_law_met" s__law_met ["call"]) (TB : LamX.TabB base mg c0 P0) (hmT : (P0, ("_law_of_book" ++ ".<locals>." ++ "<lambda>" : Str)) ∈ TT) (hu : ∀ p ∈ TT, p.1 = P0 → p.2 = ("_law_of_book" ++ ".<locals>." ++ "<lambda>" : Str)) (hcd : ∀ (f : Addr) (cdv : Value), mg "_law_of_book" = some (.ref f) → CodeAt K f cdv → cdv = .ref c0) : Cal P w (KB K TT) mg base 10 "_law_of_book" ["book"] M__law_of_book :=
  cal_of (K := KB K TT) (k := 9) D sc__law_of_book fun f cdv hmm hcv A outer s H E hg hr => by
    have ft := fit_of hg hr
    have nd := sc__law_of_book.nd
    have po := po_def (P := P) (w := w) (K := KB K TT) (mg := mg) (base := base) (N := ["book", "told"]) (qual := "_law_of_book") (st := s__law_of_book) (f := f) (cdv := cdv) (A := A) (outer := outer) (s := s) (H := H) (E := E)
    have L := lets_def (P := P) (w := w) (K := KB K TT) (mg := mg) (base := base) (N := ["book", "told"]) (qual := "_law_of_book") (st := s__law_of_book) (f := f) (cdv := cdv) (A := A) (outer := outer) (s := s) (H := H) (E := E)
    exact (rss_cons (rs_asgM (i := 1) (rn_lst (ra_cons (re_lam (k := 7) (n := 2) (M := z__law_met) Dg sc__law_met rfl (Or.inl (by kernel_rfl)) rfl (gv__law_met T) hi__law_met TB (hcd _ _ hmm hcv) rfl hmT hu hg (hr.mono (by decide)) (LamX.lamS_by (by kernel_rfl)) rfl (fun _ _ _ _ _ => rfl) (fun A outer z H E f c1 hg hr => have ft := fit_of hg hr; have L := lets_lam; (re_cmp (OpR.or op_isN op_is_bl) opS_is (re_callX L C_whole hg (hr.mono (by decide)) (ra_cons (re_var (i := 0) rfl (Or.inr (Or.inr (by kernel_rfl))) nd_book nc_book) ra_nil) (gl (by kernel_rfl)) nd_whole) re_non (nomark _))) (gl (by kernel_rfl)) nd__law_met) ra_nil)) nd rfl (Or.inl (by kernel_rfl)))
      (rss_cons (rs_expr (re_append (i := 1) (re_lam (k := 7) (n := 2) (M := z__law_met) Dg sc__law_met rfl (Or.inl (by kernel_rfl)) rfl (gv__law_met T) hi__law_met TB (hcd _ _ hmm hcv) rfl hmT hu hg (hr.mono (by decide)) (LamX.lamS_by (by kernel_rfl)) rfl (fun _ _ _ _ _ => rfl) (fun A outer z H E f c1 hg hr => have ft := fit_of hg hr; have L := lets_lam; (re_cmp (OpR.or op_isN op_is_bl) opS_is (re_callX L C_counts hg (hr.mono (by decide)) (ra_cons (re_var (i := 0) rfl (Or.inr (Or.inr (by kernel_rfl))) nd_book nc_book) ra_nil) (gl (by kernel_rfl)) nd_counts) re_non (nomark _))) (gl (by kernel_rfl)) nd__law_met) rfl (Or.inl (by kernel_rfl)) nd_told nc_told))
      (rss_cons (rs_expr (re_append (i := 1) (re_lam (k := 7) (n := 2) (M := z__law_met) Dg sc__law_met rfl (Or.inl (by kernel_rfl)) rfl (gv__law_met T) hi__law_met TB (hcd _ _ hmm hcv) rfl hmT hu hg (hr.mono (by decide)) (LamX.lamS_by (by kernel_rfl)) rfl (fun _ _ _ _ _ => rfl) (fun A outer z H E f c1 hg hr => have ft := fit_of hg hr; have L := lets_lam; (re_cmp (OpR.or op_isN op_is_bl) opS_is (re_callX L C_book_paper hg (hr.mono (by decide)) (ra_cons (re_var (i := 0) rfl (Or.inr (Or.inr (by kernel_rfl))) nd_book nc_book) ra_nil) (gl (by kernel_rfl)) nd_book_paper) re_non (nomark _))) (gl (by kernel_rfl)) nd__law_met) rfl (Or.inl (by kernel_rfl)) nd_told nc_told))
      (rss_cons (rs_expr (re_append (i := 1) (re_lam (k := 7) (n := 2) (M := z__law_met) Dg sc__law_met rfl (Or.inl (by kernel_rfl)) rfl (gv__law_met T) hi__law_met TB (hcd _ _ hmm hcv) rfl hmT hu hg (hr.mono (by decide)) (LamX.lamS_by (by kernel_rfl)) rfl (fun _ _ _ _ _ => rfl) (fun A outer z H E f c1 hg hr => have ft := fit_of hg hr; have L := lets_lam; (re_callX L C_is_book_paper hg (hr.mono (by decide)) (ra_cons (re_var (i := 0) rfl (Or.inr (Or.inr (by kernel_rfl))) nd_book nc_book) (ra_cons re_non ra_nil)) (gl (by kernel_rfl)) nd_is_book_paper)) (gl (by kernel_rfl)) nd__law_met) rfl (Or.inl (by kernel_rfl)) nd_told nc_told))
      (rss_cons (rs_expr (re_append (i := 1) (re_lam (k := 7) (n := 2) (M := z__law_met) Dg sc__law_met rfl (Or.inl (by kernel_rfl)) rfl (gv__law_met T) hi__law_met TB (hcd _ _ hmm hcv) rfl hmT hu hg (hr.mono (by decide)) (LamX.lamS_by (by kernel_rfl)) rfl (fun _ _ _ _ _ => rfl) (fun A outer z H E f c1 hg hr => have ft := fit_of hg hr; have L := lets_lam; (re_cmp (op_eqX ft) opS_eq (re_callX L C_first_gap hg (hr.mono (by decide)) (ra_cons (re_var (i := 0) rfl (Or.inr (Or.inr (by kernel_rfl))) nd_book nc_book) ra_nil) (gl (by kernel_rfl)) nd_first_gap) re_str (nomark _))) (gl (by kernel_rfl)) nd__law_met) rfl (Or.inl (by kernel_rfl)) nd_told nc_told))
      (rss_cons (rs_expr (re_append (i := 1) (re_lam (k := 7) (n := 2) (M := z__law_met) Dg sc__law_met rfl (Or.inl (by kernel_rfl)) rfl (gv__law_met T) hi__law_met TB (hcd _ _ hmm hcv) rfl hmT hu hg (hr.mono (by decide)) (LamX.lamS_by (by kernel_rfl)) rfl (fun _ _ _ _ _ => rfl) (fun A outer z H E f c1 hg hr => have ft := fit_of hg hr; have L := lets_lam; (re_cmp (OpR.or op_isN op_is_bl) opS_is (re_callX L C_share hg (hr.mono (by decide)) (ra_cons (re_var (i := 0) rfl (Or.inr (Or.inr (by kernel_rfl))) nd_book nc_book) ra_nil) (gl (by kernel_rfl)) nd_share) re_non (nomark _))) (gl (by kernel_rfl)) nd__law_met) rfl (Or.inl (by kernel_rfl)) nd_told nc_told))
      (rss_cons (rs_expr (re_append (i := 1) (re_lam (k := 7) (n := 2) (M := z__law_met) Dg sc__law_met rfl (Or.inl (by kernel_rfl)) rfl (gv__law_met T) hi__law_met TB (hcd _ _ hmm hcv) rfl hmT hu hg (hr.mono (by decide)) (LamX.lamS_by (by kernel_rfl)) rfl (fun _ _ _ _ _ => rfl) (fun A outer z H E f c1 hg hr => have ft := fit_of hg hr; have L := lets_lam; (re_cmp (OpR.or op_isN op_is_bl) opS_is (re_callX L C_sum_of_shares hg (hr.mono (by decide)) (ra_cons (re_var (i := 0) rfl (Or.inr (Or.inr (by kernel_rfl))) nd_book nc_book) ra_nil) (gl (by kernel_rfl)) nd_sum_of_shares) re_non (nomark _))) (gl (by kernel_rfl)) nd__law_met) rfl (Or.inl (by kernel_rfl)) nd_told nc_told))
      (rss_cons (rs_expr (re_append (i := 1) (re_lam (k := 7) (n := 2) (M := z__law_met) Dg sc__law_met rfl (Or.inl (by kernel_rfl)) rfl (gv__law_met T) hi__law_met TB (hcd _ _ hmm hcv) rfl hmT hu hg (hr.mono (by decide)) (LamX.lamS_by (by kernel_rfl)) rfl (fun _ _ _ _ _ => rfl) (fun A outer z H E f c1 hg hr => have ft := fit_of hg hr; have L := lets_lam; (re_cmp (OpR.or op_isN op_is_bl) opS_is (re_callX L C_needed hg (hr.mono (by decide)) (ra_cons (re_var (i := 0) rfl (Or.inr (Or.inr (by kernel_rfl))) nd_book nc_book) ra_nil) (gl (by kernel_rfl)) nd_needed) re_non (nomark _))) (gl (by kernel_rfl)) nd__law_met) rfl (Or.inl (by kernel_rfl)) nd_told nc_told))
      (rss_cons (rs_expr (re_append (i := 1) (re_lam (k := 7) (n := 2) (M := z__law_met) Dg sc__law_met rfl (Or.inl (by kernel_rfl)) rfl (gv__law_met T) hi__law_met TB (hcd _ _ hmm hcv) rfl hmT hu hg (hr.mono (by decide)) (LamX.lamS_by (by kernel_rfl)) rfl (fun _ _ _ _ _ => rfl) (fun A outer z H E f c1 hg hr => have ft := fit_of hg hr; have L := lets_lam; (re_cmp (OpR.or op_isN op_is_bl) opS_is (re_callX L C_left_of_book hg (hr.mono (by decide)) (ra_cons (re_var (i := 0) rfl (Or.inr (Or.inr (by kernel_rfl))) nd_book nc_book) ra_nil) (gl (by kernel_rfl)) nd_left_of_book) re_non (nomark _))) (gl (by kernel_rfl)) nd__law_met) rfl (Or.inl (by kernel_rfl)) nd_told nc_told))
      (rss_cons (rs_expr (re_append (i := 1) (re_lam (k := 7) (n := 2) (M := z__law_met) Dg sc__law_met rfl (Or.inl (by kernel_rfl)) rfl (gv__law_met T) hi__law_met TB (hcd _ _ hmm hcv) rfl hmT hu hg (hr.mono (by decide)) (LamX.lamS_by (by kernel_rfl)) rfl (fun _ _ _ _ _ => rfl) (fun A outer z H E f c1 hg hr => have ft := fit_of hg hr; have L := lets_lam; (re_cmp (OpR.or op_isN op_is_bl) opS_is (re_callX L C_exact_paper hg (hr.mono (by decide)) (ra_cons (re_var (i := 0) rfl (Or.inr (Or.inr (by kernel_rfl))) nd_book nc_book) ra_nil) (gl (by kernel_rfl)) nd_exact_paper) re_non (nomark _))) (gl (by kernel_rfl)) nd__law_met) rfl (Or.inl (by kernel_rfl)) nd_told nc_told))
      (rss_cons (rs_expr (re_append (i := 1) (re_lam (k := 7) (n := 2) (M := z__law_met) Dg sc__law_met rfl (Or.inl (by kernel_rfl)) rfl (gv__law_met T) hi__law_met TB (hcd _ _ hmm hcv) rfl hmT hu hg (hr.mono (by decide)) (LamX.lamS_by (by kernel_rfl)) rfl (fun _ _ _ _ _ => rfl) (fun A outer z H E f c1 hg hr => have ft := fit_of hg hr; have L := lets_lam; (re_callX L C_is_exact_paper hg (hr.mono (by decide)) (ra_cons (re_var (i := 0) rfl (Or.inr (Or.inr (by kernel_rfl))) nd_book nc_book) (ra_cons re_non ra_nil)) (gl (by kernel_rfl)) nd_is_exact_paper)) (gl (by kernel_rfl)) nd__law_met) rfl (Or.inl (by kernel_rfl)) nd_told nc_told))
      (rss_one (rs_ret (re_var (i := 1) rfl (Or.inl (by kernel_rfl)) nd_told nc_told))))))))))))))
end K80
namespace K80
open PySem L2 PySem.Spec PyProof.Rows Evl Rx
open Lib
abbrev s__law_right : Stmt := top 68
theorem sc__law_right : FnScope ["jar", "odd", "book", "good", "fine", "one", "number", "index", "many", "indices", "told", "far", "there", "due", "at"] ["jar"] (defScope s__law_right) := ⟨rfl, rfl, rfl, by decide +kernel, rfl, by decide +kernel, by decide +kernel⟩
theorem ok__law_right {P : Program} {w : World} {K : PySem.W.Frag} {mg : Str → Option Value} {base : Heap} {TT : List (Addr × Str)} (T : Txt P K mg) (D : Dfd K mg "_law_right" "_law_right" s__law_right ["jar"]) (C__law_one : Cal P w (KB K TT) mg base 2 "_law_one" ["jar", "items"] M__law_one) (C__law_of_book : Cal P w (KB K TT) mg base 10 "_law_of_book" ["book"] M__law_of_book) (C_is_book : Cal P w (KB K TT) mg base 6 "is_book" ["value"] M_is_book) (C_is_class : Cal P w (KB K TT) mg base 5 "is_class" ["value"] M_is_class) (C_is_in : Cal P w (KB K TT) mg base 6 "is_in" ["one", "number"] M_is_in) (C_common_class : Cal P w (KB K TT) mg base 6 "common_class" ["one", "far"] M_common_class) (C_does_cover : Cal P w (KB K TT) mg base 7 "does_cover" ["book", "number", "many"] M_does_cover) (C_parted : Cal P w (KB K TT) mg base 7 "parted" ["book", "index", "many"] M_parted) (C_joined : Cal P w (KB K TT) mg base 7 "joined" ["book", "indices"] M_joined) {c0 P0 : Addr} (Dg : Dfd K mg "_law_met" "_law_met" s__law_met ["call"]) (TB : LamX.TabB base mg c0 P0) (hmT : (P0, ("_law_right" ++ ".<locals>." ++ "<lambda>" : Str)) ∈ TT) (hu : ∀ p ∈ TT, p.1 = P0 → p.2 = ("_law_right" ++ ".<locals>." ++ "<lambda>" : Str)) (hcd : ∀ (f : Addr) (cdv : Value), mg "_law_right" = some (.ref f) → CodeAt K f cdv → cdv = .ref c0) : Cal P w (KB K TT) mg base 11 "_law_right" ["jar"] M__law_right :=
  cal_of (K := KB K TT) (k := 10) D sc__law_right fun f cdv hmm hcv A outer s H E hg hr => by
    have ft := fit_of hg hr
    have nd := sc__law_right.nd
    have po := po_def (P := P) (w := w) (K := KB K TT) (mg := mg) (base := base) (N := ["jar", "odd", "book", "good", "fine", "one", "number", "index", "many", "indices", "told", "far", "there", "due", "at"]) (qual := "_law_right") (st := s__law_right) (f := f) (cdv := cdv) (A := A) (outer := outer) (s := s) (H := H) (E := E)
    have L := lets_def (P := P) (w := w) (K := KB K TT) (mg := mg) (base := base) (N := ["jar", "odd", "book", "good", "fine", "one", "number", "index", "many", "indices", "told", "far", "there", "due", "at"]) (qual := "_law_right") (st := s__law_right) (f := f) (cdv := cdv) (A := A) (outer := outer) (s := s) (H := H) (E := E)
    exact (rss_cons (rs_asg (re_frz (rn_lst (ra_cons re_non (ra_cons (re_tup ra_nil) (ra_cons (re_frz (rn_lst (ra_cons (re_tup (ra_cons re_int (ra_cons re_int ra_nil))) ra_nil))) (ra_cons (re_tup (ra_cons (re_tup (ra_cons re_int (ra_cons re_int ra_nil))) (ra_cons (re_tup (ra_cons re_int (ra_cons re_int ra_nil))) ra_nil))) (ra_cons (re_tup (ra_cons (re_tup (ra_cons re_int (ra_cons re_int ra_nil))) (ra_cons (re_tup (ra_cons re_int (ra_cons re_int ra_nil))) ra_nil))) (ra_cons (re_tup (ra_cons (re_tup (ra_cons re_int (ra_cons re_int ra_nil))) ra_nil)) (ra_cons (re_tup (ra_cons (re_tup (ra_cons re_int (ra_cons re_int ra_nil))) ra_nil)) (ra_cons (re_tup (ra_cons (re_tup (ra_cons re_int (ra_cons re_int ra_nil))) ra_nil)) (ra_cons (re_tup (ra_cons (re_tup (ra_cons re_int (ra_cons (re_un un_neg unS_neg re_int) ra_nil))) ra_nil)) (ra_cons (re_tup (ra_cons (re_tup (ra_cons re_int (ra_cons re_bl ra_nil))) ra_nil)) (ra_cons (re_tup (ra_cons (re_tup (ra_cons re_int ra_nil)) ra_nil)) (ra_cons (re_tup (ra_cons re_int (ra_cons re_int ra_nil))) (ra_cons (re_tup (ra_cons (re_tup (ra_cons re_int (ra_cons re_int (ra_cons re_int ra_nil)))) ra_nil)) (ra_cons re_int (ra_cons re_dnil (ra_cons re_str ra_nil)))))))))))))))))) (rg_name (i := 1) nd rfl (Or.inl (by kernel_rfl))))
      (rss_cons (rs_asg (re_frz (rn_cat (re_var (i := 1) rfl (Or.inl (by kernel_rfl)) nd_odd nc_odd) (re_frz (rn_lst (ra_cons (re_typ L2.call_tuple_of caS_tuple (ra_cons (re_frz (rn_lc rfl nd (ri_range1 (ra_cons re_int ra_nil) (gl (by kernel_rfl)) T.b_range) (blkOk_by (own := [("at", 14)]) (by kernel_rfl)) (fun _ _ _ _ _ => (rg_name (i := 14) nd rfl (Or.inl (by kernel_rfl)))) (by decide) (fun _ _ _ _ _ => rts_nil) (fun _ _ _ _ _ => (re_tup (ra_cons re_int (ra_cons (re_var (i := 14) rfl (Or.inl (by kernel_rfl)) nd_at nc_at) ra_nil)))))) ra_nil) (gl (by kernel_rfl)) T.b_tuple bt_tuple) (ra_cons (re_tup (ra_cons (re_tup (ra_cons re_int (ra_cons re_int ra_nil))) (ra_cons (re_tup (ra_cons re_int (ra_cons re_int ra_nil))) (ra_cons (re_tup (ra_cons re_int (ra_cons re_int ra_nil))) (ra_cons (re_tup (ra_cons re_int (ra_cons re_int ra_nil))) (ra_cons (re_tup (ra_cons re_int (ra_cons re_int ra_nil))) ra_nil)))))) (ra_cons (re_tup (ra_cons (re_tup (ra_cons re_int (ra_cons re_int ra_nil))) (ra_cons (re_tup (ra_cons re_int (ra_cons re_int ra_nil))) (ra_cons (re_tup (ra_cons re_int (ra_cons re_int ra_nil))) ra_nil)))) ra_nil))))))) (rg_name (i := 1) nd rfl (Or.inl (by kernel_rfl))))
      (rss_cons (rs_asg (re_tup (ra_cons (re_cFD C__law_one hg (hr.mono (by decide)) (ra_cons (re_var (i := 0) rfl (Or.inl (by kernel_rfl)) nd_jar nc_jar) (ra_cons (re_var (i := 1) rfl (Or.inl (by kernel_rfl)) nd_odd nc_odd) ra_nil)) (gl (by kernel_rfl)) nd__law_one) (ra_cons (re_tup (ra_cons (re_tup (ra_cons re_int (ra_cons re_int ra_nil))) (ra_cons (re_tup (ra_cons re_int (ra_cons re_int ra_nil))) (ra_cons (re_tup (ra_cons re_int (ra_cons re_int ra_nil))) ra_nil)))) (ra_cons (re_tup (ra_cons re_str (ra_cons re_bl ra_nil))) ra_nil)))) (rg_tup (n := 3) rfl (rgs_cons (rg_name (i := 2) nd rfl (Or.inr (by kernel_rfl))) (rgs_cons (rg_name (i := 3) nd rfl (Or.inr (by kernel_rfl))) (rgs_cons (rg_name (i := 4) nd rfl (Or.inl (by kernel_rfl))) rgs_nil)))))
      (rss_cons (rs_if (RW.rt (rw_or (rt_cmp (op_neX ft) opS_ne (re_cP C__law_of_book hg (hr.mono (by decide)) (ra_cons (re_var (i := 2) rfl (Or.inr (Or.inl (by kernel_rfl))) nd_book nc_book) ra_nil) (gl (by kernel_rfl)) nd__law_of_book) (re_frz (rn_rep (rn_lst (ra_cons (re_tup (ra_cons re_str ra_nil)) ra_nil)) re_int)) (nomark _)) (rw_or (rt_cmp (op_neX ft) opS_ne (re_cP C__law_of_book hg (hr.mono (by decide)) (ra_cons (re_var (i := 3) rfl (Or.inr (Or.inl (by kernel_rfl))) nd_good nc_good) ra_nil) (gl (by kernel_rfl)) nd__law_of_book) (re_frz (rn_rep (rn_lst (ra_cons (re_var (i := 4) rfl (Or.inl (by kernel_rfl)) nd_fine nc_fine) ra_nil)) re_int)) (nomark _)) (rw_or (rt_cmp (OpR.or op_notN op_isnot_bl) opS_isnot (re_cP C_is_book hg (hr.mono (by decide)) (ra_cons (re_var (i := 2) rfl (Or.inr (Or.inl (by kernel_rfl))) nd_book nc_book) ra_nil) (gl (by kernel_rfl)) nd_is_book) re_bl (nomark _)) (rw_or1 (rt_cmp (OpR.or op_notN op_isnot_bl) opS_isnot (re_cP C_is_book hg (hr.mono (by decide)) (ra_cons (re_var (i := 3) rfl (Or.inr (Or.inl (by kernel_rfl))) nd_good nc_good) ra_nil) (gl (by kernel_rfl)) nd_is_book) re_bl (nomark _))))))) (rss_one (rs_ret re_bl)) rss_nil)
      (rss_cons (rs_asg (re_cFD C__law_one hg (hr.mono (by decide)) (ra_cons (re_var (i := 0) rfl (Or.inl (by kernel_rfl)) nd_jar nc_jar) (ra_cons (re_frz (rn_lst (ra_cons re_non (ra_cons (re_tup ra_nil) (ra_cons (re_tup (ra_cons re_int ra_nil)) (ra_cons (re_frz (rn_lst (ra_cons re_int (ra_cons re_int ra_nil)))) (ra_cons (re_tup (ra_cons re_int (ra_cons re_int ra_nil))) (ra_cons (re_tup (ra_cons re_int (ra_cons re_int ra_nil))) (ra_cons (re_tup (ra_cons re_int (ra_cons re_int ra_nil))) (ra_cons (re_tup (ra_cons re_int (ra_cons re_bl ra_nil))) (ra_cons (re_tup (ra_cons re_bl (ra_cons re_int ra_nil))) (ra_cons (re_tup (ra_cons re_int (ra_cons re_int (ra_cons re_int ra_nil)))) (ra_cons re_int ra_nil))))))))))))) ra_nil)) (gl (by kernel_rfl)) nd__law_one) (rg_name (i := 5) nd rfl (Or.inr (by kernel_rfl))))
      (rss_cons (rs_asg (re_tup (ra_cons (re_cFD C__law_one hg (hr.mono (by decide)) (ra_cons (re_var (i := 0) rfl (Or.inl (by kernel_rfl)) nd_jar nc_jar) (ra_cons (re_frz (rn_lst (ra_cons re_non (ra_cons re_bl (ra_cons re_str (ra_cons (re_tup (ra_cons re_int ra_nil)) (ra_cons (re_op op_pow opS_pow re_int re_int) ra_nil))))))) ra_nil)) (gl (by kernel_rfl)) nd__law_one) (ra_cons (re_cFD C__law_one hg (hr.mono (by decide)) (ra_cons (re_var (i := 0) rfl (Or.inl (by kernel_rfl)) nd_jar nc_jar) (ra_cons (re_frz (rn_lst (ra_cons re_int (ra_cons (re_un un_neg unS_neg re_int) (ra_cons re_non (ra_cons re_bl (ra_cons re_str ra_nil))))))) ra_nil)) (gl (by kernel_rfl)) nd__law_one) ra_nil))) (rg_tup (n := 2) rfl (rgs_cons (rg_name (i := 6) nd rfl (Or.inr (by kernel_rfl))) (rgs_cons (rg_name (i := 7) nd rfl (Or.inr (by kernel_rfl))) rgs_nil))))
      (rss_cons (rs_asg (re_tup (ra_cons (re_cFD C__law_one hg (hr.mono (by decide)) (ra_cons (re_var (i := 0) rfl (Or.inl (by kernel_rfl)) nd_jar nc_jar) (ra_cons (re_frz (rn_lst (ra_cons re_int (ra_cons re_int (ra_cons re_int (ra_cons re_non (ra_cons re_bl (ra_cons re_str ra_nil)))))))) ra_nil)) (gl (by kernel_rfl)) nd__law_one) (ra_cons (re_cFD C__law_one hg (hr.mono (by decide)) (ra_cons (re_var (i := 0) rfl (Or.inl (by kernel_rfl)) nd_jar nc_jar) (ra_cons (re_frz (rn_lst (ra_cons re_non (ra_cons (re_tup ra_nil) (ra_cons (re_tup (ra_cons re_int ra_nil)) (ra_cons (re_frz (rn_lst (ra_cons re_int (ra_cons re_int ra_nil)))) (ra_cons (re_tup (ra_cons re_int (ra_cons re_int ra_nil))) (ra_cons (re_tup (ra_cons re_int (ra_cons re_int ra_nil))) (ra_cons (re_tup (ra_cons re_int (ra_cons re_int ra_nil))) (ra_cons (re_tup (ra_cons (re_un un_neg unS_neg re_int) (ra_cons re_int ra_nil))) (ra_cons (re_tup (ra_cons re_int (ra_cons re_bl ra_nil))) (ra_cons re_int ra_nil)))))))))))) ra_nil)) (gl (by kernel_rfl)) nd__law_one) ra_nil))) (rg_tup (n := 2) rfl (rgs_cons (rg_name (i := 8) nd rfl (Or.inr (by kernel_rfl))) (rgs_cons (rg_name (i := 9) nd rfl (Or.inr (by kernel_rfl))) rgs_nil))))
      (rss_cons (rs_asgM (i := 10) (rn_lst (ra_cons (re_lam (k := 7) (n := 2) (M := z__law_met) Dg sc__law_met rfl (Or.inl (by kernel_rfl)) rfl (gv__law_met T) hi__law_met TB (hcd _ _ hmm hcv) rfl hmT hu hg (hr.mono (by decide)) (LamX.lamS_by (by kernel_rfl)) rfl (fun _ _ _ _ _ => rfl) (fun A outer z H E f c1 hg hr => have ft := fit_of hg hr; have L := lets_lam; (re_callX L C_is_in hg (hr.mono (by decide)) (ra_cons (re_var (i := 5) rfl (Or.inr (Or.inr (by kernel_rfl))) nd_one nc_one) (ra_cons (re_var (i := 6) rfl (Or.inr (Or.inr (by kernel_rfl))) nd_number nc_number) ra_nil)) (gl (by kernel_rfl)) nd_is_in)) (gl (by kernel_rfl)) nd__law_met) ra_nil)) nd rfl (Or.inl (by kernel_rfl)))
      (rss_cons (rs_expr (re_append (i := 10) (re_lam (k := 7) (n := 2) (M := z__law_met) Dg sc__law_met rfl (Or.inl (by kernel_rfl)) rfl (gv__law_met T) hi__law_met TB (hcd _ _ hmm hcv) rfl hmT hu hg (hr.mono (by decide)) (LamX.lamS_by (by kernel_rfl)) rfl (fun _ _ _ _ _ => rfl) (fun A outer z H E f c1 hg hr => have ft := fit_of hg hr; have L := lets_lam; (re_callX L C_is_in hg (hr.mono (by decide)) (ra_cons (re_tup (ra_cons re_int (ra_cons re_int ra_nil))) (ra_cons (re_var (i := 6) rfl (Or.inr (Or.inr (by kernel_rfl))) nd_number nc_number) ra_nil)) (gl (by kernel_rfl)) nd_is_in)) (gl (by kernel_rfl)) nd__law_met) rfl (Or.inl (by kernel_rfl)) nd_told nc_told))
      (rss_cons (rs_expr (re_append (i := 10) (re_lam (k := 7) (n := 2) (M := z__law_met) Dg sc__law_met rfl (Or.inl (by kernel_rfl)) rfl (gv__law_met T) hi__law_met TB (hcd _ _ hmm hcv) rfl hmT hu hg (hr.mono (by decide)) (LamX.lamS_by (by kernel_rfl)) rfl (fun _ _ _ _ _ => rfl) (fun A outer z H E f c1 hg hr => have ft := fit_of hg hr; have L := lets_lam; (re_callX L C_common_class hg (hr.mono (by decide)) (ra_cons (re_var (i := 5) rfl (Or.inr (Or.inr (by kernel_rfl))) nd_one nc_one) (ra_cons (re_var (i := 5) rfl (Or.inr (Or.inr (by kernel_rfl))) nd_one nc_one) ra_nil)) (gl (by kernel_rfl)) nd_common_class)) (gl (by kernel_rfl)) nd__law_met) rfl (Or.inl (by kernel_rfl)) nd_told nc_told))
      (rss_cons (rs_expr (re_append (i := 10) (re_lam (k := 7) (n := 2) (M := z__law_met) Dg sc__law_met rfl (Or.inl (by kernel_rfl)) rfl (gv__law_met T) hi__law_met TB (hcd _ _ hmm hcv) rfl hmT hu hg (hr.mono (by decide)) (LamX.lamS_by (by kernel_rfl)) rfl (fun _ _ _ _ _ => rfl) (fun A outer z H E f c1 hg hr => have ft := fit_of hg hr; have L := lets_lam; (re_callX L C_common_class hg (hr.mono (by decide)) (ra_cons (re_tup (ra_cons re_int (ra_cons re_int ra_nil))) (ra_cons (re_var (i := 5) rfl (Or.inr (Or.inr (by kernel_rfl))) nd_one nc_one) ra_nil)) (gl (by kernel_rfl)) nd_common_class)) (gl (by kernel_rfl)) nd__law_met) rfl (Or.inl (by kernel_rfl)) nd_told nc_told))
      (rss_cons (rs_expr (re_append (i := 10) (re_lam (k := 7) (n := 2) (M := z__law_met) Dg sc__law_met rfl (Or.inl (by kernel_rfl)) rfl (gv__law_met T) hi__law_met TB (hcd _ _ hmm hcv) rfl hmT hu hg (hr.mono (by decide)) (LamX.lamS_by (by kernel_rfl)) rfl (fun _ _ _ _ _ => rfl) (fun A outer z H E f c1 hg hr => have ft := fit_of hg hr; have L := lets_lam; (re_callX L C_does_cover hg (hr.mono (by decide)) (ra_cons (re_var (i := 2) rfl (Or.inr (Or.inr (by kernel_rfl))) nd_book nc_book) (ra_cons (re_var (i := 6) rfl (Or.inr (Or.inr (by kernel_rfl))) nd_number nc_number) (ra_cons re_int ra_nil))) (gl (by kernel_rfl)) nd_does_cover)) (gl (by kernel_rfl)) nd__law_met) rfl (Or.inl (by kernel_rfl)) nd_told nc_told))
      (rss_cons (rs_expr (re_append (i := 10) (re_lam (k := 7) (n := 2) (M := z__law_met) Dg sc__law_met rfl (Or.inl (by kernel_rfl)) rfl (gv__law_met T) hi__law_met TB (hcd _ _ hmm hcv) rfl hmT hu hg (hr.mono (by decide)) (LamX.lamS_by (by kernel_rfl)) rfl (fun _ _ _ _ _ => rfl) (fun A outer z H E f c1 hg hr => have ft := fit_of hg hr; have L := lets_lam; (re_callX L C_does_cover hg (hr.mono (by decide)) (ra_cons (re_var (i := 3) rfl (Or.inr (Or.inr (by kernel_rfl))) nd_good nc_good) (ra_cons (re_var (i := 6) rfl (Or.inr (Or.inr (by kernel_rfl))) nd_number nc_number) (ra_cons re_int ra_nil))) (gl (by kernel_rfl)) nd_does_cover)) (gl (by kernel_rfl)) nd__law_met) rfl (Or.inl (by kernel_rfl)) nd_told nc_told))
      (rss_cons (rs_expr (re_append (i := 10) (re_lam (k := 7) (n := 2) (M := z__law_met) Dg sc__law_met rfl (Or.inl (by kernel_rfl)) rfl (gv__law_met T) hi__law_met TB (hcd _ _ hmm hcv) rfl hmT hu hg (hr.mono (by decide)) (LamX.lamS_by (by kernel_rfl)) rfl (fun _ _ _ _ _ => rfl) (fun A outer z H E f c1 hg hr => have ft := fit_of hg hr; have L := lets_lam; (re_callX L C_does_cover hg (hr.mono (by decide)) (ra_cons (re_var (i := 3) rfl (Or.inr (Or.inr (by kernel_rfl))) nd_good nc_good) (ra_cons re_int (ra_cons re_int ra_nil))) (gl (by kernel_rfl)) nd_does_cover)) (gl (by kernel_rfl)) nd__law_met) rfl (Or.inl (by kernel_rfl)) nd_told nc_told))
      (rss_cons (rs_expr (re_append (i := 10) (re_lam (k := 7) (n := 2) (M := z__law_met) Dg sc__law_met rfl (Or.inl (by kernel_rfl)) rfl (gv__law_met T) hi__law_met TB (hcd _ _ hmm hcv) rfl hmT hu hg (hr.mono (by decide)) (LamX.lamS_by (by kernel_rfl)) rfl (fun _ _ _ _ _ => rfl) (fun A outer z H E f c1 hg hr => have ft := fit_of hg hr; have L := lets_lam; (re_callX L C_does_cover hg (hr.mono (by decide)) (ra_cons (re_var (i := 3) rfl (Or.inr (Or.inr (by kernel_rfl))) nd_good nc_good) (ra_cons re_int (ra_cons re_int ra_nil))) (gl (by kernel_rfl)) nd_does_cover)) (gl (by kernel_rfl)) nd__law_met) rfl (Or.inl (by kernel_rfl)) nd_told nc_told))
      (rss_cons (rs_expr (re_append (i := 10) (re_lam (k := 7) (n := 2) (M := z__law_met) Dg sc__law_met rfl (Or.inl (by kernel_rfl)) rfl (gv__law_met T) hi__law_met TB (hcd _ _ hmm hcv) rfl hmT hu hg (hr.mono (by decide)) (LamX.lamS_by (by kernel_rfl)) rfl (fun _ _ _ _ _ => rfl) (fun A outer z H E f c1 hg hr => have ft := fit_of hg hr; have L := lets_lam; (re_callX L C_parted hg (hr.mono (by decide)) (ra_cons (re_var (i := 2) rfl (Or.inr (Or.inr (by kernel_rfl))) nd_book nc_book) (ra_cons (re_var (i := 7) rfl (Or.inr (Or.inr (by kernel_rfl))) nd_index nc_index) (ra_cons (re_var (i := 8) rfl (Or.inr (Or.inr (by kernel_rfl))) nd_many nc_many) ra_nil))) (gl (by kernel_rfl)) nd_parted)) (gl (by kernel_rfl)) nd__law_met) rfl (Or.inl (by kernel_rfl)) nd_told nc_told))
      (rss_cons (rs_expr (re_append (i := 10) (re_lam (k := 7) (n := 2) (M := z__law_met) Dg sc__law_met rfl (Or.inl (by kernel_rfl)) rfl (gv__law_met T) hi__law_met TB (hcd _ _ hmm hcv) rfl hmT hu hg (hr.mono (by decide)) (LamX.lamS_by (by kernel_rfl)) rfl (fun _ _ _ _ _ => rfl) (fun A outer z H E f c1 hg hr => have ft := fit_of hg hr; have L := lets_lam; (re_callX L C_parted hg (hr.mono (by decide)) (ra_cons (re_var (i := 3) rfl (Or.inr (Or.inr (by kernel_rfl))) nd_good nc_good) (ra_cons (re_var (i := 7) rfl (Or.inr (Or.inr (by kernel_rfl))) nd_index nc_index) (ra_cons (re_var (i := 8) rfl (Or.inr (Or.inr (by kernel_rfl))) nd_many nc_many) ra_nil))) (gl (by kernel_rfl)) nd_parted)) (gl (by kernel_rfl)) nd__law_met) rfl (Or.inl (by kernel_rfl)) nd_told nc_told))
      (rss_cons (rs_expr (re_append (i := 10) (re_lam (k := 7) (n := 2) (M := z__law_met) Dg sc__law_met rfl (Or.inl (by kernel_rfl)) rfl (gv__law_met T) hi__law_met TB (hcd _ _ hmm hcv) rfl hmT hu hg (hr.mono (by decide)) (LamX.lamS_by (by kernel_rfl)) rfl (fun _ _ _ _ _ => rfl) (fun A outer z H E f c1 hg hr => have ft := fit_of hg hr; have L := lets_lam; (re_callX L C_parted hg (hr.mono (by decide)) (ra_cons (re_var (i := 3) rfl (Or.inr (Or.inr (by kernel_rfl))) nd_good nc_good) (ra_cons re_int (ra_cons (re_var (i := 8) rfl (Or.inr (Or.inr (by kernel_rfl))) nd_many nc_many) ra_nil))) (gl (by kernel_rfl)) nd_parted)) (gl (by kernel_rfl)) nd__law_met) rfl (Or.inl (by kernel_rfl)) nd_told nc_told))
      (rss_cons (rs_expr (re_append (i := 10) (re_lam (k := 7) (n := 2) (M := z__law_met) Dg sc__law_met rfl (Or.inl (by kernel_rfl)) rfl (gv__law_met T) hi__law_met TB (hcd _ _ hmm hcv) rfl hmT hu hg (hr.mono (by decide)) (LamX.lamS_by (by kernel_rfl)) rfl (fun _ _ _ _ _ => rfl) (fun A outer z H E f c1 hg hr => have ft := fit_of hg hr; have L := lets_lam; (re_callX L C_joined hg (hr.mono (by decide)) (ra_cons (re_var (i := 2) rfl (Or.inr (Or.inr (by kernel_rfl))) nd_book nc_book) (ra_cons (re_var (i := 9) rfl (Or.inr (Or.inr (by kernel_rfl))) nd_indices nc_indices) ra_nil)) (gl (by kernel_rfl)) nd_joined)) (gl (by kernel_rfl)) nd__law_met) rfl (Or.inl (by kernel_rfl)) nd_told nc_told))
      (rss_cons (rs_expr (re_append (i := 10) (re_lam (k := 7) (n := 2) (M := z__law_met) Dg sc__law_met rfl (Or.inl (by kernel_rfl)) rfl (gv__law_met T) hi__law_met TB (hcd _ _ hmm hcv) rfl hmT hu hg (hr.mono (by decide)) (LamX.lamS_by (by kernel_rfl)) rfl (fun _ _ _ _ _ => rfl) (fun A outer z H E f c1 hg hr => have ft := fit_of hg hr; have L := lets_lam; (re_callX L C_joined hg (hr.mono (by decide)) (ra_cons (re_var (i := 3) rfl (Or.inr (Or.inr (by kernel_rfl))) nd_good nc_good) (ra_cons (re_var (i := 9) rfl (Or.inr (Or.inr (by kernel_rfl))) nd_indices nc_indices) ra_nil)) (gl (by kernel_rfl)) nd_joined)) (gl (by kernel_rfl)) nd__law_met) rfl (Or.inl (by kernel_rfl)) nd_told nc_told))
      (rss_cons (rs_expr (re_append (i := 10) (re_lam (k := 7) (n := 2) (M := z__law_met) Dg sc__law_met rfl (Or.inl (by kernel_rfl)) rfl (gv__law_met T) hi__law_met TB (hcd _ _ hmm hcv) rfl hmT hu hg (hr.mono (by decide)) (LamX.lamS_by (by kernel_rfl)) rfl (fun _ _ _ _ _ => rfl) (fun A outer z H E f c1 hg hr => have ft := fit_of hg hr; have L := lets_lam; (re_callX L C_joined hg (hr.mono (by decide)) (ra_cons (re_var (i := 3) rfl (Or.inr (Or.inr (by kernel_rfl))) nd_good nc_good) (ra_cons (re_tup (ra_cons re_int (ra_cons re_int ra_nil))) ra_nil)) (gl (by kernel_rfl)) nd_joined)) (gl (by kernel_rfl)) nd__law_met) rfl (Or.inl (by kernel_rfl)) nd_told nc_told))
      (rss_cons (rs_par (i := 11) (j := 12) rfl nd rfl rfl (by decide) rfl rfl (ra_cons (re_tup (ra_cons re_str (ra_cons (re_blt (cr_reprY ft) ca_reprX (ra_cons (re_var (i := 6) rfl (Or.inr (Or.inl (by kernel_rfl))) nd_number nc_number) ra_nil) (gl (by kernel_rfl)) T.b_repr bt_repr) ra_nil))) (ra_cons (re_tup (ra_cons re_str (ra_cons (re_blt (cr_reprY ft) ca_reprX (ra_cons (re_var (i := 7) rfl (Or.inr (Or.inl (by kernel_rfl))) nd_index nc_index) ra_nil) (gl (by kernel_rfl)) T.b_repr bt_repr) ra_nil))) ra_nil)) rfl)
      (rss_cons (rs_asg (re_frz (rn_lst (ra_cons (re_tup (ra_cons re_str ra_nil)) (ra_cons (re_var (i := 11) rfl (Or.inl (by kernel_rfl)) nd_far nc_far) (ra_cons (re_tup (ra_cons re_str ra_nil)) (ra_cons (re_tup (ra_cons re_str ra_nil)) (ra_cons (re_tup (ra_cons re_str ra_nil)) (ra_cons (re_var (i := 11) rfl (Or.inl (by kernel_rfl)) nd_far nc_far) (ra_cons (re_tup (ra_cons re_str (ra_cons re_str ra_nil))) (ra_cons (re_tup (ra_cons re_str (ra_cons re_str ra_nil))) (ra_cons (re_tup (ra_cons re_str ra_nil)) (ra_cons (re_var (i := 12) rfl (Or.inl (by kernel_rfl)) nd_there nc_there) (ra_cons (re_tup (ra_cons re_str (ra_cons (re_blt (cr_reprY ft) ca_reprX (ra_cons (re_var (i := 8) rfl (Or.inr (Or.inl (by kernel_rfl))) nd_many nc_many) ra_nil) (gl (by kernel_rfl)) T.b_repr bt_repr) ra_nil))) (ra_cons (re_tup (ra_cons re_str ra_nil)) (ra_cons (re_tup (ra_cons re_str ra_nil)) (ra_cons (re_tup (ra_cons re_str ra_nil)) ra_nil)))))))))))))))) (rg_name (i := 13) nd rfl (Or.inl (by kernel_rfl))))
      (rss_one (rs_ret (re_b (rb_and (rb_of (re_cmp (op_eqX ft) opS_eq (re_var (i := 10) rfl (Or.inl (by kernel_rfl)) nd_told nc_told) (re_var (i := 13) rfl (Or.inl (by kernel_rfl)) nd_due nc_due) (nomark _))) (rb_and (rb_of (re_cmp (OpR.or op_isN op_is_bl) opS_is (re_cP C_is_class hg (hr.mono (by decide)) (ra_cons (re_var (i := 5) rfl (Or.inr (Or.inl (by kernel_rfl))) nd_one nc_one) ra_nil) (gl (by kernel_rfl)) nd_is_class) re_bl (nomark _))) (rb_one (rb_of (re_cmp (OpR.or op_isN op_is_bl) opS_is (re_cP C_is_class hg (hr.mono (by decide)) (ra_cons (re_tup (ra_cons re_int (ra_cons re_int ra_nil))) ra_nil) (gl (by kernel_rfl)) nd_is_class) re_bl (nomark _))))))))))))))))))))))))))))))))
end K80
namespace K80
open PySem L2 PySem.Spec PyProof.Rows Evl Rx
open Lib
abbrev s_law : Stmt := top 69
theorem sc_law : FnScope ["script", "spot", "jar", "turn", "bad", "told", "odd", "found", "value"] ["script"] (defScope s_law) := ⟨rfl, rfl, rfl, by decide +kernel, rfl, by decide +kernel, by decide +kernel⟩
theorem fng_law {P : Program} {w : World} {K : PySem.W.Frag} {mg : Str → Option Value} {base : Heap} {TT : List (Addr × Str)} {f : Addr} {fd : FuncData} (T : Txt P K mg) (hmm : mg "law" = some (.ref f)) (F : Fun K "law" "law" s_law f fd) (C__law_jar : Cal P w (KB K TT) mg base 1 "_law_jar" ["script", "spot"] M__law_jar) (C__law_right : Cal P w (KB K TT) mg base 11 "_law_right" ["jar"] M__law_right) (C_parted : Cal P w (KB K TT) mg base 7 "parted" ["book", "index", "many"] M_parted) (C_joined : Cal P w (KB K TT) mg base 7 "joined" ["book", "indices"] M_joined) (C_is_book_paper : Cal P w (KB K TT) mg base 7 "is_book_paper" ["book", "value"] M_is_book_paper) {c0 P0 : Addr} (Dg : Dfd K mg "_law_met" "_law_met" s__law_met ["call"]) (TB : LamX.TabB base mg c0 P0) (hmT : (P0, ("law" ++ ".<locals>." ++ "<lambda>" : Str)) ∈ TT) (hu : ∀ p ∈ TT, p.1 = P0 → p.2 = ("law" ++ ".<locals>." ++ "<lambda>" : Str)) (hcd : ∀ (f : Addr) (cdv : Value), mg "law" = some (.ref f) → CodeAt K f cdv → cdv = .ref c0) : FnG P w K mg base 12 f fd ["script"] (spM (KB K TT) mg 1 M_law) :=
  fn_mk (K := KB K TT) (k := 11) F sc_law fun cdv hcv A outer s H E hg hr => by
    have ft := fit_of hg hr
    have nd := sc_law.nd
    have po := po_def (P := P) (w := w) (K := KB K TT) (mg := mg) (base := base) (N := ["script", "spot", "jar", "turn", "bad", "told", "odd", "found", "value"]) (qual := "law") (st := s_law) (f := f) (cdv := cdv) (A := A) (outer := outer) (s := s) (H := H) (E := E)
    have L := lets_def (P := P) (w := w) (K := KB K TT) (mg := mg) (base := base) (N := ["script", "spot", "jar", "turn", "bad", "told", "odd", "found", "value"]) (qual := "law") (st := s_law) (f := f) (cdv := cdv) (A := A) (outer := outer) (s := s) (H := H) (E := E)
    exact (rss_cons (rs_for po rfl (ri_range1 (ra_cons (re_blt (L2.call_max2 rfl) caS_max2 (ra_cons re_int (ra_cons (re_blt (L2.call_min2 rfl) caS_min2 (ra_cons re_int (ra_cons (re_blt L2.call_len caS_len (ra_cons (re_var (i := 0) rfl (Or.inl (by kernel_rfl)) nd_script nc_script) ra_nil) (gl (by kernel_rfl)) T.b_len bt_len) ra_nil)) (gl (by kernel_rfl)) T.b_min bt_min) ra_nil)) (gl (by kernel_rfl)) T.b_max bt_max) ra_nil) (gl (by kernel_rfl)) T.b_range) (rg_name (i := 1) nd rfl (Or.inl (by kernel_rfl))) (rss_cons (rs_asgM (i := 2) (rn_cP C__law_jar hg (hr.mono (by decide)) (ra_cons (re_var (i := 0) rfl (Or.inl (by kernel_rfl)) nd_script nc_script) (ra_cons (re_var (i := 1) rfl (Or.inl (by kernel_rfl)) nd_spot nc_spot) ra_nil)) (gl (by kernel_rfl)) nd__law_jar) nd rfl (Or.inl (by kernel_rfl)))
      (rss_one (rs_for po rfl (ri_range1 (ra_cons re_int ra_nil) (gl (by kernel_rfl)) T.b_range) (rg_name (i := 3) nd rfl (Or.inl (by kernel_rfl))) (rss_one (rs_if (rt_not (rt_val (re_cFD C__law_right hg (hr.mono (by decide)) (ra_cons (re_var (i := 2) rfl (Or.inl (by kernel_rfl)) nd_jar nc_jar) ra_nil) (gl (by kernel_rfl)) nd__law_right))) (rss_one (rs_ret re_bl)) rss_nil))))))
      (rss_cons (rs_asg (re_tup (ra_cons re_str ra_nil)) (rg_name (i := 4) nd rfl (Or.inl (by kernel_rfl))))
      (rss_cons (rs_asgM (i := 5) (rn_lst (ra_cons (re_lam (k := 7) (n := 2) (M := z__law_met) Dg sc__law_met rfl (Or.inl (by kernel_rfl)) rfl (gv__law_met T) hi__law_met TB (hcd _ _ hmm hcv) rfl hmT hu hg (hr.mono (by decide)) (LamX.lamS_by (by kernel_rfl)) rfl (fun _ _ _ _ _ => rfl) (fun A outer z H E f c1 hg hr => have ft := fit_of hg hr; have L := lets_lam; (re_callX L C_parted hg (hr.mono (by decide)) (ra_cons (re_tup (ra_cons (re_tup (ra_cons re_int (ra_cons re_int ra_nil))) (ra_cons (re_tup (ra_cons re_int (ra_cons re_int ra_nil))) ra_nil))) (ra_cons re_int (ra_cons re_int ra_nil))) (gl (by kernel_rfl)) nd_parted)) (gl (by kernel_rfl)) nd__law_met) ra_nil)) nd rfl (Or.inl (by kernel_rfl)))
      (rss_cons (rs_expr (re_append (i := 5) (re_lam (k := 7) (n := 2) (M := z__law_met) Dg sc__law_met rfl (Or.inl (by kernel_rfl)) rfl (gv__law_met T) hi__law_met TB (hcd _ _ hmm hcv) rfl hmT hu hg (hr.mono (by decide)) (LamX.lamS_by (by kernel_rfl)) rfl (fun _ _ _ _ _ => rfl) (fun A outer z H E f c1 hg hr => have ft := fit_of hg hr; have L := lets_lam; (re_callX L C_parted hg (hr.mono (by decide)) (ra_cons (re_tup (ra_cons (re_tup (ra_cons re_int (ra_cons re_int ra_nil))) ra_nil)) (ra_cons re_int (ra_cons re_int ra_nil))) (gl (by kernel_rfl)) nd_parted)) (gl (by kernel_rfl)) nd__law_met) rfl (Or.inl (by kernel_rfl)) nd_told nc_told))
      (rss_cons (rs_expr (re_append (i := 5) (re_lam (k := 7) (n := 2) (M := z__law_met) Dg sc__law_met rfl (Or.inl (by kernel_rfl)) rfl (gv__law_met T) hi__law_met TB (hcd _ _ hmm hcv) rfl hmT hu hg (hr.mono (by decide)) (LamX.lamS_by (by kernel_rfl)) rfl (fun _ _ _ _ _ => rfl) (fun A outer z H E f c1 hg hr => have ft := fit_of hg hr; have L := lets_lam; (re_callX L C_parted hg (hr.mono (by decide)) (ra_cons (re_tup (ra_cons (re_tup (ra_cons re_int (ra_cons re_int ra_nil))) ra_nil)) (ra_cons re_int (ra_cons re_int ra_nil))) (gl (by kernel_rfl)) nd_parted)) (gl (by kernel_rfl)) nd__law_met) rfl (Or.inl (by kernel_rfl)) nd_told nc_told))
      (rss_cons (rs_expr (re_append (i := 5) (re_lam (k := 7) (n := 2) (M := z__law_met) Dg sc__law_met rfl (Or.inl (by kernel_rfl)) rfl (gv__law_met T) hi__law_met TB (hcd _ _ hmm hcv) rfl hmT hu hg (hr.mono (by decide)) (LamX.lamS_by (by kernel_rfl)) rfl (fun _ _ _ _ _ => rfl) (fun A outer z H E f c1 hg hr => have ft := fit_of hg hr; have L := lets_lam; (re_callX L C_joined hg (hr.mono (by decide)) (ra_cons (re_tup (ra_cons (re_tup (ra_cons re_int (ra_cons re_int ra_nil))) (ra_cons (re_tup (ra_cons re_int (ra_cons re_int ra_nil))) (ra_cons (re_tup (ra_cons re_int (ra_cons re_int ra_nil))) ra_nil)))) (ra_cons (re_tup (ra_cons re_int (ra_cons re_int ra_nil))) ra_nil)) (gl (by kernel_rfl)) nd_joined)) (gl (by kernel_rfl)) nd__law_met) rfl (Or.inl (by kernel_rfl)) nd_told nc_told))
      (rss_cons (rs_expr (re_append (i := 5) (re_lam (k := 7) (n := 2) (M := z__law_met) Dg sc__law_met rfl (Or.inl (by kernel_rfl)) rfl (gv__law_met T) hi__law_met TB (hcd _ _ hmm hcv) rfl hmT hu hg (hr.mono (by decide)) (LamX.lamS_by (by kernel_rfl)) rfl (fun _ _ _ _ _ => rfl) (fun A outer z H E f c1 hg hr => have ft := fit_of hg hr; have L := lets_lam; (re_callX L C_joined hg (hr.mono (by decide)) (ra_cons (re_tup (ra_cons (re_tup (ra_cons re_int (ra_cons re_int ra_nil))) (ra_cons (re_tup (ra_cons re_int (ra_cons re_int ra_nil))) ra_nil))) (ra_cons (re_tup (ra_cons re_int (ra_cons re_int ra_nil))) ra_nil)) (gl (by kernel_rfl)) nd_joined)) (gl (by kernel_rfl)) nd__law_met) rfl (Or.inl (by kernel_rfl)) nd_told nc_told))
      (rss_cons (rs_expr (re_append (i := 5) (re_lam (k := 7) (n := 2) (M := z__law_met) Dg sc__law_met rfl (Or.inl (by kernel_rfl)) rfl (gv__law_met T) hi__law_met TB (hcd _ _ hmm hcv) rfl hmT hu hg (hr.mono (by decide)) (LamX.lamS_by (by kernel_rfl)) rfl (fun _ _ _ _ _ => rfl) (fun A outer z H E f c1 hg hr => have ft := fit_of hg hr; have L := lets_lam; (re_cmp (op_eqX ft) opS_eq (re_callX L C_joined hg (hr.mono (by decide)) (ra_cons (re_tup (ra_cons (re_tup (ra_cons re_int (ra_cons re_int ra_nil))) (ra_cons (re_tup (ra_cons re_int (ra_cons re_int ra_nil))) ra_nil))) (ra_cons (re_tup (ra_cons re_int (ra_cons re_int ra_nil))) ra_nil)) (gl (by kernel_rfl)) nd_joined) (re_tup (ra_cons (re_tup (ra_cons re_int (ra_cons re_int ra_nil))) ra_nil)) (nomark _))) (gl (by kernel_rfl)) nd__law_met) rfl (Or.inl (by kernel_rfl)) nd_told nc_told))
      (rss_cons (rs_asg (re_frz (rn_lst (ra_cons re_non (ra_cons re_int (ra_cons (re_tup ra_nil) (ra_cons (re_frz (rn_lst ra_nil)) (ra_cons re_dnil (ra_cons re_str (ra_cons (re_tup (ra_cons re_str ra_nil)) (ra_cons (re_tup (ra_cons re_str (ra_cons re_int ra_nil))) (ra_cons (re_tup (ra_cons re_str (ra_cons re_int ra_nil))) (ra_cons (re_tup (ra_cons re_str (ra_cons re_non ra_nil))) (ra_cons (re_tup (ra_cons re_str (ra_cons re_bl ra_nil))) (ra_cons (re_tup (ra_cons re_non (ra_cons re_int ra_nil))) (ra_cons (re_tup (ra_cons re_str ra_nil)) (ra_cons (re_tup (ra_cons re_str (ra_cons re_int (ra_cons (re_tup (ra_cons re_int ra_nil)) ra_nil)))) ra_nil)))))))))))))))) (rg_name (i := 6) nd rfl (Or.inl (by kernel_rfl))))
      (rss_cons (rs_setLc (i := 7) rfl nd rfl rfl rfl (ri_seq (re_var (i := 6) rfl (Or.inl (by kernel_rfl)) nd_odd nc_odd)) (blkOk_by (own := [("value", 8)]) (by kernel_rfl)) (fun _ _ _ _ _ => (rg_name (i := 8) nd rfl (Or.inl (by kernel_rfl)))) (by decide) (fun _ _ _ _ _ => (rts_one (rt_cmp (OpR.or op_notN op_isnot_bl) opS_isnot (re_cP C_is_book_paper hg (hr.mono (by decide)) (ra_cons (re_tup (ra_cons (re_tup (ra_cons re_int (ra_cons re_int ra_nil))) (ra_cons (re_tup (ra_cons re_int (ra_cons re_int ra_nil))) (ra_cons (re_tup (ra_cons re_int (ra_cons re_int ra_nil))) ra_nil)))) (ra_cons (re_var (i := 8) rfl (Or.inl (by kernel_rfl)) nd_value nc_value) ra_nil)) (gl (by kernel_rfl)) nd_is_book_paper) re_bl (nomark _)))) (fun _ _ _ _ _ => (re_var (i := 8) rfl (Or.inl (by kernel_rfl)) nd_value nc_value)))
      (rss_one (rs_ret (re_b (rb_and (rb_of (re_cmp (op_eqX ft) opS_eq (re_var (i := 5) rfl (Or.inl (by kernel_rfl)) nd_told nc_told) (re_frz (rn_cat (re_frz (rn_rep (rn_lst (ra_cons (re_var (i := 4) rfl (Or.inl (by kernel_rfl)) nd_bad nc_bad) ra_nil)) re_int)) (re_frz (rn_lst (ra_cons (re_tup (ra_cons re_str (ra_cons re_bl ra_nil))) ra_nil))))) (nomark _))) (rb_and (rb_of (re_cmp (op_eqX ft) opS_eq (re_var (i := 7) rfl (Or.inl (by kernel_rfl)) nd_found nc_found) (re_frz (rn_lst ra_nil)) (nomark _))) (rb_one (rb_of (re_cmp (op_eqX ft) opS_eq (re_frz (rn_lst (ra_cons (re_gint (gl (by kernel_rfl)) T.c_MAX_STEP.choose_spec nd_MAX_STEP) (ra_cons (re_gint (gl (by kernel_rfl)) T.c_MOST_CLASSES.choose_spec nd_MOST_CLASSES) (ra_cons (re_gint (gl (by kernel_rfl)) T.c_MAX_WHOLE.choose_spec nd_MAX_WHOLE) ra_nil))))) (re_frz (rn_lst (ra_cons re_int (ra_cons re_int (ra_cons re_int ra_nil))))) (nomark _)))))))))))))))))))
end K80
namespace K80
open PySem L2 PySem.Spec PyProof.Rows Evl Rx
open Lib
theorem all_mk {P : Program} {w : World} {K : PySem.W.Frag} {h : Heap} {mg : Str → Option Value} {fa : Addr} (X : K.In h) (G : h.Ns mainGlobals mg) (hfa : mg "law" = some (.ref fa))
    {f0 : Addr} {od0 an0 : Option Addr} {sl0 : Array (Option Value)} {oc0 kv0 dc0 pm0 cd0 ct0 : Value}
    {f1 : Addr} {od1 an1 : Option Addr} {sl1 : Array (Option Value)} {oc1 kv1 dc1 pm1 cd1 ct1 : Value}
    {f2 : Addr} {od2 an2 : Option Addr} {sl2 : Array (Option Value)} {oc2 kv2 dc2 pm2 cd2 ct2 : Value}
    {f3 : Addr} {od3 an3 : Option Addr} {sl3 : Array (Option Value)} {oc3 kv3 dc3 pm3 cd3 ct3 : Value}
    {f4 : Addr} {od4 an4 : Option Addr} {sl4 : Array (Option Value)} {oc4 kv4 dc4 pm4 cd4 ct4 : Value}
    {f5 : Addr} {od5 an5 : Option Addr} {sl5 : Array (Option Value)} {oc5 kv5 dc5 pm5 cd5 ct5 : Value}
    {f6 : Addr} {od6 an6 : Option Addr} {sl6 : Array (Option Value)} {oc6 kv6 dc6 pm6 cd6 ct6 : Value}
    {f7 : Addr} {od7 an7 : Option Addr} {sl7 : Array (Option Value)} {oc7 kv7 dc7 pm7 cd7 ct7 : Value}
    {f8 : Addr} {od8 an8 : Option Addr} {sl8 : Array (Option Value)} {oc8 kv8 dc8 pm8 cd8 ct8 : Value}
    {f9 : Addr} {od9 an9 : Option Addr} {sl9 : Array (Option Value)} {oc9 kv9 dc9 pm9 cd9 ct9 : Value}
    {f10 : Addr} {od10 an10 : Option Addr} {sl10 : Array (Option Value)} {oc10 kv10 dc10 pm10 cd10 ct10 : Value}
    {f11 : Addr} {od11 an11 : Option Addr} {sl11 : Array (Option Value)} {oc11 kv11 dc11 pm11 cd11 ct11 : Value}
    {f12 : Addr} {od12 an12 : Option Addr} {sl12 : Array (Option Value)} {oc12 kv12 dc12 pm12 cd12 ct12 : Value}
    {f13 : Addr} {od13 an13 : Option Addr} {sl13 : Array (Option Value)} {oc13 kv13 dc13 pm13 cd13 ct13 : Value}
    {f14 : Addr} {od14 an14 : Option Addr} {sl14 : Array (Option Value)} {oc14 kv14 dc14 pm14 cd14 ct14 : Value}
    {f15 : Addr} {od15 an15 : Option Addr} {sl15 : Array (Option Value)} {oc15 kv15 dc15 pm15 cd15 ct15 : Value}
    {f16 : Addr} {od16 an16 : Option Addr} {sl16 : Array (Option Value)} {oc16 kv16 dc16 pm16 cd16 ct16 : Value}
    {f17 : Addr} {od17 an17 : Option Addr} {sl17 : Array (Option Value)} {oc17 kv17 dc17 pm17 cd17 ct17 : Value}
    {f18 : Addr} {od18 an18 : Option Addr} {sl18 : Array (Option Value)} {oc18 kv18 dc18 pm18 cd18 ct18 : Value}
    {f19 : Addr} {od19 an19 : Option Addr} {sl19 : Array (Option Value)} {oc19 kv19 dc19 pm19 cd19 ct19 : Value}
    {f20 : Addr} {od20 an20 : Option Addr} {sl20 : Array (Option Value)} {oc20 kv20 dc20 pm20 cd20 ct20 : Value}
    {f21 : Addr} {od21 an21 : Option Addr} {sl21 : Array (Option Value)} {oc21 kv21 dc21 pm21 cd21 ct21 : Value}
    {f22 : Addr} {od22 an22 : Option Addr} {sl22 : Array (Option Value)} {oc22 kv22 dc22 pm22 cd22 ct22 : Value}
    {f23 : Addr} {od23 an23 : Option Addr} {sl23 : Array (Option Value)} {oc23 kv23 dc23 pm23 cd23 ct23 : Value}
    {f24 : Addr} {od24 an24 : Option Addr} {sl24 : Array (Option Value)} {oc24 kv24 dc24 pm24 cd24 ct24 : Value}
    {f25 : Addr} {od25 an25 : Option Addr} {sl25 : Array (Option Value)} {oc25 kv25 dc25 pm25 cd25 ct25 : Value}
    {f26 : Addr} {od26 an26 : Option Addr} {sl26 : Array (Option Value)} {oc26 kv26 dc26 pm26 cd26 ct26 : Value}
    {f27 : Addr} {od27 an27 : Option Addr} {sl27 : Array (Option Value)} {oc27 kv27 dc27 pm27 cd27 ct27 : Value}
    {f28 : Addr} {od28 an28 : Option Addr} {sl28 : Array (Option Value)} {oc28 kv28 dc28 pm28 cd28 ct28 : Value}
    {f29 : Addr} {od29 an29 : Option Addr} {sl29 : Array (Option Value)} {oc29 kv29 dc29 pm29 cd29 ct29 : Value}
    {f30 : Addr} {od30 an30 : Option Addr} {sl30 : Array (Option Value)} {oc30 kv30 dc30 pm30 cd30 ct30 : Value}
    {f31 : Addr} {od31 an31 : Option Addr} {sl31 : Array (Option Value)} {oc31 kv31 dc31 pm31 cd31 ct31 : Value}
    {f32 : Addr} {od32 an32 : Option Addr} {sl32 : Array (Option Value)} {oc32 kv32 dc32 pm32 cd32 ct32 : Value}
    {f33 : Addr} {od33 an33 : Option Addr} {sl33 : Array (Option Value)} {oc33 kv33 dc33 pm33 cd33 ct33 : Value}
    {f34 : Addr} {od34 an34 : Option Addr} {sl34 : Array (Option Value)} {oc34 kv34 dc34 pm34 cd34 ct34 : Value}
    {f35 : Addr} {od35 an35 : Option Addr} {sl35 : Array (Option Value)} {oc35 kv35 dc35 pm35 cd35 ct35 : Value}
    {f36 : Addr} {od36 an36 : Option Addr} {sl36 : Array (Option Value)} {oc36 kv36 dc36 pm36 cd36 ct36 : Value}
    {f37 : Addr} {od37 an37 : Option Addr} {sl37 : Array (Option Value)} {oc37 kv37 dc37 pm37 cd37 ct37 : Value}
    {f38 : Addr} {od38 an38 : Option Addr} {sl38 : Array (Option Value)} {oc38 kv38 dc38 pm38 cd38 ct38 : Value}
    {f39 : Addr} {od39 an39 : Option Addr} {sl39 : Array (Option Value)} {oc39 kv39 dc39 pm39 cd39 ct39 : Value}
    {f40 : Addr} {od40 an40 : Option Addr} {sl40 : Array (Option Value)} {oc40 kv40 dc40 pm40 cd40 ct40 : Value}
    {f41 : Addr} {od41 an41 : Option Addr} {sl41 : Array (Option Value)} {oc41 kv41 dc41 pm41 cd41 ct41 : Value}
    {f42 : Addr} {od42 an42 : Option Addr} {sl42 : Array (Option Value)} {oc42 kv42 dc42 pm42 cd42 ct42 : Value}
    {f43 : Addr} {od43 an43 : Option Addr} {sl43 : Array (Option Value)} {oc43 kv43 dc43 pm43 cd43 ct43 : Value}
    {f44 : Addr} {od44 an44 : Option Addr} {sl44 : Array (Option Value)} {oc44 kv44 dc44 pm44 cd44 ct44 : Value}
    {f45 : Addr} {od45 an45 : Option Addr} {sl45 : Array (Option Value)} {oc45 kv45 dc45 pm45 cd45 ct45 : Value}
    {f46 : Addr} {od46 an46 : Option Addr} {sl46 : Array (Option Value)} {oc46 kv46 dc46 pm46 cd46 ct46 : Value}
    {f47 : Addr} {od47 an47 : Option Addr} {sl47 : Array (Option Value)} {oc47 kv47 dc47 pm47 cd47 ct47 : Value}
    {f48 : Addr} {od48 an48 : Option Addr} {sl48 : Array (Option Value)} {oc48 kv48 dc48 pm48 cd48 ct48 : Value}
    (a0 : PySem.W.nsIn K mainGlobals "is_int" = some (some (.ref f0))) (l0 : K.lookup f0 = some ⟨oc0, od0, .func (PySem.W.fnOf "is_int" "is_int" (defArgs s_is_int) (defBody s_is_int) (defScope s_is_int) .none kv0 dc0 pm0 an0 cd0 ct0), sl0⟩) (e0 : PySem.W.codeIn K cd0 "is_int" = true) (k0 : PySem.W.keepIn K (.ref f0) = true)
    (a1 : PySem.W.nsIn K mainGlobals "common_of" = some (some (.ref f1))) (l1 : K.lookup f1 = some ⟨oc1, od1, .func (PySem.W.fnOf "common_of" "common_of" (defArgs s_common_of) (defBody s_common_of) (defScope s_common_of) .none kv1 dc1 pm1 an1 cd1 ct1), sl1⟩) (e1 : PySem.W.codeIn K cd1 "common_of" = true) (k1 : PySem.W.keepIn K (.ref f1) = true)
    (a2 : PySem.W.nsIn K mainGlobals "has_number" = some (some (.ref f2))) (l2 : K.lookup f2 = some ⟨oc2, od2, .func (PySem.W.fnOf "has_number" "has_number" (defArgs s_has_number) (defBody s_has_number) (defScope s_has_number) .none kv2 dc2 pm2 an2 cd2 ct2), sl2⟩) (e2 : PySem.W.codeIn K cd2 "has_number" = true) (k2 : PySem.W.keepIn K (.ref f2) = true)
    (a3 : PySem.W.nsIn K mainGlobals "parts_of" = some (some (.ref f3))) (l3 : K.lookup f3 = some ⟨oc3, od3, .func (PySem.W.fnOf "parts_of" "parts_of" (defArgs s_parts_of) (defBody s_parts_of) (defScope s_parts_of) .none kv3 dc3 pm3 an3 cd3 ct3), sl3⟩) (e3 : PySem.W.codeIn K cd3 "parts_of" = true) (k3 : PySem.W.keepIn K (.ref f3) = true)
    (a4 : PySem.W.nsIn K mainGlobals "_law_jar" = some (some (.ref f4))) (l4 : K.lookup f4 = some ⟨oc4, od4, .func (PySem.W.fnOf "_law_jar" "_law_jar" (defArgs s__law_jar) (defBody s__law_jar) (defScope s__law_jar) .none kv4 dc4 pm4 an4 cd4 ct4), sl4⟩) (e4 : PySem.W.codeIn K cd4 "_law_jar" = true) (k4 : PySem.W.keepIn K (.ref f4) = true)
    (a5 : PySem.W.nsIn K mainGlobals "_law_dip" = some (some (.ref f5))) (l5 : K.lookup f5 = some ⟨oc5, od5, .func (PySem.W.fnOf "_law_dip" "_law_dip" (defArgs s__law_dip) (defBody s__law_dip) (defScope s__law_dip) .none kv5 dc5 pm5 an5 cd5 ct5), sl5⟩) (e5 : PySem.W.codeIn K cd5 "_law_dip" = true) (k5 : PySem.W.keepIn K (.ref f5) = true)
    (a6 : PySem.W.nsIn K mainGlobals "_law_met" = some (some (.ref f6))) (l6 : K.lookup f6 = some ⟨oc6, od6, .func (PySem.W.fnOf "_law_met" "_law_met" (defArgs s__law_met) (defBody s__law_met) (defScope s__law_met) .none kv6 dc6 pm6 an6 cd6 ct6), sl6⟩) (e6 : PySem.W.codeIn K cd6 "_law_met" = true) (k6 : PySem.W.keepIn K (.ref f6) = true)
    (a7 : PySem.W.nsIn K mainGlobals "is_whole" = some (some (.ref f7))) (l7 : K.lookup f7 = some ⟨oc7, od7, .func (PySem.W.fnOf "is_whole" "is_whole" (defArgs s_is_whole) (defBody s_is_whole) (defScope s_is_whole) .none kv7 dc7 pm7 an7 cd7 ct7), sl7⟩) (e7 : PySem.W.codeIn K cd7 "is_whole" = true) (k7 : PySem.W.keepIn K (.ref f7) = true)
    (a8 : PySem.W.nsIn K mainGlobals "lowest" = some (some (.ref f8))) (l8 : K.lookup f8 = some ⟨oc8, od8, .func (PySem.W.fnOf "lowest" "lowest" (defArgs s_lowest) (defBody s_lowest) (defScope s_lowest) .none kv8 dc8 pm8 an8 cd8 ct8), sl8⟩) (e8 : PySem.W.codeIn K cd8 "lowest" = true) (k8 : PySem.W.keepIn K (.ref f8) = true)
    (a9 : PySem.W.nsIn K mainGlobals "least_common" = some (some (.ref f9))) (l9 : K.lookup f9 = some ⟨oc9, od9, .func (PySem.W.fnOf "least_common" "least_common" (defArgs s_least_common) (defBody s_least_common) (defScope s_least_common) .none kv9 dc9 pm9 an9 cd9 ct9), sl9⟩) (e9 : PySem.W.codeIn K cd9 "least_common" = true) (k9 : PySem.W.keepIn K (.ref f9) = true)
    (a10 : PySem.W.nsIn K mainGlobals "homes_in" = some (some (.ref f10))) (l10 : K.lookup f10 = some ⟨oc10, od10, .func (PySem.W.fnOf "homes_in" "homes_in" (defArgs s_homes_in) (defBody s_homes_in) (defScope s_homes_in) .none kv10 dc10 pm10 an10 cd10 ct10), sl10⟩) (e10 : PySem.W.codeIn K cd10 "homes_in" = true) (k10 : PySem.W.keepIn K (.ref f10) = true)
    (a11 : PySem.W.nsIn K mainGlobals "joined_of" = some (some (.ref f11))) (l11 : K.lookup f11 = some ⟨oc11, od11, .func (PySem.W.fnOf "joined_of" "joined_of" (defArgs s_joined_of) (defBody s_joined_of) (defScope s_joined_of) .none kv11 dc11 pm11 an11 cd11 ct11), sl11⟩) (e11 : PySem.W.codeIn K cd11 "joined_of" = true) (k11 : PySem.W.keepIn K (.ref f11) = true)
    (a12 : PySem.W.nsIn K mainGlobals "_law_one" = some (some (.ref f12))) (l12 : K.lookup f12 = some ⟨oc12, od12, .func (PySem.W.fnOf "_law_one" "_law_one" (defArgs s__law_one) (defBody s__law_one) (defScope s__law_one) .none kv12 dc12 pm12 an12 cd12 ct12), sl12⟩) (e12 : PySem.W.codeIn K cd12 "_law_one" = true) (k12 : PySem.W.keepIn K (.ref f12) = true)
    (a13 : PySem.W.nsIn K mainGlobals "is_within" = some (some (.ref f13))) (l13 : K.lookup f13 = some ⟨oc13, od13, .func (PySem.W.fnOf "is_within" "is_within" (defArgs s_is_within) (defBody s_is_within) (defScope s_is_within) .none kv13 dc13 pm13 an13 cd13 ct13), sl13⟩) (e13 : PySem.W.codeIn K cd13 "is_within" = true) (k13 : PySem.W.keepIn K (.ref f13) = true)
    (a14 : PySem.W.nsIn K mainGlobals "whole_in" = some (some (.ref f14))) (l14 : K.lookup f14 = some ⟨oc14, od14, .func (PySem.W.fnOf "whole_in" "whole_in" (defArgs s_whole_in) (defBody s_whole_in) (defScope s_whole_in) .none kv14 dc14 pm14 an14 cd14 ct14), sl14⟩) (e14 : PySem.W.codeIn K cd14 "whole_in" = true) (k14 : PySem.W.keepIn K (.ref f14) = true)
    (a15 : PySem.W.nsIn K mainGlobals "common_in" = some (some (.ref f15))) (l15 : K.lookup f15 = some ⟨oc15, od15, .func (PySem.W.fnOf "common_in" "common_in" (defArgs s_common_in) (defBody s_common_in) (defScope s_common_in) .none kv15 dc15 pm15 an15 cd15 ct15), sl15⟩) (e15 : PySem.W.codeIn K cd15 "common_in" = true) (k15 : PySem.W.keepIn K (.ref f15) = true)
    (a16 : PySem.W.nsIn K mainGlobals "require_number" = some (some (.ref f16))) (l16 : K.lookup f16 = some ⟨oc16, od16, .func (PySem.W.fnOf "require_number" "require_number" (defArgs s_require_number) (defBody s_require_number) (defScope s_require_number) .none kv16 dc16 pm16 an16 cd16 ct16), sl16⟩) (e16 : PySem.W.codeIn K cd16 "require_number" = true) (k16 : PySem.W.keepIn K (.ref f16) = true)
    (a17 : PySem.W.nsIn K mainGlobals "is_class_in" = some (some (.ref f17))) (l17 : K.lookup f17 = some ⟨oc17, od17, .func (PySem.W.fnOf "is_class_in" "is_class_in" (defArgs s_is_class_in) (defBody s_is_class_in) (defScope s_is_class_in) .none kv17 dc17 pm17 an17 cd17 ct17), sl17⟩) (e17 : PySem.W.codeIn K cd17 "is_class_in" = true) (k17 : PySem.W.keepIn K (.ref f17) = true)
    (a18 : PySem.W.nsIn K mainGlobals "are_indices_in" = some (some (.ref f18))) (l18 : K.lookup f18 = some ⟨oc18, od18, .func (PySem.W.fnOf "are_indices_in" "are_indices_in" (defArgs s_are_indices_in) (defBody s_are_indices_in) (defScope s_are_indices_in) .none kv18 dc18 pm18 an18 cd18 ct18), sl18⟩) (e18 : PySem.W.codeIn K cd18 "are_indices_in" = true) (k18 : PySem.W.keepIn K (.ref f18) = true)
    (a19 : PySem.W.nsIn K mainGlobals "counts_in" = some (some (.ref f19))) (l19 : K.lookup f19 = some ⟨oc19, od19, .func (PySem.W.fnOf "counts_in" "counts_in" (defArgs s_counts_in) (defBody s_counts_in) (defScope s_counts_in) .none kv19 dc19 pm19 an19 cd19 ct19), sl19⟩) (e19 : PySem.W.codeIn K cd19 "counts_in" = true) (k19 : PySem.W.keepIn K (.ref f19) = true)
    (a20 : PySem.W.nsIn K mainGlobals "sum_in" = some (some (.ref f20))) (l20 : K.lookup f20 = some ⟨oc20, od20, .func (PySem.W.fnOf "sum_in" "sum_in" (defArgs s_sum_in) (defBody s_sum_in) (defScope s_sum_in) .none kv20 dc20 pm20 an20 cd20 ct20), sl20⟩) (e20 : PySem.W.codeIn K cd20 "sum_in" = true) (k20 : PySem.W.keepIn K (.ref f20) = true)
    (a21 : PySem.W.nsIn K mainGlobals "is_book_in" = some (some (.ref f21))) (l21 : K.lookup f21 = some ⟨oc21, od21, .func (PySem.W.fnOf "is_book_in" "is_book_in" (defArgs s_is_book_in) (defBody s_is_book_in) (defScope s_is_book_in) .none kv21 dc21 pm21 an21 cd21 ct21), sl21⟩) (e21 : PySem.W.codeIn K cd21 "is_book_in" = true) (k21 : PySem.W.keepIn K (.ref f21) = true)
    (a22 : PySem.W.nsIn K mainGlobals "covered_in" = some (some (.ref f22))) (l22 : K.lookup f22 = some ⟨oc22, od22, .func (PySem.W.fnOf "covered_in" "covered_in" (defArgs s_covered_in) (defBody s_covered_in) (defScope s_covered_in) .none kv22 dc22 pm22 an22 cd22 ct22), sl22⟩) (e22 : PySem.W.codeIn K cd22 "covered_in" = true) (k22 : PySem.W.keepIn K (.ref f22) = true)
    (a23 : PySem.W.nsIn K mainGlobals "gap_in" = some (some (.ref f23))) (l23 : K.lookup f23 = some ⟨oc23, od23, .func (PySem.W.fnOf "gap_in" "gap_in" (defArgs s_gap_in) (defBody s_gap_in) (defScope s_gap_in) .none kv23 dc23 pm23 an23 cd23 ct23), sl23⟩) (e23 : PySem.W.codeIn K cd23 "gap_in" = true) (k23 : PySem.W.keepIn K (.ref f23) = true)
    (a24 : PySem.W.nsIn K mainGlobals "needed_in" = some (some (.ref f24))) (l24 : K.lookup f24 = some ⟨oc24, od24, .func (PySem.W.fnOf "needed_in" "needed_in" (defArgs s_needed_in) (defBody s_needed_in) (defScope s_needed_in) .none kv24 dc24 pm24 an24 cd24 ct24), sl24⟩) (e24 : PySem.W.codeIn K cd24 "needed_in" = true) (k24 : PySem.W.keepIn K (.ref f24) = true)
    (a25 : PySem.W.nsIn K mainGlobals "require_class" = some (some (.ref f25))) (l25 : K.lookup f25 = some ⟨oc25, od25, .func (PySem.W.fnOf "require_class" "require_class" (defArgs s_require_class) (defBody s_require_class) (defScope s_require_class) .none kv25 dc25 pm25 an25 cd25 ct25), sl25⟩) (e25 : PySem.W.codeIn K cd25 "require_class" = true) (k25 : PySem.W.keepIn K (.ref f25) = true)
    (a26 : PySem.W.nsIn K mainGlobals "is_class" = some (some (.ref f26))) (l26 : K.lookup f26 = some ⟨oc26, od26, .func (PySem.W.fnOf "is_class" "is_class" (defArgs s_is_class) (defBody s_is_class) (defScope s_is_class) .none kv26 dc26 pm26 an26 cd26 ct26), sl26⟩) (e26 : PySem.W.codeIn K cd26 "is_class" = true) (k26 : PySem.W.keepIn K (.ref f26) = true)
    (a27 : PySem.W.nsIn K mainGlobals "left_in" = some (some (.ref f27))) (l27 : K.lookup f27 = some ⟨oc27, od27, .func (PySem.W.fnOf "left_in" "left_in" (defArgs s_left_in) (defBody s_left_in) (defScope s_left_in) .none kv27 dc27 pm27 an27 cd27 ct27), sl27⟩) (e27 : PySem.W.codeIn K cd27 "left_in" = true) (k27 : PySem.W.keepIn K (.ref f27) = true)
    (a28 : PySem.W.nsIn K mainGlobals "require_book" = some (some (.ref f28))) (l28 : K.lookup f28 = some ⟨oc28, od28, .func (PySem.W.fnOf "require_book" "require_book" (defArgs s_require_book) (defBody s_require_book) (defScope s_require_book) .none kv28 dc28 pm28 an28 cd28 ct28), sl28⟩) (e28 : PySem.W.codeIn K cd28 "require_book" = true) (k28 : PySem.W.keepIn K (.ref f28) = true)
    (a29 : PySem.W.nsIn K mainGlobals "is_book" = some (some (.ref f29))) (l29 : K.lookup f29 = some ⟨oc29, od29, .func (PySem.W.fnOf "is_book" "is_book" (defArgs s_is_book) (defBody s_is_book) (defScope s_is_book) .none kv29 dc29 pm29 an29 cd29 ct29), sl29⟩) (e29 : PySem.W.codeIn K cd29 "is_book" = true) (k29 : PySem.W.keepIn K (.ref f29) = true)
    (a30 : PySem.W.nsIn K mainGlobals "is_in" = some (some (.ref f30))) (l30 : K.lookup f30 = some ⟨oc30, od30, .func (PySem.W.fnOf "is_in" "is_in" (defArgs s_is_in) (defBody s_is_in) (defScope s_is_in) .none kv30 dc30 pm30 an30 cd30 ct30), sl30⟩) (e30 : PySem.W.codeIn K cd30 "is_in" = true) (k30 : PySem.W.keepIn K (.ref f30) = true)
    (a31 : PySem.W.nsIn K mainGlobals "common_class" = some (some (.ref f31))) (l31 : K.lookup f31 = some ⟨oc31, od31, .func (PySem.W.fnOf "common_class" "common_class" (defArgs s_common_class) (defBody s_common_class) (defScope s_common_class) .none kv31 dc31 pm31 an31 cd31 ct31), sl31⟩) (e31 : PySem.W.codeIn K cd31 "common_class" = true) (k31 : PySem.W.keepIn K (.ref f31) = true)
    (a32 : PySem.W.nsIn K mainGlobals "whole" = some (some (.ref f32))) (l32 : K.lookup f32 = some ⟨oc32, od32, .func (PySem.W.fnOf "whole" "whole" (defArgs s_whole) (defBody s_whole) (defScope s_whole) .none kv32 dc32 pm32 an32 cd32 ct32), sl32⟩) (e32 : PySem.W.codeIn K cd32 "whole" = true) (k32 : PySem.W.keepIn K (.ref f32) = true)
    (a33 : PySem.W.nsIn K mainGlobals "counts" = some (some (.ref f33))) (l33 : K.lookup f33 = some ⟨oc33, od33, .func (PySem.W.fnOf "counts" "counts" (defArgs s_counts) (defBody s_counts) (defScope s_counts) .none kv33 dc33 pm33 an33 cd33 ct33), sl33⟩) (e33 : PySem.W.codeIn K cd33 "counts" = true) (k33 : PySem.W.keepIn K (.ref f33) = true)
    (a34 : PySem.W.nsIn K mainGlobals "book_paper" = some (some (.ref f34))) (l34 : K.lookup f34 = some ⟨oc34, od34, .func (PySem.W.fnOf "book_paper" "book_paper" (defArgs s_book_paper) (defBody s_book_paper) (defScope s_book_paper) .none kv34 dc34 pm34 an34 cd34 ct34), sl34⟩) (e34 : PySem.W.codeIn K cd34 "book_paper" = true) (k34 : PySem.W.keepIn K (.ref f34) = true)
    (a35 : PySem.W.nsIn K mainGlobals "is_book_paper" = some (some (.ref f35))) (l35 : K.lookup f35 = some ⟨oc35, od35, .func (PySem.W.fnOf "is_book_paper" "is_book_paper" (defArgs s_is_book_paper) (defBody s_is_book_paper) (defScope s_is_book_paper) .none kv35 dc35 pm35 an35 cd35 ct35), sl35⟩) (e35 : PySem.W.codeIn K cd35 "is_book_paper" = true) (k35 : PySem.W.keepIn K (.ref f35) = true)
    (a36 : PySem.W.nsIn K mainGlobals "first_gap" = some (some (.ref f36))) (l36 : K.lookup f36 = some ⟨oc36, od36, .func (PySem.W.fnOf "first_gap" "first_gap" (defArgs s_first_gap) (defBody s_first_gap) (defScope s_first_gap) .none kv36 dc36 pm36 an36 cd36 ct36), sl36⟩) (e36 : PySem.W.codeIn K cd36 "first_gap" = true) (k36 : PySem.W.keepIn K (.ref f36) = true)
    (a37 : PySem.W.nsIn K mainGlobals "does_cover" = some (some (.ref f37))) (l37 : K.lookup f37 = some ⟨oc37, od37, .func (PySem.W.fnOf "does_cover" "does_cover" (defArgs s_does_cover) (defBody s_does_cover) (defScope s_does_cover) .none kv37 dc37 pm37 an37 cd37 ct37), sl37⟩) (e37 : PySem.W.codeIn K cd37 "does_cover" = true) (k37 : PySem.W.keepIn K (.ref f37) = true)
    (a38 : PySem.W.nsIn K mainGlobals "share" = some (some (.ref f38))) (l38 : K.lookup f38 = some ⟨oc38, od38, .func (PySem.W.fnOf "share" "share" (defArgs s_share) (defBody s_share) (defScope s_share) .none kv38 dc38 pm38 an38 cd38 ct38), sl38⟩) (e38 : PySem.W.codeIn K cd38 "share" = true) (k38 : PySem.W.keepIn K (.ref f38) = true)
    (a39 : PySem.W.nsIn K mainGlobals "sum_of_shares" = some (some (.ref f39))) (l39 : K.lookup f39 = some ⟨oc39, od39, .func (PySem.W.fnOf "sum_of_shares" "sum_of_shares" (defArgs s_sum_of_shares) (defBody s_sum_of_shares) (defScope s_sum_of_shares) .none kv39 dc39 pm39 an39 cd39 ct39), sl39⟩) (e39 : PySem.W.codeIn K cd39 "sum_of_shares" = true) (k39 : PySem.W.keepIn K (.ref f39) = true)
    (a40 : PySem.W.nsIn K mainGlobals "needed" = some (some (.ref f40))) (l40 : K.lookup f40 = some ⟨oc40, od40, .func (PySem.W.fnOf "needed" "needed" (defArgs s_needed) (defBody s_needed) (defScope s_needed) .none kv40 dc40 pm40 an40 cd40 ct40), sl40⟩) (e40 : PySem.W.codeIn K cd40 "needed" = true) (k40 : PySem.W.keepIn K (.ref f40) = true)
    (a41 : PySem.W.nsIn K mainGlobals "left_of_book" = some (some (.ref f41))) (l41 : K.lookup f41 = some ⟨oc41, od41, .func (PySem.W.fnOf "left_of_book" "left_of_book" (defArgs s_left_of_book) (defBody s_left_of_book) (defScope s_left_of_book) .none kv41 dc41 pm41 an41 cd41 ct41), sl41⟩) (e41 : PySem.W.codeIn K cd41 "left_of_book" = true) (k41 : PySem.W.keepIn K (.ref f41) = true)
    (a42 : PySem.W.nsIn K mainGlobals "exact_paper" = some (some (.ref f42))) (l42 : K.lookup f42 = some ⟨oc42, od42, .func (PySem.W.fnOf "exact_paper" "exact_paper" (defArgs s_exact_paper) (defBody s_exact_paper) (defScope s_exact_paper) .none kv42 dc42 pm42 an42 cd42 ct42), sl42⟩) (e42 : PySem.W.codeIn K cd42 "exact_paper" = true) (k42 : PySem.W.keepIn K (.ref f42) = true)
    (a43 : PySem.W.nsIn K mainGlobals "is_exact_paper" = some (some (.ref f43))) (l43 : K.lookup f43 = some ⟨oc43, od43, .func (PySem.W.fnOf "is_exact_paper" "is_exact_paper" (defArgs s_is_exact_paper) (defBody s_is_exact_paper) (defScope s_is_exact_paper) .none kv43 dc43 pm43 an43 cd43 ct43), sl43⟩) (e43 : PySem.W.codeIn K cd43 "is_exact_paper" = true) (k43 : PySem.W.keepIn K (.ref f43) = true)
    (a44 : PySem.W.nsIn K mainGlobals "parted" = some (some (.ref f44))) (l44 : K.lookup f44 = some ⟨oc44, od44, .func (PySem.W.fnOf "parted" "parted" (defArgs s_parted) (defBody s_parted) (defScope s_parted) .none kv44 dc44 pm44 an44 cd44 ct44), sl44⟩) (e44 : PySem.W.codeIn K cd44 "parted" = true) (k44 : PySem.W.keepIn K (.ref f44) = true)
    (a45 : PySem.W.nsIn K mainGlobals "joined" = some (some (.ref f45))) (l45 : K.lookup f45 = some ⟨oc45, od45, .func (PySem.W.fnOf "joined" "joined" (defArgs s_joined) (defBody s_joined) (defScope s_joined) .none kv45 dc45 pm45 an45 cd45 ct45), sl45⟩) (e45 : PySem.W.codeIn K cd45 "joined" = true) (k45 : PySem.W.keepIn K (.ref f45) = true)
    (a46 : PySem.W.nsIn K mainGlobals "_law_of_book" = some (some (.ref f46))) (l46 : K.lookup f46 = some ⟨oc46, od46, .func (PySem.W.fnOf "_law_of_book" "_law_of_book" (defArgs s__law_of_book) (defBody s__law_of_book) (defScope s__law_of_book) .none kv46 dc46 pm46 an46 cd46 ct46), sl46⟩) (e46 : PySem.W.codeIn K cd46 "_law_of_book" = true) (k46 : PySem.W.keepIn K (.ref f46) = true)
    (a47 : PySem.W.nsIn K mainGlobals "_law_right" = some (some (.ref f47))) (l47 : K.lookup f47 = some ⟨oc47, od47, .func (PySem.W.fnOf "_law_right" "_law_right" (defArgs s__law_right) (defBody s__law_right) (defScope s__law_right) .none kv47 dc47 pm47 an47 cd47 ct47), sl47⟩) (e47 : PySem.W.codeIn K cd47 "_law_right" = true) (k47 : PySem.W.keepIn K (.ref f47) = true)
    (a48 : PySem.W.nsIn K mainGlobals "law" = some (some (.ref f48))) (l48 : K.lookup f48 = some ⟨oc48, od48, .func (PySem.W.fnOf "law" "law" (defArgs s_law) (defBody s_law) (defScope s_law) .none kv48 dc48 pm48 an48 cd48 ct48), sl48⟩) (e48 : PySem.W.codeIn K cd48 "law" = true) (k48 : PySem.W.keepIn K (.ref f48) = true)
    (b_abs : PySem.W.nsIn K mainGlobals "abs" = some none)
    (b_all : PySem.W.nsIn K mainGlobals "all" = some none)
    (b_any : PySem.W.nsIn K mainGlobals "any" = some none)
    (b_bool : PySem.W.nsIn K mainGlobals "bool" = some none)
    (b_enumerate : PySem.W.nsIn K mainGlobals "enumerate" = some none)
    (b_int : PySem.W.nsIn K mainGlobals "int" = some none)
    (b_isinstance : PySem.W.nsIn K mainGlobals "isinstance" = some none)
    (b_len : PySem.W.nsIn K mainGlobals "len" = some none)
    (b_max : PySem.W.nsIn K mainGlobals "max" = some none)
    (b_min : PySem.W.nsIn K mainGlobals "min" = some none)
    (b_range : PySem.W.nsIn K mainGlobals "range" = some none)
    (b_repr : PySem.W.nsIn K mainGlobals "repr" = some none)
    (b_sorted : PySem.W.nsIn K mainGlobals "sorted" = some none)
    (b_str : PySem.W.nsIn K mainGlobals "str" = some none)
    (b_sum : PySem.W.nsIn K mainGlobals "sum" = some none)
    (b_tuple : PySem.W.nsIn K mainGlobals "tuple" = some none)
    (b_zip : PySem.W.nsIn K mainGlobals "zip" = some none)
    {t_ALL : Tok} (c_ALL : PySem.W.nsIn K mainGlobals "ALL" = some (some (.str "all" t_ALL)))
    {t_EXACT : Tok} (c_EXACT : PySem.W.nsIn K mainGlobals "EXACT" = some (some (.str "exact" t_EXACT)))
    {t_GAP : Tok} (c_GAP : PySem.W.nsIn K mainGlobals "GAP" = some (some (.str "gap" t_GAP)))
    {t_GREAT : Tok} (c_GREAT : PySem.W.nsIn K mainGlobals "GREAT" = some (some (.int 1000000000000000000000000000000000000000000000000000000000000 t_GREAT)))
    {t_MAX_STEP : Tok} (c_MAX_STEP : PySem.W.nsIn K mainGlobals "MAX_STEP" = some (some (.int 24 t_MAX_STEP)))
    {t_MAX_WHOLE : Tok} (c_MAX_WHOLE : PySem.W.nsIn K mainGlobals "MAX_WHOLE" = some (some (.int 5040 t_MAX_WHOLE)))
    {t_MOST_CLASSES : Tok} (c_MOST_CLASSES : PySem.W.nsIn K mainGlobals "MOST_CLASSES" = some (some (.int 12 t_MOST_CLASSES)))
    {t_NUMBER : Tok} (c_NUMBER : PySem.W.nsIn K mainGlobals "NUMBER" = some (some (.str "number" t_NUMBER)))
    {C_InvalidLot : Addr} (x_InvalidLot : PySem.W.nsIn K mainGlobals "InvalidLot" = some (some (.ref C_InvalidLot)))
    {C_InvalidRow : Addr} (x_InvalidRow : PySem.W.nsIn K mainGlobals "InvalidRow" = some (some (.ref C_InvalidRow)))
    (x_InvalidMap : PySem.W.nsIn K mainGlobals "InvalidMap" = some none)
    {C_InvalidBook : Addr} (x_InvalidBook : PySem.W.nsIn K mainGlobals "InvalidBook" = some (some (.ref C_InvalidBook)))
    {C_InvalidReport : Addr} (x_InvalidReport : PySem.W.nsIn K mainGlobals "InvalidReport" = some (some (.ref C_InvalidReport)))
    (x_InvalidClaim : PySem.W.nsIn K mainGlobals "InvalidClaim" = some none)
    (x_InvalidText : PySem.W.nsIn K mainGlobals "InvalidText" = some none)
    {C_InvalidOperation : Addr} (x_InvalidOperation : PySem.W.nsIn K mainGlobals "InvalidOperation" = some (some (.ref C_InvalidOperation)))
    (x_ParseError : PySem.W.nsIn K mainGlobals "ParseError" = some none)
    {C_InvalidNumber : Addr} (x_InvalidNumber : PySem.W.nsIn K mainGlobals "InvalidNumber" = some (some (.ref C_InvalidNumber)))
    (x_UnknownName : PySem.W.nsIn K mainGlobals "UnknownName" = some none)
    (x_NothingToUndo : PySem.W.nsIn K mainGlobals "NothingToUndo" = some none)
    {C_TooMany : Addr} (x_TooMany : PySem.W.nsIn K mainGlobals "TooMany" = some (some (.ref C_TooMany)))
    {C_Refused : Addr} (x_Refused : PySem.W.nsIn K mainGlobals "Refused" = some (some (.ref C_Refused)))
    (xmat : exMat K [some C_InvalidLot, some C_InvalidRow, none, some C_InvalidBook, some C_InvalidReport, none, none, some C_InvalidOperation, none, some C_InvalidNumber, none, none, some C_TooMany, some C_Refused] = true)
    (q_sup : PySem.W.nsIn K mainGlobals "super" = some none)
    (q_top : (P.main.scope.names.lookup ("super" : Str)).isSome = false)
    (q_any : PySem.W.nsIn K PySem.cStatics "thirdparty.any" = some none)
    (kC_InvalidBook : PySem.W.keepIn K (.ref C_InvalidBook) = true)
    (exC_InvalidBook : PySem.W.subIn K (.ref C_InvalidBook) (.type "BaseException") = some true)
    (tyC_InvalidBook : PySem.W.typeIn K (.ref C_InvalidBook) = some (.type "type"))
    (ini_InvalidBook : PySem.W.excIn K C_InvalidBook [.type "ValueError", .type "Exception", .type "BaseException", .type "object"] "ValueError.__new__" = true)
    (kC_InvalidNumber : PySem.W.keepIn K (.ref C_InvalidNumber) = true)
    (exC_InvalidNumber : PySem.W.subIn K (.ref C_InvalidNumber) (.type "BaseException") = some true)
    (tyC_InvalidNumber : PySem.W.typeIn K (.ref C_InvalidNumber) = some (.type "type"))
    (ini_InvalidNumber : PySem.W.excInitIn K C_InvalidNumber [.type "IndexError", .type "LookupError", .type "Exception", .type "BaseException", .type "object"] "IndexError.__new__" = true)
    (ov_InvalidNumber : PySem.W.excOver K C_InvalidNumber [.type "IndexError", .type "LookupError", .type "Exception", .type "BaseException", .type "object"] = true)
    (tk_InvalidNumber : PySem.W.takerIn K C_InvalidNumber "given" = some none)
    (no_InvalidNumber : PySem.W.findIn K (.ref C_InvalidNumber) "given" = some none)
    (hd_InvalidNumber : PySem.W.hasDictIn K C_InvalidNumber = true)
    (sa_InvalidNumber : PySem.W.findIn K (.ref C_InvalidNumber) "__setattr__" = some (some (.builtin "object.__setattr__")))
    (ga_InvalidNumber : PySem.W.findIn K (.ref C_InvalidNumber) "__getattribute__" = some (some (.builtin "BaseException.__getattribute__")))
    (gg_InvalidNumber : PySem.W.findIn K (.ref C_InvalidNumber) "__getattr__" = some none)
    (su_InvalidNumber : PySem.W.ks_superIn K C_InvalidNumber C_InvalidNumber "__init__" = some (some (.builtin "IndexError.__init__")))
    (sb_InvalidNumber : PySem.W.subIn K (.ref C_InvalidNumber) (.type "IndexError") = some true)
    (mr_InvalidNumber : PySem.W.mroIn K C_InvalidNumber (.ref C_InvalidNumber) = some true)
    {fI_InvalidNumber ca_InvalidNumber cc_InvalidNumber : Addr} {qu_InvalidNumber fl_InvalidNumber : Str} {ps_InvalidNumber : Arguments} {bo_InvalidNumber : List Stmt} {sc_InvalidNumber : Scope} {dV_InvalidNumber kV_InvalidNumber dc_InvalidNumber pm_InvalidNumber ct_InvalidNumber oc_InvalidNumber cl_InvalidNumber ce_InvalidNumber : Value} {an_InvalidNumber od_InvalidNumber cd_InvalidNumber cx_InvalidNumber : Option Addr} {os_InvalidNumber cs_InvalidNumber ck_InvalidNumber : Array (Option Value)} {vs_InvalidNumber : Array Value} {tf_InvalidNumber : Tok} {ar_InvalidNumber : Arg}
    (fi_InvalidNumber : PySem.W.findIn K (.ref C_InvalidNumber) "__init__" = some (some (.ref fI_InvalidNumber)))
    (ft_InvalidNumber : PySem.W.typeIn K (.ref fI_InvalidNumber) = some (.type "function"))
    (lk_InvalidNumber : K.lookup fI_InvalidNumber = some ⟨oc_InvalidNumber, od_InvalidNumber, .func (PySem.W.ksFn "__init__" qu_InvalidNumber ps_InvalidNumber bo_InvalidNumber sc_InvalidNumber dV_InvalidNumber kV_InvalidNumber dc_InvalidNumber pm_InvalidNumber an_InvalidNumber (.ref ca_InvalidNumber) ct_InvalidNumber cc_InvalidNumber), os_InvalidNumber⟩)
    (ci_InvalidNumber : PySem.W.codeIn K (.ref ca_InvalidNumber) qu_InvalidNumber = true)
    (lc_InvalidNumber : K.lookup ca_InvalidNumber = some ⟨cl_InvalidNumber, cd_InvalidNumber, .fields vs_InvalidNumber, cs_InvalidNumber⟩)
    (v2_InvalidNumber : vs_InvalidNumber[2]? = some (.str fl_InvalidNumber tf_InvalidNumber))
    (fe_InvalidNumber : ((P.main.file : Str) == fl_InvalidNumber) = true)
    (le_InvalidNumber : K.lookup cc_InvalidNumber = some ⟨ce_InvalidNumber, cx_InvalidNumber, .cell (some (.ref C_InvalidNumber)), ck_InvalidNumber⟩)
    (bd_InvalidNumber : bo_InvalidNumber = initB "given" (posOf bo_InvalidNumber))
    (ln_InvalidNumber : CallLine "given" (posOf bo_InvalidNumber))
    (is_InvalidNumber : initSB "given" sc_InvalidNumber = true)
    (hr_InvalidNumber : (ps_InvalidNumber.posonlyargs ++ ps_InvalidNumber.args).head? = some ar_InvalidNumber)
    (han_InvalidNumber : ar_InvalidNumber.arg = "self")
    (bi_InvalidNumber : ∀ (s : Shared) (u v : Value), BindsTo s (PySem.W.ksFn "__init__" qu_InvalidNumber ps_InvalidNumber bo_InvalidNumber sc_InvalidNumber dV_InvalidNumber kV_InvalidNumber dc_InvalidNumber pm_InvalidNumber an_InvalidNumber (.ref ca_InvalidNumber) ct_InvalidNumber cc_InvalidNumber) ⟨[u, v], []⟩ [("self", u), ("given", v)])
    (kC_InvalidOperation : PySem.W.keepIn K (.ref C_InvalidOperation) = true)
    (exC_InvalidOperation : PySem.W.subIn K (.ref C_InvalidOperation) (.type "BaseException") = some true)
    (tyC_InvalidOperation : PySem.W.typeIn K (.ref C_InvalidOperation) = some (.type "type"))
    (ini_InvalidOperation : PySem.W.excIn K C_InvalidOperation [.type "ValueError", .type "Exception", .type "BaseException", .type "object"] "ValueError.__new__" = true)
    (kC_InvalidReport : PySem.W.keepIn K (.ref C_InvalidReport) = true)
    (exC_InvalidReport : PySem.W.subIn K (.ref C_InvalidReport) (.type "BaseException") = some true)
    (tyC_InvalidReport : PySem.W.typeIn K (.ref C_InvalidReport) = some (.type "type"))
    (ini_InvalidReport : PySem.W.excIn K C_InvalidReport [.type "ValueError", .type "Exception", .type "BaseException", .type "object"] "ValueError.__new__" = true)
    (kC_Refused : PySem.W.keepIn K (.ref C_Refused) = true)
    (exC_Refused : PySem.W.subIn K (.ref C_Refused) (.type "BaseException") = some true)
    (tyC_Refused : PySem.W.typeIn K (.ref C_Refused) = some (.type "type"))
    (ini_Refused : PySem.W.excInitIn K C_Refused [.type "ArithmeticError", .type "Exception", .type "BaseException", .type "object"] "ArithmeticError.__new__" = true)
    (ov_Refused : PySem.W.excOver K C_Refused [.type "ArithmeticError", .type "Exception", .type "BaseException", .type "object"] = true)
    (tk_Refused : PySem.W.takerIn K C_Refused "reason" = some none)
    (no_Refused : PySem.W.findIn K (.ref C_Refused) "reason" = some none)
    (hd_Refused : PySem.W.hasDictIn K C_Refused = true)
    (sa_Refused : PySem.W.findIn K (.ref C_Refused) "__setattr__" = some (some (.builtin "object.__setattr__")))
    (ga_Refused : PySem.W.findIn K (.ref C_Refused) "__getattribute__" = some (some (.builtin "BaseException.__getattribute__")))
    (gg_Refused : PySem.W.findIn K (.ref C_Refused) "__getattr__" = some none)
    (su_Refused : PySem.W.ks_superIn K C_Refused C_Refused "__init__" = some (some (.builtin "ArithmeticError.__init__")))
    (sb_Refused : PySem.W.subIn K (.ref C_Refused) (.type "ArithmeticError") = some true)
    (mr_Refused : PySem.W.mroIn K C_Refused (.ref C_Refused) = some true)
    {fI_Refused ca_Refused cc_Refused : Addr} {qu_Refused fl_Refused : Str} {ps_Refused : Arguments} {bo_Refused : List Stmt} {sc_Refused : Scope} {dV_Refused kV_Refused dc_Refused pm_Refused ct_Refused oc_Refused cl_Refused ce_Refused : Value} {an_Refused od_Refused cd_Refused cx_Refused : Option Addr} {os_Refused cs_Refused ck_Refused : Array (Option Value)} {vs_Refused : Array Value} {tf_Refused : Tok} {ar_Refused : Arg}
    (fi_Refused : PySem.W.findIn K (.ref C_Refused) "__init__" = some (some (.ref fI_Refused)))
    (ft_Refused : PySem.W.typeIn K (.ref fI_Refused) = some (.type "function"))
    (lk_Refused : K.lookup fI_Refused = some ⟨oc_Refused, od_Refused, .func (PySem.W.ksFn "__init__" qu_Refused ps_Refused bo_Refused sc_Refused dV_Refused kV_Refused dc_Refused pm_Refused an_Refused (.ref ca_Refused) ct_Refused cc_Refused), os_Refused⟩)
    (ci_Refused : PySem.W.codeIn K (.ref ca_Refused) qu_Refused = true)
    (lc_Refused : K.lookup ca_Refused = some ⟨cl_Refused, cd_Refused, .fields vs_Refused, cs_Refused⟩)
    (v2_Refused : vs_Refused[2]? = some (.str fl_Refused tf_Refused))
    (fe_Refused : ((P.main.file : Str) == fl_Refused) = true)
    (le_Refused : K.lookup cc_Refused = some ⟨ce_Refused, cx_Refused, .cell (some (.ref C_Refused)), ck_Refused⟩)
    (bd_Refused : bo_Refused = initB "reason" (posOf bo_Refused))
    (ln_Refused : CallLine "reason" (posOf bo_Refused))
    (is_Refused : initSB "reason" sc_Refused = true)
    (hr_Refused : (ps_Refused.posonlyargs ++ ps_Refused.args).head? = some ar_Refused)
    (han_Refused : ar_Refused.arg = "self")
    (bi_Refused : ∀ (s : Shared) (u v : Value), BindsTo s (PySem.W.ksFn "__init__" qu_Refused ps_Refused bo_Refused sc_Refused dV_Refused kV_Refused dc_Refused pm_Refused an_Refused (.ref ca_Refused) ct_Refused cc_Refused) ⟨[u, v], []⟩ [("self", u), ("reason", v)])
    (kC_TooMany : PySem.W.keepIn K (.ref C_TooMany) = true)
    (exC_TooMany : PySem.W.subIn K (.ref C_TooMany) (.type "BaseException") = some true)
    (tyC_TooMany : PySem.W.typeIn K (.ref C_TooMany) = some (.type "type"))
    (ini_TooMany : PySem.W.excInitIn K C_TooMany [.type "OverflowError", .type "ArithmeticError", .type "Exception", .type "BaseException", .type "object"] "OverflowError.__new__" = true)
    (ov_TooMany : PySem.W.excOver K C_TooMany [.type "OverflowError", .type "ArithmeticError", .type "Exception", .type "BaseException", .type "object"] = true)
    (tk_TooMany : PySem.W.takerIn K C_TooMany "limit" = some none)
    (no_TooMany : PySem.W.findIn K (.ref C_TooMany) "limit" = some none)
    (hd_TooMany : PySem.W.hasDictIn K C_TooMany = true)
    (sa_TooMany : PySem.W.findIn K (.ref C_TooMany) "__setattr__" = some (some (.builtin "object.__setattr__")))
    (ga_TooMany : PySem.W.findIn K (.ref C_TooMany) "__getattribute__" = some (some (.builtin "BaseException.__getattribute__")))
    (gg_TooMany : PySem.W.findIn K (.ref C_TooMany) "__getattr__" = some none)
    (su_TooMany : PySem.W.ks_superIn K C_TooMany C_TooMany "__init__" = some (some (.builtin "OverflowError.__init__")))
    (sb_TooMany : PySem.W.subIn K (.ref C_TooMany) (.type "OverflowError") = some true)
    (mr_TooMany : PySem.W.mroIn K C_TooMany (.ref C_TooMany) = some true)
    {fI_TooMany ca_TooMany cc_TooMany : Addr} {qu_TooMany fl_TooMany : Str} {ps_TooMany : Arguments} {bo_TooMany : List Stmt} {sc_TooMany : Scope} {dV_TooMany kV_TooMany dc_TooMany pm_TooMany ct_TooMany oc_TooMany cl_TooMany ce_TooMany : Value} {an_TooMany od_TooMany cd_TooMany cx_TooMany : Option Addr} {os_TooMany cs_TooMany ck_TooMany : Array (Option Value)} {vs_TooMany : Array Value} {tf_TooMany : Tok} {ar_TooMany : Arg}
    (fi_TooMany : PySem.W.findIn K (.ref C_TooMany) "__init__" = some (some (.ref fI_TooMany)))
    (ft_TooMany : PySem.W.typeIn K (.ref fI_TooMany) = some (.type "function"))
    (lk_TooMany : K.lookup fI_TooMany = some ⟨oc_TooMany, od_TooMany, .func (PySem.W.ksFn "__init__" qu_TooMany ps_TooMany bo_TooMany sc_TooMany dV_TooMany kV_TooMany dc_TooMany pm_TooMany an_TooMany (.ref ca_TooMany) ct_TooMany cc_TooMany), os_TooMany⟩)
    (ci_TooMany : PySem.W.codeIn K (.ref ca_TooMany) qu_TooMany = true)
    (lc_TooMany : K.lookup ca_TooMany = some ⟨cl_TooMany, cd_TooMany, .fields vs_TooMany, cs_TooMany⟩)
    (v2_TooMany : vs_TooMany[2]? = some (.str fl_TooMany tf_TooMany))
    (fe_TooMany : ((P.main.file : Str) == fl_TooMany) = true)
    (le_TooMany : K.lookup cc_TooMany = some ⟨ce_TooMany, cx_TooMany, .cell (some (.ref C_TooMany)), ck_TooMany⟩)
    (bd_TooMany : bo_TooMany = initB "limit" (posOf bo_TooMany))
    (ln_TooMany : CallLine "limit" (posOf bo_TooMany))
    (is_TooMany : initSB "limit" sc_TooMany = true)
    (hr_TooMany : (ps_TooMany.posonlyargs ++ ps_TooMany.args).head? = some ar_TooMany)
    (han_TooMany : ar_TooMany.arg = "self")
    (bi_TooMany : ∀ (s : Shared) (u v : Value), BindsTo s (PySem.W.ksFn "__init__" qu_TooMany ps_TooMany bo_TooMany sc_TooMany dV_TooMany kV_TooMany dc_TooMany pm_TooMany an_TooMany (.ref ca_TooMany) ct_TooMany cc_TooMany) ⟨[u, v], []⟩ [("self", u), ("limit", v)])
    {c__law_of_book P__law_of_book : Addr} {cl__law_of_book : Value} {cd__law_of_book : Option Addr} {vs__law_of_book : Array Value} {cs__law_of_book : Array (Option Value)}
    (cn__law_of_book : cd46 = .ref c__law_of_book)
    (lc__law_of_book : K.lookup c__law_of_book = some ⟨cl__law_of_book, cd__law_of_book, .fields vs__law_of_book, cs__law_of_book⟩)
    (vP__law_of_book : vs__law_of_book[11]? = some (.ref P__law_of_book))
    (ch__law_of_book : PySem.W.codeHdIn K c__law_of_book P__law_of_book = true)
    (lP__law_of_book : K.lookup P__law_of_book = none)
    (hP__law_of_book : h.get? P__law_of_book = some tab0)
    {c__law_right P__law_right : Addr} {cl__law_right : Value} {cd__law_right : Option Addr} {vs__law_right : Array Value} {cs__law_right : Array (Option Value)}
    (cn__law_right : cd47 = .ref c__law_right)
    (lc__law_right : K.lookup c__law_right = some ⟨cl__law_right, cd__law_right, .fields vs__law_right, cs__law_right⟩)
    (vP__law_right : vs__law_right[11]? = some (.ref P__law_right))
    (ch__law_right : PySem.W.codeHdIn K c__law_right P__law_right = true)
    (lP__law_right : K.lookup P__law_right = none)
    (hP__law_right : h.get? P__law_right = some tab0)
    {c_law P_law : Addr} {cl_law : Value} {cd_law : Option Addr} {vs_law : Array Value} {cs_law : Array (Option Value)}
    (cn_law : cd48 = .ref c_law)
    (lc_law : K.lookup c_law = some ⟨cl_law, cd_law, .fields vs_law, cs_law⟩)
    (vP_law : vs_law[11]? = some (.ref P_law))
    (ch_law : PySem.W.codeHdIn K c_law P_law = true)
    (lP_law : K.lookup P_law = none)
    (hP_law : h.get? P_law = some tab0)
    (u__law_of_book : ∀ p ∈ ([(P__law_of_book, ("_law_of_book" ++ ".<locals>." ++ "<lambda>" : Str)), (P__law_right, ("_law_right" ++ ".<locals>." ++ "<lambda>" : Str)), (P_law, ("law" ++ ".<locals>." ++ "<lambda>" : Str))] : List (Addr × Str)), p.1 = P__law_of_book → p.2 = ("_law_of_book" ++ ".<locals>." ++ "<lambda>" : Str))
    (u__law_right : ∀ p ∈ ([(P__law_of_book, ("_law_of_book" ++ ".<locals>." ++ "<lambda>" : Str)), (P__law_right, ("_law_right" ++ ".<locals>." ++ "<lambda>" : Str)), (P_law, ("law" ++ ".<locals>." ++ "<lambda>" : Str))] : List (Addr × Str)), p.1 = P__law_right → p.2 = ("_law_right" ++ ".<locals>." ++ "<lambda>" : Str))
    (u_law : ∀ p ∈ ([(P__law_of_book, ("_law_of_book" ++ ".<locals>." ++ "<lambda>" : Str)), (P__law_right, ("_law_right" ++ ".<locals>." ++ "<lambda>" : Str)), (P_law, ("law" ++ ".<locals>." ++ "<lambda>" : Str))] : List (Addr × Str)), p.1 = P_law → p.2 = ("law" ++ ".<locals>." ++ "<lambda>" : Str))
    : ∃ (fd : FuncData) (TT : List (Addr × Str)) (cs : List (Addr × Addr)), TabsAt K mg h cs ∧ (∀ p ∈ TT, p.1 ∈ cs.map (·.2)) ∧ (∀ (s : Shared) (v : Value), BindsTo s fd ⟨[v], []⟩ [("script", v)]) ∧ ∀ base : Heap, K.In base → base.Ns mainGlobals mg → (∀ p ∈ cs, LamX.TabB base mg p.1 p.2) → FnG P w K mg base 12 fa fd ["script"] (spM (KB K TT) mg 1 M_law) := by
  have e := hfa.symm.trans (PySem.W.mg_of X G a48)
  cases e
  have I_InvalidNumber : ExI P K mg C_InvalidNumber "InvalidNumber" "given" "IndexError" "IndexError.__new__" "IndexError.__init__" [.type "IndexError", .type "LookupError", .type "Exception", .type "BaseException", .type "object"] := { FB := PySem.F.excBase_IndexError, KF := PySem.W.kxs_IndexError, SF := PySem.F.store_IndexError, gC := PySem.W.mg_of X G x_InvalidNumber, notSelf := by decide, dbg := by decide, noS := PySem.W.mg_none_of X G q_sup, top := q_top, any := q_any, ini := ini_InvalidNumber, kC := kC_InvalidNumber, exC := exC_InvalidNumber, tyC := tyC_InvalidNumber, over := ov_InvalidNumber, tkr := tk_InvalidNumber, noN := no_InvalidNumber, hdC := hd_InvalidNumber, sa := sa_InvalidNumber, ga := ga_InvalidNumber, gg := gg_InvalidNumber, sup := su_InvalidNumber, subB := sb_InvalidNumber, mro := mr_InvalidNumber, init := ⟨_, fi_InvalidNumber, ft_InvalidNumber, ⟨_, _, _, _, _, _, _, _, _, _, _, _, _, _, _, _, _, _, _, _, _, _, _, _, _, _, lk_InvalidNumber, ci_InvalidNumber, lc_InvalidNumber, v2_InvalidNumber, fe_InvalidNumber, le_InvalidNumber, bd_InvalidNumber, ln_InvalidNumber, initS_by is_InvalidNumber, hr_InvalidNumber, han_InvalidNumber, bi_InvalidNumber⟩⟩ }
  have I_Refused : ExI P K mg C_Refused "Refused" "reason" "ArithmeticError" "ArithmeticError.__new__" "ArithmeticError.__init__" [.type "ArithmeticError", .type "Exception", .type "BaseException", .type "object"] := { FB := PySem.F.excBase_ArithmeticError, KF := PySem.W.kxs_ArithmeticError, SF := PySem.F.store_ArithmeticError, gC := PySem.W.mg_of X G x_Refused, notSelf := by decide, dbg := by decide, noS := PySem.W.mg_none_of X G q_sup, top := q_top, any := q_any, ini := ini_Refused, kC := kC_Refused, exC := exC_Refused, tyC := tyC_Refused, over := ov_Refused, tkr := tk_Refused, noN := no_Refused, hdC := hd_Refused, sa := sa_Refused, ga := ga_Refused, gg := gg_Refused, sup := su_Refused, subB := sb_Refused, mro := mr_Refused, init := ⟨_, fi_Refused, ft_Refused, ⟨_, _, _, _, _, _, _, _, _, _, _, _, _, _, _, _, _, _, _, _, _, _, _, _, _, _, lk_Refused, ci_Refused, lc_Refused, v2_Refused, fe_Refused, le_Refused, bd_Refused, ln_Refused, initS_by is_Refused, hr_Refused, han_Refused, bi_Refused⟩⟩ }
  have I_TooMany : ExI P K mg C_TooMany "TooMany" "limit" "OverflowError" "OverflowError.__new__" "OverflowError.__init__" [.type "OverflowError", .type "ArithmeticError", .type "Exception", .type "BaseException", .type "object"] := { FB := PySem.F.excBase_OverflowError, KF := PySem.W.kxs_OverflowError, SF := PySem.F.store_OverflowError, gC := PySem.W.mg_of X G x_TooMany, notSelf := by decide, dbg := by decide, noS := PySem.W.mg_none_of X G q_sup, top := q_top, any := q_any, ini := ini_TooMany, kC := kC_TooMany, exC := exC_TooMany, tyC := tyC_TooMany, over := ov_TooMany, tkr := tk_TooMany, noN := no_TooMany, hdC := hd_TooMany, sa := sa_TooMany, ga := ga_TooMany, gg := gg_TooMany, sup := su_TooMany, subB := sb_TooMany, mro := mr_TooMany, init := ⟨_, fi_TooMany, ft_TooMany, ⟨_, _, _, _, _, _, _, _, _, _, _, _, _, _, _, _, _, _, _, _, _, _, _, _, _, _, lk_TooMany, ci_TooMany, lc_TooMany, v2_TooMany, fe_TooMany, le_TooMany, bd_TooMany, ln_TooMany, initS_by is_TooMany, hr_TooMany, han_TooMany, bi_TooMany⟩⟩ }
  have T : Txt P K mg := ⟨PySem.W.mg_none_of X G b_abs, PySem.W.mg_none_of X G b_all, PySem.W.mg_none_of X G b_any, PySem.W.mg_none_of X G b_bool, PySem.W.mg_none_of X G b_enumerate, PySem.W.mg_none_of X G b_int, PySem.W.mg_none_of X G b_isinstance, PySem.W.mg_none_of X G b_len, PySem.W.mg_none_of X G b_max, PySem.W.mg_none_of X G b_min, PySem.W.mg_none_of X G b_range, PySem.W.mg_none_of X G b_repr, PySem.W.mg_none_of X G b_sorted, PySem.W.mg_none_of X G b_str, PySem.W.mg_none_of X G b_sum, PySem.W.mg_none_of X G b_tuple, PySem.W.mg_none_of X G b_zip, ⟨_, PySem.W.mg_of X G c_ALL⟩, ⟨_, PySem.W.mg_of X G c_EXACT⟩, ⟨_, PySem.W.mg_of X G c_GAP⟩, ⟨_, PySem.W.mg_of X G c_GREAT⟩, ⟨_, PySem.W.mg_of X G c_MAX_STEP⟩, ⟨_, PySem.W.mg_of X G c_MAX_WHOLE⟩, ⟨_, PySem.W.mg_of X G c_MOST_CLASSES⟩, ⟨_, PySem.W.mg_of X G c_NUMBER⟩, ⟨_, PySem.W.mg_of X G x_InvalidBook⟩, ⟨_, PySem.W.mg_of X G x_InvalidLot⟩, ⟨_, PySem.W.mg_of X G x_InvalidNumber⟩, ⟨_, PySem.W.mg_of X G x_InvalidOperation⟩, ⟨_, PySem.W.mg_of X G x_InvalidReport⟩, ⟨_, PySem.W.mg_of X G x_InvalidRow⟩, ⟨_, PySem.W.mg_of X G x_Refused⟩, ⟨_, PySem.W.mg_of X G x_TooMany⟩, ⟨_, PySem.F.excBase_ValueError, ini_InvalidBook, PySem.W.mg_of X G x_InvalidBook, kC_InvalidBook, exC_InvalidBook, tyC_InvalidBook⟩, ⟨_, I_InvalidNumber⟩, ⟨_, PySem.F.excBase_ValueError, ini_InvalidOperation, PySem.W.mg_of X G x_InvalidOperation, kC_InvalidOperation, exC_InvalidOperation, tyC_InvalidOperation⟩, ⟨_, PySem.F.excBase_ValueError, ini_InvalidReport, PySem.W.mg_of X G x_InvalidReport, kC_InvalidReport, exC_InvalidReport, tyC_InvalidReport⟩, ⟨_, I_Refused⟩, ⟨_, I_TooMany⟩, ⟨[some C_InvalidLot, some C_InvalidRow, none, some C_InvalidBook, some C_InvalidReport, none, none, some C_InvalidOperation, none, some C_InvalidNumber, none, none, some C_TooMany, some C_Refused], (And.intro (PySem.W.mg_of X G x_InvalidLot) (And.intro (PySem.W.mg_of X G x_InvalidRow) (And.intro (PySem.W.mg_none_of X G x_InvalidMap) (And.intro (PySem.W.mg_of X G x_InvalidBook) (And.intro (PySem.W.mg_of X G x_InvalidReport) (And.intro (PySem.W.mg_none_of X G x_InvalidClaim) (And.intro (PySem.W.mg_none_of X G x_InvalidText) (And.intro (PySem.W.mg_of X G x_InvalidOperation) (And.intro (PySem.W.mg_none_of X G x_ParseError) (And.intro (PySem.W.mg_of X G x_InvalidNumber) (And.intro (PySem.W.mg_none_of X G x_UnknownName) (And.intro (PySem.W.mg_none_of X G x_NothingToUndo) (And.intro (PySem.W.mg_of X G x_TooMany) (And.intro (PySem.W.mg_of X G x_Refused) trivial)))))))))))))), xmat⟩⟩
  have F0 := fun_mk (st := s_is_int) l0 e0 k0
  have B0 := F0.binds (ps := ["value"]) fun _ _ _ _ _ _ us hl => match us, hl with | [_], _ => rfl
  have D0 : Dfd K mg "is_int" "is_int" s_is_int ["value"] := ⟨_, _, PySem.W.mg_of X G a0, F0, B0⟩
  have F1 := fun_mk (st := s_common_of) l1 e1 k1
  have B1 := F1.binds (ps := ["one", "other"]) fun _ _ _ _ _ _ us hl => match us, hl with | [_, _], _ => rfl
  have D1 : Dfd K mg "common_of" "common_of" s_common_of ["one", "other"] := ⟨_, _, PySem.W.mg_of X G a1, F1, B1⟩
  have F2 := fun_mk (st := s_has_number) l2 e2 k2
  have B2 := F2.binds (ps := ["one", "number"]) fun _ _ _ _ _ _ us hl => match us, hl with | [_, _], _ => rfl
  have D2 : Dfd K mg "has_number" "has_number" s_has_number ["one", "number"] := ⟨_, _, PySem.W.mg_of X G a2, F2, B2⟩
  have F3 := fun_mk (st := s_parts_of) l3 e3 k3
  have B3 := F3.binds (ps := ["one", "many"]) fun _ _ _ _ _ _ us hl => match us, hl with | [_, _], _ => rfl
  have D3 : Dfd K mg "parts_of" "parts_of" s_parts_of ["one", "many"] := ⟨_, _, PySem.W.mg_of X G a3, F3, B3⟩
  have F4 := fun_mk (st := s__law_jar) l4 e4 k4
  have B4 := F4.binds (ps := ["script", "spot"]) fun _ _ _ _ _ _ us hl => match us, hl with | [_, _], _ => rfl
  have D4 : Dfd K mg "_law_jar" "_law_jar" s__law_jar ["script", "spot"] := ⟨_, _, PySem.W.mg_of X G a4, F4, B4⟩
  have F5 := fun_mk (st := s__law_dip) l5 e5 k5
  have B5 := F5.binds (ps := ["jar", "many"]) fun _ _ _ _ _ _ us hl => match us, hl with | [_, _], _ => rfl
  have D5 : Dfd K mg "_law_dip" "_law_dip" s__law_dip ["jar", "many"] := ⟨_, _, PySem.W.mg_of X G a5, F5, B5⟩
  have F6 := fun_mk (st := s__law_met) l6 e6 k6
  have B6 := F6.binds (ps := ["call"]) fun _ _ _ _ _ _ us hl => match us, hl with | [_], _ => rfl
  have D6 : Dfd K mg "_law_met" "_law_met" s__law_met ["call"] := ⟨_, _, PySem.W.mg_of X G a6, F6, B6⟩
  have F7 := fun_mk (st := s_is_whole) l7 e7 k7
  have B7 := F7.binds (ps := ["value"]) fun _ _ _ _ _ _ us hl => match us, hl with | [_], _ => rfl
  have D7 : Dfd K mg "is_whole" "is_whole" s_is_whole ["value"] := ⟨_, _, PySem.W.mg_of X G a7, F7, B7⟩
  have F8 := fun_mk (st := s_lowest) l8 e8 k8
  have B8 := F8.binds (ps := ["above", "below"]) fun _ _ _ _ _ _ us hl => match us, hl with | [_, _], _ => rfl
  have D8 : Dfd K mg "lowest" "lowest" s_lowest ["above", "below"] := ⟨_, _, PySem.W.mg_of X G a8, F8, B8⟩
  have F9 := fun_mk (st := s_least_common) l9 e9 k9
  have B9 := F9.binds (ps := ["one", "other"]) fun _ _ _ _ _ _ us hl => match us, hl with | [_, _], _ => rfl
  have D9 : Dfd K mg "least_common" "least_common" s_least_common ["one", "other"] := ⟨_, _, PySem.W.mg_of X G a9, F9, B9⟩
  have F10 := fun_mk (st := s_homes_in) l10 e10 k10
  have B10 := F10.binds (ps := ["book", "number"]) fun _ _ _ _ _ _ us hl => match us, hl with | [_, _], _ => rfl
  have D10 : Dfd K mg "homes_in" "homes_in" s_homes_in ["book", "number"] := ⟨_, _, PySem.W.mg_of X G a10, F10, B10⟩
  have F11 := fun_mk (st := s_joined_of) l11 e11 k11
  have B11 := F11.binds (ps := ["classes"]) fun _ _ _ _ _ _ us hl => match us, hl with | [_], _ => rfl
  have D11 : Dfd K mg "joined_of" "joined_of" s_joined_of ["classes"] := ⟨_, _, PySem.W.mg_of X G a11, F11, B11⟩
  have F12 := fun_mk (st := s__law_one) l12 e12 k12
  have B12 := F12.binds (ps := ["jar", "items"]) fun _ _ _ _ _ _ us hl => match us, hl with | [_, _], _ => rfl
  have D12 : Dfd K mg "_law_one" "_law_one" s__law_one ["jar", "items"] := ⟨_, _, PySem.W.mg_of X G a12, F12, B12⟩
  have F13 := fun_mk (st := s_is_within) l13 e13 k13
  have B13 := F13.binds (ps := ["value", "low", "high"]) fun _ _ _ _ _ _ us hl => match us, hl with | [_, _, _], _ => rfl
  have D13 : Dfd K mg "is_within" "is_within" s_is_within ["value", "low", "high"] := ⟨_, _, PySem.W.mg_of X G a13, F13, B13⟩
  have F14 := fun_mk (st := s_whole_in) l14 e14 k14
  have B14 := F14.binds (ps := ["book"]) fun _ _ _ _ _ _ us hl => match us, hl with | [_], _ => rfl
  have D14 : Dfd K mg "whole_in" "whole_in" s_whole_in ["book"] := ⟨_, _, PySem.W.mg_of X G a14, F14, B14⟩
  have F15 := fun_mk (st := s_common_in) l15 e15 k15
  have B15 := F15.binds (ps := ["one", "far"]) fun _ _ _ _ _ _ us hl => match us, hl with | [_, _], _ => rfl
  have D15 : Dfd K mg "common_in" "common_in" s_common_in ["one", "far"] := ⟨_, _, PySem.W.mg_of X G a15, F15, B15⟩
  have F16 := fun_mk (st := s_require_number) l16 e16 k16
  have B16 := F16.binds (ps := ["number"]) fun _ _ _ _ _ _ us hl => match us, hl with | [_], _ => rfl
  have D16 : Dfd K mg "require_number" "require_number" s_require_number ["number"] := ⟨_, _, PySem.W.mg_of X G a16, F16, B16⟩
  have F17 := fun_mk (st := s_is_class_in) l17 e17 k17
  have B17 := F17.binds (ps := ["value"]) fun _ _ _ _ _ _ us hl => match us, hl with | [_], _ => rfl
  have D17 : Dfd K mg "is_class_in" "is_class_in" s_is_class_in ["value"] := ⟨_, _, PySem.W.mg_of X G a17, F17, B17⟩
  have F18 := fun_mk (st := s_are_indices_in) l18 e18 k18
  have B18 := F18.binds (ps := ["book", "value"]) fun _ _ _ _ _ _ us hl => match us, hl with | [_, _], _ => rfl
  have D18 : Dfd K mg "are_indices_in" "are_indices_in" s_are_indices_in ["book", "value"] := ⟨_, _, PySem.W.mg_of X G a18, F18, B18⟩
  have F19 := fun_mk (st := s_counts_in) l19 e19 k19
  have B19 := F19.binds (ps := ["book"]) fun _ _ _ _ _ _ us hl => match us, hl with | [_], _ => rfl
  have D19 : Dfd K mg "counts_in" "counts_in" s_counts_in ["book"] := ⟨_, _, PySem.W.mg_of X G a19, F19, B19⟩
  have F20 := fun_mk (st := s_sum_in) l20 e20 k20
  have B20 := F20.binds (ps := ["book"]) fun _ _ _ _ _ _ us hl => match us, hl with | [_], _ => rfl
  have D20 : Dfd K mg "sum_in" "sum_in" s_sum_in ["book"] := ⟨_, _, PySem.W.mg_of X G a20, F20, B20⟩
  have F21 := fun_mk (st := s_is_book_in) l21 e21 k21
  have B21 := F21.binds (ps := ["value"]) fun _ _ _ _ _ _ us hl => match us, hl with | [_], _ => rfl
  have D21 : Dfd K mg "is_book_in" "is_book_in" s_is_book_in ["value"] := ⟨_, _, PySem.W.mg_of X G a21, F21, B21⟩
  have F22 := fun_mk (st := s_covered_in) l22 e22 k22
  have B22 := F22.binds (ps := ["book"]) fun _ _ _ _ _ _ us hl => match us, hl with | [_], _ => rfl
  have D22 : Dfd K mg "covered_in" "covered_in" s_covered_in ["book"] := ⟨_, _, PySem.W.mg_of X G a22, F22, B22⟩
  have F23 := fun_mk (st := s_gap_in) l23 e23 k23
  have B23 := F23.binds (ps := ["book"]) fun _ _ _ _ _ _ us hl => match us, hl with | [_], _ => rfl
  have D23 : Dfd K mg "gap_in" "gap_in" s_gap_in ["book"] := ⟨_, _, PySem.W.mg_of X G a23, F23, B23⟩
  have F24 := fun_mk (st := s_needed_in) l24 e24 k24
  have B24 := F24.binds (ps := ["book"]) fun _ _ _ _ _ _ us hl => match us, hl with | [_], _ => rfl
  have D24 : Dfd K mg "needed_in" "needed_in" s_needed_in ["book"] := ⟨_, _, PySem.W.mg_of X G a24, F24, B24⟩
  have F25 := fun_mk (st := s_require_class) l25 e25 k25
  have D25 : DfdS K mg "require_class" "require_class" s_require_class [] "classes" := ⟨_, _, PySem.W.mg_of X G a25, F25, (bindS0 rfl fun _ _ => rfl)⟩
  have F26 := fun_mk (st := s_is_class) l26 e26 k26
  have B26 := F26.binds (ps := ["value"]) fun _ _ _ _ _ _ us hl => match us, hl with | [_], _ => rfl
  have D26 : Dfd K mg "is_class" "is_class" s_is_class ["value"] := ⟨_, _, PySem.W.mg_of X G a26, F26, B26⟩
  have F27 := fun_mk (st := s_left_in) l27 e27 k27
  have B27 := F27.binds (ps := ["book"]) fun _ _ _ _ _ _ us hl => match us, hl with | [_], _ => rfl
  have D27 : Dfd K mg "left_in" "left_in" s_left_in ["book"] := ⟨_, _, PySem.W.mg_of X G a27, F27, B27⟩
  have F28 := fun_mk (st := s_require_book) l28 e28 k28
  have B28 := F28.binds (ps := ["book"]) fun _ _ _ _ _ _ us hl => match us, hl with | [_], _ => rfl
  have D28 : Dfd K mg "require_book" "require_book" s_require_book ["book"] := ⟨_, _, PySem.W.mg_of X G a28, F28, B28⟩
  have F29 := fun_mk (st := s_is_book) l29 e29 k29
  have B29 := F29.binds (ps := ["value"]) fun _ _ _ _ _ _ us hl => match us, hl with | [_], _ => rfl
  have D29 : Dfd K mg "is_book" "is_book" s_is_book ["value"] := ⟨_, _, PySem.W.mg_of X G a29, F29, B29⟩
  have F30 := fun_mk (st := s_is_in) l30 e30 k30
  have B30 := F30.binds (ps := ["one", "number"]) fun _ _ _ _ _ _ us hl => match us, hl with | [_, _], _ => rfl
  have D30 : Dfd K mg "is_in" "is_in" s_is_in ["one", "number"] := ⟨_, _, PySem.W.mg_of X G a30, F30, B30⟩
  have F31 := fun_mk (st := s_common_class) l31 e31 k31
  have B31 := F31.binds (ps := ["one", "far"]) fun _ _ _ _ _ _ us hl => match us, hl with | [_, _], _ => rfl
  have D31 : Dfd K mg "common_class" "common_class" s_common_class ["one", "far"] := ⟨_, _, PySem.W.mg_of X G a31, F31, B31⟩
  have F32 := fun_mk (st := s_whole) l32 e32 k32
  have B32 := F32.binds (ps := ["book"]) fun _ _ _ _ _ _ us hl => match us, hl with | [_], _ => rfl
  have D32 : Dfd K mg "whole" "whole" s_whole ["book"] := ⟨_, _, PySem.W.mg_of X G a32, F32, B32⟩
  have F33 := fun_mk (st := s_counts) l33 e33 k33
  have B33 := F33.binds (ps := ["book"]) fun _ _ _ _ _ _ us hl => match us, hl with | [_], _ => rfl
  have D33 : Dfd K mg "counts" "counts" s_counts ["book"] := ⟨_, _, PySem.W.mg_of X G a33, F33, B33⟩
  have F34 := fun_mk (st := s_book_paper) l34 e34 k34
  have B34 := F34.binds (ps := ["book"]) fun _ _ _ _ _ _ us hl => match us, hl with | [_], _ => rfl
  have D34 : Dfd K mg "book_paper" "book_paper" s_book_paper ["book"] := ⟨_, _, PySem.W.mg_of X G a34, F34, B34⟩
  have F35 := fun_mk (st := s_is_book_paper) l35 e35 k35
  have B35 := F35.binds (ps := ["book", "value"]) fun _ _ _ _ _ _ us hl => match us, hl with | [_, _], _ => rfl
  have D35 : Dfd K mg "is_book_paper" "is_book_paper" s_is_book_paper ["book", "value"] := ⟨_, _, PySem.W.mg_of X G a35, F35, B35⟩
  have F36 := fun_mk (st := s_first_gap) l36 e36 k36
  have B36 := F36.binds (ps := ["book"]) fun _ _ _ _ _ _ us hl => match us, hl with | [_], _ => rfl
  have D36 : Dfd K mg "first_gap" "first_gap" s_first_gap ["book"] := ⟨_, _, PySem.W.mg_of X G a36, F36, B36⟩
  have F37 := fun_mk (st := s_does_cover) l37 e37 k37
  have B37 := F37.binds (ps := ["book", "number", "many"]) fun _ _ _ _ _ _ us hl => match us, hl with | [_, _, _], _ => rfl
  have D37 : Dfd K mg "does_cover" "does_cover" s_does_cover ["book", "number", "many"] := ⟨_, _, PySem.W.mg_of X G a37, F37, B37⟩
  have F38 := fun_mk (st := s_share) l38 e38 k38
  have B38 := F38.binds (ps := ["book"]) fun _ _ _ _ _ _ us hl => match us, hl with | [_], _ => rfl
  have D38 : Dfd K mg "share" "share" s_share ["book"] := ⟨_, _, PySem.W.mg_of X G a38, F38, B38⟩
  have F39 := fun_mk (st := s_sum_of_shares) l39 e39 k39
  have B39 := F39.binds (ps := ["book"]) fun _ _ _ _ _ _ us hl => match us, hl with | [_], _ => rfl
  have D39 : Dfd K mg "sum_of_shares" "sum_of_shares" s_sum_of_shares ["book"] := ⟨_, _, PySem.W.mg_of X G a39, F39, B39⟩
  have F40 := fun_mk (st := s_needed) l40 e40 k40
  have B40 := F40.binds (ps := ["book"]) fun _ _ _ _ _ _ us hl => match us, hl with | [_], _ => rfl
  have D40 : Dfd K mg "needed" "needed" s_needed ["book"] := ⟨_, _, PySem.W.mg_of X G a40, F40, B40⟩
  have F41 := fun_mk (st := s_left_of_book) l41 e41 k41
  have B41 := F41.binds (ps := ["book"]) fun _ _ _ _ _ _ us hl => match us, hl with | [_], _ => rfl
  have D41 : Dfd K mg "left_of_book" "left_of_book" s_left_of_book ["book"] := ⟨_, _, PySem.W.mg_of X G a41, F41, B41⟩
  have F42 := fun_mk (st := s_exact_paper) l42 e42 k42
  have B42 := F42.binds (ps := ["book"]) fun _ _ _ _ _ _ us hl => match us, hl with | [_], _ => rfl
  have D42 : Dfd K mg "exact_paper" "exact_paper" s_exact_paper ["book"] := ⟨_, _, PySem.W.mg_of X G a42, F42, B42⟩
  have F43 := fun_mk (st := s_is_exact_paper) l43 e43 k43
  have B43 := F43.binds (ps := ["book", "value"]) fun _ _ _ _ _ _ us hl => match us, hl with | [_, _], _ => rfl
  have D43 : Dfd K mg "is_exact_paper" "is_exact_paper" s_is_exact_paper ["book", "value"] := ⟨_, _, PySem.W.mg_of X G a43, F43, B43⟩
  have F44 := fun_mk (st := s_parted) l44 e44 k44
  have B44 := F44.binds (ps := ["book", "index", "many"]) fun _ _ _ _ _ _ us hl => match us, hl with | [_, _, _], _ => rfl
  have D44 : Dfd K mg "parted" "parted" s_parted ["book", "index", "many"] := ⟨_, _, PySem.W.mg_of X G a44, F44, B44⟩
  have F45 := fun_mk (st := s_joined) l45 e45 k45
  have B45 := F45.binds (ps := ["book", "indices"]) fun _ _ _ _ _ _ us hl => match us, hl with | [_, _], _ => rfl
  have D45 : Dfd K mg "joined" "joined" s_joined ["book", "indices"] := ⟨_, _, PySem.W.mg_of X G a45, F45, B45⟩
  have F46 := fun_mk (st := s__law_of_book) l46 e46 k46
  have B46 := F46.binds (ps := ["book"]) fun _ _ _ _ _ _ us hl => match us, hl with | [_], _ => rfl
  have D46 : Dfd K mg "_law_of_book" "_law_of_book" s__law_of_book ["book"] := ⟨_, _, PySem.W.mg_of X G a46, F46, B46⟩
  have F47 := fun_mk (st := s__law_right) l47 e47 k47
  have B47 := F47.binds (ps := ["jar"]) fun _ _ _ _ _ _ us hl => match us, hl with | [_], _ => rfl
  have D47 : Dfd K mg "_law_right" "_law_right" s__law_right ["jar"] := ⟨_, _, PySem.W.mg_of X G a47, F47, B47⟩
  have F48 := fun_mk (st := s_law) l48 e48 k48
  have B48 := F48.binds (ps := ["script"]) fun _ _ _ _ _ _ us hl => match us, hl with | [_], _ => rfl
  have D48 : Dfd K mg "law" "law" s_law ["script"] := ⟨_, _, PySem.W.mg_of X G a48, F48, B48⟩
  have cdx__law_of_book : ∀ (f : Addr) (cdv : Value), mg "_law_of_book" = some (.ref f) → CodeAt K f cdv → cdv = .ref c__law_of_book := fun f cdv hm ⟨oc, fd, e1, e2, e3⟩ => by
    have e := hm.symm.trans (PySem.W.mg_of X G a46)
    cases e
    rw [l46] at e1
    cases e1
    cases e2
    rw [← e3]
    exact cn__law_of_book
  have cdx__law_right : ∀ (f : Addr) (cdv : Value), mg "_law_right" = some (.ref f) → CodeAt K f cdv → cdv = .ref c__law_right := fun f cdv hm ⟨oc, fd, e1, e2, e3⟩ => by
    have e := hm.symm.trans (PySem.W.mg_of X G a47)
    cases e
    rw [l47] at e1
    cases e1
    cases e2
    rw [← e3]
    exact cn__law_right
  have cdx_law : ∀ (f : Addr) (cdv : Value), mg "law" = some (.ref f) → CodeAt K f cdv → cdv = .ref c_law := fun f cdv hm ⟨oc, fd, e1, e2, e3⟩ => by
    have e := hm.symm.trans (PySem.W.mg_of X G a48)
    cases e
    rw [l48] at e1
    cases e1
    cases e2
    rw [← e3]
    exact cn_law
  refine ⟨PySem.W.fnOf "law" "law" (defArgs s_law) (defBody s_law) (defScope s_law) .none kv48 dc48 pm48 an48 cd48 ct48, [(P__law_of_book, ("_law_of_book" ++ ".<locals>." ++ "<lambda>" : Str)), (P__law_right, ("_law_right" ++ ".<locals>." ++ "<lambda>" : Str)), (P_law, ("law" ++ ".<locals>." ++ "<lambda>" : Str))], [(c__law_of_book, P__law_of_book), (c__law_right, P__law_right), (c_law, P_law)], ⟨(List.forall_mem_cons.mpr ⟨hP__law_of_book, (List.forall_mem_cons.mpr ⟨hP__law_right, (List.forall_mem_cons.mpr ⟨hP_law, (fun _ hb => nomatch hb)⟩)⟩)⟩), (List.forall_mem_cons.mpr ⟨lP__law_of_book, (List.forall_mem_cons.mpr ⟨lP__law_right, (List.forall_mem_cons.mpr ⟨lP_law, (fun _ hb => nomatch hb)⟩)⟩)⟩), (List.forall_mem_cons.mpr ⟨PySem.W.codeHd_of_K X ch__law_of_book, (List.forall_mem_cons.mpr ⟨PySem.W.codeHd_of_K X ch__law_right, (List.forall_mem_cons.mpr ⟨PySem.W.codeHd_of_K X ch_law, (fun _ hb => nomatch hb)⟩)⟩)⟩)⟩, (by simp), fun s v => .of_eq rfl, fun base _ _ hTB => ?_⟩
  obtain ⟨TB__law_of_book, TB__law_right, TB_law, _⟩ : LamX.TabB base mg c__law_of_book P__law_of_book ∧ LamX.TabB base mg c__law_right P__law_right ∧ LamX.TabB base mg c_law P_law ∧ True := ⟨hTB (c__law_of_book, P__law_of_book) (by simp), hTB (c__law_right, P__law_right) (by simp), hTB (c_law, P_law) (by simp), trivial⟩
  have C0 := ok_is_int (P := P) (w := w) (base := base) (TT := [(P__law_of_book, ("_law_of_book" ++ ".<locals>." ++ "<lambda>" : Str)), (P__law_right, ("_law_right" ++ ".<locals>." ++ "<lambda>" : Str)), (P_law, ("law" ++ ".<locals>." ++ "<lambda>" : Str))]) T D0
  have C1 := ok_common_of (P := P) (w := w) (base := base) (TT := [(P__law_of_book, ("_law_of_book" ++ ".<locals>." ++ "<lambda>" : Str)), (P__law_right, ("_law_right" ++ ".<locals>." ++ "<lambda>" : Str)), (P_law, ("law" ++ ".<locals>." ++ "<lambda>" : Str))]) T D1
  have C2 := ok_has_number (P := P) (w := w) (base := base) (TT := [(P__law_of_book, ("_law_of_book" ++ ".<locals>." ++ "<lambda>" : Str)), (P__law_right, ("_law_right" ++ ".<locals>." ++ "<lambda>" : Str)), (P_law, ("law" ++ ".<locals>." ++ "<lambda>" : Str))]) T D2
  have C3 := ok_parts_of (P := P) (w := w) (base := base) (TT := [(P__law_of_book, ("_law_of_book" ++ ".<locals>." ++ "<lambda>" : Str)), (P__law_right, ("_law_right" ++ ".<locals>." ++ "<lambda>" : Str)), (P_law, ("law" ++ ".<locals>." ++ "<lambda>" : Str))]) T D3
  have C4 := ok__law_jar (P := P) (w := w) (base := base) (TT := [(P__law_of_book, ("_law_of_book" ++ ".<locals>." ++ "<lambda>" : Str)), (P__law_right, ("_law_right" ++ ".<locals>." ++ "<lambda>" : Str)), (P_law, ("law" ++ ".<locals>." ++ "<lambda>" : Str))]) T D4
  have C5 := ok__law_dip (P := P) (w := w) (base := base) (TT := [(P__law_of_book, ("_law_of_book" ++ ".<locals>." ++ "<lambda>" : Str)), (P__law_right, ("_law_right" ++ ".<locals>." ++ "<lambda>" : Str)), (P_law, ("law" ++ ".<locals>." ++ "<lambda>" : Str))]) T D5
  have C7 := ok_is_whole (P := P) (w := w) (base := base) (TT := [(P__law_of_book, ("_law_of_book" ++ ".<locals>." ++ "<lambda>" : Str)), (P__law_right, ("_law_right" ++ ".<locals>." ++ "<lambda>" : Str)), (P_law, ("law" ++ ".<locals>." ++ "<lambda>" : Str))]) T D7 C0
  have C8 := ok_lowest (P := P) (w := w) (base := base) (TT := [(P__law_of_book, ("_law_of_book" ++ ".<locals>." ++ "<lambda>" : Str)), (P__law_right, ("_law_right" ++ ".<locals>." ++ "<lambda>" : Str)), (P_law, ("law" ++ ".<locals>." ++ "<lambda>" : Str))]) T D8 C1
  have C9 := ok_least_common (P := P) (w := w) (base := base) (TT := [(P__law_of_book, ("_law_of_book" ++ ".<locals>." ++ "<lambda>" : Str)), (P__law_right, ("_law_right" ++ ".<locals>." ++ "<lambda>" : Str)), (P_law, ("law" ++ ".<locals>." ++ "<lambda>" : Str))]) T D9 C1
  have C10 := ok_homes_in (P := P) (w := w) (base := base) (TT := [(P__law_of_book, ("_law_of_book" ++ ".<locals>." ++ "<lambda>" : Str)), (P__law_right, ("_law_right" ++ ".<locals>." ++ "<lambda>" : Str)), (P_law, ("law" ++ ".<locals>." ++ "<lambda>" : Str))]) T D10 C2
  have C11 := ok_joined_of (P := P) (w := w) (base := base) (TT := [(P__law_of_book, ("_law_of_book" ++ ".<locals>." ++ "<lambda>" : Str)), (P__law_right, ("_law_right" ++ ".<locals>." ++ "<lambda>" : Str)), (P_law, ("law" ++ ".<locals>." ++ "<lambda>" : Str))]) T D11 C3
  have C12 := ok__law_one (P := P) (w := w) (base := base) (TT := [(P__law_of_book, ("_law_of_book" ++ ".<locals>." ++ "<lambda>" : Str)), (P__law_right, ("_law_right" ++ ".<locals>." ++ "<lambda>" : Str)), (P_law, ("law" ++ ".<locals>." ++ "<lambda>" : Str))]) T D12 C5
  have C13 := ok_is_within (P := P) (w := w) (base := base) (TT := [(P__law_of_book, ("_law_of_book" ++ ".<locals>." ++ "<lambda>" : Str)), (P__law_right, ("_law_right" ++ ".<locals>." ++ "<lambda>" : Str)), (P_law, ("law" ++ ".<locals>." ++ "<lambda>" : Str))]) T D13 C7
  have C14 := ok_whole_in (P := P) (w := w) (base := base) (TT := [(P__law_of_book, ("_law_of_book" ++ ".<locals>." ++ "<lambda>" : Str)), (P__law_right, ("_law_right" ++ ".<locals>." ++ "<lambda>" : Str)), (P_law, ("law" ++ ".<locals>." ++ "<lambda>" : Str))]) T D14 C9
  have C15 := ok_common_in (P := P) (w := w) (base := base) (TT := [(P__law_of_book, ("_law_of_book" ++ ".<locals>." ++ "<lambda>" : Str)), (P__law_right, ("_law_right" ++ ".<locals>." ++ "<lambda>" : Str)), (P_law, ("law" ++ ".<locals>." ++ "<lambda>" : Str))]) T D15 C9 C1
  have C16 := ok_require_number (P := P) (w := w) (base := base) (TT := [(P__law_of_book, ("_law_of_book" ++ ".<locals>." ++ "<lambda>" : Str)), (P__law_right, ("_law_right" ++ ".<locals>." ++ "<lambda>" : Str)), (P_law, ("law" ++ ".<locals>." ++ "<lambda>" : Str))]) T D16 C7
  have C17 := ok_is_class_in (P := P) (w := w) (base := base) (TT := [(P__law_of_book, ("_law_of_book" ++ ".<locals>." ++ "<lambda>" : Str)), (P__law_right, ("_law_right" ++ ".<locals>." ++ "<lambda>" : Str)), (P_law, ("law" ++ ".<locals>." ++ "<lambda>" : Str))]) T D17 C13
  have C18 := ok_are_indices_in (P := P) (w := w) (base := base) (TT := [(P__law_of_book, ("_law_of_book" ++ ".<locals>." ++ "<lambda>" : Str)), (P__law_right, ("_law_right" ++ ".<locals>." ++ "<lambda>" : Str)), (P_law, ("law" ++ ".<locals>." ++ "<lambda>" : Str))]) T D18 C13
  have C19 := ok_counts_in (P := P) (w := w) (base := base) (TT := [(P__law_of_book, ("_law_of_book" ++ ".<locals>." ++ "<lambda>" : Str)), (P__law_right, ("_law_right" ++ ".<locals>." ++ "<lambda>" : Str)), (P_law, ("law" ++ ".<locals>." ++ "<lambda>" : Str))]) T D19 C14
  have C20 := ok_sum_in (P := P) (w := w) (base := base) (TT := [(P__law_of_book, ("_law_of_book" ++ ".<locals>." ++ "<lambda>" : Str)), (P__law_right, ("_law_right" ++ ".<locals>." ++ "<lambda>" : Str)), (P_law, ("law" ++ ".<locals>." ++ "<lambda>" : Str))]) T D20 C14 C8
  have C21 := ok_is_book_in (P := P) (w := w) (base := base) (TT := [(P__law_of_book, ("_law_of_book" ++ ".<locals>." ++ "<lambda>" : Str)), (P__law_right, ("_law_right" ++ ".<locals>." ++ "<lambda>" : Str)), (P_law, ("law" ++ ".<locals>." ++ "<lambda>" : Str))]) T D21 C14 C17
  have C22 := ok_covered_in (P := P) (w := w) (base := base) (TT := [(P__law_of_book, ("_law_of_book" ++ ".<locals>." ++ "<lambda>" : Str)), (P__law_right, ("_law_right" ++ ".<locals>." ++ "<lambda>" : Str)), (P_law, ("law" ++ ".<locals>." ++ "<lambda>" : Str))]) T D22 C19
  have C23 := ok_gap_in (P := P) (w := w) (base := base) (TT := [(P__law_of_book, ("_law_of_book" ++ ".<locals>." ++ "<lambda>" : Str)), (P__law_right, ("_law_right" ++ ".<locals>." ++ "<lambda>" : Str)), (P_law, ("law" ++ ".<locals>." ++ "<lambda>" : Str))]) T D23 C19
  have C24 := ok_needed_in (P := P) (w := w) (base := base) (TT := [(P__law_of_book, ("_law_of_book" ++ ".<locals>." ++ "<lambda>" : Str)), (P__law_right, ("_law_right" ++ ".<locals>." ++ "<lambda>" : Str)), (P_law, ("law" ++ ".<locals>." ++ "<lambda>" : Str))]) T D24 C19
  have C25 := ok_require_class (P := P) (w := w) (base := base) (TT := [(P__law_of_book, ("_law_of_book" ++ ".<locals>." ++ "<lambda>" : Str)), (P__law_right, ("_law_right" ++ ".<locals>." ++ "<lambda>" : Str)), (P_law, ("law" ++ ".<locals>." ++ "<lambda>" : Str))]) T D25 C17
  have C26 := ok_is_class (P := P) (w := w) (base := base) (TT := [(P__law_of_book, ("_law_of_book" ++ ".<locals>." ++ "<lambda>" : Str)), (P__law_right, ("_law_right" ++ ".<locals>." ++ "<lambda>" : Str)), (P_law, ("law" ++ ".<locals>." ++ "<lambda>" : Str))]) T D26 C17
  have C27 := ok_left_in (P := P) (w := w) (base := base) (TT := [(P__law_of_book, ("_law_of_book" ++ ".<locals>." ++ "<lambda>" : Str)), (P__law_right, ("_law_right" ++ ".<locals>." ++ "<lambda>" : Str)), (P_law, ("law" ++ ".<locals>." ++ "<lambda>" : Str))]) T D27 C24
  have C28 := ok_require_book (P := P) (w := w) (base := base) (TT := [(P__law_of_book, ("_law_of_book" ++ ".<locals>." ++ "<lambda>" : Str)), (P__law_right, ("_law_right" ++ ".<locals>." ++ "<lambda>" : Str)), (P_law, ("law" ++ ".<locals>." ++ "<lambda>" : Str))]) T D28 C21
  have C29 := ok_is_book (P := P) (w := w) (base := base) (TT := [(P__law_of_book, ("_law_of_book" ++ ".<locals>." ++ "<lambda>" : Str)), (P__law_right, ("_law_right" ++ ".<locals>." ++ "<lambda>" : Str)), (P_law, ("law" ++ ".<locals>." ++ "<lambda>" : Str))]) T D29 C21
  have C30 := ok_is_in (P := P) (w := w) (base := base) (TT := [(P__law_of_book, ("_law_of_book" ++ ".<locals>." ++ "<lambda>" : Str)), (P__law_right, ("_law_right" ++ ".<locals>." ++ "<lambda>" : Str)), (P_law, ("law" ++ ".<locals>." ++ "<lambda>" : Str))]) T D30 C25 C16 C2
  have C31 := ok_common_class (P := P) (w := w) (base := base) (TT := [(P__law_of_book, ("_law_of_book" ++ ".<locals>." ++ "<lambda>" : Str)), (P__law_right, ("_law_right" ++ ".<locals>." ++ "<lambda>" : Str)), (P_law, ("law" ++ ".<locals>." ++ "<lambda>" : Str))]) T D31 C25 C15
  have C32 := ok_whole (P := P) (w := w) (base := base) (TT := [(P__law_of_book, ("_law_of_book" ++ ".<locals>." ++ "<lambda>" : Str)), (P__law_right, ("_law_right" ++ ".<locals>." ++ "<lambda>" : Str)), (P_law, ("law" ++ ".<locals>." ++ "<lambda>" : Str))]) T D32 C28 C14
  have C33 := ok_counts (P := P) (w := w) (base := base) (TT := [(P__law_of_book, ("_law_of_book" ++ ".<locals>." ++ "<lambda>" : Str)), (P__law_right, ("_law_right" ++ ".<locals>." ++ "<lambda>" : Str)), (P_law, ("law" ++ ".<locals>." ++ "<lambda>" : Str))]) T D33 C28 C19
  have C34 := ok_book_paper (P := P) (w := w) (base := base) (TT := [(P__law_of_book, ("_law_of_book" ++ ".<locals>." ++ "<lambda>" : Str)), (P__law_right, ("_law_right" ++ ".<locals>." ++ "<lambda>" : Str)), (P_law, ("law" ++ ".<locals>." ++ "<lambda>" : Str))]) T D34 C28 C23 C14
  have C35 := ok_is_book_paper (P := P) (w := w) (base := base) (TT := [(P__law_of_book, ("_law_of_book" ++ ".<locals>." ++ "<lambda>" : Str)), (P__law_right, ("_law_right" ++ ".<locals>." ++ "<lambda>" : Str)), (P_law, ("law" ++ ".<locals>." ++ "<lambda>" : Str))]) T D35 C28 C10 C23 C14
  have C36 := ok_first_gap (P := P) (w := w) (base := base) (TT := [(P__law_of_book, ("_law_of_book" ++ ".<locals>." ++ "<lambda>" : Str)), (P__law_right, ("_law_right" ++ ".<locals>." ++ "<lambda>" : Str)), (P_law, ("law" ++ ".<locals>." ++ "<lambda>" : Str))]) T D36 C28 C23
  have C37 := ok_does_cover (P := P) (w := w) (base := base) (TT := [(P__law_of_book, ("_law_of_book" ++ ".<locals>." ++ "<lambda>" : Str)), (P__law_right, ("_law_right" ++ ".<locals>." ++ "<lambda>" : Str)), (P_law, ("law" ++ ".<locals>." ++ "<lambda>" : Str))]) T D37 C28 C16 C19 C13
  have C38 := ok_share (P := P) (w := w) (base := base) (TT := [(P__law_of_book, ("_law_of_book" ++ ".<locals>." ++ "<lambda>" : Str)), (P__law_right, ("_law_right" ++ ".<locals>." ++ "<lambda>" : Str)), (P_law, ("law" ++ ".<locals>." ++ "<lambda>" : Str))]) T D38 C28 C8 C22 C14
  have C39 := ok_sum_of_shares (P := P) (w := w) (base := base) (TT := [(P__law_of_book, ("_law_of_book" ++ ".<locals>." ++ "<lambda>" : Str)), (P__law_right, ("_law_right" ++ ".<locals>." ++ "<lambda>" : Str)), (P_law, ("law" ++ ".<locals>." ++ "<lambda>" : Str))]) T D39 C28 C20
  have C40 := ok_needed (P := P) (w := w) (base := base) (TT := [(P__law_of_book, ("_law_of_book" ++ ".<locals>." ++ "<lambda>" : Str)), (P__law_right, ("_law_right" ++ ".<locals>." ++ "<lambda>" : Str)), (P_law, ("law" ++ ".<locals>." ++ "<lambda>" : Str))]) T D40 C28 C24
  have C41 := ok_left_of_book (P := P) (w := w) (base := base) (TT := [(P__law_of_book, ("_law_of_book" ++ ".<locals>." ++ "<lambda>" : Str)), (P__law_right, ("_law_right" ++ ".<locals>." ++ "<lambda>" : Str)), (P_law, ("law" ++ ".<locals>." ++ "<lambda>" : Str))]) T D41 C28 C27
  have C42 := ok_exact_paper (P := P) (w := w) (base := base) (TT := [(P__law_of_book, ("_law_of_book" ++ ".<locals>." ++ "<lambda>" : Str)), (P__law_right, ("_law_right" ++ ".<locals>." ++ "<lambda>" : Str)), (P_law, ("law" ++ ".<locals>." ++ "<lambda>" : Str))]) T D42 C28 C10 C19
  have C43 := ok_is_exact_paper (P := P) (w := w) (base := base) (TT := [(P__law_of_book, ("_law_of_book" ++ ".<locals>." ++ "<lambda>" : Str)), (P__law_right, ("_law_right" ++ ".<locals>." ++ "<lambda>" : Str)), (P_law, ("law" ++ ".<locals>." ++ "<lambda>" : Str))]) T D43 C28 C10 C18 C19
  have C44 := ok_parted (P := P) (w := w) (base := base) (TT := [(P__law_of_book, ("_law_of_book" ++ ".<locals>." ++ "<lambda>" : Str)), (P__law_right, ("_law_right" ++ ".<locals>." ++ "<lambda>" : Str)), (P_law, ("law" ++ ".<locals>." ++ "<lambda>" : Str))]) T D44 C28 C13 C21 C3
  have C45 := ok_joined (P := P) (w := w) (base := base) (TT := [(P__law_of_book, ("_law_of_book" ++ ".<locals>." ++ "<lambda>" : Str)), (P__law_right, ("_law_right" ++ ".<locals>." ++ "<lambda>" : Str)), (P_law, ("law" ++ ".<locals>." ++ "<lambda>" : Str))]) T D45 C28 C11 C18
  have C46 := ok__law_of_book (P := P) (w := w) (base := base) (TT := [(P__law_of_book, ("_law_of_book" ++ ".<locals>." ++ "<lambda>" : Str)), (P__law_right, ("_law_right" ++ ".<locals>." ++ "<lambda>" : Str)), (P_law, ("law" ++ ".<locals>." ++ "<lambda>" : Str))]) T D46 C35 C43 C32 C33 C34 C36 C38 C39 C40 C41 C42 D6 TB__law_of_book (by simp) u__law_of_book cdx__law_of_book
  have C47 := ok__law_right (P := P) (w := w) (base := base) (TT := [(P__law_of_book, ("_law_of_book" ++ ".<locals>." ++ "<lambda>" : Str)), (P__law_right, ("_law_right" ++ ".<locals>." ++ "<lambda>" : Str)), (P_law, ("law" ++ ".<locals>." ++ "<lambda>" : Str))]) T D47 C12 C46 C29 C26 C30 C31 C37 C44 C45 D6 TB__law_right (by simp) u__law_right cdx__law_right
  exact fng_law (TT := [(P__law_of_book, ("_law_of_book" ++ ".<locals>." ++ "<lambda>" : Str)), (P__law_right, ("_law_right" ++ ".<locals>." ++ "<lambda>" : Str)), (P_law, ("law" ++ ".<locals>." ++ "<lambda>" : Str))]) T (PySem.W.mg_of X G a48) F48 C4 C47 C44 C45 C35 D6 TB_law (by simp) u_law cdx_law
end K80
/-! words to run a mirror piece by piece, for every law -/
namespace Rx
open PySem L2 PySem.Spec PyProof.Rows Evl
theorem sz_small {n : Nat} (h : n ≤ 16000000) : sz n = true := decide_eq_true h
theorem log_small {k : Nat} (h : k ≤ 6000) : k.log2 < 9000 := by
  have := Nat.log2_le_self k
  omega
theorem lc_pure {f : TgF} {tt : MM Bool} {el : MM SV} {d : DSt} {A : List AO} (t : SV → Bool) (e : SV → PyData) : ∀ (xs : List SV), (∀ x ∈ xs, ∃ d1, f x d = some d1 ∧ tt d1 A = .ok (t x) A ∧ (t x = true → el d1 A = .ok (.dat (e x)) A)) →
    lcGo f tt el d xs A = .ok ((xs.filter t).map e) A
  | [], _ => rfl
  | x :: xs, h => by
    obtain ⟨d1, h1, h2, h3⟩ := h x List.mem_cons_self
    have ih := lc_pure t e xs fun y hy => h y (List.mem_cons_of_mem _ hy)
    unfold lcGo
    rw [h1]
    simp only [h2, v_quiet, v_bind]
    cases ht : t x with
    | true => simp [h3 ht, ih, ht]
    | false => simp [ih, ht]
theorem lenR {A : List AO} {j : Nat} {xs : List PyData} (h : A[j]? = some (.lst xs)) : fLen [.ref j] A = .ok (.dat (.int (xs.length : Nat))) A := by
  have : cont A (.ref j) = some xs := by
    show (match A[j]? with | some (.lst xs) => some xs | none => none) = some xs
    rw [h]
  unfold fLen
  simp only [this]
theorem okD_l {xs : List PyData} (h : PyData.plainAll xs = true ∧ PyData.depthAll xs ≤ 30) : okD (.list xs) = true ∧ okD (.tuple xs) = true := by
  unfold okD
  simp only [PyData.plain, PyData.depth, h.1, Bool.true_and]
  exact ⟨decide_eq_true (by omega), decide_eq_true (by omega)⟩
theorem rng_run {N : Nat} (hN : N ≤ 100000) : fRng [.dat (.int (N : Int))] = some ((List.range N).map fun (n : Nat) => SV.dat (.int (n : Int))) := by
  have : smI (N : Int) = true := by
    unfold smI
    simp
    omega
  unfold fRng
  simp only [this, if_true, Rx.upTo, Int.toNat_natCast, Int.zero_add]
theorem mRng1 {m : MM SV} {d : DSt} {A B : List AO} {x : SV} {ys : List SV} (h : m d A = .ok x B) (h2 : fRng [x] = some ys) : mRng (aLen 1 (mCons m mNil)) d A = .ok ys B := by
  unfold mRng aLen
  simp only [v_Cons, h, v_bind, v_Nil]
  rw [if_pos (show [x].length = 1 from rfl)]
  simp only [v_bind, h2]
theorem any_bools {T : Type} (l : List T) (g : T → Bool) : gAny (.list (l.map fun n => PyData.bool (g n))) = some (.bool (l.any g)) := by
  have h1 : PyData.plainAll (l.map fun n => PyData.bool (g n)) = true := by
    induction l with
    | nil => rfl
    | cons x l ih => simp [PyData.plainAll, PyData.plain, ih]
  have h3 : (l.map fun n => PyData.bool (g n)).any PyData.truthy = l.any g := by
    rw [List.any_map]
    rfl
  unfold gAny
  dsimp only
  rw [if_pos (by rw [h1]; simp), h3]
theorem all_bools {T : Type} (l : List T) (g : T → Bool) : gAll (.list (l.map fun n => PyData.bool (g n))) = some (.bool (l.all g)) := by
  have h1 : PyData.plainAll (l.map fun n => PyData.bool (g n)) = true := by
    induction l with
    | nil => rfl
    | cons x l ih => simp [PyData.plainAll, PyData.plain, ih]
  have h3 : (l.map fun n => PyData.bool (g n)).all PyData.truthy = l.all g := by
    rw [List.all_map]
    rfl
  unfold gAll
  dsimp only
  rw [if_pos (by rw [h1]; simp), h3]
theorem ix0 (x y : PyData) (A : List AO) : fIx (.dat (.tuple [x, y])) (.dat (.int 0)) A = .ok (.dat x) A := rfl
theorem ix1 (x y : PyData) (A : List AO) : fIx (.dat (.tuple [x, y])) (.dat (.int 1)) A = .ok (.dat y) A := rfl
theorem cut_from {T : Type} (xs : List T) (k : Nat) : Rx.cutD xs (some (k : Int)) none = xs.drop k := by
  unfold Rx.cutD
  rw [HT.sIx_nat, HT.sIx_none]
  by_cases hk : k ≤ xs.length
  · rw [Nat.min_eq_left hk, List.take_of_length_le (by rw [List.length_drop]; omega)]
  · rw [Nat.min_eq_right (by omega), List.drop_eq_nil_of_le (Nat.le_refl _), List.drop_eq_nil_of_le (by omega), List.take_nil]
theorem cut_to {T : Type} (xs : List T) (k : Nat) : Rx.cutD xs none (some (k : Int)) = xs.take k := by
  unfold Rx.cutD
  rw [HT.sIx_nat, HT.sIx_none, List.drop_zero, Nat.sub_zero]
  by_cases hk : k ≤ xs.length
  · rw [Nat.min_eq_left hk]
  · rw [Nat.min_eq_right (by omega), List.take_of_length_le (Nat.le_refl _), List.take_of_length_le (by omega)]
theorem r_lc {vs : List Nat} {mi : MM (List SV)} {f : TgF} {tt : MM Bool} {el : MM SV} {d : DSt} {A B C : List AO} {xs : List SV} {r : List PyData} (h1 : mi d A = .ok xs B) (h2 : lcGo f tt el (dwipe d vs) xs B = .ok r C) (h3 : sz r.length = true) : mLc vs mi f tt el d A = .ok r C := by
  unfold mLc
  rw [h1, v_bind, h2, v_quiet, v_bind, if_pos h3]
theorem r_frz {m : MM (List PyData)} {d : DSt} {A B : List AO} {r : List PyData} (h : m d A = .ok r B) : mFrz m d A = .ok (.dat (.list r)) B := by
  unfold mFrz
  rw [h, v_bind]
theorem r_op {f : F2} {a b : MM SV} {d : DSt} {A B C D : List AO} {x y z : SV} (h : a d A = .ok x B) (h2 : b d B = .ok y C) (h3 : f x y C = .ok z D) : mOp f a b d A = .ok z D := by
  unfold mOp
  rw [h, v_bind, h2, v_bind, h3, v_quiet]
theorem r_asg {m : MM SV} {f : TgF} {d d1 : DSt} {A B : List AO} {x : SV} (h : m d A = .ok x B) (hf : f x d = some d1) : zAsg m f d A = .nx d1 B := by
  unfold zAsg
  rw [h, v_toZ, hf]
theorem r_seq {a b : MS} {d d1 : DSt} {A B : List AO} {r : RZ} (h : a d A = .nx d1 B) (h2 : b d1 B = r) : zSeq a b d A = r := by
  unfold zSeq
  rw [h, ← h2]
theorem r_call {f : FL} {a : MM (List SV)} {d : DSt} {A B C : List AO} {x : List SV} {z : SV} (h : a d A = .ok x B) (h3 : f x B = .ok z C) : mCall f a d A = .ok z C := by
  unfold mCall
  rw [h, v_bind, h3, v_quiet]
theorem r_callP {M : FL} {n : Nat} {a : MM (List SV)} {d : DSt} {A B C : List AO} {x : List SV} {z : SV} (h : a d A = .ok x B) (h3 : fCallP M n x B = .ok z C) : mCallP M n a d A = .ok z C := r_call h h3
theorem r_cons {m : MM SV} {r : MM (List SV)} {d : DSt} {A B C : List AO} {x : SV} {xs : List SV} (h : m d A = .ok x B) (h2 : r d B = .ok xs C) : mCons m r d A = .ok (x :: xs) C := by
  unfold mCons
  rw [h, v_bind, h2, v_bind]
theorem r_one {m : MM SV} {d : DSt} {A B : List AO} {x : SV} (h : m d A = .ok x B) : mCons m mNil d A = .ok [x] B := r_cons h rfl
theorem r_two {m n : MM SV} {d : DSt} {A B C : List AO} {x y : SV} (h : m d A = .ok x B) (h2 : n d B = .ok y C) : mCons m (mCons n mNil) d A = .ok [x, y] C := r_cons h (r_one h2)
theorem r_b {a : MM SV} {d : DSt} {A B : List AO} {b : Bool} (h : a d A = .ok (.dat (.bool b)) B) : mB a d A = .ok b B := by
  unfold mB
  rw [h, v_bind, v_isB]
theorem r_ret {m : MM SV} {d : DSt} {A B : List AO} {x : SV} (h : m d A = .ok x B) : zRet m d A = .rt x B := by
  unfold zRet
  rw [h, v_toZ]
theorem r_ifT {c : MM Bool} {a b : MS} {d : DSt} {A B : List AO} (h : c d A = .ok true B) : zIf c a b d A = a d B := by
  unfold zIf
  rw [h, v_toZ, if_pos rfl]
theorem r_ifF {c : MM Bool} {a b : MS} {d : DSt} {A B : List AO} (h : c d A = .ok false B) : zIf c a b d A = b d B := by
  unfold zIf
  rw [h, v_toZ, if_neg Bool.false_ne_true]
theorem r_orT {a b : MM Bool} {d : DSt} {A B : List AO} (h : a d A = .ok true B) : mOr a b d A = .ok true B := by
  unfold mOr
  rw [h, v_bind, if_pos rfl]
theorem r_orF {a b : MM Bool} {d : DSt} {A B : List AO} (h : a d A = .ok false B) : mOr a b d A = b d B := by
  unfold mOr
  rw [h, v_bind, if_neg Bool.false_ne_true]
theorem r_andT {a b : MM Bool} {d : DSt} {A B : List AO} (h : a d A = .ok true B) : mAnd a b d A = b d B := by
  unfold mAnd
  rw [h, v_bind, if_pos rfl]
theorem r_not {a : MM Bool} {d : DSt} {A B : List AO} {b : Bool} (h : a d A = .ok b B) : mNot a d A = .ok (!b) B := by
  unfold mNot
  rw [h, v_bind]
theorem r_bl {a : MM Bool} {d : DSt} {A B : List AO} {b : Bool} (h : a d A = .ok b B) : mBl a d A = .ok (.dat (.bool b)) B := by
  unfold mBl
  rw [h, v_bind]
theorem r_set {i j : Nat} {mi m : MM SV} {d : DSt} {A B C D : List AO} {x y : SV} (h : m d A = .ok x B) (hd : d[i]? = some (some (.ref j))) (h2 : mi d B = .ok y C) (h3 : Rx.putAt C j x y = some D) : zSetI i mi m d A = .nx d D := by
  unfold zSetI
  rw [h, v_toZ]
  simp only [hd, h2, v_toZ, h3]
theorem r_tup {a : MM (List SV)} {d : DSt} {A B C : List AO} {xs : List SV} {z : SV} (h : a d A = .ok xs B) (h2 : fTup xs B = .ok z C) : mTup a d A = .ok z C := by
  unfold mTup
  rw [h, v_bind, h2]
theorem r_slL {a : MM SV} {lo hi : MM (Option Int)} {d : DSt} {A B C D : List AO} {x : SV} {xs : List PyData} {i k : Option Int} (h : a d A = .ok x B) (h1 : lo d B = .ok i C) (h2 : hi d C = .ok k D) (h3 : toD D x = some (.list xs)) : mSlL a lo hi d A = .ok (Rx.cutD xs i k) D := by
  unfold mSlL
  rw [h, v_bind, h1, v_bind, h2, v_bind]
  simp only [h3]
theorem r_part {m : MM SV} {d : DSt} {A B : List AO} {i : Int} (h : m d A = .ok (.dat (.int i)) B) : mPart m d A = .ok (some i) B := by
  unfold mPart
  rw [h, v_bind]
theorem r_cat {a b : MM SV} {d : DSt} {A B C : List AO} {x y : SV} {xs ys : List PyData} (h : a d A = .ok x B) (h2 : b d B = .ok y C) (hx : toD C x = some (.list xs)) (hy : toD C y = some (.list ys)) (hz : sz (xs.length + ys.length) = true) : mCatL a b d A = .ok (xs ++ ys) C := by
  unfold mCatL
  rw [h, v_bind, h2, v_bind]
  simp only [hx, hy, hz, if_true]
theorem r_F {M : FL} {n : Nat} {a : MM (List SV)} {d : DSt} {A B C : List AO} {xs : List SV} {z : SV} (h : a d A = .ok xs B) (hl : xs.length = n) (h2 : M xs B = .ok z C) : mCall (fCallF M n) a d A = .ok z C := by
  refine r_call h ?_
  rw [v_CallF, if_pos hl, h2, v_quiet]
theorem r_for {mi : MM (List SV)} {f : TgF} {b : MS} {d : DSt} {A B : List AO} {xs : List SV} {r : RZ} (h : mi d A = .ok xs B) (h2 : forLoop f b xs d B = r) : zFor mi f b d A = r := by
  unfold zFor
  rw [h, v_toZ, h2]
theorem r_three {m n k : MM SV} {d : DSt} {A B C D : List AO} {x y z : SV} (h : m d A = .ok x B) (h2 : n d B = .ok y C) (h3 : k d C = .ok z D) : mCons m (mCons n (mCons k mNil)) d A = .ok [x, y, z] D := r_cons h (r_two h2 h3)
theorem r_lst {a : MM (List SV)} {d : DSt} {A B : List AO} {xs : List SV} {ds : List PyData} (h : a d A = .ok xs B) (h2 : dats xs = some ds) (h3 : sz ds.length = true) : mLst a d A = .ok ds B := by
  unfold mLst
  rw [h, v_bind, v_lst, h2]
  simp only [h3, if_true]
theorem r_sset {m : MM SV} {d : DSt} {A B : List AO} {x : SV} {ds r : List PyData} (h : m d A = .ok x B) (hc : cont B x = some ds) (hs : setD ds = some r) : mSSet m d A = .ok r B := by
  unfold mSSet
  rw [h, v_bind]
  simp only [hc, hs]
theorem r_slT {a : MM SV} {lo hi : MM (Option Int)} {d : DSt} {A B C D : List AO} {xs : List PyData} {i k : Option Int} (h : a d A = .ok (.dat (.tuple xs)) B) (h1 : lo d B = .ok i C) (h2 : hi d C = .ok k D) : mSlT a lo hi d A = .ok (.dat (.tuple (Rx.cutD xs i k))) D := by
  unfold mSlT
  rw [h, v_bind, h1, v_bind, h2, v_bind]
theorem r_un {f : F1} {a : MM SV} {d : DSt} {A B C : List AO} {x z : SV} (h : a d A = .ok x B) (h3 : f x B = .ok z C) : mUn f a d A = .ok z C := by
  unfold mUn
  rw [h, v_bind, h3, v_quiet]
theorem r_par {i j : Nat} {m : MM (List SV)} {d : DSt} {A B : List AO} {x y : SV} (h : m d A = .ok [x, y] B) : zPar i j m d A = .nx ((d.set i (some x)).set j (some y)) B := by
  unfold zPar
  rw [h, v_toZ]
/-- a comprehension that gives nothing -/
theorem lc_none {f : TgF} {tt : MM Bool} {el : MM SV} {d : DSt} {A : List AO} (xs : List SV) (h : ∀ x ∈ xs, ∃ d1, f x d = some d1 ∧ tt d1 A = .ok false A) : lcGo f tt el d xs A = .ok [] A := by
  have := lc_pure (f := f) (tt := tt) (el := el) (d := d) (A := A) (fun _ => false) (fun _ => .none) xs fun x hx => let ⟨d1, h1, h2⟩ := h x hx; ⟨d1, h1, h2, fun q => nomatch q⟩
  rw [this]
  simp
theorem r_if {T : Type} {c : MM Bool} {a b : MM T} {d : DSt} {A B : List AO} {k : Bool} (h : c d A = .ok k B) : mIf c a b d A = if k = true then a d B else b d B := by
  unfold mIf
  rw [h, v_bind]
theorem r_tn {m : MM (List SV)} {d : DSt} {A : List AO} {xs : List SV} {ds : List PyData} (h : m d A = .ok xs A) (h2 : dats xs = some ds) (h3 : ds.length ≤ 1000) : mTup m d A = .ok (.dat (.tuple ds)) A := by
  refine r_tup h ?_
  rw [v_tup, h2]
  simp only [sz_small (show ds.length ≤ 16000000 by omega), if_true]
end Rx
/-! D1: words to run a mirror whose parts are closed. -/
namespace Rx
open PySem L2 PySem.Spec PyProof.Rows Evl
theorem x_FD {M : FL} {n : Nat} {d : DSt} {A B C : List AO} {mi : MM (List SV)} {xs : List SV} {y : PyData} (h : mi d A = .ok xs A) (hn : xs.length = n) (e : M xs A = .ok (.dat y) C) (hB : C.take A.length = B) : mCall (fCallFD M n) mi d A = .ok (.dat y) B := by
  refine r_call h ?_
  unfold fCallFD
  rw [if_pos hn, e, ← hB]
theorem x_set_last {B : List AO} {o p : AO} : (B ++ [o]).set B.length p = B ++ [p] := by simp
theorem x_get_last {B : List AO} {o : AO} : (B ++ [o])[B.length]? = some o := by simp
theorem x_app {i : Nat} {X : MM SV} {d : DSt} {B : List AO} {xs : List PyData} {v : PyData} (hx : X d (B ++ [.lst xs]) = .ok (.dat v) (B ++ [.lst xs])) (hd : d[i]? = some (some (.ref B.length))) (hz : sz (xs.length + 1) = true) :
    zDrop (mApp i X) d (B ++ [.lst xs]) = .nx d (B ++ [.lst (xs ++ [v])]) := by
  have e : mApp i X d (B ++ [.lst xs]) = .ok (.dat .none) (B ++ [.lst (xs ++ [v])]) := by
    unfold mApp
    rw [hd]
    dsimp only
    rw [hx]
    simp only [RR.bind, x_get_last, hz, if_true, x_set_last]
  unfold zDrop
  rw [e]
  rfl
theorem x_asgM {m : MM (List PyData)} {i : Nat} {d : DSt} {B : List AO} {ds : List PyData} (h : m d B = .ok ds B) : zAsgM m i d B = .nx (d.set i (some (.ref B.length))) (B ++ [.lst ds]) := by
  unfold zAsgM
  rw [h]
  rfl
theorem x_eqLast {i j : Nat} {d : DSt} {B : List AO} {xs : List PyData} {y r : PyData} (h1 : d[i]? = some (some (.ref B.length))) (h2 : d[j]? = some (some (.dat y))) (hg : gEq (.list xs) y = some r) : mOp (f2D gEq) (mVar i) (mVar j) d (B ++ [.lst xs]) = .ok (.dat r) (B ++ [.lst xs]) := by
  have e1 : mVar i d (B ++ [.lst xs]) = .ok (.ref B.length) (B ++ [.lst xs]) := by
    unfold mVar
    rw [h1]
  have e2 : mVar j d (B ++ [.lst xs]) = .ok (.dat y) (B ++ [.lst xs]) := by
    unfold mVar
    rw [h2]
  refine r_op e1 e2 ?_
  have t : toD (B ++ [.lst xs]) (.ref B.length) = some (.list xs) := by
    show (match (B ++ [AO.lst xs])[B.length]? with
      | some (.lst xs) => some (PyData.list xs)
      | none => none) = _
    rw [x_get_last]
  unfold f2D
  rw [t]
  show (match toD (B ++ [AO.lst xs]) (.dat y) with
    | some e => (match gEq (.list xs) e with
      | some r => RR.ok (SV.dat r) (B ++ [AO.lst xs])
      | none => .bad)
    | none => .bad) = _
  show (match gEq (.list xs) y with
      | some r => RR.ok (SV.dat r) (B ++ [AO.lst xs])
      | none => .bad) = _
  rw [hg]
theorem x_eqLastD {i : Nat} {m : MM SV} {d : DSt} {B : List AO} {xs : List PyData} {y r : PyData} (h1 : d[i]? = some (some (.ref B.length))) (h2 : m d (B ++ [.lst xs]) = .ok (.dat y) (B ++ [.lst xs])) (hg : gEq (.list xs) y = some r) : mOp (f2D gEq) (mVar i) m d (B ++ [.lst xs]) = .ok (.dat r) (B ++ [.lst xs]) := by
  have e1 : mVar i d (B ++ [.lst xs]) = .ok (.ref B.length) (B ++ [.lst xs]) := by
    unfold mVar
    rw [h1]
  refine r_op e1 h2 ?_
  have t : toD (B ++ [.lst xs]) (.ref B.length) = some (.list xs) := by
    show (match (B ++ [AO.lst xs])[B.length]? with
      | some (.lst xs) => some (PyData.list xs)
      | none => none) = _
    rw [x_get_last]
  unfold f2D
  rw [t]
  show (match gEq (.list xs) y with
      | some r => RR.ok (SV.dat r) (B ++ [AO.lst xs])
      | none => .bad) = _
  rw [hg]
theorem x_and {a b : MM Bool} {d : DSt} {A B C : List AO} {r : Bool} (h1 : a d A = .ok true B) (h2 : b d B = .ok r C) : mAnd a b d A = .ok r C := by
  unfold mAnd
  rw [h1]
  exact h2
theorem x_bl {a : MM Bool} {d : DSt} {A B : List AO} {r : Bool} (h : a d A = .ok r B) : mBl a d A = .ok (.dat (.bool r)) B := by
  unfold mBl
  rw [h]
  rfl
theorem x_skip {c : MM Bool} {t : MS} {d : DSt} {A B : List AO} (h : c d A = .ok false B) : zIf c t zNil d A = .nx d B := by rw [r_ifF h]; rfl
theorem x_all {α β : Type} {l : List α} {f g : α → β} (h : l.map f = l.map g) : ∀ x ∈ l, f x = g x := fun x hx => List.map_inj_left.mp h x hx
theorem x_take {A B : List AO} {o : List AO} (h : B.length = A.length) : (B ++ o).take A.length = B := by
  rw [← h]
  simp
end Rx
namespace K80
open PySem L2 PySem.Spec PyProof.Rows Evl Rx Lib
@[simp] theorem v_Chain (f g : F2) (a b c : MM SV) (d : DSt) (A : List AO) : mChain f g a b c d A = (a d A).bind fun x A1 => (b d A1).bind fun y A2 => (f x y A2).quiet.bind fun z A3 => (isB z A3).bind fun k A4 =>
  if k = true then (c d A4).bind fun w A5 => (g y w A5).quiet else .ok (.dat (.bool false)) A4 := rfl
def JarAt (A : List AO) (j : Nat) : Prop := ∃ g b c : Int, A[j]? = some (.lst [.int g, .int b, .int c])
theorem ixR {A : List AO} {j : Nat} {xs : List PyData} {k : Int} {d : PyData} (h : A[j]? = some (.lst xs)) (h2 : atD xs k = some d) : fIx (.ref j) (.dat (.int k)) A = .ok (.dat d) A := by
  have : cont A (.ref j) = some xs := by
    show (match A[j]? with | some (.lst xs) => some xs | none => none) = some xs
    rw [h]
  unfold fIx
  simp only [this, h2]
theorem putR {A : List AO} {j q : Nat} {xs : List PyData} {k : Int} {d : PyData} (h : A[j]? = some (.lst xs)) (h2 : ixN xs.length k = some q) : Rx.putAt A j (.dat d) (.dat (.int k)) = some (A.set j (.lst (xs.set q d))) := by
  unfold Rx.putAt
  simp only [h, h2]
theorem mul_64 {i j : Int} (h : i.natAbs < 2 ^ 64) : mulOk i j = true := by
  unfold mulOk
  simp [h]
theorem mul_64' {i j : Int} (h : j.natAbs < 2 ^ 64) : mulOk i j = true := by
  unfold mulOk
  simp [h]
theorem f_mul {i j : Int} (A : List AO) (h : mulOk i j = true) : fMul (.dat (.int i)) (.dat (.int j)) A = .ok (.dat (.int (i * j))) A := by
  rw [i_mul, if_pos h]
theorem f_mod {i j : Int} (A : List AO) (h : 0 < j) : fMod (.dat (.int i)) (.dat (.int j)) A = .ok (.dat (.int (i % j))) A := by
  rw [i_mod, if_pos h]
theorem f_fdv {i j : Int} (A : List AO) (h : 0 < j) (h2 : j.natAbs.log2 < 9000) : fFdv (.dat (.int i)) (.dat (.int j)) A = .ok (.dat (.int (i / j))) A := by
  rw [i_fdv, if_pos (by rw [decide_eq_true h, decide_eq_true h2]; rfl)]
theorem mfn_rt {n : Nat} {ms : MS} {xs : List SV} {A B : List AO} {x : SV} (h : ms (xs.map some ++ List.replicate (n - xs.length) none) A = .rt x B) : mfn n ms xs A = .ok x B := by
  unfold mfn
  rw [h]
theorem dip_run {A : List AO} {j : Nat} {m : Int} (hj : JarAt A j) (h1 : 1 ≤ m) (h2 : m ≤ 6000) : ∃ (r : Int) (B : List AO), M__law_dip [.ref j, .dat (.int m)] A = .ok (.dat (.int r)) B ∧ 0 ≤ r ∧ r < m ∧ JarAt B j ∧ B.length = A.length := by
  obtain ⟨g, b, c, hA⟩ := hj
  have jl := (List.getElem?_eq_some_iff.mp hA).1
  have lm : m.natAbs.log2 < 9000 := log_small (by omega)
  have l65 : (65537 : Int).natAbs.log2 < 9000 := by decide +kernel
  by_cases hg : 0 < g
  · refine ⟨g % m, A.set j (.lst [.int (g / m), .int b, .int c]), mfn_rt ?_, Int.emod_nonneg _ (by omega), Int.emod_lt_of_pos _ (by omega), ⟨_, b, c, List.getElem?_set_self jl⟩, List.length_set⟩
    show z__law_dip [some (.ref j), some (.dat (.int m)), none, none, none] A = _
    have i0 : mOp fIx (mVar 0) (mC (.dat (.int 0))) [some (.ref j), some (.dat (.int m)), none, none, none] A = .ok (.dat (.int g)) A := r_op rfl rfl (ixR hA rfl)
    have c0 : mB (mOp (f2D gGt) (mOp fIx (mVar 0) (mC (.dat (.int 0)))) (mC (.dat (.int 0)))) [some (.ref j), some (.dat (.int m)), none, none, none] A = .ok true A := r_b (by rw [r_op i0 rfl (i_gt g 0 A), decide_eq_true hg])
    unfold z__law_dip
    have a1 : zAsg (mOp fMod (mCall (f1D gInt) (mCons (mOp fIx (mVar 0) (mC (.dat (.int 0)))) mNil)) (mVar 1)) (gtName 2) [some (.ref j), some (.dat (.int m)), none, none, none] A = .nx [some (.ref j), some (.dat (.int m)), some (.dat (.int (g % m))), none, none] A :=
      r_asg (r_op (r_call (r_one i0) (i_int g A)) rfl (f_mod A (by omega))) rfl
    have i1 : mOp fIx (mVar 0) (mC (.dat (.int 0))) [some (.ref j), some (.dat (.int m)), some (.dat (.int (g % m))), none, none] A = .ok (.dat (.int g)) A := r_op rfl rfl (ixR hA rfl)
    have a2 : zSetI 0 (mC (.dat (.int 0))) (mOp fFdv (mOp fIx (mVar 0) (mC (.dat (.int 0)))) (mVar 1)) [some (.ref j), some (.dat (.int m)), some (.dat (.int (g % m))), none, none] A = .nx [some (.ref j), some (.dat (.int m)), some (.dat (.int (g % m))), none, none] (A.set j (.lst [.int (g / m), .int b, .int c])) :=
      r_set (r_op i1 rfl (f_fdv A (by omega) lm)) rfl rfl (putR hA (q := 0) rfl)
    rw [v_zSeq, r_ifT c0, r_seq a1 (r_seq a2 rfl)]
    rfl
  · let A1 := A.set j (.lst [.int g, .int b, .int (c + 1)])
    have hA1 : A1[j]? = some (.lst [.int g, .int b, .int (c + 1)]) := List.getElem?_set_self jl
    let one := (b + 67867967 * (c + 1)) % 2305843009213693951
    let two := (one * one + 109 * (c + 1)) % 2305843009213693921 * 5999993 + one
    refine ⟨two / 65537 % m, A1, mfn_rt ?_, Int.emod_nonneg _ (by omega), Int.emod_lt_of_pos _ (by omega), ⟨_, b, _, hA1⟩, List.length_set⟩
    show z__law_dip [some (.ref j), some (.dat (.int m)), none, none, none] A = _
    have i0 : mOp fIx (mVar 0) (mC (.dat (.int 0))) [some (.ref j), some (.dat (.int m)), none, none, none] A = .ok (.dat (.int g)) A := r_op rfl rfl (ixR hA rfl)
    have c0 : mB (mOp (f2D gGt) (mOp fIx (mVar 0) (mC (.dat (.int 0)))) (mC (.dat (.int 0)))) [some (.ref j), some (.dat (.int m)), none, none, none] A = .ok false A := r_b (by rw [r_op i0 rfl (i_gt g 0 A), decide_eq_false hg])
    unfold z__law_dip
    rw [v_zSeq, r_ifF c0, v_zNil]
    have a1 : zSetI 0 (mC (.dat (.int 2))) (mOp fAdd (mOp fIx (mVar 0) (mC (.dat (.int 2)))) (mC (.dat (.int 1)))) [some (.ref j), some (.dat (.int m)), none, none, none] A = .nx [some (.ref j), some (.dat (.int m)), none, none, none] A1 :=
      r_set (r_op (r_op rfl rfl (ixR hA (d := .int c) rfl)) rfl (i_add c 1 A)) rfl rfl (putR hA (q := 2) rfl)
    have o0 : 0 ≤ one := Int.emod_nonneg _ (by decide)
    have o1 : one < 2305843009213693951 := Int.emod_lt_of_pos _ (by decide)
    have o2 : one.natAbs < 2 ^ 64 := by omega
    have a2 : zAsg (mOp fMod (mCall (f1D gInt) (mCons (mOp fAdd (mOp fIx (mVar 0) (mC (.dat (.int 1)))) (mOp fMul (mC (.dat (.int 67867967))) (mOp fIx (mVar 0) (mC (.dat (.int 2)))))) mNil)) (mC (.dat (.int 2305843009213693951)))) (gtName 3) [some (.ref j), some (.dat (.int m)), none, none, none] A1 = .nx [some (.ref j), some (.dat (.int m)), none, some (.dat (.int one)), none] A1 :=
      r_asg (r_op (r_call (r_one (r_op (r_op rfl rfl (ixR hA1 (d := .int b) rfl)) (r_op rfl (r_op rfl rfl (ixR hA1 (d := .int (c + 1)) rfl)) (f_mul A1 (mul_64 (by decide)))) (i_add _ _ A1))) (i_int _ A1)) rfl (f_mod A1 (by decide))) rfl
    have a3 : zAsg (mOp fAdd (mOp fMul (mOp fMod (mCall (f1D gInt) (mCons (mOp fAdd (mOp fMul (mVar 3) (mVar 3)) (mOp fMul (mC (.dat (.int 109))) (mOp fIx (mVar 0) (mC (.dat (.int 2)))))) mNil)) (mC (.dat (.int 2305843009213693921)))) (mC (.dat (.int 5999993)))) (mVar 3)) (gtName 4) [some (.ref j), some (.dat (.int m)), none, some (.dat (.int one)), none] A1 = .nx [some (.ref j), some (.dat (.int m)), none, some (.dat (.int one)), some (.dat (.int two))] A1 :=
      r_asg (r_op (r_op (r_op (r_call (r_one (r_op (r_op rfl rfl (f_mul A1 (mul_64 o2))) (r_op rfl (r_op rfl rfl (ixR hA1 (d := .int (c + 1)) rfl)) (f_mul A1 (mul_64 (by decide)))) (i_add _ _ A1))) (i_int _ A1)) rfl (f_mod A1 (by decide))) rfl (f_mul A1 (mul_64' (by decide)))) rfl (i_add _ _ A1)) rfl
    have a4 : zRet (mOp fMod (mCall (f1D gInt) (mCons (mOp fFdv (mVar 4) (mC (.dat (.int 65537)))) mNil)) (mVar 1)) [some (.ref j), some (.dat (.int m)), none, some (.dat (.int one)), some (.dat (.int two))] A1 = .rt (.dat (.int (two / 65537 % m))) A1 :=
      r_ret (r_op (r_call (r_one (r_op rfl rfl (f_fdv A1 (by decide) l65))) (i_int _ A1)) rfl (f_mod A1 (by omega)))
    exact r_seq a1 (r_seq a2 (r_seq a3 a4))
theorem f_pow (i : Int) (k : Nat) (A : List AO) (h : k ≤ 1000) (h2 : i.natAbs < 2 ^ 64) : fPow (.dat (.int i)) (.dat (.int (k : Int))) A = .ok (.dat (.int (i ^ k))) A := by
  have e : (decide (0 ≤ (k : Int)) && decide ((k : Int) ≤ 1000000) && decide (i.natAbs < 2 ^ 64)) = true := by
    rw [decide_eq_true (by omega), decide_eq_true (by omega), decide_eq_true h2]
    rfl
  show (if (decide (0 ≤ (k : Int)) && decide ((k : Int) ≤ 1000000) && decide (i.natAbs < 2 ^ 64)) = true then RR.ok (SV.dat (.int (i ^ ((k : Int)).toNat))) A else .bad) = _
  rw [if_pos e, Int.toNat_natCast]
theorem f_abs (i : Int) (A : List AO) : ∃ k : Int, f1D gAbs [.dat (.int i)] A = .ok (.dat (.int k)) A ∧ 0 ≤ k := by
  refine ⟨_, i_abs i A, ?_⟩
  split <;> omega
theorem f_max0 (i : Int) (A : List AO) : ∃ k : Int, fMax2 [.dat (.int 0), .dat (.int i)] A = .ok (.dat (.int k)) A := ⟨_, rfl⟩
theorem jar_run (ns : List Int) (spot : Nat) (hs : spot ≤ 1) : ∃ g b : Int, M__law_jar [.dat (.list (ns.map PyData.int)), .dat (.int (spot : Int))] [] = .ok (.ref 0) [.lst [.int g, .int b, .int 0]] := by
  let d0 : DSt := [some (.dat (.list (ns.map PyData.int))), some (.dat (.int (spot : Int))), none, none]
  have ll : fLen [.dat (.list (ns.map PyData.int))] [] = .ok (.dat (.int (ns.length : Int))) [] := by rw [l_len, List.length_map]
  obtain ⟨cell, h1⟩ : ∃ cell : Int, mIf (mB (mOp (f2D gLt) (mVar 1) (mCall fLen (mCons (mVar 0) mNil)))) (mCall (f1D gInt) (mCons (mOp fIx (mVar 0) (mVar 1)) mNil)) (mOp fAdd (mOp fMul (mC (.dat (.int 113))) (mVar 1)) (mC (.dat (.int 59)))) d0 [] = .ok (.dat (.int cell)) [] := by
    have c : mB (mOp (f2D gLt) (mVar 1) (mCall fLen (mCons (mVar 0) mNil))) d0 [] = .ok (decide ((spot : Int) < (ns.length : Int))) [] := r_b (r_op rfl (r_call (r_one rfl) ll) (i_lt _ _ []))
    rw [r_if c]
    by_cases hl : (spot : Int) < (ns.length : Int)
    · rw [decide_eq_true hl, if_pos rfl]
      have hl2 : spot < ns.length := by omega
      have a : atD (ns.map PyData.int) (spot : Int) = some (.int ns[spot]) := by
        unfold atD ixN
        rw [List.length_map, if_pos (by omega), if_pos (by omega)]
        simp [hl2]
      have ix : fIx (.dat (.list (ns.map PyData.int))) (.dat (.int (spot : Int))) [] = .ok (.dat (.int ns[spot])) [] := by
        unfold fIx
        simp only [v_contL, a]
      exact ⟨_, r_call (r_one (r_op rfl rfl ix)) (i_int _ [])⟩
    · rw [decide_eq_false hl, if_neg Bool.false_ne_true]
      exact ⟨_, r_op (r_op rfl rfl (f_mul [] (mul_64 (by decide)))) rfl (i_add _ _ [])⟩
  have s1 := r_asg (f := gtName 2) h1 rfl
  let d1 : DSt := [some (.dat (.list (ns.map PyData.int))), some (.dat (.int (spot : Int))), some (.dat (.int cell)), none]
  obtain ⟨ab, hab, ab0⟩ := f_abs cell []
  obtain ⟨mx, hmx⟩ := f_max0 (ab - 10 ^ 17) []
  have big : mulOk ((10 : Int) ^ 58) ((10 : Int) ^ 59) = true := by decide +kernel
  have s2 : zAsg (mOp fMod (mCall fMax2 (mCons (mC (.dat (.int 0))) (mCons (mOp fSub (mCall (f1D gAbs) (mCons (mVar 2) mNil)) (mOp fPow (mC (.dat (.int 10))) (mC (.dat (.int 17))))) mNil))) (mOp fMul (mOp fPow (mC (.dat (.int 10))) (mC (.dat (.int 58)))) (mOp fPow (mC (.dat (.int 10))) (mC (.dat (.int 59)))))) (gtName 3) d1 [] =
      .nx [some (.dat (.list (ns.map PyData.int))), some (.dat (.int (spot : Int))), some (.dat (.int cell)), some (.dat (.int (mx % (10 ^ 58 * 10 ^ 59))))] [] :=
    r_asg (r_op (r_call (r_two rfl (r_op (r_call (r_one rfl) hab) (r_op rfl rfl (f_pow 10 17 [] (by decide) (by decide))) (i_sub _ _ []))) hmx) (r_op (r_op rfl rfl (f_pow 10 58 [] (by decide) (by decide))) (r_op rfl rfl (f_pow 10 59 [] (by decide) (by decide))) (f_mul [] big)) (f_mod [] (by decide +kernel))) rfl
  let d2 : DSt := [some (.dat (.list (ns.map PyData.int))), some (.dat (.int (spot : Int))), some (.dat (.int cell)), some (.dat (.int (mx % (10 ^ 58 * 10 ^ 59))))]
  obtain ⟨b, h3⟩ : ∃ b : Int, mOp fAdd (mOp fAdd (mOp fAdd (mOp fMul (mOp fMod (mCall (f1D gAbs) (mCons (mVar 2) mNil)) (mC (.dat (.int 1152921504606847009)))) (mC (.dat (.int 103)))) (mOp fMul (mC (.dat (.int 1013))) (mVar 1))) (mOp fMul (mC (.dat (.int 71))) (mCall (f1D gInt) (mCons (mOp (f2D gLt) (mVar 2) (mC (.dat (.int 0)))) mNil)))) (mC (.dat (.int 13))) d2 [] = .ok (.dat (.int b)) [] :=
    ⟨_, r_op (r_op (r_op (r_op (r_op (r_call (r_one rfl) hab) rfl (f_mod [] (by decide))) rfl (f_mul [] (mul_64' (by decide)))) (r_op rfl rfl (f_mul [] (mul_64 (by decide)))) (i_add _ _ [])) (r_op rfl (r_call (r_one (r_op rfl rfl (i_lt _ _ []))) (b_int _ [])) (f_mul [] (mul_64 (by decide)))) (i_add _ _ [])) rfl (i_add _ _ [])⟩
  refine ⟨mx % (10 ^ 58 * 10 ^ 59), b, mfn_rt (r_seq s1 (r_seq s2 ?_))⟩
  have s3 := r_lst (r_three (m := mVar 3) (k := mC (.dat (.int 0))) rfl h3 rfl) rfl (sz_small (by show 3 ≤ 16000000; omega))
  refine r_ret ?_
  unfold mMut
  rw [s3, v_bind]
  rfl

/-- one of some items -/
theorem one_draw {d : DSt} {A : List AO} {j : Nat} {mi : MM SV} {ds : List PyData} (hj : JarAt A j) (h0 : mVar 0 d A = .ok (.ref j) A) (hm : mi d A = .ok (.dat (.list ds)) A) (h1 : 1 ≤ ds.length) (h2 : ds.length ≤ 6000) :
    ∃ (y : PyData) (B : List AO), mCall (fCallFD M__law_one 2) (mCons (mVar 0) (mCons mi mNil)) d A = .ok (.dat y) B ∧ y ∈ ds ∧ JarAt B j ∧ B.length = A.length := by
  obtain ⟨r, B, e, r0, r1, jB, lB⟩ := dip_run (m := (ds.length : Int)) hj (by omega) (by omega)
  obtain ⟨i, rfl⟩ := Int.eq_ofNat_of_zero_le r0
  have hi : i < ds.length := by omega
  have tk : B.take A.length = B := by rw [← lB]; exact List.take_length
  refine ⟨ds[i], B, ?_, List.getElem_mem hi, jB, lB⟩
  refine x_FD (C := B) (r_two h0 hm) rfl ?_ tk
  refine mfn_rt ?_
  show z__law_one [some (.ref j), some (.dat (.list ds))] A = _
  have c : mCall (fCallFD M__law_dip 2) (mCons (mVar 0) (mCons (mCall fLen (mCons (mVar 1) mNil)) mNil)) [some (.ref j), some (.dat (.list ds))] A = .ok (.dat (.int (i : Int))) B := x_FD (C := B) (r_two rfl (r_call (r_one rfl) (l_len ds A))) rfl e tk
  have a : atD ds (i : Int) = some ds[i] := by
    unfold atD ixN
    rw [if_pos (by omega), if_pos (by omega)]
    simp [hi]
  have ix : fIx (.dat (.list ds)) (.dat (.int (i : Int))) B = .ok (.dat ds[i]) B := by
    unfold fIx
    simp only [v_contL, a]
  exact r_ret (r_op rfl c ix)
end K80
namespace K80
open PySem L2 PySem.Spec PyProof.Rows Evl Rx Lib
def farD (n : PyData) : PyData := .tuple [.str "number", (gReprX n).getD .none]
abbrev w__law_right_0 : MS := (zAsg (mFrz (mLst (mCons (mC (.dat .none)) (mCons (mTup mNil) (mCons (mFrz (mLst (mCons (mTup (mCons (mC (.dat (.int 2))) (mCons (mC (.dat (.int 0))) mNil))) mNil))) (mCons (mTup (mCons (mTup (mCons (mC (.dat (.int 2))) (mCons (mC (.dat (.int 0))) mNil))) (mCons (mTup (mCons (mC (.dat (.int 2))) (mCons (mC (.dat (.int 0))) mNil))) mNil))) (mCons (mTup (mCons (mTup (mCons (mC (.dat (.int 3))) (mCons (mC (.dat (.int 1))) mNil))) (mCons (mTup (mCons (mC (.dat (.int 2))) (mCons (mC (.dat (.int 0))) mNil))) mNil))) (mCons (mTup (mCons (mTup (mCons (mC (.dat (.int 0))) (mCons (mC (.dat (.int 0))) mNil))) mNil)) (mCons (mTup (mCons (mTup (mCons (mC (.dat (.int 25))) (mCons (mC (.dat (.int 0))) mNil))) mNil)) (mCons (mTup (mCons (mTup (mCons (mC (.dat (.int 2))) (mCons (mC (.dat (.int 2))) mNil))) mNil)) (mCons (mTup (mCons (mTup (mCons (mC (.dat (.int 2))) (mCons (mUn fNeg (mC (.dat (.int 1)))) mNil))) mNil)) (mCons (mTup (mCons (mTup (mCons (mC (.dat (.int 2))) (mCons (mC (.dat (.bool true))) mNil))) mNil)) (mCons (mTup (mCons (mTup (mCons (mC (.dat (.int 2))) mNil)) mNil)) (mCons (mTup (mCons (mC (.dat (.int 2))) (mCons (mC (.dat (.int 0))) mNil))) (mCons (mTup (mCons (mTup (mCons (mC (.dat (.int 2))) (mCons (mC (.dat (.int 0))) (mCons (mC (.dat (.int 0))) mNil)))) mNil)) (mCons (mC (.dat (.int 0))) (mCons (mC (.dat (.dict []))) (mCons (mC (.dat (.str "20"))) mNil)))))))))))))))))) (gtName 1))
abbrev w__law_right_1 : MS := (zAsg (mFrz (mCatL (mVar 1) (mFrz (mLst (mCons (mCall fTuple (mCons (mFrz (mLc [14] (mRng (aLen 1 (mCons (mC (.dat (.int 13))) mNil))) (gtName 14) mYes (mTup (mCons (mC (.dat (.int 13))) (mCons (mVar 14) mNil))))) mNil)) (mCons (mTup (mCons (mTup (mCons (mC (.dat (.int 5))) (mCons (mC (.dat (.int 0))) mNil))) (mCons (mTup (mCons (mC (.dat (.int 7))) (mCons (mC (.dat (.int 0))) mNil))) (mCons (mTup (mCons (mC (.dat (.int 8))) (mCons (mC (.dat (.int 0))) mNil))) (mCons (mTup (mCons (mC (.dat (.int 9))) (mCons (mC (.dat (.int 0))) mNil))) (mCons (mTup (mCons (mC (.dat (.int 11))) (mCons (mC (.dat (.int 0))) mNil))) mNil)))))) (mCons (mTup (mCons (mTup (mCons (mC (.dat (.int 16))) (mCons (mC (.dat (.int 0))) mNil))) (mCons (mTup (mCons (mC (.dat (.int 23))) (mCons (mC (.dat (.int 0))) mNil))) (mCons (mTup (mCons (mC (.dat (.int 21))) (mCons (mC (.dat (.int 0))) mNil))) mNil)))) mNil))))))) (gtName 1))
abbrev w__law_right_2 : MS := (zAsg (mTup (mCons (mCall (fCallFD M__law_one 2) (mCons (mVar 0) (mCons (mVar 1) mNil))) (mCons (mTup (mCons (mTup (mCons (mC (.dat (.int 2))) (mCons (mC (.dat (.int 0))) mNil))) (mCons (mTup (mCons (mC (.dat (.int 4))) (mCons (mC (.dat (.int 1))) mNil))) (mCons (mTup (mCons (mC (.dat (.int 4))) (mCons (mC (.dat (.int 3))) mNil))) mNil)))) (mCons (mTup (mCons (mC (.dat (.str "told"))) (mCons (mC (.dat (.bool false))) mNil))) mNil)))) (gtTup 3 (gtCons (gtName 2) (gtCons (gtName 3) (gtCons (gtName 4) gtNil)))))
abbrev w__law_right_3 : MS := (zIf (mOr (mB (mOp (f2D gNe) (mCallP M__law_of_book 1 (mCons (mVar 2) mNil)) (mFrz (mRepL (mLst (mCons (mTup (mCons (mC (.dat (.str "book"))) mNil)) mNil)) (mC (.dat (.int 11))))))) (mOr (mB (mOp (f2D gNe) (mCallP M__law_of_book 1 (mCons (mVar 3) mNil)) (mFrz (mRepL (mLst (mCons (mVar 4) mNil)) (mC (.dat (.int 11))))))) (mOr (mB (mOp (fIs true) (mCallP M_is_book 1 (mCons (mVar 2) mNil)) (mC (.dat (.bool false))))) (mB (mOp (fIs true) (mCallP M_is_book 1 (mCons (mVar 3) mNil)) (mC (.dat (.bool true)))))))) (zRet (mC (.dat (.bool false)))) zNil)
abbrev w__law_right_4 : MS := (zAsg (mCall (fCallFD M__law_one 2) (mCons (mVar 0) (mCons (mFrz (mLst (mCons (mC (.dat .none)) (mCons (mTup mNil) (mCons (mTup (mCons (mC (.dat (.int 2))) mNil)) (mCons (mFrz (mLst (mCons (mC (.dat (.int 2))) (mCons (mC (.dat (.int 0))) mNil)))) (mCons (mTup (mCons (mC (.dat (.int 2))) (mCons (mC (.dat (.int 2))) mNil))) (mCons (mTup (mCons (mC (.dat (.int 0))) (mCons (mC (.dat (.int 0))) mNil))) (mCons (mTup (mCons (mC (.dat (.int 25))) (mCons (mC (.dat (.int 0))) mNil))) (mCons (mTup (mCons (mC (.dat (.int 2))) (mCons (mC (.dat (.bool true))) mNil))) (mCons (mTup (mCons (mC (.dat (.bool true))) (mCons (mC (.dat (.int 0))) mNil))) (mCons (mTup (mCons (mC (.dat (.int 2))) (mCons (mC (.dat (.int 0))) (mCons (mC (.dat (.int 0))) mNil)))) (mCons (mC (.dat (.int 0))) mNil))))))))))))) mNil))) (gtName 5))
abbrev w__law_right_5 : MS := (zAsg (mTup (mCons (mCall (fCallFD M__law_one 2) (mCons (mVar 0) (mCons (mFrz (mLst (mCons (mC (.dat .none)) (mCons (mC (.dat (.bool true))) (mCons (mC (.dat (.str "0"))) (mCons (mTup (mCons (mC (.dat (.int 1))) mNil)) (mCons (mOp fPow (mC (.dat (.int 10))) (mC (.dat (.int 60)))) mNil))))))) mNil))) (mCons (mCall (fCallFD M__law_one 2) (mCons (mVar 0) (mCons (mFrz (mLst (mCons (mC (.dat (.int 3))) (mCons (mUn fNeg (mC (.dat (.int 1)))) (mCons (mC (.dat .none)) (mCons (mC (.dat (.bool true))) (mCons (mC (.dat (.str "0"))) mNil))))))) mNil))) mNil))) (gtTup 2 (gtCons (gtName 6) (gtCons (gtName 7) gtNil))))
abbrev w__law_right_6 : MS := (zAsg (mTup (mCons (mCall (fCallFD M__law_one 2) (mCons (mVar 0) (mCons (mFrz (mLst (mCons (mC (.dat (.int 1))) (mCons (mC (.dat (.int 25))) (mCons (mC (.dat (.int 0))) (mCons (mC (.dat .none)) (mCons (mC (.dat (.bool true))) (mCons (mC (.dat (.str "2"))) mNil)))))))) mNil))) (mCons (mCall (fCallFD M__law_one 2) (mCons (mVar 0) (mCons (mFrz (mLst (mCons (mC (.dat .none)) (mCons (mTup mNil) (mCons (mTup (mCons (mC (.dat (.int 0))) mNil)) (mCons (mFrz (mLst (mCons (mC (.dat (.int 0))) (mCons (mC (.dat (.int 1))) mNil)))) (mCons (mTup (mCons (mC (.dat (.int 1))) (mCons (mC (.dat (.int 0))) mNil))) (mCons (mTup (mCons (mC (.dat (.int 0))) (mCons (mC (.dat (.int 0))) mNil))) (mCons (mTup (mCons (mC (.dat (.int 0))) (mCons (mC (.dat (.int 3))) mNil))) (mCons (mTup (mCons (mUn fNeg (mC (.dat (.int 1)))) (mCons (mC (.dat (.int 0))) mNil))) (mCons (mTup (mCons (mC (.dat (.int 0))) (mCons (mC (.dat (.bool true))) mNil))) (mCons (mC (.dat (.int 0))) mNil)))))))))))) mNil))) mNil))) (gtTup 2 (gtCons (gtName 8) (gtCons (gtName 9) gtNil))))
abbrev w__law_right_7 : MS := (zAsgM (mLst (mCons (mLamC 2 z__law_met (mCallX (fCallX M_is_in 2) (mCons (mVar 5) (mCons (mVar 6) mNil)))) mNil)) 10)
abbrev w__law_right_8 : MS := (zDrop (mApp 10 (mLamC 2 z__law_met (mCallX (fCallX M_is_in 2) (mCons (mTup (mCons (mC (.dat (.int 2))) (mCons (mC (.dat (.int 0))) mNil))) (mCons (mVar 6) mNil))))))
abbrev w__law_right_9 : MS := (zDrop (mApp 10 (mLamC 2 z__law_met (mCallX (fCallX M_common_class 2) (mCons (mVar 5) (mCons (mVar 5) mNil))))))
abbrev w__law_right_10 : MS := (zDrop (mApp 10 (mLamC 2 z__law_met (mCallX (fCallX M_common_class 2) (mCons (mTup (mCons (mC (.dat (.int 2))) (mCons (mC (.dat (.int 0))) mNil))) (mCons (mVar 5) mNil))))))
abbrev w__law_right_11 : MS := (zDrop (mApp 10 (mLamC 2 z__law_met (mCallX (fCallX M_does_cover 3) (mCons (mVar 2) (mCons (mVar 6) (mCons (mC (.dat (.int 0))) mNil)))))))
abbrev w__law_right_12 : MS := (zDrop (mApp 10 (mLamC 2 z__law_met (mCallX (fCallX M_does_cover 3) (mCons (mVar 3) (mCons (mVar 6) (mCons (mC (.dat (.int 0))) mNil)))))))
abbrev w__law_right_13 : MS := (zDrop (mApp 10 (mLamC 2 z__law_met (mCallX (fCallX M_does_cover 3) (mCons (mVar 3) (mCons (mC (.dat (.int 5))) (mCons (mC (.dat (.int 0))) mNil)))))))
abbrev w__law_right_14 : MS := (zDrop (mApp 10 (mLamC 2 z__law_met (mCallX (fCallX M_does_cover 3) (mCons (mVar 3) (mCons (mC (.dat (.int 5))) (mCons (mC (.dat (.int 5041))) mNil)))))))
abbrev w__law_right_15 : MS := (zDrop (mApp 10 (mLamC 2 z__law_met (mCallX (fCallX M_parted 3) (mCons (mVar 2) (mCons (mVar 7) (mCons (mVar 8) mNil)))))))
abbrev w__law_right_16 : MS := (zDrop (mApp 10 (mLamC 2 z__law_met (mCallX (fCallX M_parted 3) (mCons (mVar 3) (mCons (mVar 7) (mCons (mVar 8) mNil)))))))
abbrev w__law_right_17 : MS := (zDrop (mApp 10 (mLamC 2 z__law_met (mCallX (fCallX M_parted 3) (mCons (mVar 3) (mCons (mC (.dat (.int 0))) (mCons (mVar 8) mNil)))))))
abbrev w__law_right_18 : MS := (zDrop (mApp 10 (mLamC 2 z__law_met (mCallX (fCallX M_joined 2) (mCons (mVar 2) (mCons (mVar 9) mNil))))))
abbrev w__law_right_19 : MS := (zDrop (mApp 10 (mLamC 2 z__law_met (mCallX (fCallX M_joined 2) (mCons (mVar 3) (mCons (mVar 9) mNil))))))
abbrev w__law_right_20 : MS := (zDrop (mApp 10 (mLamC 2 z__law_met (mCallX (fCallX M_joined 2) (mCons (mVar 3) (mCons (mTup (mCons (mC (.dat (.int 0))) (mCons (mC (.dat (.int 1))) mNil))) mNil))))))
abbrev w__law_right_21 : MS := (zPar 11 12 (mCons (mTup (mCons (mC (.dat (.str "number"))) (mCons (mCall (f1D gReprX) (mCons (mVar 6) mNil)) mNil))) (mCons (mTup (mCons (mC (.dat (.str "number"))) (mCons (mCall (f1D gReprX) (mCons (mVar 7) mNil)) mNil))) mNil)))
abbrev w__law_right_22 : MS := (zAsg (mFrz (mLst (mCons (mTup (mCons (mC (.dat (.str "book"))) mNil)) (mCons (mVar 11) (mCons (mTup (mCons (mC (.dat (.str "book"))) mNil)) (mCons (mTup (mCons (mC (.dat (.str "book"))) mNil)) (mCons (mTup (mCons (mC (.dat (.str "book"))) mNil)) (mCons (mVar 11) (mCons (mTup (mCons (mC (.dat (.str "number"))) (mCons (mC (.dat (.str "0"))) mNil))) (mCons (mTup (mCons (mC (.dat (.str "number"))) (mCons (mC (.dat (.str "5041"))) mNil))) (mCons (mTup (mCons (mC (.dat (.str "book"))) mNil)) (mCons (mVar 12) (mCons (mTup (mCons (mC (.dat (.str "number"))) (mCons (mCall (f1D gReprX) (mCons (mVar 8) mNil)) mNil))) (mCons (mTup (mCons (mC (.dat (.str "book"))) mNil)) (mCons (mTup (mCons (mC (.dat (.str "report"))) mNil)) (mCons (mTup (mCons (mC (.dat (.str "operation"))) mNil)) mNil)))))))))))))))) (gtName 13))
abbrev w__law_right_23 : MS := (zRet (mBl (mAnd (mB (mOp (f2D gEq) (mVar 10) (mVar 13))) (mAnd (mB (mOp (fIs false) (mCallP M_is_class 1 (mCons (mVar 5) mNil)) (mC (.dat (.bool false))))) (mB (mOp (fIs false) (mCallP M_is_class 1 (mCons (mTup (mCons (mC (.dat (.int 24))) (mCons (mC (.dat (.int 23))) mNil))) mNil)) (mC (.dat (.bool true)))))))))
theorem f__law_right_0 (s0 s1 s2 s3 s4 s5 s6 s7 s8 s9 s10 s11 s12 s13 s14 : Option SV) (A : List AO) : w__law_right_0 [s0, s1, s2, s3, s4, s5, s6, s7, s8, s9, s10, s11, s12, s13, s14] A = RZ.nx [s0, some (.dat (.list [.none, .tuple [], .list [.tuple [.int 2, .int 0]], .tuple [.tuple [.int 2, .int 0], .tuple [.int 2, .int 0]], .tuple [.tuple [.int 3, .int 1], .tuple [.int 2, .int 0]], .tuple [.tuple [.int 0, .int 0]], .tuple [.tuple [.int 25, .int 0]], .tuple [.tuple [.int 2, .int 2]], .tuple [.tuple [.int 2, .int (-1)]], .tuple [.tuple [.int 2, .bool true]], .tuple [.tuple [.int 2]], .tuple [.int 2, .int 0], .tuple [.tuple [.int 2, .int 0, .int 0]], .int 0, .dict [], .str "20"])), s2, s3, s4, s5, s6, s7, s8, s9, s10, s11, s12, s13, s14] A := by kernel_rfl
abbrev Modd : List PyData := ([.none, .tuple [], .list [.tuple [.int 2, .int 0]], .tuple [.tuple [.int 2, .int 0], .tuple [.int 2, .int 0]], .tuple [.tuple [.int 3, .int 1], .tuple [.int 2, .int 0]], .tuple [.tuple [.int 0, .int 0]], .tuple [.tuple [.int 25, .int 0]], .tuple [.tuple [.int 2, .int 2]], .tuple [.tuple [.int 2, .int (-1)]], .tuple [.tuple [.int 2, .bool true]], .tuple [.tuple [.int 2]], .tuple [.int 2, .int 0], .tuple [.tuple [.int 2, .int 0, .int 0]], .int 0, .dict [], .str "20", .tuple [.tuple [.int 13, .int 0], .tuple [.int 13, .int 1], .tuple [.int 13, .int 2], .tuple [.int 13, .int 3], .tuple [.int 13, .int 4], .tuple [.int 13, .int 5], .tuple [.int 13, .int 6], .tuple [.int 13, .int 7], .tuple [.int 13, .int 8], .tuple [.int 13, .int 9], .tuple [.int 13, .int 10], .tuple [.int 13, .int 11], .tuple [.int 13, .int 12]], .tuple [.tuple [.int 5, .int 0], .tuple [.int 7, .int 0], .tuple [.int 8, .int 0], .tuple [.int 9, .int 0], .tuple [.int 11, .int 0]], .tuple [.tuple [.int 16, .int 0], .tuple [.int 23, .int 0], .tuple [.int 21, .int 0]]] : List PyData)
theorem f__law_right_1 (s0 s2 s3 s4 s5 s6 s7 s8 s9 s10 s11 s12 s13 : Option SV) (A : List AO) : w__law_right_1 [s0, some (.dat (.list [.none, .tuple [], .list [.tuple [.int 2, .int 0]], .tuple [.tuple [.int 2, .int 0], .tuple [.int 2, .int 0]], .tuple [.tuple [.int 3, .int 1], .tuple [.int 2, .int 0]], .tuple [.tuple [.int 0, .int 0]], .tuple [.tuple [.int 25, .int 0]], .tuple [.tuple [.int 2, .int 2]], .tuple [.tuple [.int 2, .int (-1)]], .tuple [.tuple [.int 2, .bool true]], .tuple [.tuple [.int 2]], .tuple [.int 2, .int 0], .tuple [.tuple [.int 2, .int 0, .int 0]], .int 0, .dict [], .str "20"])), s2, s3, s4, s5, s6, s7, s8, s9, s10, s11, s12, s13, none] A = RZ.nx [s0, some (.dat (.list Modd)), s2, s3, s4, s5, s6, s7, s8, s9, s10, s11, s12, s13, none] A := by kernel_rfl
abbrev Mbook : List PyData := ([.none, .tuple [], .list [.tuple [.int 2, .int 0]], .tuple [.tuple [.int 2, .int 0], .tuple [.int 2, .int 0]], .tuple [.tuple [.int 3, .int 1], .tuple [.int 2, .int 0]], .tuple [.tuple [.int 0, .int 0]], .tuple [.tuple [.int 25, .int 0]], .tuple [.tuple [.int 2, .int 2]], .tuple [.tuple [.int 2, .int (-1)]], .tuple [.tuple [.int 2, .bool true]], .tuple [.tuple [.int 2]], .tuple [.int 2, .int 0], .tuple [.tuple [.int 2, .int 0, .int 0]], .int 0, .dict [], .str "20", .tuple [.tuple [.int 13, .int 0], .tuple [.int 13, .int 1], .tuple [.int 13, .int 2], .tuple [.int 13, .int 3], .tuple [.int 13, .int 4], .tuple [.int 13, .int 5], .tuple [.int 13, .int 6], .tuple [.int 13, .int 7], .tuple [.int 13, .int 8], .tuple [.int 13, .int 9], .tuple [.int 13, .int 10], .tuple [.int 13, .int 11], .tuple [.int 13, .int 12]], .tuple [.tuple [.int 5, .int 0], .tuple [.int 7, .int 0], .tuple [.int 8, .int 0], .tuple [.int 9, .int 0], .tuple [.int 11, .int 0]], .tuple [.tuple [.int 16, .int 0], .tuple [.int 23, .int 0], .tuple [.int 21, .int 0]]] : List PyData)
theorem f__law_right_2_book (s0 s2 s3 s4 s5 s6 s7 s8 s9 s10 s11 s12 s13 s14 : Option SV) (A : List AO) : ((mVar 1) : MM SV) [s0, some (.dat (.list Modd)), s2, s3, s4, s5, s6, s7, s8, s9, s10, s11, s12, s13, s14] A = RR.ok (.dat (.list Mbook)) A := by kernel_rfl
theorem f__law_right_3 (s0 s1 s5 s6 s7 s8 s9 s10 s11 s12 s13 s14 : Option SV) (A : List AO) : ∀ book ∈ Mbook, ((mOr (mB (mOp (f2D gNe) (mCallP M__law_of_book 1 (mCons (mVar 2) mNil)) (mFrz (mRepL (mLst (mCons (mTup (mCons (mC (.dat (.str "book"))) mNil)) mNil)) (mC (.dat (.int 11))))))) (mOr (mB (mOp (f2D gNe) (mCallP M__law_of_book 1 (mCons (mVar 3) mNil)) (mFrz (mRepL (mLst (mCons (mVar 4) mNil)) (mC (.dat (.int 11))))))) (mOr (mB (mOp (fIs true) (mCallP M_is_book 1 (mCons (mVar 2) mNil)) (mC (.dat (.bool false))))) (mB (mOp (fIs true) (mCallP M_is_book 1 (mCons (mVar 3) mNil)) (mC (.dat (.bool true)))))))) : MM Bool) [s0, s1, some (.dat book), some (.dat (.tuple [.tuple [.int 2, .int 0], .tuple [.int 4, .int 1], .tuple [.int 4, .int 3]])), some (.dat (.tuple [.str "told", .bool false])), s5, s6, s7, s8, s9, s10, s11, s12, s13, s14] A = RR.ok false A := by
  have h : (Mbook.map fun book => ((mOr (mB (mOp (f2D gNe) (mCallP M__law_of_book 1 (mCons (mVar 2) mNil)) (mFrz (mRepL (mLst (mCons (mTup (mCons (mC (.dat (.str "book"))) mNil)) mNil)) (mC (.dat (.int 11))))))) (mOr (mB (mOp (f2D gNe) (mCallP M__law_of_book 1 (mCons (mVar 3) mNil)) (mFrz (mRepL (mLst (mCons (mVar 4) mNil)) (mC (.dat (.int 11))))))) (mOr (mB (mOp (fIs true) (mCallP M_is_book 1 (mCons (mVar 2) mNil)) (mC (.dat (.bool false))))) (mB (mOp (fIs true) (mCallP M_is_book 1 (mCons (mVar 3) mNil)) (mC (.dat (.bool true)))))))) : MM Bool) [s0, s1, some (.dat book), some (.dat (.tuple [.tuple [.int 2, .int 0], .tuple [.int 4, .int 1], .tuple [.int 4, .int 3]])), some (.dat (.tuple [.str "told", .bool false])), s5, s6, s7, s8, s9, s10, s11, s12, s13, s14] A) = (Mbook.map fun book => RR.ok false A) := by kernel_rfl
  intro book h_book
  exact (x_all h book h_book)
abbrev Mone : List PyData := ([.none, .tuple [], .tuple [.int 2], .list [.int 2, .int 0], .tuple [.int 2, .int 2], .tuple [.int 0, .int 0], .tuple [.int 25, .int 0], .tuple [.int 2, .bool true], .tuple [.bool true, .int 0], .tuple [.int 2, .int 0, .int 0], .int 0] : List PyData)
theorem f__law_right_4_one (s0 s1 s2 s3 s4 s5 s6 s7 s8 s9 s10 s11 s12 s13 s14 : Option SV) (A : List AO) : ((mFrz (mLst (mCons (mC (.dat .none)) (mCons (mTup mNil) (mCons (mTup (mCons (mC (.dat (.int 2))) mNil)) (mCons (mFrz (mLst (mCons (mC (.dat (.int 2))) (mCons (mC (.dat (.int 0))) mNil)))) (mCons (mTup (mCons (mC (.dat (.int 2))) (mCons (mC (.dat (.int 2))) mNil))) (mCons (mTup (mCons (mC (.dat (.int 0))) (mCons (mC (.dat (.int 0))) mNil))) (mCons (mTup (mCons (mC (.dat (.int 25))) (mCons (mC (.dat (.int 0))) mNil))) (mCons (mTup (mCons (mC (.dat (.int 2))) (mCons (mC (.dat (.bool true))) mNil))) (mCons (mTup (mCons (mC (.dat (.bool true))) (mCons (mC (.dat (.int 0))) mNil))) (mCons (mTup (mCons (mC (.dat (.int 2))) (mCons (mC (.dat (.int 0))) (mCons (mC (.dat (.int 0))) mNil)))) (mCons (mC (.dat (.int 0))) mNil))))))))))))) : MM SV) [s0, s1, s2, s3, s4, s5, s6, s7, s8, s9, s10, s11, s12, s13, s14] A = RR.ok (.dat (.list Mone)) A := by kernel_rfl
abbrev Mnum : List PyData := ([.none, .bool true, .str "0", .tuple [.int 1], .int 1000000000000000000000000000000000000000000000000000000000000] : List PyData)
theorem f__law_right_5_number (s0 s1 s2 s3 s4 s5 s6 s7 s8 s9 s10 s11 s12 s13 s14 : Option SV) (A : List AO) : ((mFrz (mLst (mCons (mC (.dat .none)) (mCons (mC (.dat (.bool true))) (mCons (mC (.dat (.str "0"))) (mCons (mTup (mCons (mC (.dat (.int 1))) mNil)) (mCons (mOp fPow (mC (.dat (.int 10))) (mC (.dat (.int 60)))) mNil))))))) : MM SV) [s0, s1, s2, s3, s4, s5, s6, s7, s8, s9, s10, s11, s12, s13, s14] A = RR.ok (.dat (.list Mnum)) A := by kernel_rfl
abbrev Midx : List PyData := ([.int 3, .int (-1), .none, .bool true, .str "0"] : List PyData)
theorem f__law_right_5_index (s0 s1 s2 s3 s4 s5 s6 s7 s8 s9 s10 s11 s12 s13 s14 : Option SV) (A : List AO) : ((mFrz (mLst (mCons (mC (.dat (.int 3))) (mCons (mUn fNeg (mC (.dat (.int 1)))) (mCons (mC (.dat .none)) (mCons (mC (.dat (.bool true))) (mCons (mC (.dat (.str "0"))) mNil))))))) : MM SV) [s0, s1, s2, s3, s4, s5, s6, s7, s8, s9, s10, s11, s12, s13, s14] A = RR.ok (.dat (.list Midx)) A := by kernel_rfl
abbrev Mmany : List PyData := ([.int 1, .int 25, .int 0, .none, .bool true, .str "2"] : List PyData)
theorem f__law_right_6_many (s0 s1 s2 s3 s4 s5 s6 s7 s8 s9 s10 s11 s12 s13 s14 : Option SV) (A : List AO) : ((mFrz (mLst (mCons (mC (.dat (.int 1))) (mCons (mC (.dat (.int 25))) (mCons (mC (.dat (.int 0))) (mCons (mC (.dat .none)) (mCons (mC (.dat (.bool true))) (mCons (mC (.dat (.str "2"))) mNil)))))))) : MM SV) [s0, s1, s2, s3, s4, s5, s6, s7, s8, s9, s10, s11, s12, s13, s14] A = RR.ok (.dat (.list Mmany)) A := by kernel_rfl
abbrev Minds : List PyData := ([.none, .tuple [], .tuple [.int 0], .list [.int 0, .int 1], .tuple [.int 1, .int 0], .tuple [.int 0, .int 0], .tuple [.int 0, .int 3], .tuple [.int (-1), .int 0], .tuple [.int 0, .bool true], .int 0] : List PyData)
theorem f__law_right_6_indices (s0 s1 s2 s3 s4 s5 s6 s7 s8 s9 s10 s11 s12 s13 s14 : Option SV) (A : List AO) : ((mFrz (mLst (mCons (mC (.dat .none)) (mCons (mTup mNil) (mCons (mTup (mCons (mC (.dat (.int 0))) mNil)) (mCons (mFrz (mLst (mCons (mC (.dat (.int 0))) (mCons (mC (.dat (.int 1))) mNil)))) (mCons (mTup (mCons (mC (.dat (.int 1))) (mCons (mC (.dat (.int 0))) mNil))) (mCons (mTup (mCons (mC (.dat (.int 0))) (mCons (mC (.dat (.int 0))) mNil))) (mCons (mTup (mCons (mC (.dat (.int 0))) (mCons (mC (.dat (.int 3))) mNil))) (mCons (mTup (mCons (mUn fNeg (mC (.dat (.int 1)))) (mCons (mC (.dat (.int 0))) mNil))) (mCons (mTup (mCons (mC (.dat (.int 0))) (mCons (mC (.dat (.bool true))) mNil))) (mCons (mC (.dat (.int 0))) mNil)))))))))))) : MM SV) [s0, s1, s2, s3, s4, s5, s6, s7, s8, s9, s10, s11, s12, s13, s14] A = RR.ok (.dat (.list Minds)) A := by kernel_rfl
theorem f__law_right_7 (s0 s1 s2 s3 s4 s7 s8 s9 s10 s11 s12 s13 s14 : Option SV) (A : List AO) : ∀ one ∈ Mone, ∀ number ∈ Mnum, ((mLst (mCons (mLamC 2 z__law_met (mCallX (fCallX M_is_in 2) (mCons (mVar 5) (mCons (mVar 6) mNil)))) mNil)) : MM (List PyData)) [s0, s1, s2, s3, s4, some (.dat one), some (.dat number), s7, s8, s9, s10, s11, s12, s13, s14] A = RR.ok [(.tuple [.str "book"])] A := by
  have h : (Mone.map fun one => (Mnum.map fun number => ((mLst (mCons (mLamC 2 z__law_met (mCallX (fCallX M_is_in 2) (mCons (mVar 5) (mCons (mVar 6) mNil)))) mNil)) : MM (List PyData)) [s0, s1, s2, s3, s4, some (.dat one), some (.dat number), s7, s8, s9, s10, s11, s12, s13, s14] A)) = (Mone.map fun one => (Mnum.map fun number => RR.ok [(.tuple [.str "book"])] A)) := by kernel_rfl
  intro one h_one number h_number
  exact (x_all (x_all h one h_one) number h_number)
theorem f__law_right_8 (s0 s1 s2 s3 s4 s5 s7 s8 s9 s10 s11 s12 s13 s14 : Option SV) (A : List AO) : ∀ number ∈ Mnum, ((mLamC 2 z__law_met (mCallX (fCallX M_is_in 2) (mCons (mTup (mCons (mC (.dat (.int 2))) (mCons (mC (.dat (.int 0))) mNil))) (mCons (mVar 6) mNil)))) : MM SV) [s0, s1, s2, s3, s4, s5, some (.dat number), s7, s8, s9, s10, s11, s12, s13, s14] A = RR.ok (.dat (farD number)) A := by
  have h : (Mnum.map fun number => ((mLamC 2 z__law_met (mCallX (fCallX M_is_in 2) (mCons (mTup (mCons (mC (.dat (.int 2))) (mCons (mC (.dat (.int 0))) mNil))) (mCons (mVar 6) mNil)))) : MM SV) [s0, s1, s2, s3, s4, s5, some (.dat number), s7, s8, s9, s10, s11, s12, s13, s14] A) = (Mnum.map fun number => RR.ok (.dat (farD number)) A) := by kernel_rfl
  intro number h_number
  exact (x_all h number h_number)
theorem f__law_right_9 (s0 s1 s2 s3 s4 s6 s7 s8 s9 s10 s11 s12 s13 s14 : Option SV) (A : List AO) : ∀ one ∈ Mone, ((mLamC 2 z__law_met (mCallX (fCallX M_common_class 2) (mCons (mVar 5) (mCons (mVar 5) mNil)))) : MM SV) [s0, s1, s2, s3, s4, some (.dat one), s6, s7, s8, s9, s10, s11, s12, s13, s14] A = RR.ok (.dat (.tuple [.str "book"])) A := by
  have h : (Mone.map fun one => ((mLamC 2 z__law_met (mCallX (fCallX M_common_class 2) (mCons (mVar 5) (mCons (mVar 5) mNil)))) : MM SV) [s0, s1, s2, s3, s4, some (.dat one), s6, s7, s8, s9, s10, s11, s12, s13, s14] A) = (Mone.map fun one => RR.ok (.dat (.tuple [.str "book"])) A) := by kernel_rfl
  intro one h_one
  exact (x_all h one h_one)
theorem f__law_right_10 (s0 s1 s2 s3 s4 s6 s7 s8 s9 s10 s11 s12 s13 s14 : Option SV) (A : List AO) : ∀ one ∈ Mone, ((mLamC 2 z__law_met (mCallX (fCallX M_common_class 2) (mCons (mTup (mCons (mC (.dat (.int 2))) (mCons (mC (.dat (.int 0))) mNil))) (mCons (mVar 5) mNil)))) : MM SV) [s0, s1, s2, s3, s4, some (.dat one), s6, s7, s8, s9, s10, s11, s12, s13, s14] A = RR.ok (.dat (.tuple [.str "book"])) A := by
  have h : (Mone.map fun one => ((mLamC 2 z__law_met (mCallX (fCallX M_common_class 2) (mCons (mTup (mCons (mC (.dat (.int 2))) (mCons (mC (.dat (.int 0))) mNil))) (mCons (mVar 5) mNil)))) : MM SV) [s0, s1, s2, s3, s4, some (.dat one), s6, s7, s8, s9, s10, s11, s12, s13, s14] A) = (Mone.map fun one => RR.ok (.dat (.tuple [.str "book"])) A) := by kernel_rfl
  intro one h_one
  exact (x_all h one h_one)
theorem f__law_right_11 (s0 s1 s3 s4 s5 s7 s8 s9 s10 s11 s12 s13 s14 : Option SV) (A : List AO) : ∀ book ∈ Mbook, ∀ number ∈ Mnum, ((mLamC 2 z__law_met (mCallX (fCallX M_does_cover 3) (mCons (mVar 2) (mCons (mVar 6) (mCons (mC (.dat (.int 0))) mNil))))) : MM SV) [s0, s1, some (.dat book), s3, s4, s5, some (.dat number), s7, s8, s9, s10, s11, s12, s13, s14] A = RR.ok (.dat (.tuple [.str "book"])) A := by
  have h : (Mbook.map fun book => (Mnum.map fun number => ((mLamC 2 z__law_met (mCallX (fCallX M_does_cover 3) (mCons (mVar 2) (mCons (mVar 6) (mCons (mC (.dat (.int 0))) mNil))))) : MM SV) [s0, s1, some (.dat book), s3, s4, s5, some (.dat number), s7, s8, s9, s10, s11, s12, s13, s14] A)) = (Mbook.map fun book => (Mnum.map fun number => RR.ok (.dat (.tuple [.str "book"])) A)) := by kernel_rfl
  intro book h_book number h_number
  exact (x_all (x_all h book h_book) number h_number)
theorem f__law_right_12 (s0 s1 s2 s4 s5 s7 s8 s9 s10 s11 s12 s13 s14 : Option SV) (A : List AO) : ∀ number ∈ Mnum, ((mLamC 2 z__law_met (mCallX (fCallX M_does_cover 3) (mCons (mVar 3) (mCons (mVar 6) (mCons (mC (.dat (.int 0))) mNil))))) : MM SV) [s0, s1, s2, some (.dat (.tuple [.tuple [.int 2, .int 0], .tuple [.int 4, .int 1], .tuple [.int 4, .int 3]])), s4, s5, some (.dat number), s7, s8, s9, s10, s11, s12, s13, s14] A = RR.ok (.dat (farD number)) A := by
  have h : (Mnum.map fun number => ((mLamC 2 z__law_met (mCallX (fCallX M_does_cover 3) (mCons (mVar 3) (mCons (mVar 6) (mCons (mC (.dat (.int 0))) mNil))))) : MM SV) [s0, s1, s2, some (.dat (.tuple [.tuple [.int 2, .int 0], .tuple [.int 4, .int 1], .tuple [.int 4, .int 3]])), s4, s5, some (.dat number), s7, s8, s9, s10, s11, s12, s13, s14] A) = (Mnum.map fun number => RR.ok (.dat (farD number)) A) := by kernel_rfl
  intro number h_number
  exact (x_all h number h_number)
theorem f__law_right_13 (s0 s1 s2 s4 s5 s6 s7 s8 s9 s10 s11 s12 s13 s14 : Option SV) (A : List AO) : ((mLamC 2 z__law_met (mCallX (fCallX M_does_cover 3) (mCons (mVar 3) (mCons (mC (.dat (.int 5))) (mCons (mC (.dat (.int 0))) mNil))))) : MM SV) [s0, s1, s2, some (.dat (.tuple [.tuple [.int 2, .int 0], .tuple [.int 4, .int 1], .tuple [.int 4, .int 3]])), s4, s5, s6, s7, s8, s9, s10, s11, s12, s13, s14] A = RR.ok (.dat (.tuple [.str "number", .str "0"])) A := by kernel_rfl
theorem f__law_right_14 (s0 s1 s2 s4 s5 s6 s7 s8 s9 s10 s11 s12 s13 s14 : Option SV) (A : List AO) : ((mLamC 2 z__law_met (mCallX (fCallX M_does_cover 3) (mCons (mVar 3) (mCons (mC (.dat (.int 5))) (mCons (mC (.dat (.int 5041))) mNil))))) : MM SV) [s0, s1, s2, some (.dat (.tuple [.tuple [.int 2, .int 0], .tuple [.int 4, .int 1], .tuple [.int 4, .int 3]])), s4, s5, s6, s7, s8, s9, s10, s11, s12, s13, s14] A = RR.ok (.dat (.tuple [.str "number", .str "5041"])) A := by kernel_rfl
theorem f__law_right_15 (s0 s1 s3 s4 s5 s6 s9 s10 s11 s12 s13 s14 : Option SV) (A : List AO) : ∀ book ∈ Mbook, ∀ index ∈ Midx, ∀ many ∈ Mmany, ((mLamC 2 z__law_met (mCallX (fCallX M_parted 3) (mCons (mVar 2) (mCons (mVar 7) (mCons (mVar 8) mNil))))) : MM SV) [s0, s1, some (.dat book), s3, s4, s5, s6, some (.dat index), some (.dat many), s9, s10, s11, s12, s13, s14] A = RR.ok (.dat (.tuple [.str "book"])) A := by
  have h : (Mbook.map fun book => (Midx.map fun index => (Mmany.map fun many => ((mLamC 2 z__law_met (mCallX (fCallX M_parted 3) (mCons (mVar 2) (mCons (mVar 7) (mCons (mVar 8) mNil))))) : MM SV) [s0, s1, some (.dat book), s3, s4, s5, s6, some (.dat index), some (.dat many), s9, s10, s11, s12, s13, s14] A))) = (Mbook.map fun book => (Midx.map fun index => (Mmany.map fun many => RR.ok (.dat (.tuple [.str "book"])) A))) := by kernel_rfl
  intro book h_book index h_index many h_many
  exact (x_all (x_all (x_all h book h_book) index h_index) many h_many)
theorem f__law_right_16 (s0 s1 s2 s4 s5 s6 s9 s10 s11 s12 s13 s14 : Option SV) (A : List AO) : ∀ index ∈ Midx, ∀ many ∈ Mmany, ((mLamC 2 z__law_met (mCallX (fCallX M_parted 3) (mCons (mVar 3) (mCons (mVar 7) (mCons (mVar 8) mNil))))) : MM SV) [s0, s1, s2, some (.dat (.tuple [.tuple [.int 2, .int 0], .tuple [.int 4, .int 1], .tuple [.int 4, .int 3]])), s4, s5, s6, some (.dat index), some (.dat many), s9, s10, s11, s12, s13, s14] A = RR.ok (.dat (farD index)) A := by
  have h : (Midx.map fun index => (Mmany.map fun many => ((mLamC 2 z__law_met (mCallX (fCallX M_parted 3) (mCons (mVar 3) (mCons (mVar 7) (mCons (mVar 8) mNil))))) : MM SV) [s0, s1, s2, some (.dat (.tuple [.tuple [.int 2, .int 0], .tuple [.int 4, .int 1], .tuple [.int 4, .int 3]])), s4, s5, s6, some (.dat index), some (.dat many), s9, s10, s11, s12, s13, s14] A)) = (Midx.map fun index => (Mmany.map fun many => RR.ok (.dat (farD index)) A)) := by kernel_rfl
  intro index h_index many h_many
  exact (x_all (x_all h index h_index) many h_many)
theorem f__law_right_17 (s0 s1 s2 s4 s5 s6 s7 s9 s10 s11 s12 s13 s14 : Option SV) (A : List AO) : ∀ many ∈ Mmany, ((mLamC 2 z__law_met (mCallX (fCallX M_parted 3) (mCons (mVar 3) (mCons (mC (.dat (.int 0))) (mCons (mVar 8) mNil))))) : MM SV) [s0, s1, s2, some (.dat (.tuple [.tuple [.int 2, .int 0], .tuple [.int 4, .int 1], .tuple [.int 4, .int 3]])), s4, s5, s6, s7, some (.dat many), s9, s10, s11, s12, s13, s14] A = RR.ok (.dat (farD many)) A := by
  have h : (Mmany.map fun many => ((mLamC 2 z__law_met (mCallX (fCallX M_parted 3) (mCons (mVar 3) (mCons (mC (.dat (.int 0))) (mCons (mVar 8) mNil))))) : MM SV) [s0, s1, s2, some (.dat (.tuple [.tuple [.int 2, .int 0], .tuple [.int 4, .int 1], .tuple [.int 4, .int 3]])), s4, s5, s6, s7, some (.dat many), s9, s10, s11, s12, s13, s14] A) = (Mmany.map fun many => RR.ok (.dat (farD many)) A) := by kernel_rfl
  intro many h_many
  exact (x_all h many h_many)
theorem f__law_right_18 (s0 s1 s3 s4 s5 s6 s7 s8 s10 s11 s12 s13 s14 : Option SV) (A : List AO) : ∀ book ∈ Mbook, ∀ indices ∈ Minds, ((mLamC 2 z__law_met (mCallX (fCallX M_joined 2) (mCons (mVar 2) (mCons (mVar 9) mNil)))) : MM SV) [s0, s1, some (.dat book), s3, s4, s5, s6, s7, s8, some (.dat indices), s10, s11, s12, s13, s14] A = RR.ok (.dat (.tuple [.str "book"])) A := by
  have h : (Mbook.map fun book => (Minds.map fun indices => ((mLamC 2 z__law_met (mCallX (fCallX M_joined 2) (mCons (mVar 2) (mCons (mVar 9) mNil)))) : MM SV) [s0, s1, some (.dat book), s3, s4, s5, s6, s7, s8, some (.dat indices), s10, s11, s12, s13, s14] A)) = (Mbook.map fun book => (Minds.map fun indices => RR.ok (.dat (.tuple [.str "book"])) A)) := by kernel_rfl
  intro book h_book indices h_indices
  exact (x_all (x_all h book h_book) indices h_indices)
theorem f__law_right_19 (s0 s1 s2 s4 s5 s6 s7 s8 s10 s11 s12 s13 s14 : Option SV) (A : List AO) : ∀ indices ∈ Minds, ((mLamC 2 z__law_met (mCallX (fCallX M_joined 2) (mCons (mVar 3) (mCons (mVar 9) mNil)))) : MM SV) [s0, s1, s2, some (.dat (.tuple [.tuple [.int 2, .int 0], .tuple [.int 4, .int 1], .tuple [.int 4, .int 3]])), s4, s5, s6, s7, s8, some (.dat indices), s10, s11, s12, s13, s14] A = RR.ok (.dat (.tuple [.str "report"])) A := by
  have h : (Minds.map fun indices => ((mLamC 2 z__law_met (mCallX (fCallX M_joined 2) (mCons (mVar 3) (mCons (mVar 9) mNil)))) : MM SV) [s0, s1, s2, some (.dat (.tuple [.tuple [.int 2, .int 0], .tuple [.int 4, .int 1], .tuple [.int 4, .int 3]])), s4, s5, s6, s7, s8, some (.dat indices), s10, s11, s12, s13, s14] A) = (Minds.map fun indices => RR.ok (.dat (.tuple [.str "report"])) A) := by kernel_rfl
  intro indices h_indices
  exact (x_all h indices h_indices)
theorem f__law_right_20 (s0 s1 s2 s4 s5 s6 s7 s8 s9 s10 s11 s12 s13 s14 : Option SV) (A : List AO) : ((mLamC 2 z__law_met (mCallX (fCallX M_joined 2) (mCons (mVar 3) (mCons (mTup (mCons (mC (.dat (.int 0))) (mCons (mC (.dat (.int 1))) mNil))) mNil)))) : MM SV) [s0, s1, s2, some (.dat (.tuple [.tuple [.int 2, .int 0], .tuple [.int 4, .int 1], .tuple [.int 4, .int 3]])), s4, s5, s6, s7, s8, s9, s10, s11, s12, s13, s14] A = RR.ok (.dat (.tuple [.str "operation"])) A := by kernel_rfl
theorem f__law_right_21 (s0 s1 s2 s3 s4 s5 s8 s9 s10 s11 s12 s13 s14 : Option SV) (A : List AO) : ∀ number ∈ Mnum, ∀ index ∈ Midx, w__law_right_21 [s0, s1, s2, s3, s4, s5, some (.dat number), some (.dat index), s8, s9, s10, s11, s12, s13, s14] A = RZ.nx [s0, s1, s2, s3, s4, s5, some (.dat number), some (.dat index), s8, s9, s10, some (.dat (farD number)), some (.dat (farD index)), s13, s14] A := by
  have h : (Mnum.map fun number => (Midx.map fun index => w__law_right_21 [s0, s1, s2, s3, s4, s5, some (.dat number), some (.dat index), s8, s9, s10, s11, s12, s13, s14] A)) = (Mnum.map fun number => (Midx.map fun index => RZ.nx [s0, s1, s2, s3, s4, s5, some (.dat number), some (.dat index), s8, s9, s10, some (.dat (farD number)), some (.dat (farD index)), s13, s14] A)) := by kernel_rfl
  intro number h_number index h_index
  exact (x_all (x_all h number h_number) index h_index)
theorem f__law_right_22 (s0 s1 s2 s3 s4 s5 s6 s7 s9 s10 s13 s14 : Option SV) (fa th : PyData) (A : List AO) : ∀ many ∈ Mmany, w__law_right_22 [s0, s1, s2, s3, s4, s5, s6, s7, some (.dat many), s9, s10, some (.dat fa), some (.dat th), s13, s14] A = RZ.nx [s0, s1, s2, s3, s4, s5, s6, s7, some (.dat many), s9, s10, some (.dat fa), some (.dat th), some (.dat (.list [(.tuple [.str "book"]), fa, (.tuple [.str "book"]), (.tuple [.str "book"]), (.tuple [.str "book"]), fa, (.tuple [.str "number", .str "0"]), (.tuple [.str "number", .str "5041"]), (.tuple [.str "book"]), th, (farD many), (.tuple [.str "book"]), (.tuple [.str "report"]), (.tuple [.str "operation"])])), s14] A := by
  have h : (Mmany.map fun many => w__law_right_22 [s0, s1, s2, s3, s4, s5, s6, s7, some (.dat many), s9, s10, some (.dat fa), some (.dat th), s13, s14] A) = (Mmany.map fun many => RZ.nx [s0, s1, s2, s3, s4, s5, s6, s7, some (.dat many), s9, s10, some (.dat fa), some (.dat th), some (.dat (.list [(.tuple [.str "book"]), fa, (.tuple [.str "book"]), (.tuple [.str "book"]), (.tuple [.str "book"]), fa, (.tuple [.str "number", .str "0"]), (.tuple [.str "number", .str "5041"]), (.tuple [.str "book"]), th, (farD many), (.tuple [.str "book"]), (.tuple [.str "report"]), (.tuple [.str "operation"])])), s14] A) := by kernel_rfl
  intro many h_many
  exact (x_all h many h_many)
theorem told_due : ∀ number ∈ Mnum, ∀ index ∈ Midx, ∀ many ∈ Mmany, gEq (.list [(.tuple [.str "book"]), (farD number), (.tuple [.str "book"]), (.tuple [.str "book"]), (.tuple [.str "book"]), (farD number), (.tuple [.str "number", .str "0"]), (.tuple [.str "number", .str "5041"]), (.tuple [.str "book"]), (farD index), (farD many), (.tuple [.str "book"]), (.tuple [.str "report"]), (.tuple [.str "operation"])]) (.list [(.tuple [.str "book"]), (farD number), (.tuple [.str "book"]), (.tuple [.str "book"]), (.tuple [.str "book"]), (farD number), (.tuple [.str "number", .str "0"]), (.tuple [.str "number", .str "5041"]), (.tuple [.str "book"]), (farD index), (farD many), (.tuple [.str "book"]), (.tuple [.str "report"]), (.tuple [.str "operation"])]) = some (.bool true) := by
  have h : (Mnum.map fun number => Midx.map fun index => Mmany.map fun many => gEq (.list [(.tuple [.str "book"]), (farD number), (.tuple [.str "book"]), (.tuple [.str "book"]), (.tuple [.str "book"]), (farD number), (.tuple [.str "number", .str "0"]), (.tuple [.str "number", .str "5041"]), (.tuple [.str "book"]), (farD index), (farD many), (.tuple [.str "book"]), (.tuple [.str "report"]), (.tuple [.str "operation"])]) (.list [(.tuple [.str "book"]), (farD number), (.tuple [.str "book"]), (.tuple [.str "book"]), (.tuple [.str "book"]), (farD number), (.tuple [.str "number", .str "0"]), (.tuple [.str "number", .str "5041"]), (.tuple [.str "book"]), (farD index), (farD many), (.tuple [.str "book"]), (.tuple [.str "report"]), (.tuple [.str "operation"])])) = (Mnum.map fun number => Midx.map fun index => Mmany.map fun many => some (.bool true)) := by kernel_rfl
  intro number h1 index h2 many h3
  exact x_all (x_all (x_all h number h1) index h2) many h3
theorem f_end_b (s0 s1 s2 s3 s4 s6 s7 s8 s9 s10 s11 s12 s13 s14 : Option SV) (A : List AO) : ∀ one ∈ Mone, ((mB (mOp (fIs false) (mCallP M_is_class 1 (mCons (mVar 5) mNil)) (mC (.dat (.bool false))))) : MM Bool) [s0, s1, s2, s3, s4, some (.dat one), s6, s7, s8, s9, s10, s11, s12, s13, s14] A = RR.ok true A := by
  have h : (Mone.map fun one => ((mB (mOp (fIs false) (mCallP M_is_class 1 (mCons (mVar 5) mNil)) (mC (.dat (.bool false))))) : MM Bool) [s0, s1, s2, s3, s4, some (.dat one), s6, s7, s8, s9, s10, s11, s12, s13, s14] A) = (Mone.map fun one => RR.ok true A) := by kernel_rfl
  intro one h_one
  exact (x_all h one h_one)
theorem f_end_c (s0 s1 s2 s3 s4 s5 s6 s7 s8 s9 s10 s11 s12 s13 s14 : Option SV) (A : List AO) : ((mB (mOp (fIs false) (mCallP M_is_class 1 (mCons (mTup (mCons (mC (.dat (.int 24))) (mCons (mC (.dat (.int 23))) mNil))) mNil)) (mC (.dat (.bool true))))) : MM Bool) [s0, s1, s2, s3, s4, s5, s6, s7, s8, s9, s10, s11, s12, s13, s14] A = RR.ok true A := by kernel_rfl
theorem right_run {A : List AO} {j : Nat} (j0 : JarAt A j) : ∃ B C, M__law_right [.ref j] A = .ok (.dat (.bool true)) C ∧ JarAt B j ∧ B.length = A.length ∧ C.take A.length = B := by
  have a0 := (f__law_right_0 (some (.ref j)) (none) (none) (none) (none) (none) (none) (none) (none) (none) (none) (none) (none) (none) (none) A)
  have h0 : w__law_right_0 [some (.ref j), none, none, none, none, none, none, none, none, none, none, none, none, none, none] A = .nx [some (.ref j), some (.dat (.list [.none, .tuple [], .list [.tuple [.int 2, .int 0]], .tuple [.tuple [.int 2, .int 0], .tuple [.int 2, .int 0]], .tuple [.tuple [.int 3, .int 1], .tuple [.int 2, .int 0]], .tuple [.tuple [.int 0, .int 0]], .tuple [.tuple [.int 25, .int 0]], .tuple [.tuple [.int 2, .int 2]], .tuple [.tuple [.int 2, .int (-1)]], .tuple [.tuple [.int 2, .bool true]], .tuple [.tuple [.int 2]], .tuple [.int 2, .int 0], .tuple [.tuple [.int 2, .int 0, .int 0]], .int 0, .dict [], .str "20"])), none, none, none, none, none, none, none, none, none, none, none, none, none] A := a0
  have a1 := (f__law_right_1 (some (.ref j)) (none) (none) (none) (none) (none) (none) (none) (none) (none) (none) (none) (none) A)
  have h1 : w__law_right_1 [some (.ref j), some (.dat (.list [.none, .tuple [], .list [.tuple [.int 2, .int 0]], .tuple [.tuple [.int 2, .int 0], .tuple [.int 2, .int 0]], .tuple [.tuple [.int 3, .int 1], .tuple [.int 2, .int 0]], .tuple [.tuple [.int 0, .int 0]], .tuple [.tuple [.int 25, .int 0]], .tuple [.tuple [.int 2, .int 2]], .tuple [.tuple [.int 2, .int (-1)]], .tuple [.tuple [.int 2, .bool true]], .tuple [.tuple [.int 2]], .tuple [.int 2, .int 0], .tuple [.tuple [.int 2, .int 0, .int 0]], .int 0, .dict [], .str "20"])), none, none, none, none, none, none, none, none, none, none, none, none, none] A = .nx [some (.ref j), some (.dat (.list Modd)), none, none, none, none, none, none, none, none, none, none, none, none, none] A := a1
  obtain ⟨book, B1, e1, m_book, j1, n1⟩ := one_draw (mi := (mVar 1)) (d := [some (.ref j), some (.dat (.list Modd)), none, none, none, none, none, none, none, none, none, none, none, none, none]) (A := A) (ds := Mbook) j0 rfl (f__law_right_2_book (some (.ref j)) (none) (none) (none) (none) (none) (none) (none) (none) (none) (none) (none) (none) (none) A) (by decide) (by decide)
  have h2 : w__law_right_2 [some (.ref j), some (.dat (.list Modd)), none, none, none, none, none, none, none, none, none, none, none, none, none] A = .nx [some (.ref j), some (.dat (.list Modd)), some (.dat book), some (.dat (.tuple [.tuple [.int 2, .int 0], .tuple [.int 4, .int 1], .tuple [.int 4, .int 3]])), some (.dat (.tuple [.str "told", .bool false])), none, none, none, none, none, none, none, none, none, none] B1 := r_asg (x := .dat (.tuple [book, (.tuple [.tuple [.int 2, .int 0], .tuple [.int 4, .int 1], .tuple [.int 4, .int 3]]), (.tuple [.str "told", .bool false])])) (r_tup (xs := [SV.dat book, SV.dat (.tuple [.tuple [.int 2, .int 0], .tuple [.int 4, .int 1], .tuple [.int 4, .int 3]]), SV.dat (.tuple [.str "told", .bool false])]) (B := B1) (r_cons e1 (by kernel_rfl)) (by kernel_rfl)) (by kernel_rfl)
  have a3 := (f__law_right_3 (some (.ref j)) (some (.dat (.list Modd))) (none) (none) (none) (none) (none) (none) (none) (none) (none) (none) B1 book m_book)
  have b3 := x_skip (t := zRet (mC (.dat (.bool false)))) a3
  have h3 : w__law_right_3 [some (.ref j), some (.dat (.list Modd)), some (.dat book), some (.dat (.tuple [.tuple [.int 2, .int 0], .tuple [.int 4, .int 1], .tuple [.int 4, .int 3]])), some (.dat (.tuple [.str "told", .bool false])), none, none, none, none, none, none, none, none, none, none] B1 = .nx [some (.ref j), some (.dat (.list Modd)), some (.dat book), some (.dat (.tuple [.tuple [.int 2, .int 0], .tuple [.int 4, .int 1], .tuple [.int 4, .int 3]])), some (.dat (.tuple [.str "told", .bool false])), none, none, none, none, none, none, none, none, none, none] B1 := b3
  obtain ⟨one, B2, e2, m_one, j2, n2⟩ := one_draw (mi := (mFrz (mLst (mCons (mC (.dat .none)) (mCons (mTup mNil) (mCons (mTup (mCons (mC (.dat (.int 2))) mNil)) (mCons (mFrz (mLst (mCons (mC (.dat (.int 2))) (mCons (mC (.dat (.int 0))) mNil)))) (mCons (mTup (mCons (mC (.dat (.int 2))) (mCons (mC (.dat (.int 2))) mNil))) (mCons (mTup (mCons (mC (.dat (.int 0))) (mCons (mC (.dat (.int 0))) mNil))) (mCons (mTup (mCons (mC (.dat (.int 25))) (mCons (mC (.dat (.int 0))) mNil))) (mCons (mTup (mCons (mC (.dat (.int 2))) (mCons (mC (.dat (.bool true))) mNil))) (mCons (mTup (mCons (mC (.dat (.bool true))) (mCons (mC (.dat (.int 0))) mNil))) (mCons (mTup (mCons (mC (.dat (.int 2))) (mCons (mC (.dat (.int 0))) (mCons (mC (.dat (.int 0))) mNil)))) (mCons (mC (.dat (.int 0))) mNil)))))))))))))) (d := [some (.ref j), some (.dat (.list Modd)), some (.dat book), some (.dat (.tuple [.tuple [.int 2, .int 0], .tuple [.int 4, .int 1], .tuple [.int 4, .int 3]])), some (.dat (.tuple [.str "told", .bool false])), none, none, none, none, none, none, none, none, none, none]) (A := B1) (ds := Mone) j1 rfl (f__law_right_4_one (some (.ref j)) (some (.dat (.list Modd))) (some (.dat book)) (some (.dat (.tuple [.tuple [.int 2, .int 0], .tuple [.int 4, .int 1], .tuple [.int 4, .int 3]]))) (some (.dat (.tuple [.str "told", .bool false]))) (none) (none) (none) (none) (none) (none) (none) (none) (none) (none) B1) (by decide) (by decide)
  have h4 : w__law_right_4 [some (.ref j), some (.dat (.list Modd)), some (.dat book), some (.dat (.tuple [.tuple [.int 2, .int 0], .tuple [.int 4, .int 1], .tuple [.int 4, .int 3]])), some (.dat (.tuple [.str "told", .bool false])), none, none, none, none, none, none, none, none, none, none] B1 = .nx [some (.ref j), some (.dat (.list Modd)), some (.dat book), some (.dat (.tuple [.tuple [.int 2, .int 0], .tuple [.int 4, .int 1], .tuple [.int 4, .int 3]])), some (.dat (.tuple [.str "told", .bool false])), some (.dat one), none, none, none, none, none, none, none, none, none] B2 := r_asg e2 rfl
  obtain ⟨number, B3, e3, m_number, j3, n3⟩ := one_draw (mi := (mFrz (mLst (mCons (mC (.dat .none)) (mCons (mC (.dat (.bool true))) (mCons (mC (.dat (.str "0"))) (mCons (mTup (mCons (mC (.dat (.int 1))) mNil)) (mCons (mOp fPow (mC (.dat (.int 10))) (mC (.dat (.int 60)))) mNil)))))))) (d := [some (.ref j), some (.dat (.list Modd)), some (.dat book), some (.dat (.tuple [.tuple [.int 2, .int 0], .tuple [.int 4, .int 1], .tuple [.int 4, .int 3]])), some (.dat (.tuple [.str "told", .bool false])), some (.dat one), none, none, none, none, none, none, none, none, none]) (A := B2) (ds := Mnum) j2 rfl (f__law_right_5_number (some (.ref j)) (some (.dat (.list Modd))) (some (.dat book)) (some (.dat (.tuple [.tuple [.int 2, .int 0], .tuple [.int 4, .int 1], .tuple [.int 4, .int 3]]))) (some (.dat (.tuple [.str "told", .bool false]))) (some (.dat one)) (none) (none) (none) (none) (none) (none) (none) (none) (none) B2) (by decide) (by decide)
  obtain ⟨index, B4, e4, m_index, j4, n4⟩ := one_draw (mi := (mFrz (mLst (mCons (mC (.dat (.int 3))) (mCons (mUn fNeg (mC (.dat (.int 1)))) (mCons (mC (.dat .none)) (mCons (mC (.dat (.bool true))) (mCons (mC (.dat (.str "0"))) mNil)))))))) (d := [some (.ref j), some (.dat (.list Modd)), some (.dat book), some (.dat (.tuple [.tuple [.int 2, .int 0], .tuple [.int 4, .int 1], .tuple [.int 4, .int 3]])), some (.dat (.tuple [.str "told", .bool false])), some (.dat one), none, none, none, none, none, none, none, none, none]) (A := B3) (ds := Midx) j3 rfl (f__law_right_5_index (some (.ref j)) (some (.dat (.list Modd))) (some (.dat book)) (some (.dat (.tuple [.tuple [.int 2, .int 0], .tuple [.int 4, .int 1], .tuple [.int 4, .int 3]]))) (some (.dat (.tuple [.str "told", .bool false]))) (some (.dat one)) (none) (none) (none) (none) (none) (none) (none) (none) (none) B3) (by decide) (by decide)
  have h5 : w__law_right_5 [some (.ref j), some (.dat (.list Modd)), some (.dat book), some (.dat (.tuple [.tuple [.int 2, .int 0], .tuple [.int 4, .int 1], .tuple [.int 4, .int 3]])), some (.dat (.tuple [.str "told", .bool false])), some (.dat one), none, none, none, none, none, none, none, none, none] B2 = .nx [some (.ref j), some (.dat (.list Modd)), some (.dat book), some (.dat (.tuple [.tuple [.int 2, .int 0], .tuple [.int 4, .int 1], .tuple [.int 4, .int 3]])), some (.dat (.tuple [.str "told", .bool false])), some (.dat one), some (.dat number), some (.dat index), none, none, none, none, none, none, none] B4 := r_asg (x := .dat (.tuple [number, index])) (r_tup (xs := [SV.dat number, SV.dat index]) (B := B4) (r_two e3 e4) (by kernel_rfl)) (by kernel_rfl)
  obtain ⟨many, B5, e5, m_many, j5, n5⟩ := one_draw (mi := (mFrz (mLst (mCons (mC (.dat (.int 1))) (mCons (mC (.dat (.int 25))) (mCons (mC (.dat (.int 0))) (mCons (mC (.dat .none)) (mCons (mC (.dat (.bool true))) (mCons (mC (.dat (.str "2"))) mNil))))))))) (d := [some (.ref j), some (.dat (.list Modd)), some (.dat book), some (.dat (.tuple [.tuple [.int 2, .int 0], .tuple [.int 4, .int 1], .tuple [.int 4, .int 3]])), some (.dat (.tuple [.str "told", .bool false])), some (.dat one), some (.dat number), some (.dat index), none, none, none, none, none, none, none]) (A := B4) (ds := Mmany) j4 rfl (f__law_right_6_many (some (.ref j)) (some (.dat (.list Modd))) (some (.dat book)) (some (.dat (.tuple [.tuple [.int 2, .int 0], .tuple [.int 4, .int 1], .tuple [.int 4, .int 3]]))) (some (.dat (.tuple [.str "told", .bool false]))) (some (.dat one)) (some (.dat number)) (some (.dat index)) (none) (none) (none) (none) (none) (none) (none) B4) (by decide) (by decide)
  obtain ⟨indices, B6, e6, m_indices, j6, n6⟩ := one_draw (mi := (mFrz (mLst (mCons (mC (.dat .none)) (mCons (mTup mNil) (mCons (mTup (mCons (mC (.dat (.int 0))) mNil)) (mCons (mFrz (mLst (mCons (mC (.dat (.int 0))) (mCons (mC (.dat (.int 1))) mNil)))) (mCons (mTup (mCons (mC (.dat (.int 1))) (mCons (mC (.dat (.int 0))) mNil))) (mCons (mTup (mCons (mC (.dat (.int 0))) (mCons (mC (.dat (.int 0))) mNil))) (mCons (mTup (mCons (mC (.dat (.int 0))) (mCons (mC (.dat (.int 3))) mNil))) (mCons (mTup (mCons (mUn fNeg (mC (.dat (.int 1)))) (mCons (mC (.dat (.int 0))) mNil))) (mCons (mTup (mCons (mC (.dat (.int 0))) (mCons (mC (.dat (.bool true))) mNil))) (mCons (mC (.dat (.int 0))) mNil))))))))))))) (d := [some (.ref j), some (.dat (.list Modd)), some (.dat book), some (.dat (.tuple [.tuple [.int 2, .int 0], .tuple [.int 4, .int 1], .tuple [.int 4, .int 3]])), some (.dat (.tuple [.str "told", .bool false])), some (.dat one), some (.dat number), some (.dat index), none, none, none, none, none, none, none]) (A := B5) (ds := Minds) j5 rfl (f__law_right_6_indices (some (.ref j)) (some (.dat (.list Modd))) (some (.dat book)) (some (.dat (.tuple [.tuple [.int 2, .int 0], .tuple [.int 4, .int 1], .tuple [.int 4, .int 3]]))) (some (.dat (.tuple [.str "told", .bool false]))) (some (.dat one)) (some (.dat number)) (some (.dat index)) (none) (none) (none) (none) (none) (none) (none) B5) (by decide) (by decide)
  have h6 : w__law_right_6 [some (.ref j), some (.dat (.list Modd)), some (.dat book), some (.dat (.tuple [.tuple [.int 2, .int 0], .tuple [.int 4, .int 1], .tuple [.int 4, .int 3]])), some (.dat (.tuple [.str "told", .bool false])), some (.dat one), some (.dat number), some (.dat index), none, none, none, none, none, none, none] B4 = .nx [some (.ref j), some (.dat (.list Modd)), some (.dat book), some (.dat (.tuple [.tuple [.int 2, .int 0], .tuple [.int 4, .int 1], .tuple [.int 4, .int 3]])), some (.dat (.tuple [.str "told", .bool false])), some (.dat one), some (.dat number), some (.dat index), some (.dat many), some (.dat indices), none, none, none, none, none] B6 := r_asg (x := .dat (.tuple [many, indices])) (r_tup (xs := [SV.dat many, SV.dat indices]) (B := B6) (r_two e5 e6) (by kernel_rfl)) (by kernel_rfl)
  have h7 := x_asgM (i := 10) (d := [some (.ref j), some (.dat (.list Modd)), some (.dat book), some (.dat (.tuple [.tuple [.int 2, .int 0], .tuple [.int 4, .int 1], .tuple [.int 4, .int 3]])), some (.dat (.tuple [.str "told", .bool false])), some (.dat one), some (.dat number), some (.dat index), some (.dat many), some (.dat indices), none, none, none, none, none]) (B := B6) (f__law_right_7 (some (.ref j)) (some (.dat (.list Modd))) (some (.dat book)) (some (.dat (.tuple [.tuple [.int 2, .int 0], .tuple [.int 4, .int 1], .tuple [.int 4, .int 3]]))) (some (.dat (.tuple [.str "told", .bool false]))) (some (.dat index)) (some (.dat many)) (some (.dat indices)) (none) (none) (none) (none) (none) B6 one m_one number m_number)
  have h7 : w__law_right_7 [some (.ref j), some (.dat (.list Modd)), some (.dat book), some (.dat (.tuple [.tuple [.int 2, .int 0], .tuple [.int 4, .int 1], .tuple [.int 4, .int 3]])), some (.dat (.tuple [.str "told", .bool false])), some (.dat one), some (.dat number), some (.dat index), some (.dat many), some (.dat indices), none, none, none, none, none] B6 = .nx [some (.ref j), some (.dat (.list Modd)), some (.dat book), some (.dat (.tuple [.tuple [.int 2, .int 0], .tuple [.int 4, .int 1], .tuple [.int 4, .int 3]])), some (.dat (.tuple [.str "told", .bool false])), some (.dat one), some (.dat number), some (.dat index), some (.dat many), some (.dat indices), some (.ref B6.length), none, none, none, none] (B6 ++ [.lst [(.tuple [.str "book"])]]) := h7
  have a8 := (f__law_right_8 (some (.ref j)) (some (.dat (.list Modd))) (some (.dat book)) (some (.dat (.tuple [.tuple [.int 2, .int 0], .tuple [.int 4, .int 1], .tuple [.int 4, .int 3]]))) (some (.dat (.tuple [.str "told", .bool false]))) (some (.dat one)) (some (.dat index)) (some (.dat many)) (some (.dat indices)) (some (.ref B6.length)) (none) (none) (none) (none) (B6 ++ [.lst [(.tuple [.str "book"])]]) number m_number)
  have b8 := x_app (i := 10) (X := (mLamC 2 z__law_met (mCallX (fCallX M_is_in 2) (mCons (mTup (mCons (mC (.dat (.int 2))) (mCons (mC (.dat (.int 0))) mNil))) (mCons (mVar 6) mNil))))) (d := [some (.ref j), some (.dat (.list Modd)), some (.dat book), some (.dat (.tuple [.tuple [.int 2, .int 0], .tuple [.int 4, .int 1], .tuple [.int 4, .int 3]])), some (.dat (.tuple [.str "told", .bool false])), some (.dat one), some (.dat number), some (.dat index), some (.dat many), some (.dat indices), some (.ref B6.length), none, none, none, none]) (B := B6) (xs := [(.tuple [.str "book"])]) (v := (farD number)) a8 rfl (by kernel_rfl)
  have h8 : w__law_right_8 [some (.ref j), some (.dat (.list Modd)), some (.dat book), some (.dat (.tuple [.tuple [.int 2, .int 0], .tuple [.int 4, .int 1], .tuple [.int 4, .int 3]])), some (.dat (.tuple [.str "told", .bool false])), some (.dat one), some (.dat number), some (.dat index), some (.dat many), some (.dat indices), some (.ref B6.length), none, none, none, none] (B6 ++ [.lst [(.tuple [.str "book"])]]) = .nx [some (.ref j), some (.dat (.list Modd)), some (.dat book), some (.dat (.tuple [.tuple [.int 2, .int 0], .tuple [.int 4, .int 1], .tuple [.int 4, .int 3]])), some (.dat (.tuple [.str "told", .bool false])), some (.dat one), some (.dat number), some (.dat index), some (.dat many), some (.dat indices), some (.ref B6.length), none, none, none, none] (B6 ++ [.lst [(.tuple [.str "book"]), (farD number)]]) := b8
  have a9 := (f__law_right_9 (some (.ref j)) (some (.dat (.list Modd))) (some (.dat book)) (some (.dat (.tuple [.tuple [.int 2, .int 0], .tuple [.int 4, .int 1], .tuple [.int 4, .int 3]]))) (some (.dat (.tuple [.str "told", .bool false]))) (some (.dat number)) (some (.dat index)) (some (.dat many)) (some (.dat indices)) (some (.ref B6.length)) (none) (none) (none) (none) (B6 ++ [.lst [(.tuple [.str "book"]), (farD number)]]) one m_one)
  have b9 := x_app (i := 10) (X := (mLamC 2 z__law_met (mCallX (fCallX M_common_class 2) (mCons (mVar 5) (mCons (mVar 5) mNil))))) (d := [some (.ref j), some (.dat (.list Modd)), some (.dat book), some (.dat (.tuple [.tuple [.int 2, .int 0], .tuple [.int 4, .int 1], .tuple [.int 4, .int 3]])), some (.dat (.tuple [.str "told", .bool false])), some (.dat one), some (.dat number), some (.dat index), some (.dat many), some (.dat indices), some (.ref B6.length), none, none, none, none]) (B := B6) (xs := [(.tuple [.str "book"]), (farD number)]) (v := (.tuple [.str "book"])) a9 rfl (by kernel_rfl)
  have h9 : w__law_right_9 [some (.ref j), some (.dat (.list Modd)), some (.dat book), some (.dat (.tuple [.tuple [.int 2, .int 0], .tuple [.int 4, .int 1], .tuple [.int 4, .int 3]])), some (.dat (.tuple [.str "told", .bool false])), some (.dat one), some (.dat number), some (.dat index), some (.dat many), some (.dat indices), some (.ref B6.length), none, none, none, none] (B6 ++ [.lst [(.tuple [.str "book"]), (farD number)]]) = .nx [some (.ref j), some (.dat (.list Modd)), some (.dat book), some (.dat (.tuple [.tuple [.int 2, .int 0], .tuple [.int 4, .int 1], .tuple [.int 4, .int 3]])), some (.dat (.tuple [.str "told", .bool false])), some (.dat one), some (.dat number), some (.dat index), some (.dat many), some (.dat indices), some (.ref B6.length), none, none, none, none] (B6 ++ [.lst [(.tuple [.str "book"]), (farD number), (.tuple [.str "book"])]]) := b9
  have a10 := (f__law_right_10 (some (.ref j)) (some (.dat (.list Modd))) (some (.dat book)) (some (.dat (.tuple [.tuple [.int 2, .int 0], .tuple [.int 4, .int 1], .tuple [.int 4, .int 3]]))) (some (.dat (.tuple [.str "told", .bool false]))) (some (.dat number)) (some (.dat index)) (some (.dat many)) (some (.dat indices)) (some (.ref B6.length)) (none) (none) (none) (none) (B6 ++ [.lst [(.tuple [.str "book"]), (farD number), (.tuple [.str "book"])]]) one m_one)
  have b10 := x_app (i := 10) (X := (mLamC 2 z__law_met (mCallX (fCallX M_common_class 2) (mCons (mTup (mCons (mC (.dat (.int 2))) (mCons (mC (.dat (.int 0))) mNil))) (mCons (mVar 5) mNil))))) (d := [some (.ref j), some (.dat (.list Modd)), some (.dat book), some (.dat (.tuple [.tuple [.int 2, .int 0], .tuple [.int 4, .int 1], .tuple [.int 4, .int 3]])), some (.dat (.tuple [.str "told", .bool false])), some (.dat one), some (.dat number), some (.dat index), some (.dat many), some (.dat indices), some (.ref B6.length), none, none, none, none]) (B := B6) (xs := [(.tuple [.str "book"]), (farD number), (.tuple [.str "book"])]) (v := (.tuple [.str "book"])) a10 rfl (by kernel_rfl)
  have h10 : w__law_right_10 [some (.ref j), some (.dat (.list Modd)), some (.dat book), some (.dat (.tuple [.tuple [.int 2, .int 0], .tuple [.int 4, .int 1], .tuple [.int 4, .int 3]])), some (.dat (.tuple [.str "told", .bool false])), some (.dat one), some (.dat number), some (.dat index), some (.dat many), some (.dat indices), some (.ref B6.length), none, none, none, none] (B6 ++ [.lst [(.tuple [.str "book"]), (farD number), (.tuple [.str "book"])]]) = .nx [some (.ref j), some (.dat (.list Modd)), some (.dat book), some (.dat (.tuple [.tuple [.int 2, .int 0], .tuple [.int 4, .int 1], .tuple [.int 4, .int 3]])), some (.dat (.tuple [.str "told", .bool false])), some (.dat one), some (.dat number), some (.dat index), some (.dat many), some (.dat indices), some (.ref B6.length), none, none, none, none] (B6 ++ [.lst [(.tuple [.str "book"]), (farD number), (.tuple [.str "book"]), (.tuple [.str "book"])]]) := b10
  have a11 := (f__law_right_11 (some (.ref j)) (some (.dat (.list Modd))) (some (.dat (.tuple [.tuple [.int 2, .int 0], .tuple [.int 4, .int 1], .tuple [.int 4, .int 3]]))) (some (.dat (.tuple [.str "told", .bool false]))) (some (.dat one)) (some (.dat index)) (some (.dat many)) (some (.dat indices)) (some (.ref B6.length)) (none) (none) (none) (none) (B6 ++ [.lst [(.tuple [.str "book"]), (farD number), (.tuple [.str "book"]), (.tuple [.str "book"])]]) book m_book number m_number)
  have b11 := x_app (i := 10) (X := (mLamC 2 z__law_met (mCallX (fCallX M_does_cover 3) (mCons (mVar 2) (mCons (mVar 6) (mCons (mC (.dat (.int 0))) mNil)))))) (d := [some (.ref j), some (.dat (.list Modd)), some (.dat book), some (.dat (.tuple [.tuple [.int 2, .int 0], .tuple [.int 4, .int 1], .tuple [.int 4, .int 3]])), some (.dat (.tuple [.str "told", .bool false])), some (.dat one), some (.dat number), some (.dat index), some (.dat many), some (.dat indices), some (.ref B6.length), none, none, none, none]) (B := B6) (xs := [(.tuple [.str "book"]), (farD number), (.tuple [.str "book"]), (.tuple [.str "book"])]) (v := (.tuple [.str "book"])) a11 rfl (by kernel_rfl)
  have h11 : w__law_right_11 [some (.ref j), some (.dat (.list Modd)), some (.dat book), some (.dat (.tuple [.tuple [.int 2, .int 0], .tuple [.int 4, .int 1], .tuple [.int 4, .int 3]])), some (.dat (.tuple [.str "told", .bool false])), some (.dat one), some (.dat number), some (.dat index), some (.dat many), some (.dat indices), some (.ref B6.length), none, none, none, none] (B6 ++ [.lst [(.tuple [.str "book"]), (farD number), (.tuple [.str "book"]), (.tuple [.str "book"])]]) = .nx [some (.ref j), some (.dat (.list Modd)), some (.dat book), some (.dat (.tuple [.tuple [.int 2, .int 0], .tuple [.int 4, .int 1], .tuple [.int 4, .int 3]])), some (.dat (.tuple [.str "told", .bool false])), some (.dat one), some (.dat number), some (.dat index), some (.dat many), some (.dat indices), some (.ref B6.length), none, none, none, none] (B6 ++ [.lst [(.tuple [.str "book"]), (farD number), (.tuple [.str "book"]), (.tuple [.str "book"]), (.tuple [.str "book"])]]) := b11
  have a12 := (f__law_right_12 (some (.ref j)) (some (.dat (.list Modd))) (some (.dat book)) (some (.dat (.tuple [.str "told", .bool false]))) (some (.dat one)) (some (.dat index)) (some (.dat many)) (some (.dat indices)) (some (.ref B6.length)) (none) (none) (none) (none) (B6 ++ [.lst [(.tuple [.str "book"]), (farD number), (.tuple [.str "book"]), (.tuple [.str "book"]), (.tuple [.str "book"])]]) number m_number)
  have b12 := x_app (i := 10) (X := (mLamC 2 z__law_met (mCallX (fCallX M_does_cover 3) (mCons (mVar 3) (mCons (mVar 6) (mCons (mC (.dat (.int 0))) mNil)))))) (d := [some (.ref j), some (.dat (.list Modd)), some (.dat book), some (.dat (.tuple [.tuple [.int 2, .int 0], .tuple [.int 4, .int 1], .tuple [.int 4, .int 3]])), some (.dat (.tuple [.str "told", .bool false])), some (.dat one), some (.dat number), some (.dat index), some (.dat many), some (.dat indices), some (.ref B6.length), none, none, none, none]) (B := B6) (xs := [(.tuple [.str "book"]), (farD number), (.tuple [.str "book"]), (.tuple [.str "book"]), (.tuple [.str "book"])]) (v := (farD number)) a12 rfl (by kernel_rfl)
  have h12 : w__law_right_12 [some (.ref j), some (.dat (.list Modd)), some (.dat book), some (.dat (.tuple [.tuple [.int 2, .int 0], .tuple [.int 4, .int 1], .tuple [.int 4, .int 3]])), some (.dat (.tuple [.str "told", .bool false])), some (.dat one), some (.dat number), some (.dat index), some (.dat many), some (.dat indices), some (.ref B6.length), none, none, none, none] (B6 ++ [.lst [(.tuple [.str "book"]), (farD number), (.tuple [.str "book"]), (.tuple [.str "book"]), (.tuple [.str "book"])]]) = .nx [some (.ref j), some (.dat (.list Modd)), some (.dat book), some (.dat (.tuple [.tuple [.int 2, .int 0], .tuple [.int 4, .int 1], .tuple [.int 4, .int 3]])), some (.dat (.tuple [.str "told", .bool false])), some (.dat one), some (.dat number), some (.dat index), some (.dat many), some (.dat indices), some (.ref B6.length), none, none, none, none] (B6 ++ [.lst [(.tuple [.str "book"]), (farD number), (.tuple [.str "book"]), (.tuple [.str "book"]), (.tuple [.str "book"]), (farD number)]]) := b12
  have a13 := (f__law_right_13 (some (.ref j)) (some (.dat (.list Modd))) (some (.dat book)) (some (.dat (.tuple [.str "told", .bool false]))) (some (.dat one)) (some (.dat number)) (some (.dat index)) (some (.dat many)) (some (.dat indices)) (some (.ref B6.length)) (none) (none) (none) (none) (B6 ++ [.lst [(.tuple [.str "book"]), (farD number), (.tuple [.str "book"]), (.tuple [.str "book"]), (.tuple [.str "book"]), (farD number)]]))
  have b13 := x_app (i := 10) (X := (mLamC 2 z__law_met (mCallX (fCallX M_does_cover 3) (mCons (mVar 3) (mCons (mC (.dat (.int 5))) (mCons (mC (.dat (.int 0))) mNil)))))) (d := [some (.ref j), some (.dat (.list Modd)), some (.dat book), some (.dat (.tuple [.tuple [.int 2, .int 0], .tuple [.int 4, .int 1], .tuple [.int 4, .int 3]])), some (.dat (.tuple [.str "told", .bool false])), some (.dat one), some (.dat number), some (.dat index), some (.dat many), some (.dat indices), some (.ref B6.length), none, none, none, none]) (B := B6) (xs := [(.tuple [.str "book"]), (farD number), (.tuple [.str "book"]), (.tuple [.str "book"]), (.tuple [.str "book"]), (farD number)]) (v := (.tuple [.str "number", .str "0"])) a13 rfl (by kernel_rfl)
  have h13 : w__law_right_13 [some (.ref j), some (.dat (.list Modd)), some (.dat book), some (.dat (.tuple [.tuple [.int 2, .int 0], .tuple [.int 4, .int 1], .tuple [.int 4, .int 3]])), some (.dat (.tuple [.str "told", .bool false])), some (.dat one), some (.dat number), some (.dat index), some (.dat many), some (.dat indices), some (.ref B6.length), none, none, none, none] (B6 ++ [.lst [(.tuple [.str "book"]), (farD number), (.tuple [.str "book"]), (.tuple [.str "book"]), (.tuple [.str "book"]), (farD number)]]) = .nx [some (.ref j), some (.dat (.list Modd)), some (.dat book), some (.dat (.tuple [.tuple [.int 2, .int 0], .tuple [.int 4, .int 1], .tuple [.int 4, .int 3]])), some (.dat (.tuple [.str "told", .bool false])), some (.dat one), some (.dat number), some (.dat index), some (.dat many), some (.dat indices), some (.ref B6.length), none, none, none, none] (B6 ++ [.lst [(.tuple [.str "book"]), (farD number), (.tuple [.str "book"]), (.tuple [.str "book"]), (.tuple [.str "book"]), (farD number), (.tuple [.str "number", .str "0"])]]) := b13
  have a14 := (f__law_right_14 (some (.ref j)) (some (.dat (.list Modd))) (some (.dat book)) (some (.dat (.tuple [.str "told", .bool false]))) (some (.dat one)) (some (.dat number)) (some (.dat index)) (some (.dat many)) (some (.dat indices)) (some (.ref B6.length)) (none) (none) (none) (none) (B6 ++ [.lst [(.tuple [.str "book"]), (farD number), (.tuple [.str "book"]), (.tuple [.str "book"]), (.tuple [.str "book"]), (farD number), (.tuple [.str "number", .str "0"])]]))
  have b14 := x_app (i := 10) (X := (mLamC 2 z__law_met (mCallX (fCallX M_does_cover 3) (mCons (mVar 3) (mCons (mC (.dat (.int 5))) (mCons (mC (.dat (.int 5041))) mNil)))))) (d := [some (.ref j), some (.dat (.list Modd)), some (.dat book), some (.dat (.tuple [.tuple [.int 2, .int 0], .tuple [.int 4, .int 1], .tuple [.int 4, .int 3]])), some (.dat (.tuple [.str "told", .bool false])), some (.dat one), some (.dat number), some (.dat index), some (.dat many), some (.dat indices), some (.ref B6.length), none, none, none, none]) (B := B6) (xs := [(.tuple [.str "book"]), (farD number), (.tuple [.str "book"]), (.tuple [.str "book"]), (.tuple [.str "book"]), (farD number), (.tuple [.str "number", .str "0"])]) (v := (.tuple [.str "number", .str "5041"])) a14 rfl (by kernel_rfl)
  have h14 : w__law_right_14 [some (.ref j), some (.dat (.list Modd)), some (.dat book), some (.dat (.tuple [.tuple [.int 2, .int 0], .tuple [.int 4, .int 1], .tuple [.int 4, .int 3]])), some (.dat (.tuple [.str "told", .bool false])), some (.dat one), some (.dat number), some (.dat index), some (.dat many), some (.dat indices), some (.ref B6.length), none, none, none, none] (B6 ++ [.lst [(.tuple [.str "book"]), (farD number), (.tuple [.str "book"]), (.tuple [.str "book"]), (.tuple [.str "book"]), (farD number), (.tuple [.str "number", .str "0"])]]) = .nx [some (.ref j), some (.dat (.list Modd)), some (.dat book), some (.dat (.tuple [.tuple [.int 2, .int 0], .tuple [.int 4, .int 1], .tuple [.int 4, .int 3]])), some (.dat (.tuple [.str "told", .bool false])), some (.dat one), some (.dat number), some (.dat index), some (.dat many), some (.dat indices), some (.ref B6.length), none, none, none, none] (B6 ++ [.lst [(.tuple [.str "book"]), (farD number), (.tuple [.str "book"]), (.tuple [.str "book"]), (.tuple [.str "book"]), (farD number), (.tuple [.str "number", .str "0"]), (.tuple [.str "number", .str "5041"])]]) := b14
  have a15 := (f__law_right_15 (some (.ref j)) (some (.dat (.list Modd))) (some (.dat (.tuple [.tuple [.int 2, .int 0], .tuple [.int 4, .int 1], .tuple [.int 4, .int 3]]))) (some (.dat (.tuple [.str "told", .bool false]))) (some (.dat one)) (some (.dat number)) (some (.dat indices)) (some (.ref B6.length)) (none) (none) (none) (none) (B6 ++ [.lst [(.tuple [.str "book"]), (farD number), (.tuple [.str "book"]), (.tuple [.str "book"]), (.tuple [.str "book"]), (farD number), (.tuple [.str "number", .str "0"]), (.tuple [.str "number", .str "5041"])]]) book m_book index m_index many m_many)
  have b15 := x_app (i := 10) (X := (mLamC 2 z__law_met (mCallX (fCallX M_parted 3) (mCons (mVar 2) (mCons (mVar 7) (mCons (mVar 8) mNil)))))) (d := [some (.ref j), some (.dat (.list Modd)), some (.dat book), some (.dat (.tuple [.tuple [.int 2, .int 0], .tuple [.int 4, .int 1], .tuple [.int 4, .int 3]])), some (.dat (.tuple [.str "told", .bool false])), some (.dat one), some (.dat number), some (.dat index), some (.dat many), some (.dat indices), some (.ref B6.length), none, none, none, none]) (B := B6) (xs := [(.tuple [.str "book"]), (farD number), (.tuple [.str "book"]), (.tuple [.str "book"]), (.tuple [.str "book"]), (farD number), (.tuple [.str "number", .str "0"]), (.tuple [.str "number", .str "5041"])]) (v := (.tuple [.str "book"])) a15 rfl (by kernel_rfl)
  have h15 : w__law_right_15 [some (.ref j), some (.dat (.list Modd)), some (.dat book), some (.dat (.tuple [.tuple [.int 2, .int 0], .tuple [.int 4, .int 1], .tuple [.int 4, .int 3]])), some (.dat (.tuple [.str "told", .bool false])), some (.dat one), some (.dat number), some (.dat index), some (.dat many), some (.dat indices), some (.ref B6.length), none, none, none, none] (B6 ++ [.lst [(.tuple [.str "book"]), (farD number), (.tuple [.str "book"]), (.tuple [.str "book"]), (.tuple [.str "book"]), (farD number), (.tuple [.str "number", .str "0"]), (.tuple [.str "number", .str "5041"])]]) = .nx [some (.ref j), some (.dat (.list Modd)), some (.dat book), some (.dat (.tuple [.tuple [.int 2, .int 0], .tuple [.int 4, .int 1], .tuple [.int 4, .int 3]])), some (.dat (.tuple [.str "told", .bool false])), some (.dat one), some (.dat number), some (.dat index), some (.dat many), some (.dat indices), some (.ref B6.length), none, none, none, none] (B6 ++ [.lst [(.tuple [.str "book"]), (farD number), (.tuple [.str "book"]), (.tuple [.str "book"]), (.tuple [.str "book"]), (farD number), (.tuple [.str "number", .str "0"]), (.tuple [.str "number", .str "5041"]), (.tuple [.str "book"])]]) := b15
  have a16 := (f__law_right_16 (some (.ref j)) (some (.dat (.list Modd))) (some (.dat book)) (some (.dat (.tuple [.str "told", .bool false]))) (some (.dat one)) (some (.dat number)) (some (.dat indices)) (some (.ref B6.length)) (none) (none) (none) (none) (B6 ++ [.lst [(.tuple [.str "book"]), (farD number), (.tuple [.str "book"]), (.tuple [.str "book"]), (.tuple [.str "book"]), (farD number), (.tuple [.str "number", .str "0"]), (.tuple [.str "number", .str "5041"]), (.tuple [.str "book"])]]) index m_index many m_many)
  have b16 := x_app (i := 10) (X := (mLamC 2 z__law_met (mCallX (fCallX M_parted 3) (mCons (mVar 3) (mCons (mVar 7) (mCons (mVar 8) mNil)))))) (d := [some (.ref j), some (.dat (.list Modd)), some (.dat book), some (.dat (.tuple [.tuple [.int 2, .int 0], .tuple [.int 4, .int 1], .tuple [.int 4, .int 3]])), some (.dat (.tuple [.str "told", .bool false])), some (.dat one), some (.dat number), some (.dat index), some (.dat many), some (.dat indices), some (.ref B6.length), none, none, none, none]) (B := B6) (xs := [(.tuple [.str "book"]), (farD number), (.tuple [.str "book"]), (.tuple [.str "book"]), (.tuple [.str "book"]), (farD number), (.tuple [.str "number", .str "0"]), (.tuple [.str "number", .str "5041"]), (.tuple [.str "book"])]) (v := (farD index)) a16 rfl (by kernel_rfl)
  have h16 : w__law_right_16 [some (.ref j), some (.dat (.list Modd)), some (.dat book), some (.dat (.tuple [.tuple [.int 2, .int 0], .tuple [.int 4, .int 1], .tuple [.int 4, .int 3]])), some (.dat (.tuple [.str "told", .bool false])), some (.dat one), some (.dat number), some (.dat index), some (.dat many), some (.dat indices), some (.ref B6.length), none, none, none, none] (B6 ++ [.lst [(.tuple [.str "book"]), (farD number), (.tuple [.str "book"]), (.tuple [.str "book"]), (.tuple [.str "book"]), (farD number), (.tuple [.str "number", .str "0"]), (.tuple [.str "number", .str "5041"]), (.tuple [.str "book"])]]) = .nx [some (.ref j), some (.dat (.list Modd)), some (.dat book), some (.dat (.tuple [.tuple [.int 2, .int 0], .tuple [.int 4, .int 1], .tuple [.int 4, .int 3]])), some (.dat (.tuple [.str "told", .bool false])), some (.dat one), some (.dat number), some (.dat index), some (.dat many), some (.dat indices), some (.ref B6.length), none, none, none, none] (B6 ++ [.lst [(.tuple [.str "book"]), (farD number), (.tuple [.str "book"]), (.tuple [.str "book"]), (.tuple [.str "book"]), (farD number), (.tuple [.str "number", .str "0"]), (.tuple [.str "number", .str "5041"]), (.tuple [.str "book"]), (farD index)]]) := b16
  have a17 := (f__law_right_17 (some (.ref j)) (some (.dat (.list Modd))) (some (.dat book)) (some (.dat (.tuple [.str "told", .bool false]))) (some (.dat one)) (some (.dat number)) (some (.dat index)) (some (.dat indices)) (some (.ref B6.length)) (none) (none) (none) (none) (B6 ++ [.lst [(.tuple [.str "book"]), (farD number), (.tuple [.str "book"]), (.tuple [.str "book"]), (.tuple [.str "book"]), (farD number), (.tuple [.str "number", .str "0"]), (.tuple [.str "number", .str "5041"]), (.tuple [.str "book"]), (farD index)]]) many m_many)
  have b17 := x_app (i := 10) (X := (mLamC 2 z__law_met (mCallX (fCallX M_parted 3) (mCons (mVar 3) (mCons (mC (.dat (.int 0))) (mCons (mVar 8) mNil)))))) (d := [some (.ref j), some (.dat (.list Modd)), some (.dat book), some (.dat (.tuple [.tuple [.int 2, .int 0], .tuple [.int 4, .int 1], .tuple [.int 4, .int 3]])), some (.dat (.tuple [.str "told", .bool false])), some (.dat one), some (.dat number), some (.dat index), some (.dat many), some (.dat indices), some (.ref B6.length), none, none, none, none]) (B := B6) (xs := [(.tuple [.str "book"]), (farD number), (.tuple [.str "book"]), (.tuple [.str "book"]), (.tuple [.str "book"]), (farD number), (.tuple [.str "number", .str "0"]), (.tuple [.str "number", .str "5041"]), (.tuple [.str "book"]), (farD index)]) (v := (farD many)) a17 rfl (by kernel_rfl)
  have h17 : w__law_right_17 [some (.ref j), some (.dat (.list Modd)), some (.dat book), some (.dat (.tuple [.tuple [.int 2, .int 0], .tuple [.int 4, .int 1], .tuple [.int 4, .int 3]])), some (.dat (.tuple [.str "told", .bool false])), some (.dat one), some (.dat number), some (.dat index), some (.dat many), some (.dat indices), some (.ref B6.length), none, none, none, none] (B6 ++ [.lst [(.tuple [.str "book"]), (farD number), (.tuple [.str "book"]), (.tuple [.str "book"]), (.tuple [.str "book"]), (farD number), (.tuple [.str "number", .str "0"]), (.tuple [.str "number", .str "5041"]), (.tuple [.str "book"]), (farD index)]]) = .nx [some (.ref j), some (.dat (.list Modd)), some (.dat book), some (.dat (.tuple [.tuple [.int 2, .int 0], .tuple [.int 4, .int 1], .tuple [.int 4, .int 3]])), some (.dat (.tuple [.str "told", .bool false])), some (.dat one), some (.dat number), some (.dat index), some (.dat many), some (.dat indices), some (.ref B6.length), none, none, none, none] (B6 ++ [.lst [(.tuple [.str "book"]), (farD number), (.tuple [.str "book"]), (.tuple [.str "book"]), (.tuple [.str "book"]), (farD number), (.tuple [.str "number", .str "0"]), (.tuple [.str "number", .str "5041"]), (.tuple [.str "book"]), (farD index), (farD many)]]) := b17
  have a18 := (f__law_right_18 (some (.ref j)) (some (.dat (.list Modd))) (some (.dat (.tuple [.tuple [.int 2, .int 0], .tuple [.int 4, .int 1], .tuple [.int 4, .int 3]]))) (some (.dat (.tuple [.str "told", .bool false]))) (some (.dat one)) (some (.dat number)) (some (.dat index)) (some (.dat many)) (some (.ref B6.length)) (none) (none) (none) (none) (B6 ++ [.lst [(.tuple [.str "book"]), (farD number), (.tuple [.str "book"]), (.tuple [.str "book"]), (.tuple [.str "book"]), (farD number), (.tuple [.str "number", .str "0"]), (.tuple [.str "number", .str "5041"]), (.tuple [.str "book"]), (farD index), (farD many)]]) book m_book indices m_indices)
  have b18 := x_app (i := 10) (X := (mLamC 2 z__law_met (mCallX (fCallX M_joined 2) (mCons (mVar 2) (mCons (mVar 9) mNil))))) (d := [some (.ref j), some (.dat (.list Modd)), some (.dat book), some (.dat (.tuple [.tuple [.int 2, .int 0], .tuple [.int 4, .int 1], .tuple [.int 4, .int 3]])), some (.dat (.tuple [.str "told", .bool false])), some (.dat one), some (.dat number), some (.dat index), some (.dat many), some (.dat indices), some (.ref B6.length), none, none, none, none]) (B := B6) (xs := [(.tuple [.str "book"]), (farD number), (.tuple [.str "book"]), (.tuple [.str "book"]), (.tuple [.str "book"]), (farD number), (.tuple [.str "number", .str "0"]), (.tuple [.str "number", .str "5041"]), (.tuple [.str "book"]), (farD index), (farD many)]) (v := (.tuple [.str "book"])) a18 rfl (by kernel_rfl)
  have h18 : w__law_right_18 [some (.ref j), some (.dat (.list Modd)), some (.dat book), some (.dat (.tuple [.tuple [.int 2, .int 0], .tuple [.int 4, .int 1], .tuple [.int 4, .int 3]])), some (.dat (.tuple [.str "told", .bool false])), some (.dat one), some (.dat number), some (.dat index), some (.dat many), some (.dat indices), some (.ref B6.length), none, none, none, none] (B6 ++ [.lst [(.tuple [.str "book"]), (farD number), (.tuple [.str "book"]), (.tuple [.str "book"]), (.tuple [.str "book"]), (farD number), (.tuple [.str "number", .str "0"]), (.tuple [.str "number", .str "5041"]), (.tuple [.str "book"]), (farD index), (farD many)]]) = .nx [some (.ref j), some (.dat (.list Modd)), some (.dat book), some (.dat (.tuple [.tuple [.int 2, .int 0], .tuple [.int 4, .int 1], .tuple [.int 4, .int 3]])), some (.dat (.tuple [.str "told", .bool false])), some (.dat one), some (.dat number), some (.dat index), some (.dat many), some (.dat indices), some (.ref B6.length), none, none, none, none] (B6 ++ [.lst [(.tuple [.str "book"]), (farD number), (.tuple [.str "book"]), (.tuple [.str "book"]), (.tuple [.str "book"]), (farD number), (.tuple [.str "number", .str "0"]), (.tuple [.str "number", .str "5041"]), (.tuple [.str "book"]), (farD index), (farD many), (.tuple [.str "book"])]]) := b18
  have a19 := (f__law_right_19 (some (.ref j)) (some (.dat (.list Modd))) (some (.dat book)) (some (.dat (.tuple [.str "told", .bool false]))) (some (.dat one)) (some (.dat number)) (some (.dat index)) (some (.dat many)) (some (.ref B6.length)) (none) (none) (none) (none) (B6 ++ [.lst [(.tuple [.str "book"]), (farD number), (.tuple [.str "book"]), (.tuple [.str "book"]), (.tuple [.str "book"]), (farD number), (.tuple [.str "number", .str "0"]), (.tuple [.str "number", .str "5041"]), (.tuple [.str "book"]), (farD index), (farD many), (.tuple [.str "book"])]]) indices m_indices)
  have b19 := x_app (i := 10) (X := (mLamC 2 z__law_met (mCallX (fCallX M_joined 2) (mCons (mVar 3) (mCons (mVar 9) mNil))))) (d := [some (.ref j), some (.dat (.list Modd)), some (.dat book), some (.dat (.tuple [.tuple [.int 2, .int 0], .tuple [.int 4, .int 1], .tuple [.int 4, .int 3]])), some (.dat (.tuple [.str "told", .bool false])), some (.dat one), some (.dat number), some (.dat index), some (.dat many), some (.dat indices), some (.ref B6.length), none, none, none, none]) (B := B6) (xs := [(.tuple [.str "book"]), (farD number), (.tuple [.str "book"]), (.tuple [.str "book"]), (.tuple [.str "book"]), (farD number), (.tuple [.str "number", .str "0"]), (.tuple [.str "number", .str "5041"]), (.tuple [.str "book"]), (farD index), (farD many), (.tuple [.str "book"])]) (v := (.tuple [.str "report"])) a19 rfl (by kernel_rfl)
  have h19 : w__law_right_19 [some (.ref j), some (.dat (.list Modd)), some (.dat book), some (.dat (.tuple [.tuple [.int 2, .int 0], .tuple [.int 4, .int 1], .tuple [.int 4, .int 3]])), some (.dat (.tuple [.str "told", .bool false])), some (.dat one), some (.dat number), some (.dat index), some (.dat many), some (.dat indices), some (.ref B6.length), none, none, none, none] (B6 ++ [.lst [(.tuple [.str "book"]), (farD number), (.tuple [.str "book"]), (.tuple [.str "book"]), (.tuple [.str "book"]), (farD number), (.tuple [.str "number", .str "0"]), (.tuple [.str "number", .str "5041"]), (.tuple [.str "book"]), (farD index), (farD many), (.tuple [.str "book"])]]) = .nx [some (.ref j), some (.dat (.list Modd)), some (.dat book), some (.dat (.tuple [.tuple [.int 2, .int 0], .tuple [.int 4, .int 1], .tuple [.int 4, .int 3]])), some (.dat (.tuple [.str "told", .bool false])), some (.dat one), some (.dat number), some (.dat index), some (.dat many), some (.dat indices), some (.ref B6.length), none, none, none, none] (B6 ++ [.lst [(.tuple [.str "book"]), (farD number), (.tuple [.str "book"]), (.tuple [.str "book"]), (.tuple [.str "book"]), (farD number), (.tuple [.str "number", .str "0"]), (.tuple [.str "number", .str "5041"]), (.tuple [.str "book"]), (farD index), (farD many), (.tuple [.str "book"]), (.tuple [.str "report"])]]) := b19
  have a20 := (f__law_right_20 (some (.ref j)) (some (.dat (.list Modd))) (some (.dat book)) (some (.dat (.tuple [.str "told", .bool false]))) (some (.dat one)) (some (.dat number)) (some (.dat index)) (some (.dat many)) (some (.dat indices)) (some (.ref B6.length)) (none) (none) (none) (none) (B6 ++ [.lst [(.tuple [.str "book"]), (farD number), (.tuple [.str "book"]), (.tuple [.str "book"]), (.tuple [.str "book"]), (farD number), (.tuple [.str "number", .str "0"]), (.tuple [.str "number", .str "5041"]), (.tuple [.str "book"]), (farD index), (farD many), (.tuple [.str "book"]), (.tuple [.str "report"])]]))
  have b20 := x_app (i := 10) (X := (mLamC 2 z__law_met (mCallX (fCallX M_joined 2) (mCons (mVar 3) (mCons (mTup (mCons (mC (.dat (.int 0))) (mCons (mC (.dat (.int 1))) mNil))) mNil))))) (d := [some (.ref j), some (.dat (.list Modd)), some (.dat book), some (.dat (.tuple [.tuple [.int 2, .int 0], .tuple [.int 4, .int 1], .tuple [.int 4, .int 3]])), some (.dat (.tuple [.str "told", .bool false])), some (.dat one), some (.dat number), some (.dat index), some (.dat many), some (.dat indices), some (.ref B6.length), none, none, none, none]) (B := B6) (xs := [(.tuple [.str "book"]), (farD number), (.tuple [.str "book"]), (.tuple [.str "book"]), (.tuple [.str "book"]), (farD number), (.tuple [.str "number", .str "0"]), (.tuple [.str "number", .str "5041"]), (.tuple [.str "book"]), (farD index), (farD many), (.tuple [.str "book"]), (.tuple [.str "report"])]) (v := (.tuple [.str "operation"])) a20 rfl (by kernel_rfl)
  have h20 : w__law_right_20 [some (.ref j), some (.dat (.list Modd)), some (.dat book), some (.dat (.tuple [.tuple [.int 2, .int 0], .tuple [.int 4, .int 1], .tuple [.int 4, .int 3]])), some (.dat (.tuple [.str "told", .bool false])), some (.dat one), some (.dat number), some (.dat index), some (.dat many), some (.dat indices), some (.ref B6.length), none, none, none, none] (B6 ++ [.lst [(.tuple [.str "book"]), (farD number), (.tuple [.str "book"]), (.tuple [.str "book"]), (.tuple [.str "book"]), (farD number), (.tuple [.str "number", .str "0"]), (.tuple [.str "number", .str "5041"]), (.tuple [.str "book"]), (farD index), (farD many), (.tuple [.str "book"]), (.tuple [.str "report"])]]) = .nx [some (.ref j), some (.dat (.list Modd)), some (.dat book), some (.dat (.tuple [.tuple [.int 2, .int 0], .tuple [.int 4, .int 1], .tuple [.int 4, .int 3]])), some (.dat (.tuple [.str "told", .bool false])), some (.dat one), some (.dat number), some (.dat index), some (.dat many), some (.dat indices), some (.ref B6.length), none, none, none, none] (B6 ++ [.lst [(.tuple [.str "book"]), (farD number), (.tuple [.str "book"]), (.tuple [.str "book"]), (.tuple [.str "book"]), (farD number), (.tuple [.str "number", .str "0"]), (.tuple [.str "number", .str "5041"]), (.tuple [.str "book"]), (farD index), (farD many), (.tuple [.str "book"]), (.tuple [.str "report"]), (.tuple [.str "operation"])]]) := b20
  have a21 := (f__law_right_21 (some (.ref j)) (some (.dat (.list Modd))) (some (.dat book)) (some (.dat (.tuple [.tuple [.int 2, .int 0], .tuple [.int 4, .int 1], .tuple [.int 4, .int 3]]))) (some (.dat (.tuple [.str "told", .bool false]))) (some (.dat one)) (some (.dat many)) (some (.dat indices)) (some (.ref B6.length)) (none) (none) (none) (none) (B6 ++ [.lst [(.tuple [.str "book"]), (farD number), (.tuple [.str "book"]), (.tuple [.str "book"]), (.tuple [.str "book"]), (farD number), (.tuple [.str "number", .str "0"]), (.tuple [.str "number", .str "5041"]), (.tuple [.str "book"]), (farD index), (farD many), (.tuple [.str "book"]), (.tuple [.str "report"]), (.tuple [.str "operation"])]]) number m_number index m_index)
  have h21 : w__law_right_21 [some (.ref j), some (.dat (.list Modd)), some (.dat book), some (.dat (.tuple [.tuple [.int 2, .int 0], .tuple [.int 4, .int 1], .tuple [.int 4, .int 3]])), some (.dat (.tuple [.str "told", .bool false])), some (.dat one), some (.dat number), some (.dat index), some (.dat many), some (.dat indices), some (.ref B6.length), none, none, none, none] (B6 ++ [.lst [(.tuple [.str "book"]), (farD number), (.tuple [.str "book"]), (.tuple [.str "book"]), (.tuple [.str "book"]), (farD number), (.tuple [.str "number", .str "0"]), (.tuple [.str "number", .str "5041"]), (.tuple [.str "book"]), (farD index), (farD many), (.tuple [.str "book"]), (.tuple [.str "report"]), (.tuple [.str "operation"])]]) = .nx [some (.ref j), some (.dat (.list Modd)), some (.dat book), some (.dat (.tuple [.tuple [.int 2, .int 0], .tuple [.int 4, .int 1], .tuple [.int 4, .int 3]])), some (.dat (.tuple [.str "told", .bool false])), some (.dat one), some (.dat number), some (.dat index), some (.dat many), some (.dat indices), some (.ref B6.length), some (.dat (farD number)), some (.dat (farD index)), none, none] (B6 ++ [.lst [(.tuple [.str "book"]), (farD number), (.tuple [.str "book"]), (.tuple [.str "book"]), (.tuple [.str "book"]), (farD number), (.tuple [.str "number", .str "0"]), (.tuple [.str "number", .str "5041"]), (.tuple [.str "book"]), (farD index), (farD many), (.tuple [.str "book"]), (.tuple [.str "report"]), (.tuple [.str "operation"])]]) := a21
  have a22 := f__law_right_22 (some (.ref j)) (some (.dat (.list Modd))) (some (.dat book)) (some (.dat (.tuple [.tuple [.int 2, .int 0], .tuple [.int 4, .int 1], .tuple [.int 4, .int 3]]))) (some (.dat (.tuple [.str "told", .bool false]))) (some (.dat one)) (some (.dat number)) (some (.dat index)) (some (.dat indices)) (some (.ref B6.length)) (none) (none) (farD number) (farD index) (B6 ++ [.lst [(.tuple [.str "book"]), (farD number), (.tuple [.str "book"]), (.tuple [.str "book"]), (.tuple [.str "book"]), (farD number), (.tuple [.str "number", .str "0"]), (.tuple [.str "number", .str "5041"]), (.tuple [.str "book"]), (farD index), (farD many), (.tuple [.str "book"]), (.tuple [.str "report"]), (.tuple [.str "operation"])]]) many m_many
  have h22 : w__law_right_22 [some (.ref j), some (.dat (.list Modd)), some (.dat book), some (.dat (.tuple [.tuple [.int 2, .int 0], .tuple [.int 4, .int 1], .tuple [.int 4, .int 3]])), some (.dat (.tuple [.str "told", .bool false])), some (.dat one), some (.dat number), some (.dat index), some (.dat many), some (.dat indices), some (.ref B6.length), some (.dat (farD number)), some (.dat (farD index)), none, none] (B6 ++ [.lst [(.tuple [.str "book"]), (farD number), (.tuple [.str "book"]), (.tuple [.str "book"]), (.tuple [.str "book"]), (farD number), (.tuple [.str "number", .str "0"]), (.tuple [.str "number", .str "5041"]), (.tuple [.str "book"]), (farD index), (farD many), (.tuple [.str "book"]), (.tuple [.str "report"]), (.tuple [.str "operation"])]]) = .nx [some (.ref j), some (.dat (.list Modd)), some (.dat book), some (.dat (.tuple [.tuple [.int 2, .int 0], .tuple [.int 4, .int 1], .tuple [.int 4, .int 3]])), some (.dat (.tuple [.str "told", .bool false])), some (.dat one), some (.dat number), some (.dat index), some (.dat many), some (.dat indices), some (.ref B6.length), some (.dat (farD number)), some (.dat (farD index)), some (.dat (.list [(.tuple [.str "book"]), (farD number), (.tuple [.str "book"]), (.tuple [.str "book"]), (.tuple [.str "book"]), (farD number), (.tuple [.str "number", .str "0"]), (.tuple [.str "number", .str "5041"]), (.tuple [.str "book"]), (farD index), (farD many), (.tuple [.str "book"]), (.tuple [.str "report"]), (.tuple [.str "operation"])])), none] (B6 ++ [.lst [(.tuple [.str "book"]), (farD number), (.tuple [.str "book"]), (.tuple [.str "book"]), (.tuple [.str "book"]), (farD number), (.tuple [.str "number", .str "0"]), (.tuple [.str "number", .str "5041"]), (.tuple [.str "book"]), (farD index), (farD many), (.tuple [.str "book"]), (.tuple [.str "report"]), (.tuple [.str "operation"])]]) := a22
  have z1 := told_due number m_number index m_index many m_many
  have z2 := x_eqLast (i := 10) (j := 13) (d := [some (.ref j), some (.dat (.list Modd)), some (.dat book), some (.dat (.tuple [.tuple [.int 2, .int 0], .tuple [.int 4, .int 1], .tuple [.int 4, .int 3]])), some (.dat (.tuple [.str "told", .bool false])), some (.dat one), some (.dat number), some (.dat index), some (.dat many), some (.dat indices), some (.ref B6.length), some (.dat (farD number)), some (.dat (farD index)), some (.dat (.list [(.tuple [.str "book"]), (farD number), (.tuple [.str "book"]), (.tuple [.str "book"]), (.tuple [.str "book"]), (farD number), (.tuple [.str "number", .str "0"]), (.tuple [.str "number", .str "5041"]), (.tuple [.str "book"]), (farD index), (farD many), (.tuple [.str "book"]), (.tuple [.str "report"]), (.tuple [.str "operation"])])), none]) (B := B6) rfl rfl z1
  have z3 := (f_end_b (some (.ref j)) (some (.dat (.list Modd))) (some (.dat book)) (some (.dat (.tuple [.tuple [.int 2, .int 0], .tuple [.int 4, .int 1], .tuple [.int 4, .int 3]]))) (some (.dat (.tuple [.str "told", .bool false]))) (some (.dat number)) (some (.dat index)) (some (.dat many)) (some (.dat indices)) (some (.ref B6.length)) (some (.dat (farD number))) (some (.dat (farD index))) (some (.dat (.list [(.tuple [.str "book"]), (farD number), (.tuple [.str "book"]), (.tuple [.str "book"]), (.tuple [.str "book"]), (farD number), (.tuple [.str "number", .str "0"]), (.tuple [.str "number", .str "5041"]), (.tuple [.str "book"]), (farD index), (farD many), (.tuple [.str "book"]), (.tuple [.str "report"]), (.tuple [.str "operation"])]))) (none) (B6 ++ [.lst [(.tuple [.str "book"]), (farD number), (.tuple [.str "book"]), (.tuple [.str "book"]), (.tuple [.str "book"]), (farD number), (.tuple [.str "number", .str "0"]), (.tuple [.str "number", .str "5041"]), (.tuple [.str "book"]), (farD index), (farD many), (.tuple [.str "book"]), (.tuple [.str "report"]), (.tuple [.str "operation"])]]) one m_one)
  have z4 := (f_end_c (some (.ref j)) (some (.dat (.list Modd))) (some (.dat book)) (some (.dat (.tuple [.tuple [.int 2, .int 0], .tuple [.int 4, .int 1], .tuple [.int 4, .int 3]]))) (some (.dat (.tuple [.str "told", .bool false]))) (some (.dat one)) (some (.dat number)) (some (.dat index)) (some (.dat many)) (some (.dat indices)) (some (.ref B6.length)) (some (.dat (farD number))) (some (.dat (farD index))) (some (.dat (.list [(.tuple [.str "book"]), (farD number), (.tuple [.str "book"]), (.tuple [.str "book"]), (.tuple [.str "book"]), (farD number), (.tuple [.str "number", .str "0"]), (.tuple [.str "number", .str "5041"]), (.tuple [.str "book"]), (farD index), (farD many), (.tuple [.str "book"]), (.tuple [.str "report"]), (.tuple [.str "operation"])]))) (none) (B6 ++ [.lst [(.tuple [.str "book"]), (farD number), (.tuple [.str "book"]), (.tuple [.str "book"]), (.tuple [.str "book"]), (farD number), (.tuple [.str "number", .str "0"]), (.tuple [.str "number", .str "5041"]), (.tuple [.str "book"]), (farD index), (farD many), (.tuple [.str "book"]), (.tuple [.str "report"]), (.tuple [.str "operation"])]]))
  have z5 := r_ret (x_bl (x_and (r_b z2) (x_and z3 z4)))
  have h23 : w__law_right_23 [some (.ref j), some (.dat (.list Modd)), some (.dat book), some (.dat (.tuple [.tuple [.int 2, .int 0], .tuple [.int 4, .int 1], .tuple [.int 4, .int 3]])), some (.dat (.tuple [.str "told", .bool false])), some (.dat one), some (.dat number), some (.dat index), some (.dat many), some (.dat indices), some (.ref B6.length), some (.dat (farD number)), some (.dat (farD index)), some (.dat (.list [(.tuple [.str "book"]), (farD number), (.tuple [.str "book"]), (.tuple [.str "book"]), (.tuple [.str "book"]), (farD number), (.tuple [.str "number", .str "0"]), (.tuple [.str "number", .str "5041"]), (.tuple [.str "book"]), (farD index), (farD many), (.tuple [.str "book"]), (.tuple [.str "report"]), (.tuple [.str "operation"])])), none] (B6 ++ [.lst [(.tuple [.str "book"]), (farD number), (.tuple [.str "book"]), (.tuple [.str "book"]), (.tuple [.str "book"]), (farD number), (.tuple [.str "number", .str "0"]), (.tuple [.str "number", .str "5041"]), (.tuple [.str "book"]), (farD index), (farD many), (.tuple [.str "book"]), (.tuple [.str "report"]), (.tuple [.str "operation"])]]) = .rt (.dat (.bool true)) (B6 ++ [.lst [(.tuple [.str "book"]), (farD number), (.tuple [.str "book"]), (.tuple [.str "book"]), (.tuple [.str "book"]), (farD number), (.tuple [.str "number", .str "0"]), (.tuple [.str "number", .str "5041"]), (.tuple [.str "book"]), (farD index), (farD many), (.tuple [.str "book"]), (.tuple [.str "report"]), (.tuple [.str "operation"])]]) := z5
  have len := (((((n6.trans n5).trans n4).trans n3).trans n2).trans n1)
  exact ⟨B6, (B6 ++ [.lst [(.tuple [.str "book"]), (farD number), (.tuple [.str "book"]), (.tuple [.str "book"]), (.tuple [.str "book"]), (farD number), (.tuple [.str "number", .str "0"]), (.tuple [.str "number", .str "5041"]), (.tuple [.str "book"]), (farD index), (farD many), (.tuple [.str "book"]), (.tuple [.str "report"]), (.tuple [.str "operation"])]]), mfn_rt (r_seq h0 (r_seq h1 (r_seq h2 (r_seq h3 (r_seq h4 (r_seq h5 (r_seq h6 (r_seq h7 (r_seq h8 (r_seq h9 (r_seq h10 (r_seq h11 (r_seq h12 (r_seq h13 (r_seq h14 (r_seq h15 (r_seq h16 (r_seq h17 (r_seq h18 (r_seq h19 (r_seq h20 (r_seq h21 (r_seq h22 h23))))))))))))))))))))))), j6, len, x_take len⟩
theorem turns_run {j : Nat} {S x : Option SV} : ∀ (ts : List SV) (A : List AO) (y : Option SV), JarAt A j → ∃ B y', forLoop (gtName 3) (zIf (mNot (mB (mCall (fCallFD M__law_right 1) (mCons (mVar 2) mNil)))) (zRet (mC (.dat (.bool false)))) zNil) ts [S, x, some (.ref j), y, none, none, none, none, none] A = .nx [S, x, some (.ref j), y', none, none, none, none, none] B ∧ JarAt B j ∧ B.length = A.length
  | [], A, y, hj => ⟨A, y, rfl, hj, rfl⟩
  | t :: ts, A, y, hj => by
    obtain ⟨B, C, e1, j1, n1, tk⟩ := right_run hj
    obtain ⟨E, y', e2, j2, n2⟩ := turns_run (S := S) (x := x) ts B (some t) j1
    refine ⟨E, y', ?_, j2, n2.trans n1⟩
    have c : mNot (mB (mCall (fCallFD M__law_right 1) (mCons (mVar 2) mNil))) [S, x, some (.ref j), some t, none, none, none, none, none] A = .ok false B := r_not (b := true) (r_b (x_FD (r_one rfl) rfl e1 tk))
    have b := x_skip (t := zRet (mC (.dat (.bool false)))) c
    unfold forLoop
    simp only [v_gtName, List.set_cons_succ, List.set_cons_zero, b]
    exact e2
theorem spots_run (ns : List Int) : ∀ (ss : List Nat) (A : List AO) (x j y : Option SV), (∀ s ∈ ss, s ≤ 1) → ∃ B x' j' y', forLoop (gtName 1) (zSeq (zAsgM (mCallN (fCallN M__law_jar 2) (mCons (mVar 0) (mCons (mVar 1) mNil))) 2)
  (zFor (mRng (aLen 1 (mCons (mC (.dat (.int 6))) mNil))) (gtName 3) (zIf (mNot (mB (mCall (fCallFD M__law_right 1) (mCons (mVar 2) mNil)))) (zRet (mC (.dat (.bool false)))) zNil))) (ss.map fun (s : Nat) => SV.dat (.int (s : Int))) [some (.dat (.list (ns.map PyData.int))), x, j, y, none, none, none, none, none] A =
    .nx [some (.dat (.list (ns.map PyData.int))), x', j', y', none, none, none, none, none] B
  | [], A, x, j, y, _ => ⟨A, x, j, y, rfl⟩
  | s :: ss, A, x, j, y, h => by
    obtain ⟨g, b, e1⟩ := jar_run ns s (h s List.mem_cons_self)
    let A1 := A ++ [AO.lst [.int g, .int b, .int 0]]
    have hj : JarAt A1 A.length := ⟨g, b, 0, x_get_last⟩
    obtain ⟨B, y1, e2, _, _⟩ := turns_run (j := A.length) (S := some (.dat (.list (ns.map PyData.int)))) (x := some (.dat (.int (s : Int)))) ((List.range 6).map fun (t : Nat) => SV.dat (.int (t : Int))) A1 y hj
    obtain ⟨C, x', j', y', e3⟩ := spots_run ns ss B (some (.dat (.int (s : Int)))) (some (.ref A.length)) y1 fun t ht => h t (List.mem_cons_of_mem _ ht)
    refine ⟨C, x', j', y', ?_⟩
    have cN : fCallN M__law_jar 2 [.dat (.list (ns.map PyData.int)), .dat (.int (s : Int))] A = .ok [.int g, .int b, .int 0] A := by
      have l : lstRun M__law_jar [.dat (.list (ns.map PyData.int)), .dat (.int (s : Int))] = some [.int g, .int b, .int 0] := by
        unfold lstRun
        rw [e1]
        rfl
      unfold fCallN
      rw [if_pos ⟨rfl, rfl⟩, l]
    have s1 : zAsgM (mCallN (fCallN M__law_jar 2) (mCons (mVar 0) (mCons (mVar 1) mNil))) 2 [some (.dat (.list (ns.map PyData.int))), some (.dat (.int (s : Int))), j, y, none, none, none, none, none] A = .nx [some (.dat (.list (ns.map PyData.int))), some (.dat (.int (s : Int))), some (.ref A.length), y, none, none, none, none, none] A1 := by
      have c : mCallN (fCallN M__law_jar 2) (mCons (mVar 0) (mCons (mVar 1) mNil)) [some (.dat (.list (ns.map PyData.int))), some (.dat (.int (s : Int))), j, y, none, none, none, none, none] A = .ok [.int g, .int b, .int 0] A := by
        unfold mCallN
        rw [r_two (m := mVar 0) (n := mVar 1) rfl rfl, v_bind, cN, v_quiet]
      exact x_asgM c
    have s2 := r_for (f := gtName 3) (b := (zIf (mNot (mB (mCall (fCallFD M__law_right 1) (mCons (mVar 2) mNil)))) (zRet (mC (.dat (.bool false)))) zNil)) (mRng1 (m := mC (.dat (.int 6))) (d := [some (.dat (.list (ns.map PyData.int))), some (.dat (.int (s : Int))), some (.ref A.length), y, none, none, none, none, none]) (A := A1) rfl (rng_run (N := 6) (by omega))) e2
    have body := r_seq s1 s2
    rw [List.map_cons]
    unfold forLoop
    simp only [v_gtName, List.set_cons_succ, List.set_cons_zero, body]
    exact e3
theorem loops_run (ns : List Int) : ∃ B x j y, zFor (mRng (aLen 1 (mCons (mCall fMax2 (mCons (mC (.dat (.int 1))) (mCons (mCall fMin2 (mCons (mC (.dat (.int 2))) (mCons (mCall fLen (mCons (mVar 0) mNil)) mNil))) mNil))) mNil))) (gtName 1) (zSeq (zAsgM (mCallN (fCallN M__law_jar 2) (mCons (mVar 0) (mCons (mVar 1) mNil))) 2)
  (zFor (mRng (aLen 1 (mCons (mC (.dat (.int 6))) mNil))) (gtName 3) (zIf (mNot (mB (mCall (fCallFD M__law_right 1) (mCons (mVar 2) mNil)))) (zRet (mC (.dat (.bool false)))) zNil))) [some (.dat (.list (ns.map PyData.int))), none, none, none, none, none, none, none, none] [] = .nx [some (.dat (.list (ns.map PyData.int))), x, j, y, none, none, none, none, none] B := by
  have ll : fLen [.dat (.list (ns.map PyData.int))] [] = .ok (.dat (.int (ns.length : Int))) [] := by rw [l_len, List.length_map]
  let d0 : DSt := [some (.dat (.list (ns.map PyData.int))), none, none, none, none, none, none, none, none]
  obtain ⟨N, hN, e0⟩ : ∃ N : Nat, N ≤ 2 ∧ mCall fMax2 (mCons (mC (.dat (.int 1))) (mCons (mCall fMin2 (mCons (mC (.dat (.int 2))) (mCons (mCall fLen (mCons (mVar 0) mNil)) mNil))) mNil)) d0 [] = .ok (.dat (.int (N : Int))) [] := by
    have e1 : fMin2 [.dat (.int 2), .dat (.int (ns.length : Int))] [] = .ok (.dat (.int (if (ns.length : Int) < 2 then (ns.length : Int) else 2))) [] := rfl
    have e2 : ∀ k : Int, fMax2 [.dat (.int 1), .dat (.int k)] [] = .ok (.dat (.int (if k > 1 then k else 1))) [] := fun k => rfl
    have run := r_call (f := fMax2) (r_two (m := mC (.dat (.int 1))) (d := d0) (A := []) rfl (r_call (r_two (m := mC (.dat (.int 2))) rfl (r_call (r_one (m := mVar 0) rfl) ll)) e1)) (e2 _)
    by_cases h : 2 ≤ ns.length
    · refine ⟨2, Nat.le_refl _, run.trans ?_⟩
      rw [if_neg (by omega : ¬ (ns.length : Int) < 2)]
      rfl
    · refine ⟨1, by omega, run.trans ?_⟩
      rw [if_pos (by omega : (ns.length : Int) < 2), if_neg (by omega : ¬ (ns.length : Int) > 1)]
      rfl
  obtain ⟨B, x, j, y, e1⟩ := spots_run ns (List.range N) [] none none none fun s hs => by have := List.mem_range.mp hs; omega
  exact ⟨B, x, j, y, r_for (f := gtName 1) (mRng1 e0 (rng_run (N := N) (by omega))) e1⟩
abbrev w_law_0 : MS := (zFor (mRng (aLen 1 (mCons (mCall fMax2 (mCons (mC (.dat (.int 1))) (mCons (mCall fMin2 (mCons (mC (.dat (.int 2))) (mCons (mCall fLen (mCons (mVar 0) mNil)) mNil))) mNil))) mNil))) (gtName 1) (zSeq (zAsgM (mCallN (fCallN M__law_jar 2) (mCons (mVar 0) (mCons (mVar 1) mNil))) 2)
  (zFor (mRng (aLen 1 (mCons (mC (.dat (.int 6))) mNil))) (gtName 3) (zIf (mNot (mB (mCall (fCallFD M__law_right 1) (mCons (mVar 2) mNil)))) (zRet (mC (.dat (.bool false)))) zNil))))
abbrev w_law_1 : MS := (zAsg (mTup (mCons (mC (.dat (.str "operation"))) mNil)) (gtName 4))
abbrev w_law_2 : MS := (zAsgM (mLst (mCons (mLamC 2 z__law_met (mCallX (fCallX M_parted 3) (mCons (mTup (mCons (mTup (mCons (mC (.dat (.int 2))) (mCons (mC (.dat (.int 0))) mNil))) (mCons (mTup (mCons (mC (.dat (.int 4))) (mCons (mC (.dat (.int 0))) mNil))) mNil))) (mCons (mC (.dat (.int 0))) (mCons (mC (.dat (.int 2))) mNil))))) mNil)) 5)
abbrev w_law_3 : MS := (zDrop (mApp 5 (mLamC 2 z__law_met (mCallX (fCallX M_parted 3) (mCons (mTup (mCons (mTup (mCons (mC (.dat (.int 2))) (mCons (mC (.dat (.int 0))) mNil))) mNil)) (mCons (mC (.dat (.int 0))) (mCons (mC (.dat (.int 13))) mNil)))))))
abbrev w_law_4 : MS := (zDrop (mApp 5 (mLamC 2 z__law_met (mCallX (fCallX M_parted 3) (mCons (mTup (mCons (mTup (mCons (mC (.dat (.int 1))) (mCons (mC (.dat (.int 0))) mNil))) mNil)) (mCons (mC (.dat (.int 0))) (mCons (mC (.dat (.int 13))) mNil)))))))
abbrev w_law_5 : MS := (zDrop (mApp 5 (mLamC 2 z__law_met (mCallX (fCallX M_joined 2) (mCons (mTup (mCons (mTup (mCons (mC (.dat (.int 2))) (mCons (mC (.dat (.int 0))) mNil))) (mCons (mTup (mCons (mC (.dat (.int 4))) (mCons (mC (.dat (.int 0))) mNil))) (mCons (mTup (mCons (mC (.dat (.int 4))) (mCons (mC (.dat (.int 2))) mNil))) mNil)))) (mCons (mTup (mCons (mC (.dat (.int 1))) (mCons (mC (.dat (.int 2))) mNil))) mNil))))))
abbrev w_law_6 : MS := (zDrop (mApp 5 (mLamC 2 z__law_met (mCallX (fCallX M_joined 2) (mCons (mTup (mCons (mTup (mCons (mC (.dat (.int 3))) (mCons (mC (.dat (.int 0))) mNil))) (mCons (mTup (mCons (mC (.dat (.int 3))) (mCons (mC (.dat (.int 1))) mNil))) mNil))) (mCons (mTup (mCons (mC (.dat (.int 0))) (mCons (mC (.dat (.int 1))) mNil))) mNil))))))
abbrev w_law_7 : MS := (zDrop (mApp 5 (mLamC 2 z__law_met (mOp (f2D gEq) (mCallX (fCallX M_joined 2) (mCons (mTup (mCons (mTup (mCons (mC (.dat (.int 2))) (mCons (mC (.dat (.int 0))) mNil))) (mCons (mTup (mCons (mC (.dat (.int 2))) (mCons (mC (.dat (.int 1))) mNil))) mNil))) (mCons (mTup (mCons (mC (.dat (.int 0))) (mCons (mC (.dat (.int 1))) mNil))) mNil))) (mTup (mCons (mTup (mCons (mC (.dat (.int 1))) (mCons (mC (.dat (.int 0))) mNil))) mNil))))))
abbrev w_law_8 : MS := (zAsg (mFrz (mLst (mCons (mC (.dat .none)) (mCons (mC (.dat (.int 0))) (mCons (mTup mNil) (mCons (mFrz (mLst mNil)) (mCons (mC (.dat (.dict []))) (mCons (mC (.dat (.str "all"))) (mCons (mTup (mCons (mC (.dat (.str "all"))) mNil)) (mCons (mTup (mCons (mC (.dat (.str "all"))) (mCons (mC (.dat (.int 8))) mNil))) (mCons (mTup (mCons (mC (.dat (.str "gap"))) (mCons (mC (.dat (.int 0))) mNil))) (mCons (mTup (mCons (mC (.dat (.str "gap"))) (mCons (mC (.dat .none)) mNil))) (mCons (mTup (mCons (mC (.dat (.str "all"))) (mCons (mC (.dat (.bool true))) mNil))) (mCons (mTup (mCons (mC (.dat .none)) (mCons (mC (.dat (.int 4))) mNil))) (mCons (mTup (mCons (mC (.dat (.str "exact"))) mNil)) (mCons (mTup (mCons (mC (.dat (.str "number"))) (mCons (mC (.dat (.int 0))) (mCons (mTup (mCons (mC (.dat (.int 0))) mNil)) mNil)))) mNil)))))))))))))))) (gtName 6))
abbrev w_law_9 : MS := (zAsg (mFrz (mLc [8] (mSeq (mVar 6)) (gtName 8) (mB (mOp (fIs true) (mCallP M_is_book_paper 2 (mCons (mTup (mCons (mTup (mCons (mC (.dat (.int 2))) (mCons (mC (.dat (.int 0))) mNil))) (mCons (mTup (mCons (mC (.dat (.int 4))) (mCons (mC (.dat (.int 1))) mNil))) (mCons (mTup (mCons (mC (.dat (.int 4))) (mCons (mC (.dat (.int 3))) mNil))) mNil)))) (mCons (mVar 8) mNil))) (mC (.dat (.bool false))))) (mVar 8))) (gtName 7))
abbrev w_law_10 : MS := (zRet (mBl (mAnd (mB (mOp (f2D gEq) (mVar 5) (mFrz (mCatL (mFrz (mRepL (mLst (mCons (mVar 4) mNil)) (mC (.dat (.int 5))))) (mFrz (mLst (mCons (mTup (mCons (mC (.dat (.str "told"))) (mCons (mC (.dat (.bool true))) mNil))) mNil))))))) (mAnd (mB (mOp (f2D gEq) (mVar 7) (mFrz (mLst mNil)))) (mB (mOp (f2D gEq) (mFrz (mLst (mCons (mC (.dat (.int c_MAX_STEP))) (mCons (mC (.dat (.int c_MOST_CLASSES))) (mCons (mC (.dat (.int c_MAX_WHOLE))) mNil))))) (mFrz (mLst (mCons (mC (.dat (.int 24))) (mCons (mC (.dat (.int 12))) (mCons (mC (.dat (.int 5040))) mNil)))))))))))
theorem f_law_1 (s0 s1 s2 s3 s4 s5 s6 s7 s8 : Option SV) (A : List AO) : w_law_1 [s0, s1, s2, s3, s4, s5, s6, s7, s8] A = RZ.nx [s0, s1, s2, s3, some (.dat (.tuple [.str "operation"])), s5, s6, s7, s8] A := by kernel_rfl
theorem f_law_2 (s0 s1 s2 s3 s4 s5 s6 s7 s8 : Option SV) (A : List AO) : ((mLst (mCons (mLamC 2 z__law_met (mCallX (fCallX M_parted 3) (mCons (mTup (mCons (mTup (mCons (mC (.dat (.int 2))) (mCons (mC (.dat (.int 0))) mNil))) (mCons (mTup (mCons (mC (.dat (.int 4))) (mCons (mC (.dat (.int 0))) mNil))) mNil))) (mCons (mC (.dat (.int 0))) (mCons (mC (.dat (.int 2))) mNil))))) mNil)) : MM (List PyData)) [s0, s1, s2, s3, s4, s5, s6, s7, s8] A = RR.ok [(.tuple [.str "operation"])] A := by kernel_rfl
theorem f_law_3 (s0 s1 s2 s3 s4 s5 s6 s7 s8 : Option SV) (A : List AO) : ((mLamC 2 z__law_met (mCallX (fCallX M_parted 3) (mCons (mTup (mCons (mTup (mCons (mC (.dat (.int 2))) (mCons (mC (.dat (.int 0))) mNil))) mNil)) (mCons (mC (.dat (.int 0))) (mCons (mC (.dat (.int 13))) mNil))))) : MM SV) [s0, s1, s2, s3, s4, s5, s6, s7, s8] A = RR.ok (.dat (.tuple [.str "operation"])) A := by kernel_rfl
theorem f_law_4 (s0 s1 s2 s3 s4 s5 s6 s7 s8 : Option SV) (A : List AO) : ((mLamC 2 z__law_met (mCallX (fCallX M_parted 3) (mCons (mTup (mCons (mTup (mCons (mC (.dat (.int 1))) (mCons (mC (.dat (.int 0))) mNil))) mNil)) (mCons (mC (.dat (.int 0))) (mCons (mC (.dat (.int 13))) mNil))))) : MM SV) [s0, s1, s2, s3, s4, s5, s6, s7, s8] A = RR.ok (.dat (.tuple [.str "operation"])) A := by kernel_rfl
theorem f_law_5 (s0 s1 s2 s3 s4 s5 s6 s7 s8 : Option SV) (A : List AO) : ((mLamC 2 z__law_met (mCallX (fCallX M_joined 2) (mCons (mTup (mCons (mTup (mCons (mC (.dat (.int 2))) (mCons (mC (.dat (.int 0))) mNil))) (mCons (mTup (mCons (mC (.dat (.int 4))) (mCons (mC (.dat (.int 0))) mNil))) (mCons (mTup (mCons (mC (.dat (.int 4))) (mCons (mC (.dat (.int 2))) mNil))) mNil)))) (mCons (mTup (mCons (mC (.dat (.int 1))) (mCons (mC (.dat (.int 2))) mNil))) mNil)))) : MM SV) [s0, s1, s2, s3, s4, s5, s6, s7, s8] A = RR.ok (.dat (.tuple [.str "operation"])) A := by kernel_rfl
theorem f_law_6 (s0 s1 s2 s3 s4 s5 s6 s7 s8 : Option SV) (A : List AO) : ((mLamC 2 z__law_met (mCallX (fCallX M_joined 2) (mCons (mTup (mCons (mTup (mCons (mC (.dat (.int 3))) (mCons (mC (.dat (.int 0))) mNil))) (mCons (mTup (mCons (mC (.dat (.int 3))) (mCons (mC (.dat (.int 1))) mNil))) mNil))) (mCons (mTup (mCons (mC (.dat (.int 0))) (mCons (mC (.dat (.int 1))) mNil))) mNil)))) : MM SV) [s0, s1, s2, s3, s4, s5, s6, s7, s8] A = RR.ok (.dat (.tuple [.str "operation"])) A := by kernel_rfl
theorem f_law_7 (s0 s1 s2 s3 s4 s5 s6 s7 s8 : Option SV) (A : List AO) : ((mLamC 2 z__law_met (mOp (f2D gEq) (mCallX (fCallX M_joined 2) (mCons (mTup (mCons (mTup (mCons (mC (.dat (.int 2))) (mCons (mC (.dat (.int 0))) mNil))) (mCons (mTup (mCons (mC (.dat (.int 2))) (mCons (mC (.dat (.int 1))) mNil))) mNil))) (mCons (mTup (mCons (mC (.dat (.int 0))) (mCons (mC (.dat (.int 1))) mNil))) mNil))) (mTup (mCons (mTup (mCons (mC (.dat (.int 1))) (mCons (mC (.dat (.int 0))) mNil))) mNil)))) : MM SV) [s0, s1, s2, s3, s4, s5, s6, s7, s8] A = RR.ok (.dat (.tuple [.str "told", .bool true])) A := by kernel_rfl
theorem f_law_8 (s0 s1 s2 s3 s4 s5 s6 s7 s8 : Option SV) (A : List AO) : w_law_8 [s0, s1, s2, s3, s4, s5, s6, s7, s8] A = RZ.nx [s0, s1, s2, s3, s4, s5, some (.dat (.list [.none, .int 0, .tuple [], .list [], .dict [], .str "all", .tuple [.str "all"], .tuple [.str "all", .int 8], .tuple [.str "gap", .int 0], .tuple [.str "gap", .none], .tuple [.str "all", .bool true], .tuple [.none, .int 4], .tuple [.str "exact"], .tuple [.str "number", .int 0, .tuple [.int 0]]])), s7, s8] A := by kernel_rfl
theorem f_law_9 (s0 s1 s2 s3 s4 s5 s7 : Option SV) (A : List AO) : w_law_9 [s0, s1, s2, s3, s4, s5, some (.dat (.list [.none, .int 0, .tuple [], .list [], .dict [], .str "all", .tuple [.str "all"], .tuple [.str "all", .int 8], .tuple [.str "gap", .int 0], .tuple [.str "gap", .none], .tuple [.str "all", .bool true], .tuple [.none, .int 4], .tuple [.str "exact"], .tuple [.str "number", .int 0, .tuple [.int 0]]])), s7, none] A = RZ.nx [s0, s1, s2, s3, s4, s5, some (.dat (.list [.none, .int 0, .tuple [], .list [], .dict [], .str "all", .tuple [.str "all"], .tuple [.str "all", .int 8], .tuple [.str "gap", .int 0], .tuple [.str "gap", .none], .tuple [.str "all", .bool true], .tuple [.none, .int 4], .tuple [.str "exact"], .tuple [.str "number", .int 0, .tuple [.int 0]]])), some (.dat (.list [])), none] A := by kernel_rfl
theorem f_law_r (s0 s1 s2 s3 s5 s6 s7 s8 : Option SV) (A : List AO) : ((mFrz (mCatL (mFrz (mRepL (mLst (mCons (mVar 4) mNil)) (mC (.dat (.int 5))))) (mFrz (mLst (mCons (mTup (mCons (mC (.dat (.str "told"))) (mCons (mC (.dat (.bool true))) mNil))) mNil))))) : MM SV) [s0, s1, s2, s3, some (.dat (.tuple [.str "operation"])), s5, s6, s7, s8] A = RR.ok (.dat (.list [(.tuple [.str "operation"]), (.tuple [.str "operation"]), (.tuple [.str "operation"]), (.tuple [.str "operation"]), (.tuple [.str "operation"]), (.tuple [.str "told", .bool true])])) A := by kernel_rfl
theorem f_law_b (s0 s1 s2 s3 s4 s5 s6 s8 : Option SV) (A : List AO) : ((mB (mOp (f2D gEq) (mVar 7) (mFrz (mLst mNil)))) : MM Bool) [s0, s1, s2, s3, s4, s5, s6, some (.dat (.list [])), s8] A = RR.ok true A := by kernel_rfl
theorem f_law_c (s0 s1 s2 s3 s4 s5 s6 s7 s8 : Option SV) (A : List AO) : ((mB (mOp (f2D gEq) (mFrz (mLst (mCons (mC (.dat (.int c_MAX_STEP))) (mCons (mC (.dat (.int c_MOST_CLASSES))) (mCons (mC (.dat (.int c_MAX_WHOLE))) mNil))))) (mFrz (mLst (mCons (mC (.dat (.int 24))) (mCons (mC (.dat (.int 12))) (mCons (mC (.dat (.int 5040))) mNil))))))) : MM Bool) [s0, s1, s2, s3, s4, s5, s6, s7, s8] A = RR.ok true A := by kernel_rfl
theorem law_holds : ∀ ns : List Int, ns.length ≤ 63 → ∃ B, M_law [.dat (.list (ns.map PyData.int))] [] = .ok (.dat (.bool true)) B := by
  intro ns _
  obtain ⟨B, x, j, y, h0⟩ := loops_run ns
  have a1 := (f_law_1 (some (.dat (.list (ns.map PyData.int)))) (x) (j) (y) (none) (none) (none) (none) (none) B)
  have h1 : w_law_1 [some (.dat (.list (ns.map PyData.int))), x, j, y, none, none, none, none, none] B = .nx [some (.dat (.list (ns.map PyData.int))), x, j, y, some (.dat (.tuple [.str "operation"])), none, none, none, none] B := a1
  have h2 := x_asgM (i := 5) (d := [some (.dat (.list (ns.map PyData.int))), x, j, y, some (.dat (.tuple [.str "operation"])), none, none, none, none]) (B := B) (f_law_2 (some (.dat (.list (ns.map PyData.int)))) (x) (j) (y) (some (.dat (.tuple [.str "operation"]))) (none) (none) (none) (none) B)
  have h2 : w_law_2 [some (.dat (.list (ns.map PyData.int))), x, j, y, some (.dat (.tuple [.str "operation"])), none, none, none, none] B = .nx [some (.dat (.list (ns.map PyData.int))), x, j, y, some (.dat (.tuple [.str "operation"])), some (.ref B.length), none, none, none] (B ++ [.lst [(.tuple [.str "operation"])]]) := h2
  have a3 := (f_law_3 (some (.dat (.list (ns.map PyData.int)))) (x) (j) (y) (some (.dat (.tuple [.str "operation"]))) (some (.ref B.length)) (none) (none) (none) (B ++ [.lst [(.tuple [.str "operation"])]]))
  have b3 := x_app (i := 5) (X := (mLamC 2 z__law_met (mCallX (fCallX M_parted 3) (mCons (mTup (mCons (mTup (mCons (mC (.dat (.int 2))) (mCons (mC (.dat (.int 0))) mNil))) mNil)) (mCons (mC (.dat (.int 0))) (mCons (mC (.dat (.int 13))) mNil)))))) (d := [some (.dat (.list (ns.map PyData.int))), x, j, y, some (.dat (.tuple [.str "operation"])), some (.ref B.length), none, none, none]) (B := B) (xs := [(.tuple [.str "operation"])]) (v := (.tuple [.str "operation"])) a3 rfl (by kernel_rfl)
  have h3 : w_law_3 [some (.dat (.list (ns.map PyData.int))), x, j, y, some (.dat (.tuple [.str "operation"])), some (.ref B.length), none, none, none] (B ++ [.lst [(.tuple [.str "operation"])]]) = .nx [some (.dat (.list (ns.map PyData.int))), x, j, y, some (.dat (.tuple [.str "operation"])), some (.ref B.length), none, none, none] (B ++ [.lst [(.tuple [.str "operation"]), (.tuple [.str "operation"])]]) := b3
  have a4 := (f_law_4 (some (.dat (.list (ns.map PyData.int)))) (x) (j) (y) (some (.dat (.tuple [.str "operation"]))) (some (.ref B.length)) (none) (none) (none) (B ++ [.lst [(.tuple [.str "operation"]), (.tuple [.str "operation"])]]))
  have b4 := x_app (i := 5) (X := (mLamC 2 z__law_met (mCallX (fCallX M_parted 3) (mCons (mTup (mCons (mTup (mCons (mC (.dat (.int 1))) (mCons (mC (.dat (.int 0))) mNil))) mNil)) (mCons (mC (.dat (.int 0))) (mCons (mC (.dat (.int 13))) mNil)))))) (d := [some (.dat (.list (ns.map PyData.int))), x, j, y, some (.dat (.tuple [.str "operation"])), some (.ref B.length), none, none, none]) (B := B) (xs := [(.tuple [.str "operation"]), (.tuple [.str "operation"])]) (v := (.tuple [.str "operation"])) a4 rfl (by kernel_rfl)
  have h4 : w_law_4 [some (.dat (.list (ns.map PyData.int))), x, j, y, some (.dat (.tuple [.str "operation"])), some (.ref B.length), none, none, none] (B ++ [.lst [(.tuple [.str "operation"]), (.tuple [.str "operation"])]]) = .nx [some (.dat (.list (ns.map PyData.int))), x, j, y, some (.dat (.tuple [.str "operation"])), some (.ref B.length), none, none, none] (B ++ [.lst [(.tuple [.str "operation"]), (.tuple [.str "operation"]), (.tuple [.str "operation"])]]) := b4
  have a5 := (f_law_5 (some (.dat (.list (ns.map PyData.int)))) (x) (j) (y) (some (.dat (.tuple [.str "operation"]))) (some (.ref B.length)) (none) (none) (none) (B ++ [.lst [(.tuple [.str "operation"]), (.tuple [.str "operation"]), (.tuple [.str "operation"])]]))
  have b5 := x_app (i := 5) (X := (mLamC 2 z__law_met (mCallX (fCallX M_joined 2) (mCons (mTup (mCons (mTup (mCons (mC (.dat (.int 2))) (mCons (mC (.dat (.int 0))) mNil))) (mCons (mTup (mCons (mC (.dat (.int 4))) (mCons (mC (.dat (.int 0))) mNil))) (mCons (mTup (mCons (mC (.dat (.int 4))) (mCons (mC (.dat (.int 2))) mNil))) mNil)))) (mCons (mTup (mCons (mC (.dat (.int 1))) (mCons (mC (.dat (.int 2))) mNil))) mNil))))) (d := [some (.dat (.list (ns.map PyData.int))), x, j, y, some (.dat (.tuple [.str "operation"])), some (.ref B.length), none, none, none]) (B := B) (xs := [(.tuple [.str "operation"]), (.tuple [.str "operation"]), (.tuple [.str "operation"])]) (v := (.tuple [.str "operation"])) a5 rfl (by kernel_rfl)
  have h5 : w_law_5 [some (.dat (.list (ns.map PyData.int))), x, j, y, some (.dat (.tuple [.str "operation"])), some (.ref B.length), none, none, none] (B ++ [.lst [(.tuple [.str "operation"]), (.tuple [.str "operation"]), (.tuple [.str "operation"])]]) = .nx [some (.dat (.list (ns.map PyData.int))), x, j, y, some (.dat (.tuple [.str "operation"])), some (.ref B.length), none, none, none] (B ++ [.lst [(.tuple [.str "operation"]), (.tuple [.str "operation"]), (.tuple [.str "operation"]), (.tuple [.str "operation"])]]) := b5
  have a6 := (f_law_6 (some (.dat (.list (ns.map PyData.int)))) (x) (j) (y) (some (.dat (.tuple [.str "operation"]))) (some (.ref B.length)) (none) (none) (none) (B ++ [.lst [(.tuple [.str "operation"]), (.tuple [.str "operation"]), (.tuple [.str "operation"]), (.tuple [.str "operation"])]]))
  have b6 := x_app (i := 5) (X := (mLamC 2 z__law_met (mCallX (fCallX M_joined 2) (mCons (mTup (mCons (mTup (mCons (mC (.dat (.int 3))) (mCons (mC (.dat (.int 0))) mNil))) (mCons (mTup (mCons (mC (.dat (.int 3))) (mCons (mC (.dat (.int 1))) mNil))) mNil))) (mCons (mTup (mCons (mC (.dat (.int 0))) (mCons (mC (.dat (.int 1))) mNil))) mNil))))) (d := [some (.dat (.list (ns.map PyData.int))), x, j, y, some (.dat (.tuple [.str "operation"])), some (.ref B.length), none, none, none]) (B := B) (xs := [(.tuple [.str "operation"]), (.tuple [.str "operation"]), (.tuple [.str "operation"]), (.tuple [.str "operation"])]) (v := (.tuple [.str "operation"])) a6 rfl (by kernel_rfl)
  have h6 : w_law_6 [some (.dat (.list (ns.map PyData.int))), x, j, y, some (.dat (.tuple [.str "operation"])), some (.ref B.length), none, none, none] (B ++ [.lst [(.tuple [.str "operation"]), (.tuple [.str "operation"]), (.tuple [.str "operation"]), (.tuple [.str "operation"])]]) = .nx [some (.dat (.list (ns.map PyData.int))), x, j, y, some (.dat (.tuple [.str "operation"])), some (.ref B.length), none, none, none] (B ++ [.lst [(.tuple [.str "operation"]), (.tuple [.str "operation"]), (.tuple [.str "operation"]), (.tuple [.str "operation"]), (.tuple [.str "operation"])]]) := b6
  have a7 := (f_law_7 (some (.dat (.list (ns.map PyData.int)))) (x) (j) (y) (some (.dat (.tuple [.str "operation"]))) (some (.ref B.length)) (none) (none) (none) (B ++ [.lst [(.tuple [.str "operation"]), (.tuple [.str "operation"]), (.tuple [.str "operation"]), (.tuple [.str "operation"]), (.tuple [.str "operation"])]]))
  have b7 := x_app (i := 5) (X := (mLamC 2 z__law_met (mOp (f2D gEq) (mCallX (fCallX M_joined 2) (mCons (mTup (mCons (mTup (mCons (mC (.dat (.int 2))) (mCons (mC (.dat (.int 0))) mNil))) (mCons (mTup (mCons (mC (.dat (.int 2))) (mCons (mC (.dat (.int 1))) mNil))) mNil))) (mCons (mTup (mCons (mC (.dat (.int 0))) (mCons (mC (.dat (.int 1))) mNil))) mNil))) (mTup (mCons (mTup (mCons (mC (.dat (.int 1))) (mCons (mC (.dat (.int 0))) mNil))) mNil))))) (d := [some (.dat (.list (ns.map PyData.int))), x, j, y, some (.dat (.tuple [.str "operation"])), some (.ref B.length), none, none, none]) (B := B) (xs := [(.tuple [.str "operation"]), (.tuple [.str "operation"]), (.tuple [.str "operation"]), (.tuple [.str "operation"]), (.tuple [.str "operation"])]) (v := (.tuple [.str "told", .bool true])) a7 rfl (by kernel_rfl)
  have h7 : w_law_7 [some (.dat (.list (ns.map PyData.int))), x, j, y, some (.dat (.tuple [.str "operation"])), some (.ref B.length), none, none, none] (B ++ [.lst [(.tuple [.str "operation"]), (.tuple [.str "operation"]), (.tuple [.str "operation"]), (.tuple [.str "operation"]), (.tuple [.str "operation"])]]) = .nx [some (.dat (.list (ns.map PyData.int))), x, j, y, some (.dat (.tuple [.str "operation"])), some (.ref B.length), none, none, none] (B ++ [.lst [(.tuple [.str "operation"]), (.tuple [.str "operation"]), (.tuple [.str "operation"]), (.tuple [.str "operation"]), (.tuple [.str "operation"]), (.tuple [.str "told", .bool true])]]) := b7
  have a8 := (f_law_8 (some (.dat (.list (ns.map PyData.int)))) (x) (j) (y) (some (.dat (.tuple [.str "operation"]))) (some (.ref B.length)) (none) (none) (none) (B ++ [.lst [(.tuple [.str "operation"]), (.tuple [.str "operation"]), (.tuple [.str "operation"]), (.tuple [.str "operation"]), (.tuple [.str "operation"]), (.tuple [.str "told", .bool true])]]))
  have h8 : w_law_8 [some (.dat (.list (ns.map PyData.int))), x, j, y, some (.dat (.tuple [.str "operation"])), some (.ref B.length), none, none, none] (B ++ [.lst [(.tuple [.str "operation"]), (.tuple [.str "operation"]), (.tuple [.str "operation"]), (.tuple [.str "operation"]), (.tuple [.str "operation"]), (.tuple [.str "told", .bool true])]]) = .nx [some (.dat (.list (ns.map PyData.int))), x, j, y, some (.dat (.tuple [.str "operation"])), some (.ref B.length), some (.dat (.list [.none, .int 0, .tuple [], .list [], .dict [], .str "all", .tuple [.str "all"], .tuple [.str "all", .int 8], .tuple [.str "gap", .int 0], .tuple [.str "gap", .none], .tuple [.str "all", .bool true], .tuple [.none, .int 4], .tuple [.str "exact"], .tuple [.str "number", .int 0, .tuple [.int 0]]])), none, none] (B ++ [.lst [(.tuple [.str "operation"]), (.tuple [.str "operation"]), (.tuple [.str "operation"]), (.tuple [.str "operation"]), (.tuple [.str "operation"]), (.tuple [.str "told", .bool true])]]) := a8
  have a9 := (f_law_9 (some (.dat (.list (ns.map PyData.int)))) (x) (j) (y) (some (.dat (.tuple [.str "operation"]))) (some (.ref B.length)) (none) (B ++ [.lst [(.tuple [.str "operation"]), (.tuple [.str "operation"]), (.tuple [.str "operation"]), (.tuple [.str "operation"]), (.tuple [.str "operation"]), (.tuple [.str "told", .bool true])]]))
  have h9 : w_law_9 [some (.dat (.list (ns.map PyData.int))), x, j, y, some (.dat (.tuple [.str "operation"])), some (.ref B.length), some (.dat (.list [.none, .int 0, .tuple [], .list [], .dict [], .str "all", .tuple [.str "all"], .tuple [.str "all", .int 8], .tuple [.str "gap", .int 0], .tuple [.str "gap", .none], .tuple [.str "all", .bool true], .tuple [.none, .int 4], .tuple [.str "exact"], .tuple [.str "number", .int 0, .tuple [.int 0]]])), none, none] (B ++ [.lst [(.tuple [.str "operation"]), (.tuple [.str "operation"]), (.tuple [.str "operation"]), (.tuple [.str "operation"]), (.tuple [.str "operation"]), (.tuple [.str "told", .bool true])]]) = .nx [some (.dat (.list (ns.map PyData.int))), x, j, y, some (.dat (.tuple [.str "operation"])), some (.ref B.length), some (.dat (.list [.none, .int 0, .tuple [], .list [], .dict [], .str "all", .tuple [.str "all"], .tuple [.str "all", .int 8], .tuple [.str "gap", .int 0], .tuple [.str "gap", .none], .tuple [.str "all", .bool true], .tuple [.none, .int 4], .tuple [.str "exact"], .tuple [.str "number", .int 0, .tuple [.int 0]]])), some (.dat (.list [])), none] (B ++ [.lst [(.tuple [.str "operation"]), (.tuple [.str "operation"]), (.tuple [.str "operation"]), (.tuple [.str "operation"]), (.tuple [.str "operation"]), (.tuple [.str "told", .bool true])]]) := a9
  have z1 := (f_law_r (some (.dat (.list (ns.map PyData.int)))) (x) (j) (y) (some (.ref B.length)) (some (.dat (.list [.none, .int 0, .tuple [], .list [], .dict [], .str "all", .tuple [.str "all"], .tuple [.str "all", .int 8], .tuple [.str "gap", .int 0], .tuple [.str "gap", .none], .tuple [.str "all", .bool true], .tuple [.none, .int 4], .tuple [.str "exact"], .tuple [.str "number", .int 0, .tuple [.int 0]]]))) (some (.dat (.list []))) (none) (B ++ [.lst [(.tuple [.str "operation"]), (.tuple [.str "operation"]), (.tuple [.str "operation"]), (.tuple [.str "operation"]), (.tuple [.str "operation"]), (.tuple [.str "told", .bool true])]]))
  have z2 := x_eqLastD (i := 5) (d := [some (.dat (.list (ns.map PyData.int))), x, j, y, some (.dat (.tuple [.str "operation"])), some (.ref B.length), some (.dat (.list [.none, .int 0, .tuple [], .list [], .dict [], .str "all", .tuple [.str "all"], .tuple [.str "all", .int 8], .tuple [.str "gap", .int 0], .tuple [.str "gap", .none], .tuple [.str "all", .bool true], .tuple [.none, .int 4], .tuple [.str "exact"], .tuple [.str "number", .int 0, .tuple [.int 0]]])), some (.dat (.list [])), none]) (B := B) (r := .bool true) rfl z1 (by kernel_rfl)
  have z3 := (f_law_b (some (.dat (.list (ns.map PyData.int)))) (x) (j) (y) (some (.dat (.tuple [.str "operation"]))) (some (.ref B.length)) (some (.dat (.list [.none, .int 0, .tuple [], .list [], .dict [], .str "all", .tuple [.str "all"], .tuple [.str "all", .int 8], .tuple [.str "gap", .int 0], .tuple [.str "gap", .none], .tuple [.str "all", .bool true], .tuple [.none, .int 4], .tuple [.str "exact"], .tuple [.str "number", .int 0, .tuple [.int 0]]]))) (none) (B ++ [.lst [(.tuple [.str "operation"]), (.tuple [.str "operation"]), (.tuple [.str "operation"]), (.tuple [.str "operation"]), (.tuple [.str "operation"]), (.tuple [.str "told", .bool true])]]))
  have z4 := (f_law_c (some (.dat (.list (ns.map PyData.int)))) (x) (j) (y) (some (.dat (.tuple [.str "operation"]))) (some (.ref B.length)) (some (.dat (.list [.none, .int 0, .tuple [], .list [], .dict [], .str "all", .tuple [.str "all"], .tuple [.str "all", .int 8], .tuple [.str "gap", .int 0], .tuple [.str "gap", .none], .tuple [.str "all", .bool true], .tuple [.none, .int 4], .tuple [.str "exact"], .tuple [.str "number", .int 0, .tuple [.int 0]]]))) (some (.dat (.list []))) (none) (B ++ [.lst [(.tuple [.str "operation"]), (.tuple [.str "operation"]), (.tuple [.str "operation"]), (.tuple [.str "operation"]), (.tuple [.str "operation"]), (.tuple [.str "told", .bool true])]]))
  have z5 := r_ret (x_bl (x_and (r_b z2) (x_and z3 z4)))
  have h10 : w_law_10 [some (.dat (.list (ns.map PyData.int))), x, j, y, some (.dat (.tuple [.str "operation"])), some (.ref B.length), some (.dat (.list [.none, .int 0, .tuple [], .list [], .dict [], .str "all", .tuple [.str "all"], .tuple [.str "all", .int 8], .tuple [.str "gap", .int 0], .tuple [.str "gap", .none], .tuple [.str "all", .bool true], .tuple [.none, .int 4], .tuple [.str "exact"], .tuple [.str "number", .int 0, .tuple [.int 0]]])), some (.dat (.list [])), none] (B ++ [.lst [(.tuple [.str "operation"]), (.tuple [.str "operation"]), (.tuple [.str "operation"]), (.tuple [.str "operation"]), (.tuple [.str "operation"]), (.tuple [.str "told", .bool true])]]) = .rt (.dat (.bool true)) (B ++ [.lst [(.tuple [.str "operation"]), (.tuple [.str "operation"]), (.tuple [.str "operation"]), (.tuple [.str "operation"]), (.tuple [.str "operation"]), (.tuple [.str "told", .bool true])]]) := z5
  exact ⟨_, mfn_rt (r_seq h0 (r_seq h1 (r_seq h2 (r_seq h3 (r_seq h4 (r_seq h5 (r_seq h6 (r_seq h7 (r_seq h8 (r_seq h9 h10))))))))))⟩
end K80
namespace K80
open PySem L2 PySem.Spec PyProof.Rows Evl Rx
open Lib
theorem walk {l : PySem.W.OpenLaw} {q : Program} {loose : List Str} {XP : (Str → Option Value) → Heap → Prop} {YP : World → Heap → Prop} {d : DefRec} {K : Params → PySem.W.Frag} (hn : l.most = some 63) (hdf : d.params.defaults = []) (hY : ∀ (w : World) (h : Heap), YP w h → (K w.params).In h)
    (F : ∀ (w : World) (mg : Str → Option Value) (fa : Addr) (h : Heap), YP w h → (K w.params).In h → h.Ns mainGlobals mg → mg d.name = some (.ref fa) →
      ∃ (fd : FuncData) (T : List (Addr × Str)) (cs : List (Addr × Addr)), TabsAt (K w.params) mg h cs ∧ (∀ p ∈ T, p.1 ∈ cs.map (·.2)) ∧ (∀ (s : Shared) (u : Value), BindsTo s fd ⟨[u], []⟩ [("script", u)]) ∧
        ∀ base : Heap, (K w.params).In base → base.Ns mainGlobals mg → (∀ p ∈ cs, LamX.TabB base mg p.1 p.2) → FnG l.prog w (K w.params) mg base 12 fa fd ["script"] (spM (KB (K w.params) T) mg 1 M_law)) :
    PySem.W.WalkO q loose XP YP l.row.toRowW d [] (fun f vs => PySem.call f vs) :=
  walk_G hn hdf ⟨rfl, by decide, by decide⟩ hY F law_holds
end K80
open PySem PySem.W PyProof.Rows
set_option maxRecDepth 100000 in
set_option maxHeartbeats 0 in
theorem PySem.Challenge.cw_sumlots_k80_errors_of_books_holds : PySem.Challenge.rw_sumlots_k80_errors_of_books.Holds := by
  w_on; o_law; k_head; (case hw => w_witness2)
  k_fill
  refine K80.walk (l := PySem.Challenge.rw_sumlots_k80_errors_of_books) rfl rfl (fun w h Y => PySem.W.km_in_of Y) ?F
  case F =>
    intro w mg fa h Y KX G hmg
    have hT8 := PySem.W.km_tabs_of Y
    refine' K80.all_mk KX G hmg ?a0 ?l0 ?e0 ?k0 ?a1 ?l1 ?e1 ?k1 ?a2 ?l2 ?e2 ?k2 ?a3 ?l3 ?e3 ?k3 ?a4 ?l4 ?e4 ?k4 ?a5 ?l5 ?e5 ?k5 ?a6 ?l6 ?e6 ?k6 ?a7 ?l7 ?e7 ?k7 ?a8 ?l8 ?e8 ?k8 ?a9 ?l9 ?e9 ?k9 ?a10 ?l10 ?e10 ?k10 ?a11 ?l11 ?e11 ?k11 ?a12 ?l12 ?e12 ?k12 ?a13 ?l13 ?e13 ?k13 ?a14 ?l14 ?e14 ?k14 ?a15 ?l15 ?e15 ?k15 ?a16 ?l16 ?e16 ?k16 ?a17 ?l17 ?e17 ?k17 ?a18 ?l18 ?e18 ?k18 ?a19 ?l19 ?e19 ?k19 ?a20 ?l20 ?e20 ?k20 ?a21 ?l21 ?e21 ?k21 ?a22 ?l22 ?e22 ?k22 ?a23 ?l23 ?e23 ?k23 ?a24 ?l24 ?e24 ?k24 ?a25 ?l25 ?e25 ?k25 ?a26 ?l26 ?e26 ?k26 ?a27 ?l27 ?e27 ?k27 ?a28 ?l28 ?e28 ?k28 ?a29 ?l29 ?e29 ?k29 ?a30 ?l30 ?e30 ?k30 ?a31 ?l31 ?e31 ?k31 ?a32 ?l32 ?e32 ?k32 ?a33 ?l33 ?e33 ?k33 ?a34 ?l34 ?e34 ?k34 ?a35 ?l35 ?e35 ?k35 ?a36 ?l36 ?e36 ?k36 ?a37 ?l37 ?e37 ?k37 ?a38 ?l38 ?e38 ?k38 ?a39 ?l39 ?e39 ?k39 ?a40 ?l40 ?e40 ?k40 ?a41 ?l41 ?e41 ?k41 ?a42 ?l42 ?e42 ?k42 ?a43 ?l43 ?e43 ?k43 ?a44 ?l44 ?e44 ?k44 ?a45 ?l45 ?e45 ?k45 ?a46 ?l46 ?e46 ?k46 ?a47 ?l47 ?e47 ?k47 ?a48 ?l48 ?e48 ?k48 ?b_abs ?b_all ?b_any ?b_bool ?b_enumerate ?b_int ?b_isinstance ?b_len ?b_max ?b_min ?b_range ?b_repr ?b_sorted ?b_str ?b_sum ?b_tuple ?b_zip ?c_ALL ?c_EXACT ?c_GAP ?c_GREAT ?c_MAX_STEP ?c_MAX_WHOLE ?c_MOST_CLASSES ?c_NUMBER ?x_InvalidLot ?x_InvalidRow ?x_InvalidMap ?x_InvalidBook ?x_InvalidReport ?x_InvalidClaim ?x_InvalidText ?x_InvalidOperation ?x_ParseError ?x_InvalidNumber ?x_UnknownName ?x_NothingToUndo ?x_TooMany ?x_Refused ?xmat ?q_sup ?q_top ?q_any ?kC_InvalidBook ?exC_InvalidBook ?tyC_InvalidBook ?ini_InvalidBook ?kC_InvalidNumber ?exC_InvalidNumber ?tyC_InvalidNumber ?ini_InvalidNumber ?ov_InvalidNumber ?tk_InvalidNumber ?no_InvalidNumber ?hd_InvalidNumber ?sa_InvalidNumber ?ga_InvalidNumber ?gg_InvalidNumber ?su_InvalidNumber ?sb_InvalidNumber ?mr_InvalidNumber ?fi_InvalidNumber ?ft_InvalidNumber ?lk_InvalidNumber ?ci_InvalidNumber ?lc_InvalidNumber ?v2_InvalidNumber ?fe_InvalidNumber ?le_InvalidNumber ?bd_InvalidNumber ?ln_InvalidNumber ?is_InvalidNumber ?hr_InvalidNumber ?han_InvalidNumber ?bi_InvalidNumber ?kC_InvalidOperation ?exC_InvalidOperation ?tyC_InvalidOperation ?ini_InvalidOperation ?kC_InvalidReport ?exC_InvalidReport ?tyC_InvalidReport ?ini_InvalidReport ?kC_Refused ?exC_Refused ?tyC_Refused ?ini_Refused ?ov_Refused ?tk_Refused ?no_Refused ?hd_Refused ?sa_Refused ?ga_Refused ?gg_Refused ?su_Refused ?sb_Refused ?mr_Refused ?fi_Refused ?ft_Refused ?lk_Refused ?ci_Refused ?lc_Refused ?v2_Refused ?fe_Refused ?le_Refused ?bd_Refused ?ln_Refused ?is_Refused ?hr_Refused ?han_Refused ?bi_Refused ?kC_TooMany ?exC_TooMany ?tyC_TooMany ?ini_TooMany ?ov_TooMany ?tk_TooMany ?no_TooMany ?hd_TooMany ?sa_TooMany ?ga_TooMany ?gg_TooMany ?su_TooMany ?sb_TooMany ?mr_TooMany ?fi_TooMany ?ft_TooMany ?lk_TooMany ?ci_TooMany ?lc_TooMany ?v2_TooMany ?fe_TooMany ?le_TooMany ?bd_TooMany ?ln_TooMany ?is_TooMany ?hr_TooMany ?han_TooMany ?bi_TooMany ?cn__law_of_book ?lc__law_of_book ?vP__law_of_book ?ch__law_of_book ?lP__law_of_book ?hP__law_of_book ?cn__law_right ?lc__law_right ?vP__law_right ?ch__law_right ?lP__law_right ?hP__law_right ?cn_law ?lc_law ?vP_law ?ch_law ?lP_law ?hP_law ?u__law_of_book ?u__law_right ?u_law
    (case a0 => k_is); (case l0 => k_is); (case e0 => k_is); (case k0 => k_is); (case a1 => k_is); (case l1 => k_is)
    (case e1 => k_is); (case k1 => k_is); (case a2 => k_is); (case l2 => k_is); (case e2 => k_is); (case k2 => k_is)
    (case a3 => k_is); (case l3 => k_is); (case e3 => k_is); (case k3 => k_is); (case a4 => k_is); (case l4 => k_is)
    (case e4 => k_is); (case k4 => k_is); (case a5 => k_is); (case l5 => k_is); (case e5 => k_is); (case k5 => k_is)
    (case a6 => k_is); (case l6 => k_is); (case e6 => k_is); (case k6 => k_is); (case a7 => k_is); (case l7 => k_is)
    (case e7 => k_is); (case k7 => k_is); (case a8 => k_is); (case l8 => k_is); (case e8 => k_is); (case k8 => k_is)
    (case a9 => k_is); (case l9 => k_is); (case e9 => k_is); (case k9 => k_is); (case a10 => k_is); (case l10 => k_is)
    (case e10 => k_is); (case k10 => k_is); (case a11 => k_is); (case l11 => k_is); (case e11 => k_is); (case k11 => k_is)
    (case a12 => k_is); (case l12 => k_is); (case e12 => k_is); (case k12 => k_is); (case a13 => k_is); (case l13 => k_is)
    (case e13 => k_is); (case k13 => k_is); (case a14 => k_is); (case l14 => k_is); (case e14 => k_is); (case k14 => k_is)
    (case a15 => k_is); (case l15 => k_is); (case e15 => k_is); (case k15 => k_is); (case a16 => k_is); (case l16 => k_is)
    (case e16 => k_is); (case k16 => k_is); (case a17 => k_is); (case l17 => k_is); (case e17 => k_is); (case k17 => k_is)
    (case a18 => k_is); (case l18 => k_is); (case e18 => k_is); (case k18 => k_is); (case a19 => k_is); (case l19 => k_is)
    (case e19 => k_is); (case k19 => k_is); (case a20 => k_is); (case l20 => k_is); (case e20 => k_is); (case k20 => k_is)
    (case a21 => k_is); (case l21 => k_is); (case e21 => k_is); (case k21 => k_is); (case a22 => k_is); (case l22 => k_is)
    (case e22 => k_is); (case k22 => k_is); (case a23 => k_is); (case l23 => k_is); (case e23 => k_is); (case k23 => k_is)
    (case a24 => k_is); (case l24 => k_is); (case e24 => k_is); (case k24 => k_is); (case a25 => k_is); (case l25 => k_is)
    (case e25 => k_is); (case k25 => k_is); (case a26 => k_is); (case l26 => k_is); (case e26 => k_is); (case k26 => k_is)
    (case a27 => k_is); (case l27 => k_is); (case e27 => k_is); (case k27 => k_is); (case a28 => k_is); (case l28 => k_is)
    (case e28 => k_is); (case k28 => k_is); (case a29 => k_is); (case l29 => k_is); (case e29 => k_is); (case k29 => k_is)
    (case a30 => k_is); (case l30 => k_is); (case e30 => k_is); (case k30 => k_is); (case a31 => k_is); (case l31 => k_is)
    (case e31 => k_is); (case k31 => k_is); (case a32 => k_is); (case l32 => k_is); (case e32 => k_is); (case k32 => k_is)
    (case a33 => k_is); (case l33 => k_is); (case e33 => k_is); (case k33 => k_is); (case a34 => k_is); (case l34 => k_is)
    (case e34 => k_is); (case k34 => k_is); (case a35 => k_is); (case l35 => k_is); (case e35 => k_is); (case k35 => k_is)
    (case a36 => k_is); (case l36 => k_is); (case e36 => k_is); (case k36 => k_is); (case a37 => k_is); (case l37 => k_is)
    (case e37 => k_is); (case k37 => k_is); (case a38 => k_is); (case l38 => k_is); (case e38 => k_is); (case k38 => k_is)
    (case a39 => k_is); (case l39 => k_is); (case e39 => k_is); (case k39 => k_is); (case a40 => k_is); (case l40 => k_is)
    (case e40 => k_is); (case k40 => k_is); (case a41 => k_is); (case l41 => k_is); (case e41 => k_is); (case k41 => k_is)
    (case a42 => k_is); (case l42 => k_is); (case e42 => k_is); (case k42 => k_is); (case a43 => k_is); (case l43 => k_is)
    (case e43 => k_is); (case k43 => k_is); (case a44 => k_is); (case l44 => k_is); (case e44 => k_is); (case k44 => k_is)
    (case a45 => k_is); (case l45 => k_is); (case e45 => k_is); (case k45 => k_is); (case a46 => k_is); (case l46 => k_is)
    (case e46 => k_is); (case k46 => k_is); (case a47 => k_is); (case l47 => k_is); (case e47 => k_is); (case k47 => k_is)
    (case a48 => k_is); (case l48 => k_is); (case e48 => k_is); (case k48 => k_is); (case b_abs => k_is); (case b_all => k_is)
    (case b_any => k_is); (case b_bool => k_is); (case b_enumerate => k_is); (case b_int => k_is); (case b_isinstance => k_is); (case b_len => k_is)
    (case b_max => k_is); (case b_min => k_is); (case b_range => k_is); (case b_repr => k_is); (case b_sorted => k_is); (case b_str => k_is)
    (case b_sum => k_is); (case b_tuple => k_is); (case b_zip => k_is); (case c_ALL => k_is); (case c_EXACT => k_is); (case c_GAP => k_is)
    (case c_GREAT => k_is); (case c_MAX_STEP => k_is); (case c_MAX_WHOLE => k_is); (case c_MOST_CLASSES => k_is); (case c_NUMBER => k_is); (case x_InvalidLot => k_is)
    (case x_InvalidRow => k_is); (case x_InvalidMap => k_is); (case x_InvalidBook => k_is); (case x_InvalidReport => k_is); (case x_InvalidClaim => k_is); (case x_InvalidText => k_is)
    (case x_InvalidOperation => k_is); (case x_ParseError => k_is); (case x_InvalidNumber => k_is); (case x_UnknownName => k_is); (case x_NothingToUndo => k_is); (case x_TooMany => k_is)
    (case x_Refused => k_is); (case xmat => kernel_rfl); (case q_sup => k_is); (case q_top => kernel_rfl); (case q_any => k_is); (case kC_InvalidBook => k_is)
    (case exC_InvalidBook => k_is); (case tyC_InvalidBook => k_is); (case ini_InvalidBook => kernel_rfl); (case kC_InvalidNumber => k_is); (case exC_InvalidNumber => k_is); (case tyC_InvalidNumber => k_is)
    (case ini_InvalidNumber => kernel_rfl); (case ov_InvalidNumber => kernel_rfl); (case tk_InvalidNumber => k_is); (case no_InvalidNumber => k_is); (case hd_InvalidNumber => k_is); (case sa_InvalidNumber => k_is)
    (case ga_InvalidNumber => k_is); (case gg_InvalidNumber => k_is); (case su_InvalidNumber => kernel_rfl); (case sb_InvalidNumber => k_is); (case mr_InvalidNumber => k_is); (case fi_InvalidNumber => k_is)
    (case ft_InvalidNumber => k_is); (case lk_InvalidNumber => k_is); (case ci_InvalidNumber => k_is); (case lc_InvalidNumber => k_is); (case v2_InvalidNumber => exact rfl); (case fe_InvalidNumber => kernel_rfl)
    (case le_InvalidNumber => k_is); (case bd_InvalidNumber => exact rfl); (case ln_InvalidNumber => exact ⟨_, fun _ => rfl⟩); (case is_InvalidNumber => kernel_rfl); (case hr_InvalidNumber => exact rfl); (case han_InvalidNumber => exact rfl)
    (case bi_InvalidNumber => exact fun _ _ _ => .of_eq rfl); (case kC_InvalidOperation => k_is); (case exC_InvalidOperation => k_is); (case tyC_InvalidOperation => k_is); (case ini_InvalidOperation => kernel_rfl); (case kC_InvalidReport => k_is)
    (case exC_InvalidReport => k_is); (case tyC_InvalidReport => k_is); (case ini_InvalidReport => kernel_rfl); (case kC_Refused => k_is); (case exC_Refused => k_is); (case tyC_Refused => k_is)
    (case ini_Refused => kernel_rfl); (case ov_Refused => kernel_rfl); (case tk_Refused => k_is); (case no_Refused => k_is); (case hd_Refused => k_is); (case sa_Refused => k_is)
    (case ga_Refused => k_is); (case gg_Refused => k_is); (case su_Refused => kernel_rfl); (case sb_Refused => k_is); (case mr_Refused => k_is); (case fi_Refused => k_is)
    (case ft_Refused => k_is); (case lk_Refused => k_is); (case ci_Refused => k_is); (case lc_Refused => k_is); (case v2_Refused => exact rfl); (case fe_Refused => kernel_rfl)
    (case le_Refused => k_is); (case bd_Refused => exact rfl); (case ln_Refused => exact ⟨_, fun _ => rfl⟩); (case is_Refused => kernel_rfl); (case hr_Refused => exact rfl); (case han_Refused => exact rfl)
    (case bi_Refused => exact fun _ _ _ => .of_eq rfl); (case kC_TooMany => k_is); (case exC_TooMany => k_is); (case tyC_TooMany => k_is); (case ini_TooMany => kernel_rfl); (case ov_TooMany => kernel_rfl)
    (case tk_TooMany => k_is); (case no_TooMany => k_is); (case hd_TooMany => k_is); (case sa_TooMany => k_is); (case ga_TooMany => k_is); (case gg_TooMany => k_is)
    (case su_TooMany => kernel_rfl); (case sb_TooMany => k_is); (case mr_TooMany => k_is); (case fi_TooMany => k_is); (case ft_TooMany => k_is); (case lk_TooMany => k_is)
    (case ci_TooMany => k_is); (case lc_TooMany => k_is); (case v2_TooMany => exact rfl); (case fe_TooMany => kernel_rfl); (case le_TooMany => k_is); (case bd_TooMany => exact rfl)
    (case ln_TooMany => exact ⟨_, fun _ => rfl⟩); (case is_TooMany => kernel_rfl); (case hr_TooMany => exact rfl); (case han_TooMany => exact rfl); (case bi_TooMany => exact fun _ _ _ => .of_eq rfl); (case cn__law_of_book => exact rfl)
    (case lc__law_of_book => k_is); (case vP__law_of_book => exact rfl); (case ch__law_of_book => kernel_rfl); (case lP__law_of_book => kernel_rfl); (case hP__law_of_book => exact hT8 _ (by decide)); (case cn__law_right => exact rfl)
    (case lc__law_right => k_is); (case vP__law_right => exact rfl); (case ch__law_right => kernel_rfl); (case lP__law_right => kernel_rfl); (case hP__law_right => exact hT8 _ (by decide)); (case cn_law => exact rfl)
    (case lc_law => k_is); (case vP_law => exact rfl); (case ch_law => kernel_rfl); (case lP_law => kernel_rfl); (case hP_law => exact hT8 _ (by decide)); (case u__law_of_book => decide)
    (case u__law_right => decide); (case u_law => decide)
