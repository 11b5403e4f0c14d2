import PyProof.Rows.All
import Wide.All
import OpenK.AllK
import Wide.FinOn
import HandS.ForMost
import HandS.IsInst
import HandS.Style
import HandS.TupAny
import HandS.Conv
import HandS.Zip
import HandS.More
import PySem.Challenge.RW_onlywhatmatters_k25_open_cuts
set_option Elab.async false
set_option linter.all false
set_option maxRecDepth 100000
set_option maxHeartbeats 4000000
/-! Z: a heap of lists and dicts by number, tuples as data; what an expression does as a function -/
namespace Z
open PySem PySem.Spec PyProof.Rows L2

/-! ### data -/
inductive D where
  | non | bl (b : Bool) | int (i : Int) | str (s : Str) | tup (l : List D) | ref (n : Nat) | ctup (l : List D) | clst (l : List D) | fn (n : Nat) | ty (x : String)
  deriving Inhabited
inductive O where
  | lst (l : List D) | dic (l : List (D × D)) | dit (l : List (D × D))
  deriving Inhabited
abbrev S := List O
abbrev En := List (Option D)
/-- the largest length -/
abbrev big : Nat := 16777216
theorem big_le : big ≤ sizeLine := by decide +kernel
theorem big_lt {n : Nat} (h : n < big) : n < sizeLine := Nat.lt_of_lt_of_le h big_le

/-! ### data in the heap -/
section
variable (K : PySem.W.Frag) (fa : Nat → Addr)
mutual
inductive Rp (ρ : List Addr) (H : Hp) : D → V → Prop
  | non : Rp ρ H .non .non
  | bl (b : Bool) : Rp ρ H (.bl b) (.bl b)
  | int (i : Int) : Rp ρ H (.int i) (.int i)
  | str (s : Str) : Rp ρ H (.str s) (.str s)
  | tup {l : List D} {a : Addr} {vs : List V} : H a = some (.tup vs) → RpL ρ H l vs → Rp ρ H (.tup l) (.ref a)
  | ref {n : Nat} {a : Addr} : ρ[n]? = some a → Rp ρ H (.ref n) (.ref a)
  | ctup {l : List D} {a : Addr} {vs : List V} : (∀ H, SqT K H a vs) → RpL ρ H l vs → Rp ρ H (.ctup l) (.ref a)
  | clst {l : List D} {a : Addr} {vs : List V} : ((∃ o, H a = some (.frz o (.lst vs))) ∨ ∀ H, SqL K H a vs) → RpL ρ H l vs → Rp ρ H (.clst l) (.ref a)
  | fn (n : Nat) : Rp ρ H (.fn n) (.ref (fa n))
  | ty (x : String) : Rp ρ H (.ty x) (.ty x)
inductive RpL (ρ : List Addr) (H : Hp) : List D → List V → Prop
  | nil : RpL ρ H [] []
  | cons {d : D} {v : V} {ds : List D} {vs : List V} : Rp ρ H d v → RpL ρ H ds vs → RpL ρ H (d :: ds) (v :: vs)
end
/-- a key of a dict -/
def keyD : D → Option Key
  | .int i => some (.inl i)
  | .str s => some (.inr s)
  | _ => none
def keysD : List D → Option (List Key)
  | [] => some []
  | d :: ds => match keyD d, keysD ds with
    | some k, some ks => some (k :: ks)
    | _, _ => none
def keyT : D → Option (List Key)
  | .tup l => keysD l
  | _ => none
/-- what stands at a number -/
inductive RpO (ρ : List Addr) (H : Hp) : O → HO → Prop
  | lst {l : List D} {vs : List V} : RpL K fa ρ H l vs → RpO ρ H (.lst l) (.lst vs)
  | dK {l : List (D × D)} {ks : List Key} {vs : List V} : l.map (fun p => keyD p.1) = ks.map some → RpL K fa ρ H (l.map (·.2)) vs → RpO ρ H (.dic l) (.dK (ks.zip vs))
  | dT {l : List (D × D)} {ks : List (List Key)} {vs : List V} : l.map (fun p => keyT p.1) = ks.map some → RpL K fa ρ H (l.map (·.2)) vs → RpO ρ H (.dit l) (.dT (ks.zip vs))
structure Ext (H H' : Hp) : Prop where
  tup : ∀ a xs, H a = some (.tup xs) → H' a = some (.tup xs)
  frz : ∀ a o u, H a = some (.frz o u) → H' a = some (.frz o u)
structure Rep (ρ : List Addr) (H : Hp) (st : S) : Prop where
  len : ρ.length = st.length
  nd : ρ.Nodup
  at_ : ∀ (n : Nat) (a : Addr) (o : O), ρ[n]? = some a → st[n]? = some o → ∃ ho, H a = some ho ∧ RpO K fa ρ H o ho
structure REnv (ρ : List Addr) (H : Hp) (en : En) (σ : L2.St) : Prop where
  len : en.length = σ.length
  at_ : ∀ (i : Nat) (d : D), en[i]? = some (some d) → ∃ v, σ[i]? = some (some v) ∧ Rp K fa ρ H d v
end

section
variable {K : PySem.W.Frag} {fa : Nat → Addr} {ρ ρ' ρ2 : List Addr} {H H' H2 : Hp} {st st' : S} {d : D} {v : V} {l : List D} {vs : List V} {en : En} {σ : L2.St} {p a : Addr} {ho : HO} {o : O} {n : Nat}
theorem Ext.refl : Ext H H := ⟨fun _ _ h => h, fun _ _ _ h => h⟩
theorem Ext.trans (x : Ext H H') (y : Ext H' H2) : Ext H H2 := ⟨fun _ _ h => y.tup _ _ (x.tup _ _ h), fun _ _ _ h => y.frz _ _ _ (x.frz _ _ _ h)⟩
theorem Ext.new (h : H p = none) : Ext H (upd H p ho) := ⟨fun a xs e => by rw [upd_ne (ne_of_none e h)]; exact e, fun a o u e => by rw [upd_ne (ne_of_none e h)]; exact e⟩
theorem Ext.lst {vs : List V} (h : H p = some (.lst vs)) : Ext H (upd H p ho) :=
  ⟨fun a xs e => by rw [upd_ne (ne_of e h (by intro z; cases z))]; exact e, fun a o u e => by rw [upd_ne (ne_of e h (by intro z; cases z))]; exact e⟩
theorem Ext.dK {kvs : List (Key × V)} (h : H p = some (.dK kvs)) : Ext H (upd H p ho) :=
  ⟨fun a xs e => by rw [upd_ne (ne_of e h (by intro z; cases z))]; exact e, fun a o u e => by rw [upd_ne (ne_of e h (by intro z; cases z))]; exact e⟩
theorem Ext.dT {kvs : List (List Key × V)} (h : H p = some (.dT kvs)) : Ext H (upd H p ho) :=
  ⟨fun a xs e => by rw [upd_ne (ne_of e h (by intro z; cases z))]; exact e, fun a o u e => by rw [upd_ne (ne_of e h (by intro z; cases z))]; exact e⟩
/-- later: what stood for data stands for them; what has no number is as it was -/
structure Bey (ρ : List Addr) (H : Hp) (ρ' : List Addr) (H' : Hp) : Prop where
  ext : Ext H H'
  pre : ρ <+: ρ'
  unt : ∀ a o, a ∉ ρ → H a = some o → H' a = some o
  nw : ∀ a, a ∈ ρ' → a ∉ ρ → H a = none
theorem Bey.refl : Bey ρ H ρ H := ⟨Ext.refl, List.prefix_refl _, fun _ _ _ h => h, fun _ h n => absurd h n⟩
theorem Bey.trans (x : Bey ρ H ρ' H') (y : Bey ρ' H' ρ2 H2) : Bey ρ H ρ2 H2 :=
  ⟨x.ext.trans y.ext, x.pre.trans y.pre, fun a o n h => y.unt a o (fun m => by rw [x.nw a m n] at h; cases h) (x.unt a o n h), fun a m n => by
    by_cases q : a ∈ ρ'
    · exact x.nw a q n
    · have := y.nw a m q
      cases e : H a with
      | none => rfl
      | some o => rw [x.unt a o n e] at this; cases this⟩
theorem pre_get {α : Type} {l m : List α} (h : l <+: m) {i : Nat} {x : α} (e : l[i]? = some x) : m[i]? = some x := by
  obtain ⟨t, rfl⟩ := h
  rw [List.getElem?_append_left (List.getElem?_eq_some_iff.mp e).1]
  exact e
structure Bex (ρ : List Addr) (H : Hp) (ρ' : List Addr) (H' : Hp) : Prop where
  ext : Ext H H'
  pre : ρ <+: ρ'
theorem Bey.bex (b : Bey ρ H ρ' H') : Bex ρ H ρ' H' := ⟨b.ext, b.pre⟩
mutual
theorem Rp.bex (b : Bex ρ H ρ' H') : ∀ {d : D} {v : V}, Rp K fa ρ H d v → Rp K fa ρ' H' d v
  | _, _, .non => .non
  | _, _, .bl b => .bl b
  | _, _, .int i => .int i
  | _, _, .str s => .str s
  | _, _, .tup h r => .tup (b.ext.tup _ _ h) (RpL.bex b r)
  | _, _, .ref h => .ref (pre_get b.pre h)
  | _, _, .ctup h r => .ctup h (RpL.bex b r)
  | _, _, .clst (.inl ⟨o, h⟩) r => .clst (.inl ⟨o, b.ext.frz _ _ _ h⟩) (RpL.bex b r)
  | _, _, .clst (.inr h) r => .clst (.inr h) (RpL.bex b r)
  | _, _, .fn n => .fn n
  | _, _, .ty n => .ty n
theorem RpL.bex (b : Bex ρ H ρ' H') : ∀ {l : List D} {vs : List V}, RpL K fa ρ H l vs → RpL K fa ρ' H' l vs
  | _, _, .nil => .nil
  | _, _, .cons h r => .cons (Rp.bex b h) (RpL.bex b r)
end
theorem Rp.bey (b : Bey ρ H ρ' H') (h : Rp K fa ρ H d v) : Rp K fa ρ' H' d v := h.bex b.bex
theorem RpL.bey (b : Bey ρ H ρ' H') (h : RpL K fa ρ H l vs) : RpL K fa ρ' H' l vs := h.bex b.bex
theorem RpL.length : ∀ {l : List D} {vs : List V}, RpL K fa ρ H l vs → l.length = vs.length
  | _, _, .nil => rfl
  | _, _, .cons _ r => by simp [RpL.length r]
theorem RpL.get : ∀ {l : List D} {vs : List V} {i : Nat} {d : D}, RpL K fa ρ H l vs → l[i]? = some d → ∃ v, vs[i]? = some v ∧ Rp K fa ρ H d v
  | _, _, _, _, .nil, e => by simp at e
  | _, _, 0, _, .cons r _, e => by simp at e; subst e; exact ⟨_, rfl, r⟩
  | _, _, i + 1, d, .cons _ t, e => by
    obtain ⟨u, h1, h2⟩ := RpL.get (i := i) (d := d) t (by simpa using e)
    exact ⟨u, by simpa using h1, h2⟩
theorem RpL.getV : ∀ {l : List D} {vs : List V} {i : Nat} {v : V}, RpL K fa ρ H l vs → vs[i]? = some v → ∃ d, l[i]? = some d ∧ Rp K fa ρ H d v
  | _, _, _, _, .nil, e => by simp at e
  | _, _, 0, _, .cons r _, e => by simp at e; subst e; exact ⟨_, rfl, r⟩
  | _, _, i + 1, d, .cons _ t, e => by
    obtain ⟨u, h1, h2⟩ := RpL.getV (i := i) (v := d) t (by simpa using e)
    exact ⟨u, by simpa using h1, h2⟩
theorem RpL.append : ∀ {l m : List D} {vs us : List V}, RpL K fa ρ H l vs → RpL K fa ρ H m us → RpL K fa ρ H (l ++ m) (vs ++ us)
  | _, _, _, _, .nil, s => s
  | _, _, _, _, .cons r t, s => .cons r (RpL.append t s)
theorem RpL.take : ∀ {l : List D} {vs : List V} (n : Nat), RpL K fa ρ H l vs → RpL K fa ρ H (l.take n) (vs.take n)
  | _, _, 0, _ => .nil
  | _, _, _ + 1, .nil => .nil
  | _, _, n + 1, .cons r t => .cons r (RpL.take n t)
theorem RpL.drop : ∀ {l : List D} {vs : List V} (n : Nat), RpL K fa ρ H l vs → RpL K fa ρ H (l.drop n) (vs.drop n)
  | _, _, 0, r => r
  | _, _, _ + 1, .nil => .nil
  | _, _, n + 1, .cons _ t => RpL.drop n t
theorem RpL.set : ∀ {l : List D} {vs : List V} (i : Nat), RpL K fa ρ H l vs → Rp K fa ρ H d v → RpL K fa ρ H (l.set i d) (vs.set i v)
  | _, _, _, .nil, _ => .nil
  | _, _, 0, .cons _ t, r => .cons r t
  | _, _, i + 1, .cons q t, r => .cons q (RpL.set i t r)
theorem RpL.dropLast (r : RpL K fa ρ H l vs) : RpL K fa ρ H l.dropLast vs.dropLast := by
  rw [List.dropLast_eq_take, List.dropLast_eq_take, r.length]
  exact r.take _
theorem RpL.reverse : ∀ {l : List D} {vs : List V}, RpL K fa ρ H l vs → RpL K fa ρ H l.reverse vs.reverse
  | _, _, .nil => .nil
  | _, _, .cons r t => by rw [List.reverse_cons, List.reverse_cons]; exact (RpL.reverse t).append (.cons r .nil)
theorem RpL.flatRep (r : RpL K fa ρ H l vs) : ∀ n : Nat, RpL K fa ρ H (List.replicate n l).flatten (List.replicate n vs).flatten
  | 0 => .nil
  | n + 1 => by rw [List.replicate_succ, List.replicate_succ, List.flatten_cons, List.flatten_cons]; exact r.append (RpL.flatRep r n)
theorem RpL.ints : ∀ (ns : List Int), RpL K fa ρ H (ns.map D.int) (ns.map V.int)
  | [] => .nil
  | n :: ns => .cons (.int n) (RpL.ints ns)
theorem RpO.bex (b : Bex ρ H ρ' H') (h : RpO K fa ρ H o ho) : RpO K fa ρ' H' o ho := by
  cases h with
  | lst r => exact .lst (r.bex b)
  | dK e r => exact .dK e (r.bex b)
  | dT e r => exact .dT e (r.bex b)
theorem RpO.bey (b : Bey ρ H ρ' H') (h : RpO K fa ρ H o ho) : RpO K fa ρ' H' o ho := h.bex b.bex
theorem REnv.bey (b : Bey ρ H ρ' H') (h : REnv K fa ρ H en σ) : REnv K fa ρ' H' en σ :=
  ⟨h.len, fun i d e => let ⟨v, e1, r⟩ := h.at_ i d e; ⟨v, e1, r.bey b⟩⟩
theorem REnv.set (h : REnv K fa ρ H en σ) (r : Rp K fa ρ H d v) (i : Nat) : REnv K fa ρ H (en.set i (some d)) (σ.set i (some v)) := by
  refine ⟨by simpa using h.len, fun j x e => ?_⟩
  by_cases hj : i = j
  · subst hj
    have hi : i < en.length := by
      have := (List.getElem?_eq_some_iff.mp e).1
      simpa using this
    rw [List.getElem?_set_self hi] at e
    cases e
    exact ⟨v, List.getElem?_set_self (h.len ▸ hi), r⟩
  · rw [List.getElem?_set_ne hj] at e ⊢
    exact h.at_ j x e
theorem REnv.wipe (h : REnv K fa ρ H en σ) (i : Nat) : REnv K fa ρ H (en.set i none) (σ.set i none) := by
  refine ⟨by simpa using h.len, fun j x e => ?_⟩
  by_cases hj : i = j
  · subst hj
    have hi : i < en.length := by
      have := (List.getElem?_eq_some_iff.mp e).1
      simpa using this
    rw [List.getElem?_set_self hi] at e
    cases e
  · rw [List.getElem?_set_ne hj] at e ⊢
    exact h.at_ j x e
theorem Rep.obj (R : Rep K fa ρ H st) (e : st[n]? = some o) : ∃ a ho, ρ[n]? = some a ∧ H a = some ho ∧ RpO K fa ρ H o ho := by
  have hn : n < ρ.length := by rw [R.len]; exact (List.getElem?_eq_some_iff.mp e).1
  obtain ⟨ho, h1, h2⟩ := R.at_ n ρ[n] o (List.getElem?_eq_getElem hn) e
  exact ⟨_, ho, List.getElem?_eq_getElem hn, h1, h2⟩
theorem Rep.lst (R : Rep K fa ρ H st) (e : st[n]? = some (.lst l)) : ∃ a vs, ρ[n]? = some a ∧ H a = some (.lst vs) ∧ RpL K fa ρ H l vs := by
  obtain ⟨a, ho, h1, h2, h3⟩ := R.obj e
  cases h3 with
  | lst r => exact ⟨a, _, h1, h2, r⟩
theorem Rep.same (R : Rep K fa ρ H st) (e : Ext H H') (k : ∀ a, a ∈ ρ → H' a = H a) : Rep K fa ρ H' st :=
  ⟨R.len, R.nd, fun n a o h1 h2 => by
    obtain ⟨ho, h3, h4⟩ := R.at_ n a o h1 h2
    exact ⟨ho, by rw [k a (List.mem_of_getElem? h1)]; exact h3, h4.bex ⟨e, List.prefix_refl _⟩⟩⟩
theorem Rep.tracked (R : Rep K fa ρ H st) (m : a ∈ ρ) : ∃ ho, H a = some ho := by
  obtain ⟨n, hn, e⟩ := List.mem_iff_getElem.mp m
  obtain ⟨ho, h3, _⟩ := R.at_ n a (st[n]'(R.len ▸ hn)) (by rw [List.getElem?_eq_getElem hn, e]) (List.getElem?_eq_getElem _)
  exact ⟨ho, h3⟩
/-- a new object that has no number -/
theorem Rep.new (R : Rep K fa ρ H st) (h : H p = none) : Rep K fa ρ (upd H p ho) st :=
  R.same (Ext.new h) fun a m => by
    obtain ⟨ho, e⟩ := R.tracked m
    exact upd_ne (ne_of_none e h)
theorem Rep.notIn (R : Rep K fa ρ H st) (h : H p = none) : p ∉ ρ := fun m => by
  obtain ⟨ho, e⟩ := R.tracked m
  rw [h] at e; cases e
/-- a new object gets the next number -/
theorem Rep.num (R : Rep K fa ρ H st) (h : p ∉ ρ) (e : H p = some ho) (r : RpO K fa (ρ ++ [p]) H o ho) : Rep K fa (ρ ++ [p]) H (st ++ [o]) := by
  refine ⟨by simp [R.len], ?_, fun n a o' h1 h2 => ?_⟩
  · rw [List.nodup_append]
    refine ⟨R.nd, by simp, fun x hx y hy => ?_⟩
    have : y = p := by simpa using hy
    subst this
    rintro rfl
    exact h hx
  · by_cases hn : n < ρ.length
    · rw [List.getElem?_append_left hn] at h1
      rw [List.getElem?_append_left (R.len ▸ hn)] at h2
      obtain ⟨ho', h3, h4⟩ := R.at_ n a o' h1 h2
      exact ⟨ho', h3, h4.bex ⟨Ext.refl, List.prefix_append _ _⟩⟩
    · have hl : n = ρ.length := by
        have := (List.getElem?_eq_some_iff.mp h1).1
        simp at this
        omega
      subst hl
      rw [List.getElem?_append_right (Nat.le_refl _)] at h1
      rw [R.len, List.getElem?_append_right (Nat.le_refl _)] at h2
      simp at h1 h2
      subst h1 h2
      exact ⟨ho, e, r⟩
theorem Rep.alloc (R : Rep K fa ρ H st) (h : H p = none) (r : RpO K fa ρ H o ho) : Rep K fa (ρ ++ [p]) (upd H p ho) (st ++ [o]) :=
  (R.new h).num (R.notIn h) upd_same (r.bex ⟨Ext.new h, List.prefix_append _ _⟩)
theorem Bey.alloc (h : H p = none) : Bey ρ H (ρ ++ [p]) (upd H p ho) := ⟨Ext.new h, List.prefix_append _ _, fun a o _ e => by rw [upd_ne (ne_of_none e h)]; exact e, fun a m n => by
  have : a = p := by simpa [n] using m
  rw [this]; exact h⟩
theorem Bey.new (h : H p = none) : Bey ρ H ρ (upd H p ho) := ⟨Ext.new h, List.prefix_refl _, fun a o _ e => by rw [upd_ne (ne_of_none e h)]; exact e, fun a m n => absurd m n⟩
theorem Bey.set (h : ρ[n]? = some a) (x : Ext H (upd H a ho)) : Bey ρ H ρ (upd H a ho) := ⟨x, List.prefix_refl _, fun b o m e => by
  rw [upd_ne]
  · exact e
  · rintro rfl
    exact m (List.mem_of_getElem? h), fun a m n => absurd m n⟩
/-- what has a number keeps it -/
theorem Bey.num (b : Bey ρ H ρ' H') (hp : p ∉ ρ') (hn : H p = none) : Bey ρ H (ρ' ++ [p]) H' := ⟨b.ext, b.pre.trans (List.prefix_append _ _), b.unt, fun a m n => by
  rcases List.mem_append.mp m with m | m
  · exact b.nw a m n
  · have : a = p := by simpa using m
    rw [this]; exact hn⟩
/-- an object with a number is changed -/
theorem Rep.set (R : Rep K fa ρ H st) (h : ρ[n]? = some a) (x : Ext H (upd H a ho)) (r : RpO K fa ρ H o ho) : Rep K fa ρ (upd H a ho) (st.set n o) := by
  refine ⟨by simpa using R.len, R.nd, fun m b o' h1 h2 => ?_⟩
  by_cases hm : n = m
  · subst hm
    rw [h] at h1
    cases h1
    have hn : n < st.length := by
      have := (List.getElem?_eq_some_iff.mp h2).1
      simpa using this
    rw [List.getElem?_set_self hn] at h2
    cases h2
    exact ⟨ho, upd_same, r.bex ⟨x, List.prefix_refl _⟩⟩
  · rw [List.getElem?_set_ne hm] at h2
    obtain ⟨ho', h3, h4⟩ := R.at_ m b o' h1 h2
    refine ⟨ho', ?_, h4.bex ⟨x, List.prefix_refl _⟩⟩
    rw [upd_ne ?_]
    · exact h3
    · rintro rfl
      exact hm ((List.getElem?_inj (List.getElem?_eq_some_iff.mp h).1 R.nd).mp (h.trans h1.symm))
end
end Z
namespace Z
open PySem PySem.Spec PyProof.Rows L2

/-! ### what an expression, a test, arguments, a statement do -/
abbrev M := En → S → Option (D × S)
abbrev MT := En → S → Option (Bool × S)
abbrev MA := En → S → Option (List D × S)
inductive Out where
  | nx (en : En) | rt (d : D) | bk (en : En) | ct (en : En)
abbrev MS := En → S → Option (Out × S)

section
variable (K : PySem.W.Frag) (fa : Nat → Addr)
/-- what is wanted behind a value -/
def After (ρ : List Addr) (H : Hp) (st : S) (d : D) (Q : VK) : Prop := ∀ v H' ρ', Bey ρ H ρ' H' → Rep K fa ρ' H' st → Rp K fa ρ' H' d v → Q v H'
def tM (m : M) : TE := fun σ H Q => ∃ ρ st en d st', Rep K fa ρ H st ∧ REnv K fa ρ H en σ ∧ m en st = some (d, st') ∧ After K fa ρ H st' d Q
def tT (m : MT) : TT := fun σ H Q => ∃ ρ st en d st', Rep K fa ρ H st ∧ REnv K fa ρ H en σ ∧ m en st = some (d, st') ∧ ∀ H' ρ', Bey ρ H ρ' H' → Rep K fa ρ' H' st' → Q d H'
def tA (m : MA) : TA := fun σ H Q => ∃ ρ st en d st', Rep K fa ρ H st ∧ REnv K fa ρ H en σ ∧ m en st = some (d, st') ∧ ∀ vs H' ρ', Bey ρ H ρ' H' → Rep K fa ρ' H' st' → RpL K fa ρ' H' d vs → Q vs H'
def AfterS (ρ : List Addr) (H : Hp) (st : S) (o : Out) (D : Ends) : Prop :=
  match o with
  | .nx en => ∀ σ' H' ρ', Bey ρ H ρ' H' → Rep K fa ρ' H' st → REnv K fa ρ' H' en σ' → D.nx σ' H'
  | .rt d => After K fa ρ H st d D.rt
  | .bk en => ∀ σ' H' ρ', Bey ρ H ρ' H' → Rep K fa ρ' H' st → REnv K fa ρ' H' en σ' → D.bk σ' H'
  | .ct en => ∀ σ' H' ρ', Bey ρ H ρ' H' → Rep K fa ρ' H' st → REnv K fa ρ' H' en σ' → D.ct σ' H'
def tS (m : MS) : TS := fun D σ H => ∃ ρ st en o st', Rep K fa ρ H st ∧ REnv K fa ρ H en σ ∧ m en st = some (o, st') ∧ AfterS K fa ρ H st' o D
/-- a def's promise -/
def spM (f : List D → S → Option (D × S)) (n : Nat) : Sp := fun vs H Q _ => ∃ ρ st ds d st', vs.length = n ∧ Rep K fa ρ H st ∧ RpL K fa ρ H ds vs ∧ f ds st = some (d, st') ∧ After K fa ρ H st' d Q
end
section
variable {K : PySem.W.Frag} {fa : Nat → Addr} {ρ ρ' ρ2 : List Addr} {H H' H2 : Hp} {st st' : S} {d : D} {v : V} {l : List D} {vs : List V} {en : En} {σ : L2.St} {p a : Addr} {ho : HO} {o : O} {n : Nat}
theorem After.bey {Q : VK} (h : After K fa ρ H st d Q) (b : Bey ρ H ρ' H') : After K fa ρ' H' st d Q := fun v H2 ρ2 b2 r p => h v H2 ρ2 (b.trans b2) r p
theorem tM_bind {m : M} {Q : VK} (R : Rep K fa ρ H st) (E : REnv K fa ρ H en σ) (h : m en st = some (d, st')) (k : ∀ v H' ρ', Bey ρ H ρ' H' → Rep K fa ρ' H' st' → Rp K fa ρ' H' d v → REnv K fa ρ' H' en σ → Q v H') : tM K fa m σ H Q :=
  ⟨ρ, st, en, d, st', R, E, h, fun v H' ρ' b r p => k v H' ρ' b r p (E.bey b)⟩
theorem tT_bind {m : MT} {b : Bool} {Q : Bool → Hp → Prop} (R : Rep K fa ρ H st) (E : REnv K fa ρ H en σ) (h : m en st = some (b, st')) (k : ∀ H' ρ', Bey ρ H ρ' H' → Rep K fa ρ' H' st' → REnv K fa ρ' H' en σ → Q b H') : tT K fa m σ H Q :=
  ⟨ρ, st, en, b, st', R, E, h, fun H' ρ' b r => k H' ρ' b r (E.bey b)⟩
theorem tA_bind {m : MA} {ds : List D} {Q : List V → Hp → Prop} (R : Rep K fa ρ H st) (E : REnv K fa ρ H en σ) (h : m en st = some (ds, st')) (k : ∀ vs H' ρ', Bey ρ H ρ' H' → Rep K fa ρ' H' st' → RpL K fa ρ' H' ds vs → REnv K fa ρ' H' en σ → Q vs H') : tA K fa m σ H Q :=
  ⟨ρ, st, en, ds, st', R, E, h, fun vs H' ρ' b r p => k vs H' ρ' b r p (E.bey b)⟩
end

/-! ### names and constants -/
def eVar (i : Nat) : M := fun en st => match en[i]? with
  | some (some d) => some (d, st)
  | _ => none
def eC (d : D) : M := fun _ st => some (d, st)
section
variable {X : Cx} {fa : Nat → Addr} {pos : Pos}
theorem ze_var (i : Nat) {x : Str} (hN : X.N[i]? = some x := by rfl) (hv : Vis X.env.scope x := by first | exact Or.inl rfl | exact Or.inr (Or.inl rfl) | exact Or.inr (Or.inr rfl)) (hd : (x == ("__debug__" : Str)) = false := by decide)
    (hcd : (x == ("__classdict__" : Str)) = false := by decide) : PE X (.Name x pos) (tM X.K fa (eVar i)) := by
  refine ⟨fun pins s σ H Q I h => (pe_var hN hv hd hcd).run pins s σ H Q I ?_⟩
  obtain ⟨ρ, st, en, d, st', R, E, e, k⟩ := h
  unfold eVar at e
  cases q : en[i]? with
  | none => rw [q] at e; cases e
  | some o =>
    cases o with
    | none => rw [q] at e; cases e
    | some d' =>
      rw [q] at e
      cases e
      obtain ⟨v, e1, r⟩ := E.at_ i _ q
      exact ⟨v, e1, k v H ρ Bey.refl R r⟩
theorem ze_c {e : Expr} {v : V} {d : D} (h : PE X e (tC v)) (r : ∀ ρ H, Rp X.K fa ρ H d v) : PE X e (tM X.K fa (eC d)) := by
  refine ⟨fun pins s σ H Q I q => h.run pins s σ H Q I ?_⟩
  obtain ⟨ρ, st, en, d, st', R, E, e, k⟩ := q
  cases e
  exact k v H ρ Bey.refl R (r _ _)
theorem ze_int {i j} : PE X (.Constant (.int i) j pos) (tM X.K fa (eC (.int i))) := ze_c pe_int fun _ _ => .int i
theorem ze_bl {i j} : PE X (.Constant (.bool i) j pos) (tM X.K fa (eC (.bl i))) := ze_c pe_bl fun _ _ => .bl i
theorem ze_non {j} : PE X (.Constant .none j pos) (tM X.K fa (eC .non)) := ze_c pe_non fun _ _ => .non
theorem ze_str {i j} : PE X (.Constant (.str i) j pos) (tM X.K fa (eC (.str i))) := ze_c pe_str fun _ _ => .str i
/-- a name of the module -/
theorem ze_glob {x : Str} {v : V} {u : Value} {d : D} (hg : Gl X x) (hm : X.mg x = some u) (r : RelV v u) (q : ∀ ρ H, Rp X.K fa ρ H d v) (hd : (x == ("__debug__" : Str)) = false := by decide) : PE X (.Name x pos) (tM X.K fa (eC d)) :=
  ze_c (pe_glob hg hm r hd) q
theorem ze_ty {x : Str} {n : String} (hg : Gl X x) (hm : X.mg x = none) (hv : bootBuiltins x = some (.type n)) (hn : x ≠ "__name__" := by decide) (hd : (x == ("__debug__" : Str)) = false := by decide) : PE X (.Name x pos) (tM X.K fa (eC (.ty n))) :=
  ze_c (pe_bltn hg hm hv (v := .ty n) rfl hn hd) fun _ _ => .ty n
end

/-! ### two places -/
def eBin (f : D → D → S → Option (D × S)) (a b : M) : M := fun en st => match a en st with
  | some (x, s1) => match b en s1 with
    | some (y, s2) => f x y s2
    | none => none
  | none => none
theorem eBin_some {f : D → D → S → Option (D × S)} {a b : M} {en : En} {st : S} {r : D × S} (h : eBin f a b en st = some r) : ∃ x s1 y s2, a en st = some (x, s1) ∧ b en s1 = some (y, s2) ∧ f x y s2 = some r := by
  unfold eBin at h
  cases e1 : a en st with
  | none => rw [e1] at h; cases h
  | some p =>
    rw [e1] at h
    obtain ⟨x, s1⟩ := p
    simp only at h
    cases e2 : b en s1 with
    | none => rw [e2] at h; cases h
    | some p =>
      rw [e2] at h
      obtain ⟨y, s2⟩ := p
      exact ⟨x, s1, y, s2, rfl, e2, h⟩
/-- a two-place operation on data -/
def ZR2 (X : Cx) (fa : Nat → Addr) (F : Value → Value → Sem Value) (f : D → D → S → Option (D × S)) : Prop :=
  ∀ x y s d s', f x y s = some (d, s') → ∃ r : R2, OpR X F r ∧ ∀ ρ H v u Q, Rep X.K fa ρ H s → Rp X.K fa ρ H x v → Rp X.K fa ρ H y u → After X.K fa ρ H s' d Q → r v u H Q
section
variable {X : Cx} {fa : Nat → Addr} {pos : Pos} {a b : Expr} {ma mb : M} {f : D → D → S → Option (D × S)}
theorem tOp_of {r : R2} {σ : L2.St} {H : Hp} {Q : VK} {ρ : List Addr} {st s1 s2 s3 : S} {en : En} {x y d : D} (R : Rep X.K fa ρ H st) (E : REnv X.K fa ρ H en σ) (h1 : ma en st = some (x, s1)) (h2 : mb en s1 = some (y, s2))
    (q : ∀ ρ H v u Q, Rep X.K fa ρ H s2 → Rp X.K fa ρ H x v → Rp X.K fa ρ H y u → After X.K fa ρ H s3 d Q → r v u H Q) (k : After X.K fa ρ H s3 d Q) : tOp r (tM X.K fa ma) (tM X.K fa mb) σ H Q :=
  tM_bind R E h1 fun v H1 ρ1 B1 R1 p1 E1 => tM_bind R1 E1 h2 fun u H2 ρ2 B2 R2 p2 E2 => q ρ2 H2 v u Q R2 (p1.bey B2) p2 (k.bey (B1.trans B2))
theorem ze_op {op : Operator} (hf : ZR2 X fa (binaryOp op) f) (ha : PE X a (tM X.K fa ma)) (hb : PE X b (tM X.K fa mb)) : PE X (.BinOp a op b pos) (tM X.K fa (eBin f ma mb)) := by
  refine ⟨fun pins s σ H Q I h => ?_⟩
  obtain ⟨ρ, st, en, d, st', R, E, e, k⟩ := h
  obtain ⟨x, s1, y, s2, h1, h2, h3⟩ := eBin_some e
  obtain ⟨r, hr, q⟩ := hf x y s2 d st' h3
  exact (pe_op hr ha hb).run pins s σ H Q I (tOp_of R E h1 h2 q k)
theorem ze_cmp {op : CmpOp} (hf : ZR2 X fa (compareOp op) f) (ha : PE X a (tM X.K fa ma)) (hb : PE X b (tM X.K fa mb)) (hm : behindInMarks op b = false) : PE X (.Compare a [op] [b] pos) (tM X.K fa (eBin f ma mb)) := by
  refine ⟨fun pins s σ H Q I h => ?_⟩
  obtain ⟨ρ, st, en, d, st', R, E, e, k⟩ := h
  obtain ⟨x, s1, y, s2, h1, h2, h3⟩ := eBin_some e
  obtain ⟨r, hr, q⟩ := hf x y s2 d st' h3
  exact (pe_cmpR hr ha hb hm).run pins s σ H Q I (tOp_of R E h1 h2 q k)
/-- a value that is True or False, as a test -/
def cVal (m : M) : MT := fun en st => match m en st with
  | some (.bl b, s) => some (b, s)
  | _ => none
theorem cVal_some {m : M} {en : En} {st : S} {r : Bool × S} (h : cVal m en st = some r) : m en st = some (.bl r.1, r.2) := by
  unfold cVal at h
  split at h
  · rename_i b s e
    cases h
    exact e
  · cases h
theorem zt_cmp {op : CmpOp} (hf : ZR2 X fa (compareOp op) f) (ha : PE X a (tM X.K fa ma)) (hb : PE X b (tM X.K fa mb)) (hm : behindInMarks op b = false) : PT X (.Compare a [op] [b] pos) (tT X.K fa (cVal (eBin f ma mb))) := by
  refine ⟨fun pins s σ H Q I h => ?_⟩
  obtain ⟨ρ, st, en, d, st', R, E, e, k⟩ := h
  obtain ⟨x, s1, y, s2, h1, h2, h3⟩ := eBin_some (cVal_some e)
  obtain ⟨r, hr, q⟩ := hf x y s2 _ st' h3
  refine (pt_cmpR hr ha hb hm).run pins s σ H Q I (tOp_of R E h1 h2 q fun v H' ρ' B R' p => ?_)
  cases p
  exact ⟨_, rfl, k H' ρ' B R'⟩
theorem zt_val (h : PE X a (tM X.K fa ma)) (he : ∀ whole, isTrue a X.env whole = (do let v ← whole; standAt a.pos; holding [v] (truthy v)) := by intro _; rfl) : PT X a (tT X.K fa (cVal ma)) := by
  refine ⟨fun pins s σ H Q I q => (pt_val h he).run pins s σ H Q I ?_⟩
  obtain ⟨ρ, st, en, d, st', R, E, e, k⟩ := q
  refine tM_bind R E (cVal_some e) fun v H1 ρ1 B1 R1 p1 E1 => ?_
  cases p1
  exact ⟨_, rfl, k H1 ρ1 B1 R1⟩
/-- truth of any value -/
def truD (s : S) : D → Option Bool
  | .non => some false
  | .bl b => some b
  | .int i => some (i != 0)
  | .str x => if x.length ≤ big then some (x.length != 0) else none
  | .tup l => some (!l.isEmpty)
  | .ref n => match s[n]? with
    | some (.lst l) => some (!l.isEmpty)
    | _ => none
  | _ => none

/-! ### tests -/
def cNot (t : MT) : MT := fun en st => match t en st with
  | some (b, s) => some (!b, s)
  | none => none
def cAnd (t u : MT) : MT := fun en st => match t en st with
  | some (true, s) => u en s
  | some (false, s) => some (false, s)
  | none => none
def cOr (t u : MT) : MT := fun en st => match t en st with
  | some (true, s) => some (true, s)
  | some (false, s) => u en s
  | none => none
theorem zt_not {t : MT} (h : PT X a (tT X.K fa t)) : PT X (.UnaryOp .Not a pos) (tT X.K fa (cNot t)) := by
  refine ⟨fun pins s σ H Q I q => (pt_not h).run pins s σ H Q I ?_⟩
  obtain ⟨ρ, st, en, d, st', R, E, e, k⟩ := q
  unfold cNot at e
  split at e
  · rename_i b s e1
    cases e
    exact tT_bind R E e1 fun H1 ρ1 B1 R1 E1 => k H1 ρ1 B1 R1
  · cases e
theorem zw_and1 {t : MT} (h : PT X a (tT X.K fa t)) : PW X (.BoolOp .And [a] pos) (tT X.K fa t) := pw_and1 h
theorem zw_or1 {t : MT} (h : PT X a (tT X.K fa t)) : PW X (.BoolOp .Or [a] pos) (tT X.K fa t) := pw_or1 h
theorem zw_and {t u : MT} {rest : List Expr} (ha : PT X a (tT X.K fa t)) (hb : PW X (.BoolOp .And (b :: rest) pos) (tT X.K fa u)) : PW X (.BoolOp .And (a :: b :: rest) pos) (tT X.K fa (cAnd t u)) := by
  refine ⟨fun whole pins s σ H Q I q => (pw_and ha hb).run whole pins s σ H Q I ?_⟩
  obtain ⟨ρ, st, en, d, st', R, E, e, k⟩ := q
  unfold cAnd at e
  split at e
  · rename_i s1 e1
    refine tT_bind R E e1 fun H1 ρ1 B1 R1 E1 => ?_
    rw [if_pos rfl]
    exact tT_bind R1 E1 e fun H2 ρ2 B2 R2 E2 => k H2 ρ2 (B1.trans B2) R2
  · rename_i s1 e1
    cases e
    refine tT_bind R E e1 fun H1 ρ1 B1 R1 E1 => ?_
    rw [if_neg Bool.false_ne_true]
    exact k H1 ρ1 B1 R1
  · cases e
theorem zw_or {t u : MT} {rest : List Expr} (ha : PT X a (tT X.K fa t)) (hb : PW X (.BoolOp .Or (b :: rest) pos) (tT X.K fa u)) : PW X (.BoolOp .Or (a :: b :: rest) pos) (tT X.K fa (cOr t u)) := by
  refine ⟨fun whole pins s σ H Q I q => (pw_or ha hb).run whole pins s σ H Q I ?_⟩
  obtain ⟨ρ, st, en, d, st', R, E, e, k⟩ := q
  unfold cOr at e
  split at e
  · rename_i s1 e1
    cases e
    refine tT_bind R E e1 fun H1 ρ1 B1 R1 E1 => ?_
    rw [if_pos rfl]
    exact k H1 ρ1 B1 R1
  · rename_i s1 e1
    refine tT_bind R E e1 fun H1 ρ1 B1 R1 E1 => ?_
    rw [if_neg Bool.false_ne_true]
    exact tT_bind R1 E1 e fun H2 ρ2 B2 R2 E2 => k H2 ρ2 (B1.trans B2) R2
  · cases e
/-- a and b, a or b, not a, as values (True or False but for the last) -/
def eAnd (a b : M) : M := fun en st => match a en st with
  | some (.bl true, s) => b en s
  | some (.bl false, s) => some (.bl false, s)
  | _ => none
def eOr (a b : M) : M := fun en st => match a en st with
  | some (.bl true, s) => some (.bl true, s)
  | some (.bl false, s) => b en s
  | _ => none
def eNot (a : M) : M := fun en st => match a en st with
  | some (.bl b, s) => some (.bl (!b), s)
  | _ => none
theorem ze_one {op} {m : M} (h : PE X a (tM X.K fa m)) : PE X (.BoolOp op [a] pos) (tM X.K fa m) := pe_one h
theorem ze_and {rest : List Expr} (ha : PE X a (tM X.K fa ma)) (hb : PE X (.BoolOp .And (b :: rest) pos) (tM X.K fa mb)) : PE X (.BoolOp .And (a :: b :: rest) pos) (tM X.K fa (eAnd ma mb)) := by
  refine ⟨fun pins s σ H Q I q => (pe_and ha hb).run pins s σ H Q I ?_⟩
  obtain ⟨ρ, st, en, d, st', R, E, e, k⟩ := q
  unfold eAnd at e
  split at e
  · rename_i s1 e1
    refine tM_bind R E e1 fun v H1 ρ1 B1 R1 p1 E1 => ?_
    cases p1
    refine ⟨true, rfl, ?_⟩
    rw [if_pos rfl]
    exact tM_bind R1 E1 e fun v H2 ρ2 B2 R2 p2 E2 => k v H2 ρ2 (B1.trans B2) R2 p2
  · rename_i s1 e1
    cases e
    refine tM_bind R E e1 fun v H1 ρ1 B1 R1 p1 E1 => ?_
    cases p1
    refine ⟨false, rfl, ?_⟩
    rw [if_neg Bool.false_ne_true]
    exact k _ H1 ρ1 B1 R1 (.bl false)
  · cases e
theorem ze_or {rest : List Expr} (ha : PE X a (tM X.K fa ma)) (hb : PE X (.BoolOp .Or (b :: rest) pos) (tM X.K fa mb)) : PE X (.BoolOp .Or (a :: b :: rest) pos) (tM X.K fa (eOr ma mb)) := by
  refine ⟨fun pins s σ H Q I q => (pe_or ha hb).run pins s σ H Q I ?_⟩
  obtain ⟨ρ, st, en, d, st', R, E, e, k⟩ := q
  unfold eOr at e
  split at e
  · rename_i s1 e1
    cases e
    refine tM_bind R E e1 fun v H1 ρ1 B1 R1 p1 E1 => ?_
    cases p1
    refine ⟨true, rfl, ?_⟩
    rw [if_pos rfl]
    exact k _ H1 ρ1 B1 R1 (.bl true)
  · rename_i s1 e1
    refine tM_bind R E e1 fun v H1 ρ1 B1 R1 p1 E1 => ?_
    cases p1
    refine ⟨false, rfl, ?_⟩
    rw [if_neg Bool.false_ne_true]
    exact tM_bind R1 E1 e fun v H2 ρ2 B2 R2 p2 E2 => k v H2 ρ2 (B1.trans B2) R2 p2
  · cases e
theorem ze_not (ha : PE X a (tM X.K fa ma)) : PE X (.UnaryOp .Not a pos) (tM X.K fa (eNot ma)) := by
  refine ⟨fun pins s σ H Q I q => (pe_not ha).run pins s σ H Q I ?_⟩
  obtain ⟨ρ, st, en, d, st', R, E, e, k⟩ := q
  unfold eNot at e
  split at e
  · rename_i b s1 e1
    cases e
    refine tM_bind R E e1 fun v H1 ρ1 B1 R1 p1 E1 => ?_
    cases p1
    exact ⟨b, rfl, k _ H1 ρ1 B1 R1 (.bl _)⟩
  · cases e
def eIf (t : MT) (a b : M) : M := fun en st => match t en st with
  | some (true, s) => a en s
  | some (false, s) => b en s
  | none => none
theorem ze_if {c : Expr} {t : MT} (hc : PT X c (tT X.K fa t)) (ha : PE X a (tM X.K fa ma)) (hb : PE X b (tM X.K fa mb)) : PE X (.IfExp c a b pos) (tM X.K fa (eIf t ma mb)) := by
  refine ⟨fun pins s σ H Q I q => (pe_ifExp hc ha hb).run pins s σ H Q I ?_⟩
  obtain ⟨ρ, st, en, d, st', R, E, e, k⟩ := q
  unfold eIf at e
  split at e
  · rename_i s1 e1
    refine tT_bind R E e1 fun H1 ρ1 B1 R1 E1 => ?_
    rw [if_pos rfl]
    exact tM_bind R1 E1 e fun v H2 ρ2 B2 R2 p2 E2 => k v H2 ρ2 (B1.trans B2) R2 p2
  · rename_i s1 e1
    refine tT_bind R E e1 fun H1 ρ1 B1 R1 E1 => ?_
    rw [if_neg Bool.false_ne_true]
    exact tM_bind R1 E1 e fun v H2 ρ2 B2 R2 p2 E2 => k v H2 ρ2 (B1.trans B2) R2 p2
  · cases e
end

/-! ### arguments, displays -/
def aNil : MA := fun _ st => some ([], st)
def aCons (a : M) (r : MA) : MA := fun en st => match a en st with
  | some (x, s1) => match r en s1 with
    | some (xs, s2) => some (x :: xs, s2)
    | none => none
  | none => none
section
variable {X : Cx} {fa : Nat → Addr} {pos : Pos} {e : Expr} {es : List Expr} {m : M} {ma : MA}
theorem za_nil : PA X [] (tA X.K fa aNil) := by
  refine ⟨fun pos pins s σ H Q I h => pa_nil.run pos pins s σ H Q I ?_⟩
  obtain ⟨ρ, st, en, d, st', R, E, e, k⟩ := h
  cases e
  exact k _ H ρ Bey.refl R .nil
theorem za_cons (ha : PE X e (tM X.K fa m)) (hr : PA X es (tA X.K fa ma)) (hs : starEach (e :: es) X.env = (false, eval e X.env) :: starEach es X.env := by rfl) : PA X (e :: es) (tA X.K fa (aCons m ma)) := by
  refine ⟨fun pos pins s σ H Q I h => (pa_cons ha hr hs).run pos pins s σ H Q I ?_⟩
  obtain ⟨ρ, st, en, d, st', R, E, e, k⟩ := h
  unfold aCons at e
  split at e
  · rename_i x s1 e1
    split at e
    · rename_i xs s2 e2
      cases e
      exact tM_bind R E e1 fun v H1 ρ1 B1 R1 p1 E1 => tA_bind R1 E1 e2 fun vs H2 ρ2 B2 R2 p2 E2 => k _ H2 ρ2 (B1.trans B2) R2 (.cons (p1.bey B2) p2)
    · cases e
  · cases e
def eTup (a : MA) : M := fun en st => match a en st with
  | some (l, s) => if l.length ≤ big then some (.tup l, s) else none
  | none => none
def eLst (a : MA) : M := fun en st => match a en st with
  | some (l, s) => if l.length ≤ big then some (.ref s.length, s ++ [.lst l]) else none
  | none => none
theorem ze_tup {x1} (h : PA X es (tA X.K fa ma)) : PE X (.Tuple es x1 pos) (tM X.K fa (eTup ma)) := by
  refine ⟨fun pins s σ H Q I q => (pe_tup h).run pins s σ H Q I ?_⟩
  obtain ⟨ρ, st, en, d, st', R, E, e, k⟩ := q
  unfold eTup at e
  split at e
  · rename_i l s1 e1
    split at e
    · rename_i hl
      cases e
      refine tA_bind R E e1 fun vs H1 ρ1 B1 R1 p1 E1 => ⟨by rw [← p1.length]; exact Nat.le_trans hl big_le, fun p np => ?_⟩
      exact k _ _ ρ1 (B1.trans (Bey.new np)) (R1.new np) (.tup upd_same (p1.bey (Bey.new np)))
    · cases e
  · cases e
theorem ze_lst (h : PA X es (tA X.K fa ma)) : PE X (.List es pos) (tM X.K fa (eLst ma)) := by
  refine ⟨fun pins s σ H Q I q => (pe_lst h).run pins s σ H Q I ?_⟩
  obtain ⟨ρ, st, en, d, st', R, E, e, k⟩ := q
  unfold eLst at e
  split at e
  · rename_i l s1 e1
    split at e
    · rename_i hl
      cases e
      refine tA_bind R E e1 fun vs H1 ρ1 B1 R1 p1 E1 => ⟨by rw [← p1.length]; exact Nat.le_trans hl big_le, fun p np => ?_⟩
      exact k _ _ _ (B1.trans (Bey.alloc np)) (R1.alloc np (.lst p1)) (.ref (by rw [← R1.len]; exact List.getElem?_concat_length))
    · cases e
  · cases e
end
end Z
namespace Z
open PySem PySem.Spec PyProof.Rows L2

/-! ### operators -/
def fAdd : D → D → S → Option (D × S)
  | .int i, .int j, s => some (.int (i + j), s)
  | .str i, .str j, s => if i.length + j.length ≤ big then some (.str (i ++ j), s) else none
  | .tup l, .tup m, s => if l.length + m.length ≤ big then some (.tup (l ++ m), s) else none
  | .ref i, .ref j, s => match s[i]?, s[j]? with
    | some (.lst l), some (.lst m) => if l.length + m.length ≤ big then some (.ref s.length, s ++ [.lst (l ++ m)]) else none
    | _, _ => none
  | _, _, _ => none
def fSub : D → D → S → Option (D × S)
  | .int i, .int j, s => some (.int (i - j), s)
  | _, _, _ => none
def fMul : D → D → S → Option (D × S)
  | .int i, .int j, s => if i.natAbs < 2 ^ 64 ∨ j.natAbs < 2 ^ 64 then some (.int (i * j), s) else none
  | .ref i, .int k, s => match s[i]? with
    | some (.lst l) => if k < 2 ^ 24 ∧ -(2 ^ 24) < k ∧ l.length * k.toNat ≤ big then some (.ref s.length, s ++ [.lst (List.replicate k.toNat l).flatten]) else none
    | _ => none
  | _, _, _ => none
def fMod : D → D → S → Option (D × S)
  | .int i, .int j, s => if j ≠ 0 then some (.int (i.fmod j), s) else none
  | _, _, _ => none
def fDiv : D → D → S → Option (D × S)
  | .int i, .int j, s => if j ≠ 0 ∧ j.natAbs < 1073741824 then some (.int (i.fdiv j), s) else none
  | _, _, _ => none
def fPow : D → D → S → Option (D × S)
  | .int i, .int j, s => if 0 ≤ j ∧ j ≤ 1000000 ∧ i.natAbs < 2 ^ 64 then some (.int (i ^ j.toNat), s) else none
  | _, _, _ => none
section
variable {X : Cx} {fa : Nat → Addr}
theorem After.now {K : PySem.W.Frag} {fa : Nat → Addr} {ρ : List Addr} {H : Hp} {s : S} {d : D} {Q : VK} {v : V} (k : After K fa ρ H s d Q) (R : Rep K fa ρ H s) (r : Rp K fa ρ H d v) : Q v H := k v H ρ Bey.refl R r
theorem After.lst {K : PySem.W.Frag} {fa : Nat → Addr} {ρ : List Addr} {H : Hp} {s : S} {Q : VK} {l : List D} {vs : List V} {p : Addr} (k : After K fa ρ H (s ++ [.lst l]) (.ref s.length) Q) (R : Rep K fa ρ H s) (r : RpL K fa ρ H l vs) (np : H p = none) : Q (.ref p) (upd H p (.lst vs)) :=
  k _ _ _ (Bey.alloc np) (R.alloc np (.lst r)) (.ref (by rw [← R.len]; exact List.getElem?_concat_length))
theorem After.tup {K : PySem.W.Frag} {fa : Nat → Addr} {ρ : List Addr} {H : Hp} {s : S} {Q : VK} {l : List D} {vs : List V} {p : Addr} (k : After K fa ρ H s (.tup l) Q) (R : Rep K fa ρ H s) (r : RpL K fa ρ H l vs) (np : H p = none) : Q (.ref p) (upd H p (.tup vs)) :=
  k _ _ _ (Bey.new np) (R.new np) (.tup upd_same (r.bey (Bey.new np)))
theorem zo_add : ZR2 X fa (binaryOp .Add) fAdd := by
  intro x y s d s' h
  unfold fAdd at h
  split at h
  · cases h
    refine ⟨_, op_add, fun ρ H v u Q R p q k => ?_⟩
    cases p; cases q
    exact ⟨_, _, rfl, rfl, k.now R (.int _)⟩
  · split at h
    · rename_i hl
      cases h
      refine ⟨_, op_add_str, fun ρ H v u Q R p q k => ?_⟩
      cases p; cases q
      exact ⟨_, _, rfl, rfl, Nat.le_trans hl big_le, k.now R (.str _)⟩
    · cases h
  · split at h
    · rename_i hl
      cases h
      refine ⟨_, op_catA, fun ρ H v u Q R p q k => ?_⟩
      cases p with
      | tup ha ra => cases q with
        | tup hb rb =>
          refine ⟨_, _, _, _, rfl, rfl, SqT.of ha, SqT.of hb, by rw [← ra.length, ← rb.length]; exact Nat.le_trans hl big_le, fun e => ?_, fun _ e => ?_, fun _ _ p np => ?_⟩
          · subst e
            cases ra
            exact k.now R (.tup hb rb)
          · subst e
            cases rb
            rw [List.append_nil] at k
            exact k.now R (.tup ha ra)
          · exact k.tup R (ra.append rb) np
    · cases h
  · rename_i i j s0
    split at h
    · rename_i l m e1 e2
      split at h
      · rename_i hl
        cases h
        refine ⟨_, op_cat, fun ρ H v u Q R p q k => ?_⟩
        cases p with
        | ref h1 => cases q with
          | ref h2 =>
            obtain ⟨a, vs, h3, h4, h5⟩ := R.lst e1
            obtain ⟨b, us, h6, h7, h8⟩ := R.lst e2
            cases h1.symm.trans h3
            cases h2.symm.trans h6
            exact ⟨_, _, _, _, rfl, rfl, h4, h7, by rw [← h5.length, ← h8.length]; exact Nat.le_trans hl big_le, fun p np => k.lst R (h5.append h8) np⟩
      · cases h
    · cases h
  · cases h
theorem zo_sub : ZR2 X fa (binaryOp .Sub) fSub := by
  intro x y s d s' h
  unfold fSub at h
  split at h
  · cases h
    refine ⟨_, op_sub, fun ρ H v u Q R p q k => ?_⟩
    cases p; cases q
    exact ⟨_, _, rfl, rfl, k.now R (.int _)⟩
  · cases h
theorem zo_mul : ZR2 X fa (binaryOp .Mult) fMul := by
  intro x y s d s' h
  unfold fMul at h
  split at h
  · split at h
    · rename_i hl
      cases h
      refine ⟨_, op_mul, fun ρ H v u Q R p q k => ?_⟩
      cases p; cases q
      refine ⟨_, _, rfl, rfl, ?_, k.now R (.int _)⟩
      rcases hl with hl | hl
      · exact .inl (by omega)
      · exact .inr (by omega)
    · cases h
  · split at h
    · rename_i l e1
      split at h
      · rename_i hl
        cases h
        refine ⟨_, op_rep, fun ρ H v u Q R p q k => ?_⟩
        cases q
        cases p with
        | ref h1 =>
          obtain ⟨a, vs, h3, h4, h5⟩ := R.lst e1
          cases h1.symm.trans h3
          refine ⟨_, _, _, rfl, rfl, h4, by omega, by omega, by rw [← h5.length]; exact Nat.le_trans hl.2.2 big_le, fun p np => k.lst R (h5.flatRep _) np⟩
      · cases h
    · cases h
  · cases h
theorem zo_mod : ZR2 X fa (binaryOp .Mod) fMod := by
  intro x y s d s' h
  unfold fMod at h
  split at h
  · split at h
    · rename_i hl
      cases h
      refine ⟨_, op_modN, fun ρ H v u Q R p q k => ?_⟩
      cases p; cases q
      exact ⟨_, _, rfl, rfl, hl, k.now R (.int _)⟩
    · cases h
  · cases h
theorem zo_div : ZR2 X fa (binaryOp .FloorDiv) fDiv := by
  intro x y s d s' h
  unfold fDiv at h
  split at h
  · split at h
    · rename_i hl
      cases h
      refine ⟨_, op_fdivN, fun ρ H v u Q R p q k => ?_⟩
      cases p; cases q
      exact ⟨_, _, rfl, rfl, hl, k.now R (.int _)⟩
    · cases h
  · cases h
theorem zo_pow : ZR2 X fa (binaryOp .Pow) fPow := by
  intro x y s d s' h
  unfold fPow at h
  split at h
  · split at h
    · rename_i hl
      cases h
      refine ⟨_, op_pow, fun ρ H v u Q R p q k => ?_⟩
      cases p; cases q
      exact ⟨_, _, rfl, rfl, hl, k.now R (.int _)⟩
    · cases h
  · cases h

/-! ### comparisons -/
mutual
def pyD : D → Option PyData
  | .non => some .none
  | .bl b => some (.bool b)
  | .int i => some (.int i)
  | .str x => some (.str x)
  | .tup l => match pyL l with
    | some ds => some (.tuple ds)
    | none => none
  | .ctup l => match pyL l with
    | some ds => some (.tuple ds)
    | none => none
  | _ => none
def pyL : List D → Option (List PyData)
  | [] => some []
  | d :: ds => match pyD d, pyL ds with
    | some x, some xs => some (x :: xs)
    | _, _ => none
end
def pyO (s : S) : D → Option PyData
  | .ref n => match s[n]? with
    | some (.lst l) => match pyL l with
      | some ds => some (.list ds)
      | none => none
    | _ => none
  | d => pyD d
mutual
theorem Rp.dp {K : PySem.W.Frag} {ρ : List Addr} {H : Hp} : ∀ (d : D) {v : V} {p : PyData}, Rp K fa ρ H d v → pyD d = some p → Dp K H v p
  | .non, _, _, r, e => by cases r; simp only [pyD, Option.some.injEq] at e; subst e; exact .non
  | .bl b, _, _, r, e => by cases r; simp only [pyD, Option.some.injEq] at e; subst e; exact .bl b
  | .int i, _, _, r, e => by cases r; simp only [pyD, Option.some.injEq] at e; subst e; exact .int i
  | .str x, _, _, r, e => by cases r; simp only [pyD, Option.some.injEq] at e; subst e; exact .str x
  | .tup l, _, _, r, e => by
    cases r with
    | tup h q =>
      simp only [pyD] at e
      split at e
      · rename_i ds e1
        cases e
        exact .tup (SqT.of h) (RpL.dp l q e1)
      · cases e
  | .ref n, _, _, r, e => by simp [pyD] at e
  | .ctup l, _, _, r, e => by
    cases r with
    | ctup h q =>
      simp only [pyD] at e
      split at e
      · rename_i ds e1
        cases e
        exact .tup (h _) (RpL.dp l q e1)
      · cases e
  | .clst n, _, _, r, e => by simp [pyD] at e
  | .fn n, _, _, r, e => by simp [pyD] at e
  | .ty n, _, _, r, e => by simp [pyD] at e
theorem RpL.dp {K : PySem.W.Frag} {ρ : List Addr} {H : Hp} : ∀ (l : List D) {vs : List V} {ps : List PyData}, RpL K fa ρ H l vs → pyL l = some ps → DpAll K H vs ps
  | [], _, _, r, e => by cases r; simp only [pyL, Option.some.injEq] at e; subst e; exact .nil
  | d :: ds, _, _, r, e => by
    cases r with
    | cons h q =>
      simp only [pyL] at e
      split at e
      · rename_i x xs e1 e2
        cases e
        exact .cons (Rp.dp d h e1) (RpL.dp ds q e2)
      · cases e
end
theorem Rp.dpO {K : PySem.W.Frag} {ρ : List Addr} {H : Hp} {s : S} {d : D} {v : V} {p : PyData} (R : Rep K fa ρ H s) (r : Rp K fa ρ H d v) (e : pyO s d = some p) : Dp K H v p := by
  unfold pyO at e
  split at e
  · split at e
    · rename_i l e1
      split at e
      · rename_i ds e2
        cases e
        cases r with
        | ref h1 =>
          obtain ⟨a, vs, h3, h4, h5⟩ := R.lst e1
          cases h1.symm.trans h3
          exact .lst (SqL.of h4) (RpL.dp l h5 e2)
      · cases e
    · cases e
  · exact Rp.dp d r e
def fEq : D → D → S → Option (D × S)
  | .int i, .int j, s => some (.bl (decide (i = j)), s)
  | .str i, .str j, s => some (.bl (decide (i = j)), s)
  | x, y, s => match pyO s x, pyO s y with
    | some a, some b => if SeqAt.shaped a = true ∧ SeqAt.shaped b = true then some (.bl (PyData.eqv a b), s) else none
    | _, _ => none
def neg (r : Option (D × S)) : Option (D × S) := match r with
  | some (.bl b, s) => some (.bl (!b), s)
  | _ => none
def fNe (x y : D) (s : S) : Option (D × S) := neg (fEq x y s)
theorem zo_eq (hu : X.A.units + 64 < cLine) : ZR2 X fa (compareOp .Eq) fEq := by
  intro x y s d s' h
  unfold fEq at h
  split at h
  · cases h
    refine ⟨_, op_eq, fun ρ H v u Q R p q k => ?_⟩
    cases p; cases q
    refine ⟨rfl, ?_⟩
    rw [dec_int, Bool.beq_eq_decide_eq]
    exact k.now R (.bl _)
  · cases h
    refine ⟨_, op_eq, fun ρ H v u Q R p q k => ?_⟩
    cases p; cases q
    refine ⟨rfl, ?_⟩
    rw [dec_str, Bool.beq_eq_decide_eq]
    exact k.now R (.bl _)
  · split at h
    · rename_i a b e1 e2
      split at h
      · rename_i hs
        cases h
        refine ⟨_, op_eqD hu, fun ρ H v u Q R p q k => ?_⟩
        exact ⟨a, b, Rp.dpO R p e1, Rp.dpO R q e2, hs.1, hs.2, k.now R (.bl _)⟩
      · cases h
    · cases h
theorem zo_ne (hu : X.A.units + 64 < cLine) : ZR2 X fa (compareOp .NotEq) fNe := by
  intro x y s d s' h
  unfold fNe neg at h
  split at h
  · rename_i b0 s0 h0
    cases h
    unfold fEq at h0
    split at h0
    · cases h0
      refine ⟨_, op_ne, fun ρ H v u Q R p q k => ?_⟩
      cases p; cases q
      refine ⟨rfl, ?_⟩
      rw [dec_int, Bool.beq_eq_decide_eq]
      exact k.now R (.bl _)
    · cases h0
      refine ⟨_, op_ne, fun ρ H v u Q R p q k => ?_⟩
      cases p; cases q
      refine ⟨rfl, ?_⟩
      rw [dec_str, Bool.beq_eq_decide_eq]
      exact k.now R (.bl _)
    · split at h0
      · rename_i a b e1 e2
        split at h0
        · rename_i hs
          cases h0
          refine ⟨_, op_neD hu, fun ρ H v u Q R p q k => ?_⟩
          exact ⟨a, b, Rp.dpO R p e1, Rp.dpO R q e2, hs.1, hs.2, k.now R (.bl _)⟩
        · cases h0
      · cases h0
  · cases h
def fI (p : Int → Int → Bool) : D → D → S → Option (D × S)
  | .int i, .int j, s => some (.bl (p i j), s)
  | _, _, _ => none
theorem zo_I {op : CmpOp} {p : Int → Int → Bool} (ho : OpR X (compareOp op) (rI0 fun i j => .bl (p i j))) : ZR2 X fa (compareOp op) (fI p) := by
  intro x y s d s' h
  unfold fI at h
  split at h
  · cases h
    refine ⟨_, ho, fun ρ H v u Q R p q k => ?_⟩
    cases p; cases q
    exact ⟨_, _, rfl, rfl, k.now R (.bl _)⟩
  · cases h
abbrev fLt := fI fun i j => decide (i < j)
abbrev fLe := fI fun i j => decide (i ≤ j)
abbrev fGt := fI fun i j => decide (j < i)
abbrev fGe := fI fun i j => decide (j ≤ i)
theorem zo_lt : ZR2 X fa (compareOp .Lt) fLt := zo_I op_lt
theorem zo_le : ZR2 X fa (compareOp .LtE) fLe := zo_I op_le
theorem zo_gt : ZR2 X fa (compareOp .Gt) fGt := zo_I op_gt
theorem zo_ge : ZR2 X fa (compareOp .GtE) fGe := zo_I op_ge
/-- is, is not: of bools, of None -/
def isNon : D → Bool
  | .non => true
  | _ => false
def fIs : D → D → S → Option (D × S)
  | .bl a, .bl b, s => some (.bl (decide (a = b)), s)
  | x, .non, s => some (.bl (isNon x), s)
  | _, _, _ => none
def fIsNot (x y : D) (s : S) : Option (D × S) := neg (fIs x y s)
theorem Rp.isNon {K : PySem.W.Frag} {ρ : List Addr} {H : Hp} {d : D} {v : V} (r : Rp K fa ρ H d v) : decide (v = .non) = isNon d := by
  cases r <;> simp [Z.isNon]
theorem zo_is : ZR2 X fa (compareOp .Is) fIs := by
  intro x y s d s' h
  unfold fIs at h
  split at h
  · cases h
    refine ⟨_, op_isBl, fun ρ H v u Q R p q k => ?_⟩
    cases p; cases q
    exact ⟨_, _, rfl, rfl, k.now R (.bl _)⟩
  · cases h
    refine ⟨_, op_isN, fun ρ H v u Q R p q k => ?_⟩
    cases q
    refine ⟨rfl, ?_⟩
    rw [p.isNon]
    exact k.now R (.bl _)
  · cases h
theorem zo_isNot : ZR2 X fa (compareOp .IsNot) fIsNot := by
  intro x y s d s' h
  unfold fIsNot neg at h
  split at h
  · rename_i b0 s0 h0
    cases h
    unfold fIs at h0
    split at h0
    · cases h0
      refine ⟨_, op_notBl, fun ρ H v u Q R p q k => ?_⟩
      cases p; cases q
      exact ⟨_, _, rfl, rfl, k.now R (.bl _)⟩
    · cases h0
      refine ⟨_, op_notN, fun ρ H v u Q R p q k => ?_⟩
      cases q
      refine ⟨rfl, ?_⟩
      rw [p.isNon]
      exact k.now R (.bl _)
    · cases h0
  · cases h
/-- in, not in: flat items -/
def flatD : D → Bool
  | .non => true
  | .bl _ => true
  | .int _ => true
  | .str _ => true
  | _ => false
def eqF : D → D → Bool
  | .non, .non => true
  | .bl a, .bl b => a == b
  | .bl a, .int b => (if a then 1 else 0) == b
  | .int a, .bl b => a == (if b then 1 else 0)
  | .int a, .int b => a == b
  | .str a, .str b => a == b
  | _, _ => false
def seqD (s : S) : D → Option (List D)
  | .tup l => some l
  | .ctup l => some l
  | .clst l => some l
  | .ref n => match s[n]? with
    | some (.lst l) => some l
    | _ => none
  | _ => none
theorem Rp.flat {K : PySem.W.Frag} {ρ : List Addr} {H : Hp} {d : D} {v : V} (r : Rp K fa ρ H d v) (h : flatD d = true) : flatV v = true := by
  cases r <;> first | rfl | simp [flatD] at h
theorem Rp.eqF {K : PySem.W.Frag} {ρ : List Addr} {H : Hp} {d e : D} {v u : V} (r : Rp K fa ρ H d v) (q : Rp K fa ρ H e u) (h1 : flatD d = true) (h2 : flatD e = true) : eqV v u = Z.eqF d e := by
  cases r <;> cases q <;> first | rfl | simp [flatD] at h1 h2
theorem RpL.flat {K : PySem.W.Frag} {ρ : List Addr} {H : Hp} : ∀ {l : List D} {vs : List V}, RpL K fa ρ H l vs → l.all flatD = true → vs.all flatV = true
  | _, _, .nil, _ => rfl
  | _, _, .cons r t, h => by
    rw [List.all_cons, Bool.and_eq_true] at h ⊢
    exact ⟨r.flat h.1, RpL.flat t h.2⟩
theorem RpL.inV {K : PySem.W.Frag} {ρ : List Addr} {H : Hp} {d : D} {v : V} (r : Rp K fa ρ H d v) (hf : flatD d = true) : ∀ {l : List D} {vs : List V}, RpL K fa ρ H l vs → l.all flatD = true → L2.inV v vs = l.any (fun y => Z.eqF y d)
  | _, _, .nil, _ => rfl
  | _, _, .cons q t, h => by
    rw [List.all_cons, Bool.and_eq_true] at h
    have := RpL.inV r hf t h.2
    unfold L2.inV at this ⊢
    rw [List.any_cons, List.any_cons, this, q.eqF r h.1 hf]
theorem seq_of {K : PySem.W.Frag} {ρ : List Addr} {H : Hp} {s : S} {d : D} {v : V} {l : List D} (R : Rep K fa ρ H s) (r : Rp K fa ρ H d v) (e : seqD s d = some l) : ∃ p vs, v = .ref p ∧ (SqL K H p vs ∨ SqT K H p vs) ∧ RpL K fa ρ H l vs := by
  unfold seqD at e
  split at e
  · cases e
    cases r with
    | tup h q => exact ⟨_, _, rfl, .inr (SqT.of h), q⟩
  · cases e
    cases r with
    | ctup h q => exact ⟨_, _, rfl, .inr (h H), q⟩
  · cases e
    cases r with
    | clst h q =>
      rcases h with ⟨o, h⟩ | h
      · exact ⟨_, _, rfl, .inl (.inl (.inr ⟨o, h⟩)), q⟩
      · exact ⟨_, _, rfl, .inl (h H), q⟩
  · split at e
    · rename_i l0 e1
      cases e
      cases r with
      | ref h1 =>
        obtain ⟨a, vs, h3, h4, h5⟩ := R.lst e1
        cases h1.symm.trans h3
        exact ⟨_, _, rfl, .inl (SqL.of h4), h5⟩
    · cases e
  · cases e
def fIn (x y : D) (s : S) : Option (D × S) := match seqD s y with
  | some l => if flatD x = true ∧ l.all flatD = true then some (.bl (l.any fun z => eqF z x), s) else none
  | none => none
def fNotIn (x y : D) (s : S) : Option (D × S) := neg (fIn x y s)
theorem zo_in : ZR2 X fa (compareOp .In) fIn := by
  intro x y s d s' h
  unfold fIn at h
  split at h
  · rename_i l e
    split at h
    · rename_i hf
      cases h
      refine ⟨_, op_in_seq, fun ρ H v u Q R p q k => ?_⟩
      obtain ⟨a, vs, rfl, hs, hr⟩ := seq_of R q e
      refine ⟨a, vs, rfl, hs, p.flat hf.1, hr.flat hf.2, ?_⟩
      rw [if_neg Bool.false_ne_true, RpL.inV p hf.1 hr hf.2]
      exact k.now R (.bl _)
    · cases h
  · cases h
theorem zo_notIn : ZR2 X fa (compareOp .NotIn) fNotIn := by
  intro x y s d s' h
  unfold fNotIn neg fIn at h
  split at h
  · rename_i b0 s0 h0
    cases h
    split at h0
    · rename_i l e
      split at h0
      · rename_i hf
        cases h0
        refine ⟨_, op_notIn_seq, fun ρ H v u Q R p q k => ?_⟩
        obtain ⟨a, vs, rfl, hs, hr⟩ := seq_of R q e
        refine ⟨a, vs, rfl, hs, p.flat hf.1, hr.flat hf.2, ?_⟩
        rw [if_pos rfl, RpL.inV p hf.1 hr hf.2]
        exact k.now R (.bl _)
      · cases h0
    · cases h0
  · cases h
end
end Z
namespace Z
open PySem PySem.Spec PyProof.Rows L2

/-! ### calls -/
def eCall (f : List D → S → Option (D × S)) (a : MA) : M := fun en st => match a en st with
  | some (l, s) => f l s
  | none => none
theorem eCall_some {f : List D → S → Option (D × S)} {a : MA} {en : En} {st : S} {r : D × S} (h : eCall f a en st = some r) : ∃ l s, a en st = some (l, s) ∧ f l s = some r := by
  unfold eCall at h
  split at h
  · rename_i l s e
    exact ⟨l, s, e, h⟩
  · cases h
def ZC1 (X : Cx) (fa : Nat → Addr) (F : Value) (f : List D → S → Option (D × S)) : Prop :=
  ∀ ds s d s', f ds s = some (d, s') → ∃ r, CallR X F r ∧ ∀ ρ H vs Q, Rep X.K fa ρ H s → RpL X.K fa ρ H ds vs → After X.K fa ρ H s' d Q → r vs H Q
section
variable {X : Cx} {fa : Nat → Addr} {pos p : Pos} {x : Str} {e : Expr} {es : List Expr} {f : List D → S → Option (D × S)} {ma : MA}
theorem ze_callB {id : String} (hf : ZC1 X fa (.builtin id) f) (hg : Gl X x) (hm : X.mg x = none) (hv : bootBuiltins x = some (.builtin id)) (ha : PA X (e :: es) (tA X.K fa ma)) (hn : x ≠ "__name__" := by decide) (hdb : (x == ("__debug__" : Str)) = false := by decide)
    (he : starEach (e :: es) X.env = (false, eval e X.env) :: starEach es X.env := by rfl) (hpl : (backTo pos (starEach es X.env)).any (·.1) = false := by rfl) : PE X (.Call (.Name x p) (e :: es) [] pos) (tM X.K fa (eCall f ma)) := by
  refine ⟨fun pins s σ H Q I h => ?_⟩
  obtain ⟨ρ, st, en, d, st', R, E, e, k⟩ := h
  obtain ⟨l, s1, h1, h2⟩ := eCall_some e
  obtain ⟨r, hr, q⟩ := hf _ _ _ _ h2
  exact (pe_callB hr hg hm hv ha hn hdb he hpl).run pins s σ H Q I (tA_bind R E h1 fun vs H1 ρ1 B1 R1 p1 E1 => q ρ1 H1 vs Q R1 p1 (k.bey B1))
theorem ze_callTy {T : String} (hf : ZC1 X fa (.type T) f) (hg : Gl X x) (hm : X.mg x = none) (hv : bootBuiltins x = some (.type T)) (ha : PA X (e :: es) (tA X.K fa ma)) (hn : x ≠ "__name__" := by decide) (hdb : (x == ("__debug__" : Str)) = false := by decide)
    (he : starEach (e :: es) X.env = (false, eval e X.env) :: starEach es X.env := by rfl) (hpl : (backTo pos (starEach es X.env)).any (·.1) = false := by rfl) : PE X (.Call (.Name x p) (e :: es) [] pos) (tM X.K fa (eCall f ma)) := by
  refine ⟨fun pins s σ H Q I h => ?_⟩
  obtain ⟨ρ, st, en, d, st', R, E, e, k⟩ := h
  obtain ⟨l, s1, h1, h2⟩ := eCall_some e
  obtain ⟨r, hr, q⟩ := hf _ _ _ _ h2
  exact (pe_callTy hr hg hm hv ha hn hdb he hpl).run pins s σ H Q I (tA_bind R E h1 fun vs H1 ρ1 B1 R1 p1 E1 => q ρ1 H1 vs Q R1 p1 (k.bey B1))
/-- a def of the module -/
theorem ze_call {n k : Nat} {F : Addr} {fd : FuncData} {ps : List Str} (G : FnOk X.prog X.w X.K X.mg X.base CX0 k F fd ps (spM X.K fa f n)) (hr : Room k X.A) (hg : Gl X x) (hm : X.mg x = some (.ref F)) (hk : PySem.W.keepIn X.K (.ref F) = true) (hb : Binds X.K fd ps [])
    (ha : PA X (e :: es) (tA X.K fa ma)) (hn : (e :: es).length = n) (hlen : ∀ en st l s, ma en st = some (l, s) → l.length = n) (hdb : (x == ("__debug__" : Str)) = false := by decide) (he : starEach (e :: es) X.env = (false, eval e X.env) :: starEach es X.env := by rfl)
    (hpl : (backTo pos (starEach es X.env)).any (·.1) = false := by rfl) : PE X (.Call (.Name x p) (e :: es) [] pos) (tM X.K fa (eCall f ma)) := by
  refine ⟨fun pins s σ H Q I h => ?_⟩
  obtain ⟨ρ, st, en, d, st', R, E, e, k⟩ := h
  obtain ⟨l, s1, h1, h2⟩ := eCall_some e
  refine (pe_call (E := E0) G hr hg hm hk hb .nil pass0 ha hdb he hpl).run pins s σ H Q I (tA_bind R E h1 fun vs H1 ρ1 B1 R1 p1 E1 => ?_)
  show spM X.K fa f n (vs ++ []) H1 Q E0
  rw [List.append_nil]
  exact ⟨ρ1, s1, l, d, st', by rw [← p1.length]; exact hlen _ _ _ _ h1, R1, p1, h2, k.bey B1⟩
theorem len_nil : ∀ (en : En) (st : S) (l : List D) (s : S), aNil en st = some (l, s) → l.length = 0 := fun _ _ _ _ h => by cases h; rfl
theorem len_cons {m : M} {n : Nat} (hm : ∀ en st l s, ma en st = some (l, s) → l.length = n) : ∀ en st l s, aCons m ma en st = some (l, s) → l.length = n + 1 := fun en st l s h => by
  unfold aCons at h
  split at h
  · split at h
    · rename_i e2
      cases h
      rw [List.length_cons, hm _ _ _ _ e2]
    · cases h
  · cases h
end
def bLen : List D → S → Option (D × S)
  | [.str x], s => if x.length ≤ big then some (.int (x.length : Nat), s) else none
  | [d], s => match seqD s d with
    | some l => some (.int (l.length : Nat), s)
    | none => none
  | _, _ => none
def bAbs : List D → S → Option (D × S)
  | [.int i], s => some (.int (if i < 0 then -i else i), s)
  | _, _ => none
def bInt : List D → S → Option (D × S)
  | [.int i], s => some (.int i, s)
  | [.bl b], s => some (.int (if b then 1 else 0), s)
  | _, _ => none
def bList : List D → S → Option (D × S)
  | [d], s => match seqD s d with
    | some l => some (.ref s.length, s ++ [.lst l])
    | none => none
  | _, _ => none
def bTuple : List D → S → Option (D × S)
  | [.tup l], s => some (.tup l, s)
  | [.ref n], s => match s[n]? with
    | some (.lst l) => some (.tup l, s)
    | _ => none
  | [.clst l], s => some (.tup l, s)
  | _, _ => none
def tyD (s : S) : D → Option String
  | .non => some "NoneType"
  | .bl _ => some "bool"
  | .int _ => some "int"
  | .str _ => some "str"
  | .tup _ => some "tuple"
  | .ref n => match s[n]? with
    | some (.lst _) => some "list"
    | some (.dic _) => some "dict"
    | some (.dit _) => some "dict"
    | none => none
  | _ => none
def isT (s : S) (x : D) (T : String) : Option Bool := match tyD s x with
  | some t => kitB t T
  | none => none
def bIsi : List D → S → Option (D × S)
  | [x, .ty T], s => match isT s x T with
    | some b => some (.bl b, s)
    | none => none
  | _, _ => none
section
variable {X : Cx} {fa : Nat → Addr}
theorem zc_len : ZC1 X fa (.builtin "len") bLen := by
  intro ds s d s' h
  unfold bLen at h
  split at h
  · split at h
    · rename_i hl
      cases h
      refine ⟨_, call_len_str, fun ρ H vs Q R p k => ?_⟩
      cases p with
      | cons p1 p2 =>
        cases p1; cases p2
        exact ⟨_, rfl, Nat.le_trans hl big_le, k.now R (.int _)⟩
    · cases h
  · split at h
    · rename_i l e
      cases h
      refine ⟨_, call_len_seq, fun ρ H vs Q R p k => ?_⟩
      cases p with
      | cons p1 p2 =>
        cases p2
        obtain ⟨a, us, rfl, hs, hr⟩ := seq_of R p1 e
        exact ⟨_, _, rfl, hs, by rw [← hr.length]; exact k.now R (.int _)⟩
    · cases h
  · cases h
theorem zc_abs : ZC1 X fa (.builtin "abs") bAbs := by
  intro ds s d s' h
  unfold bAbs at h
  split at h
  · cases h
    refine ⟨_, call_abs, fun ρ H vs Q R p k => ?_⟩
    cases p with
    | cons p1 p2 =>
      cases p1; cases p2
      exact ⟨_, rfl, k.now R (.int _)⟩
  · cases h
theorem zc_int : ZC1 X fa (.type "int") bInt := by
  intro ds s d s' h
  unfold bInt at h
  split at h
  · cases h
    refine ⟨_, call_int1, fun ρ H vs Q R p k => ?_⟩
    cases p with
    | cons p1 p2 =>
      cases p1; cases p2
      exact .inl ⟨_, rfl, k.now R (.int _)⟩
  · cases h
    refine ⟨_, call_int1, fun ρ H vs Q R p k => ?_⟩
    cases p with
    | cons p1 p2 =>
      cases p1; cases p2
      exact .inr ⟨_, rfl, k.now R (.int _)⟩
  · cases h
theorem zc_list : ZC1 X fa (.type "list") bList := by
  intro ds s d s' h
  unfold bList at h
  split at h
  · split at h
    · rename_i l e
      cases h
      refine ⟨_, call_list_of, fun ρ H vs Q R p k => ?_⟩
      cases p with
      | cons p1 p2 =>
        cases p2
        obtain ⟨a, us, rfl, hs, hr⟩ := seq_of R p1 e
        exact ⟨_, _, rfl, hs, fun p np => k.lst R hr np⟩
    · cases h
  · cases h
theorem zc_tuple : ZC1 X fa (.type "tuple") bTuple := by
  intro ds s d s' h
  unfold bTuple at h
  split at h
  · cases h
    refine ⟨_, call_tuple_of, fun ρ H vs Q R p k => ?_⟩
    cases p with
    | cons p1 p2 =>
      cases p2
      cases p1 with
      | tup ha hr => exact ⟨_, _, rfl, .inr ⟨SqT.of ha, k.now R (.tup ha hr)⟩⟩
  · split at h
    · rename_i l e
      cases h
      refine ⟨_, call_tuple_of, fun ρ H vs Q R p k => ?_⟩
      cases p with
      | cons p1 p2 =>
        cases p2
        cases p1 with
        | ref h1 =>
          obtain ⟨a, vs, h3, h4, h5⟩ := R.lst e
          cases h1.symm.trans h3
          exact ⟨_, _, rfl, .inl ⟨SqL.of h4, fun p np => k.tup R h5 np⟩⟩
    · cases h
  · cases h
    refine ⟨_, call_tuple_of, fun ρ H vs Q R p k => ?_⟩
    cases p with
    | cons p1 p2 =>
      cases p2
      cases p1 with
      | clst h q =>
        refine ⟨_, _, rfl, .inl ⟨?_, fun p np => k.tup R q np⟩⟩
        rcases h with ⟨o, h⟩ | h
        · exact .inl (.inr ⟨o, h⟩)
        · exact h H
  · cases h
theorem tyX_of {K : PySem.W.Frag} {ρ : List Addr} {H : Hp} {s : S} {d : D} {v : V} {t : String} (R : Rep K fa ρ H s) (r : Rp K fa ρ H d v) (e : tyD s d = some t) : TyX K H v (.type t) := by
  unfold tyD at e
  split at e
  · cases e; cases r; exact .base .non
  · cases e; cases r; exact .base (.bl _)
  · cases e; cases r; exact .base (.int _)
  · cases e; cases r; exact .base (.str _)
  · cases e
    cases r with
    | tup h q => exact .base (.tup h)
  · split at e
    · rename_i l e1
      cases e
      cases r with
      | ref h1 =>
        obtain ⟨a, vs, h3, h4, h5⟩ := R.lst e1
        cases h1.symm.trans h3
        exact .base (.lst h4)
    · rename_i l e1
      cases e
      cases r with
      | ref h1 =>
        obtain ⟨a, ho, h3, h4, h5⟩ := R.obj e1
        cases h1.symm.trans h3
        cases h5 with
        | dK _ _ => exact .base (.dK h4)
    · rename_i l e1
      cases e
      cases r with
      | ref h1 =>
        obtain ⟨a, ho, h3, h4, h5⟩ := R.obj e1
        cases h1.symm.trans h3
        cases h5 with
        | dT _ _ => exact .base (.dT h4)
    · cases e
  · cases e
theorem zc_isi : ZC1 X fa (.builtin "isinstance") bIsi := by
  intro ds s d s' h
  unfold bIsi isT at h
  split at h
  · split at h
    · rename_i b e
      cases h
      split at e
      · rename_i t e1
        refine ⟨_, call_isi, fun ρ H vs Q R p k => ?_⟩
        cases p with
        | cons p1 p2 =>
          cases p2 with
          | cons p3 p4 =>
            cases p3; cases p4
            exact ⟨_, _, _, _, _, rfl, .ty _, tyX_of R p1 e1, kit_ty e, k.now R (.bl _)⟩
      · cases e
    · cases h
  · cases h

/-! ### subscripts -/
def atD (l : List D) (i : Int) : Option D := (ixN l.length i).bind fun j => l[j]?
theorem RpL.at_ {K : PySem.W.Frag} {ρ : List Addr} {H : Hp} {l : List D} {vs : List V} {i : Int} {d : D} (r : RpL K fa ρ H l vs) (e : atD l i = some d) : ∃ v, atI vs i = some v ∧ Rp K fa ρ H d v := by
  unfold atD at e
  unfold atI
  rw [← r.length]
  cases q : ixN l.length i with
  | none => rw [q] at e; cases e
  | some j =>
    rw [q] at e
    exact r.get e
/-- a dict's entry -/
def eqK1 : D → D → Bool
  | .int i, .int j => decide (i = j)
  | .str i, .str j => decide (i = j)
  | _, _ => false
def eqKL : List D → List D → Bool
  | [], [] => true
  | x :: xs, y :: ys => eqK1 x y && eqKL xs ys
  | _, _ => false
def eqK : D → D → Bool
  | .tup l, .tup m => eqKL l m
  | x, y => eqK1 x y
def dLook (l : List (D × D)) (k : D) : Option D := (l.find? fun p => eqK p.1 k).map (·.2)
def dPut (l : List (D × D)) (k v : D) : List (D × D) := if (l.any fun p => eqK p.1 k) = true then l.map fun p => if eqK p.1 k = true then (p.1, v) else p else l ++ [(k, v)]
theorem keyD_kV {K : PySem.W.Frag} {ρ : List Addr} {H : Hp} {d : D} {v : V} {k : Key} (r : Rp K fa ρ H d v) (e : keyD d = some k) : v = kV k := by
  cases d <;> simp only [keyD] at e <;> cases e <;> cases r <;> rfl
theorem eqK1_iff {d e : D} {k j : Key} (h1 : keyD d = some k) (h2 : keyD e = some j) : eqK1 d e = decide (k = j) := by
  cases d <;> simp only [keyD] at h1 <;> cases h1 <;> cases e <;> simp only [keyD] at h2 <;> cases h2 <;> simp [eqK1]
theorem eqK_iff {d e : D} {k j : Key} (h1 : keyD d = some k) (h2 : keyD e = some j) : eqK d e = decide (k = j) := by
  have : eqK d e = eqK1 d e := by cases d <;> first | rfl | (simp only [keyD] at h1; cases h1)
  rw [this, eqK1_iff h1 h2]
theorem eqKL_iff : ∀ {l m : List D} {k j : List Key}, keysD l = some k → keysD m = some j → eqKL l m = decide (k = j)
  | [], [], _, _, h1, h2 => by cases h1; cases h2; rfl
  | [], y :: ys, _, _, h1, h2 => by
    simp only [keysD] at h1 h2
    cases h1
    split at h2
    · cases h2; rfl
    · cases h2
  | x :: xs, [], _, _, h1, h2 => by
    simp only [keysD] at h1 h2
    cases h2
    split at h1
    · cases h1; rfl
    · cases h1
  | x :: xs, y :: ys, _, _, h1, h2 => by
    simp only [keysD] at h1 h2
    split at h1
    · rename_i a as e1 e2
      cases h1
      split at h2
      · rename_i b bs e3 e4
        cases h2
        unfold eqKL
        rw [eqK1_iff e1 e3, eqKL_iff e2 e4, ← Bool.decide_and]
        simp
      · cases h2
    · cases h1
theorem eqKT_iff {d e : D} {k j : List Key} (h1 : keyT d = some k) (h2 : keyT e = some j) : eqK d e = decide (k = j) := by
  cases d <;> simp only [keyT] at h1 <;> first | cases h1 | skip
  cases e <;> simp only [keyT] at h2 <;> first | cases h2 | skip
  exact eqKL_iff h1 h2
theorem keysD_kV {K : PySem.W.Frag} {ρ : List Addr} {H : Hp} : ∀ {l : List D} {vs : List V} {k : List Key}, RpL K fa ρ H l vs → keysD l = some k → vs = k.map kV
  | _, _, _, .nil, e => by cases e; rfl
  | _, _, _, .cons r t, e => by
    simp only [keysD] at e
    split at e
    · rename_i e1 e2
      cases e
      rw [List.map_cons, keyD_kV r e1, keysD_kV t e2]
    · cases e
def OptR (K : PySem.W.Frag) (fa : Nat → Addr) (ρ : List Addr) (H : Hp) : Option D → Option V → Prop
  | some d, o => ∃ v, o = some v ∧ Rp K fa ρ H d v
  | none, o => o = none
section
variable {κ : Type} [DecidableEq κ] {kf : D → Option κ}
theorem look_of (heq : ∀ {d e : D} {k j : κ}, kf d = some k → kf e = some j → eqK d e = decide (k = j)) {K : PySem.W.Frag} {ρ : List Addr} {H : Hp} {y : D} {k : κ} (hy : kf y = some k) : ∀ {l : List (D × D)} {ks : List κ} {vs : List V}, l.map (fun p => kf p.1) = ks.map some → RpL K fa ρ H (l.map (·.2)) vs →
    OptR K fa ρ H (dLook l y) (valV (ks.zip vs) k)
  | [], ks, vs, h1, h2 => by
    cases ks with
    | nil => rfl
    | cons _ _ => cases h1
  | (q, d) :: l, ks, vs, h1, h2 => by
    cases ks with
    | nil => cases h1
    | cons j ks =>
      cases h2 with
      | cons r t =>
        rename_i v vs
        simp only [List.map_cons, List.cons.injEq] at h1
        have e := heq h1.1 hy
        have ih := look_of heq hy h1.2 t
        unfold dLook at ih ⊢
        rw [List.find?_cons, e, List.zip_cons_cons]
        by_cases hj : j = k
        · rw [decide_eq_true hj]
          exact ⟨v, valV_pos hj, r⟩
        · rw [decide_eq_false hj]
          rw [valV_neg hj]
          exact ih
theorem put_of (heq : ∀ {d e : D} {k j : κ}, kf d = some k → kf e = some j → eqK d e = decide (k = j)) {K : PySem.W.Frag} {ρ : List Addr} {H : Hp} {y d : D} {k : κ} {v : V} {l : List (D × D)} {ks : List κ} {vs : List V} (hy : kf y = some k) (r : Rp K fa ρ H d v) (h1 : l.map (fun p => kf p.1) = ks.map some) (h2 : RpL K fa ρ H (l.map (·.2)) vs) :
    ∃ (ks' : List κ) (vs' : List V), putK (ks.zip vs) k v = ks'.zip vs' ∧ (dPut l y d).map (fun p => kf p.1) = ks'.map some ∧ RpL K fa ρ H ((dPut l y d).map (·.2)) vs' := by
  have any_eq : ∀ {l : List (D × D)} {ks : List κ} {vs : List V}, l.map (fun p => kf p.1) = ks.map some → RpL K fa ρ H (l.map (·.2)) vs → (l.any fun p => eqK p.1 y) = ((ks.zip vs).any fun kv => decide (kv.1 = k)) := by
    intro l
    induction l with
    | nil => intro ks vs h1 h2; cases ks with
      | nil => rfl
      | cons _ _ => cases h1
    | cons p l ih =>
      intro ks vs h1 h2
      cases ks with
      | nil => cases h1
      | cons j ks =>
        cases h2 with
        | cons r t =>
          simp only [List.map_cons, List.cons.injEq] at h1
          rw [List.any_cons, List.zip_cons_cons, List.any_cons, heq h1.1 hy, ih h1.2 t]
  unfold dPut putK
  rw [any_eq h1 h2]
  by_cases hb : ((ks.zip vs).any fun kv => decide (kv.1 = k)) = true
  · rw [if_pos hb, if_pos hb]
    have : ∀ {l : List (D × D)} {ks : List κ} {vs : List V}, l.map (fun p => kf p.1) = ks.map some → RpL K fa ρ H (l.map (·.2)) vs →
        ∃ vs', (ks.zip vs).map (fun kv => if kv.1 = k then (kv.1, v) else kv) = ks.zip vs' ∧ (l.map fun p => if eqK p.1 y = true then (p.1, d) else p).map (fun p => kf p.1) = ks.map some ∧ RpL K fa ρ H ((l.map fun p => if eqK p.1 y = true then (p.1, d) else p).map (·.2)) vs' := by
      intro l
      induction l with
      | nil => intro ks vs h1 h2; cases ks with
        | nil => exact ⟨[], rfl, rfl, .nil⟩
        | cons _ _ => cases h1
      | cons p l ih =>
        intro ks vs h1 h2
        cases ks with
        | nil => cases h1
        | cons j ks =>
          cases h2 with
          | cons r' t =>
            rename_i v' vs
            simp only [List.map_cons, List.cons.injEq] at h1
            obtain ⟨vs', e1, e2, e3⟩ := ih h1.2 t
            by_cases hj : j = k
            · refine ⟨v :: vs', ?_, ?_, ?_⟩
              · rw [List.zip_cons_cons, List.map_cons, e1, if_pos hj, List.zip_cons_cons]
              · rw [List.map_cons, List.map_cons, e2, heq h1.1 hy, decide_eq_true hj]
                simp [h1.1]
              · rw [List.map_cons, List.map_cons, heq h1.1 hy, decide_eq_true hj]
                exact .cons r e3
            · refine ⟨v' :: vs', ?_, ?_, ?_⟩
              · rw [List.zip_cons_cons, List.map_cons, e1, if_neg hj, List.zip_cons_cons]
              · rw [List.map_cons, List.map_cons, e2, heq h1.1 hy, decide_eq_false hj]
                simp [h1.1]
              · rw [List.map_cons, List.map_cons, heq h1.1 hy, decide_eq_false hj]
                exact .cons r' e3
    obtain ⟨vs', e1, e2, e3⟩ := this h1 h2
    exact ⟨ks, vs', e1, e2, e3⟩
  · rw [if_neg hb, if_neg hb]
    have hl : ks.length = vs.length := by
      have := congrArg List.length h1
      rw [List.length_map, List.length_map] at this
      rw [← this, ← h2.length, List.length_map]
    refine ⟨ks ++ [k], vs ++ [v], ?_, ?_, ?_⟩
    · rw [List.zip_append hl]
      rfl
    · rw [List.map_append, List.map_append, h1]
      simp [hy]
    · rw [List.map_append]
      exact h2.append (.cons r .nil)
end
/-- the entry at y of what stands at n: a dict -/
def getD (s : S) (n : Nat) (y : D) : Option (Option D) := match s[n]? with
  | some (.dic l) => match keyD y with
    | some _ => some (dLook l y)
    | none => none
  | some (.dit l) => match keyT y with
    | some _ => some (dLook l y)
    | none => none
  | _ => none
theorem getD_of {K : PySem.W.Frag} {ρ : List Addr} {H : Hp} {s : S} {n : Nat} {y : D} {u : V} {r : Option D} {a : Addr} (R : Rep K fa ρ H s) (h : ρ[n]? = some a) (q : Rp K fa ρ H y u) (e : getD s n y = some r) :
    ∃ o, DGet H a u o ∧ OptR K fa ρ H r o := by
  unfold getD at e
  split at e
  · rename_i l e1
    split at e
    · rename_i k hk
      obtain ⟨a', ho, h4, h5, h6⟩ := R.obj e1
      cases h.symm.trans h4
      cases h6 with
      | dK q1 q2 =>
        have w := look_of (kf := keyD) eqK_iff hk q1 q2
        cases keyD_kV q hk
        refine ⟨_, DGet.k h5, ?_⟩
        cases e
        exact w
    · cases e
  · rename_i l e1
    split at e
    · rename_i k hk
      obtain ⟨a', ho, h4, h5, h6⟩ := R.obj e1
      cases h.symm.trans h4
      cases h6 with
      | dT q1 q2 =>
        have w := look_of (kf := keyT) eqKT_iff hk q1 q2
        cases q with
        | tup g t =>
          cases keysD_kV t hk
          refine ⟨_, DGet.t h5 g, ?_⟩
          cases e
          exact w
        | _ => simp [keyT] at hk
    · cases e
  · cases e
def fIx : D → D → S → Option (D × S)
  | .str z, .int i, s => if z.length ≤ big then match (ixN z.cps.toList.length i).bind fun j => z.cps.toList[j]? with
      | some c => some (.str ⟨#[c]⟩, s)
      | none => none
    else none
  | x, y, s => match seqD s x with
    | some l => match y with
      | .int i => match atD l i with
        | some d => some (d, s)
        | none => none
      | _ => none
    | none => match x with
      | .ref n => match getD s n y with
        | some (some d) => some (d, s)
        | _ => none
      | _ => none
end
section
variable {X : Cx} {fa : Nat → Addr} {pos : Pos} {a b : Expr} {ma mb : M}
theorem ix_of {K : PySem.W.Frag} {ρ : List Addr} {H : Hp} {s : S} {x d : D} {v : V} {l : List D} {i : Int} {Q : VK} (R : Rep K fa ρ H s) (r : Rp K fa ρ H x v) (e : seqD s x = some l) (e2 : atD l i = some d) (k : After K fa ρ H s d Q) : rIx K v (.int i) H Q := by
  obtain ⟨a, us, rfl, hs, hr⟩ := seq_of R r e
  obtain ⟨w, h1, h2⟩ := hr.at_ e2
  rcases hs with hs | hs
  · exact .inl ⟨_, _, _, _, rfl, rfl, hs, h1, k.now R h2⟩
  · exact .inr (.inl ⟨_, _, _, _, rfl, rfl, hs, h1, k.now R h2⟩)
theorem ze_ix (hu : X.A.units + 1 < cLine) (ha : PE X a (tM X.K fa ma)) (hb : PE X b (tM X.K fa mb)) (hs : PlainIx b := by exact fun _ _ => rfl) : PE X (.Subscript a b pos) (tM X.K fa (eBin fIx ma mb)) := by
  refine ⟨fun pins s σ H Q I h => ?_⟩
  obtain ⟨ρ, st, en, d, st', R, E, e, k⟩ := h
  obtain ⟨x, s1, y, s2, h1, h2, h3⟩ := eBin_some e
  unfold fIx at h3
  split at h3
  · split at h3
    · rename_i hl
      split at h3
      · rename_i c hc
        cases h3
        refine (pe_ix ix_str ha hb hs).run pins s σ H Q I (tOp_of R E h1 h2 (fun ρ H v u Q R p q k => ?_) k)
        cases p; cases q
        exact ⟨_, _, c, rfl, rfl, Nat.le_trans hl big_le, hc, k.now R (.str _)⟩
      · cases h3
    · cases h3
  · split at h3
    · rename_i l e1
      split at h3
      · split at h3
        · rename_i d' e2
          cases h3
          refine (pe_ix ix_seq ha hb hs).run pins s σ H Q I (tOp_of R E h1 h2 (fun ρ H v u Q R p q k => ?_) k)
          cases q
          exact ix_of R p e1 e2 k
        · cases h3
      · cases h3
    · split at h3
      · split at h3
        · rename_i d' e2
          cases h3
          refine (pe_dget hu ha hb hs).run pins s σ H Q I (tM_bind R E h1 fun v H1 ρ1 B1 R1 p1 E1 => tM_bind R1 E1 h2 fun u H2 ρ2 B2 R2 p2 E2 => ?_)
          have p3 := p1.bey B2
          cases p3 with
          | ref h3 =>
            obtain ⟨o, g1, w, rfl, g2⟩ := getD_of R2 h3 p2 e2
            exact ⟨_, w, rfl, g1, k w H2 ρ2 (B1.trans B2) R2 g2⟩
        · cases h3
      · cases h3

/-! ### slices -/
abbrev MO := En → S → Option (Option Int × S)
def oNo : MO := fun _ s => some (none, s)
def oSo (m : M) : MO := fun en s => match m en s with
  | some (.int i, s) => some (some i, s)
  | _ => none
def cutD (l : List D) (lo hi : Option Int) : List D := (l.drop (HT.sIx l.length 0 lo)).take (HT.sIx l.length l.length hi - HT.sIx l.length 0 lo)
def fSl : D → Option Int → Option Int → S → Option (D × S)
  | .tup l, lo, hi, s => some (.tup (cutD l lo hi), s)
  | .str x, lo, hi, s => if x.length ≤ big then some (.str (cutS x lo hi), s) else none
  | .ref n, lo, hi, s => match s[n]? with
    | some (.lst l) => some (.ref s.length, s ++ [.lst (cutD l lo hi)])
    | _ => none
  | _, _, _, _ => none
def eSl (m : M) (lo hi : MO) : M := fun en st => match m en st with
  | some (x, s1) => match lo en s1 with
    | some (l, s2) => match hi en s2 with
      | some (h, s3) => fSl x l h s3
      | none => none
    | none => none
  | none => none
theorem RpL.cut {K : PySem.W.Frag} {ρ : List Addr} {H : Hp} {l : List D} {vs : List V} (r : RpL K fa ρ H l vs) (lo hi : Option Int) : RpL K fa ρ H (cutD l lo hi) (cutV vs lo hi) := by
  unfold cutD cutV
  rw [r.length]
  exact (r.drop _).take _
theorem cutD_whole {l : List D} {lo hi : Option Int} (h : HT.sIx l.length 0 lo = 0 ∧ HT.sIx l.length l.length hi = l.length) : cutD l lo hi = l := by
  unfold cutD
  rw [h.1, h.2, Nat.sub_zero, List.drop_zero, List.take_length]
def tO (K : PySem.W.Frag) (fa : Nat → Addr) (m : MO) : L2.St → Hp → (Option Int → Hp → Prop) → Prop := fun σ H Q => ∃ ρ st en d st', Rep K fa ρ H st ∧ REnv K fa ρ H en σ ∧ m en st = some (d, st') ∧ ∀ H' ρ', Bey ρ H ρ' H' → Rep K fa ρ' H' st' → Q d H'
theorem zp_no : PO X none (tO X.K fa oNo) := ⟨fun pins s σ H Q I h => po_none.run pins s σ H Q I (by
  obtain ⟨ρ, st, en, d, st', R, E, e, k⟩ := h
  cases e
  exact k H ρ Bey.refl R)⟩
theorem zp_so (ha : PE X a (tM X.K fa ma)) : PO X (some a) (tO X.K fa (oSo ma)) := ⟨fun pins s σ H Q I h => (po_some ha).run pins s σ H Q I (by
  obtain ⟨ρ, st, en, d, st', R, E, e, k⟩ := h
  unfold oSo at e
  split at e
  · rename_i i s1 e1
    cases e
    refine tM_bind R E e1 fun v H1 ρ1 B1 R1 p1 E1 => ?_
    cases p1
    exact ⟨i, rfl, k H1 ρ1 B1 R1⟩
  · cases e)⟩
theorem ze_sl {lo hi : Option Expr} {ml mh : MO} {p2 : Pos} (ha : PE X a (tM X.K fa ma)) (hl : PO X lo (tO X.K fa ml)) (hh : PO X hi (tO X.K fa mh)) : PE X (.Subscript a (.Slice lo hi none p2) pos) (tM X.K fa (eSl ma ml mh)) := by
  refine ⟨fun pins s σ H Q I h => ?_⟩
  obtain ⟨ρ, st, en, d, st', R, E, e, k⟩ := h
  unfold eSl at e
  split at e
  · rename_i x s1 e1
    split at e
    · rename_i l s2 e2
      split at e
      · rename_i u s3 e3
        have go : ∀ (r : V → Option Int → Option Int → Hp → VK → Prop), (∀ ρ H v Q, Rep X.K fa ρ H s3 → Rp X.K fa ρ H x v → After X.K fa ρ H st' d Q → r v l u H Q) → L2.tSl r (tM X.K fa ma) (tO X.K fa ml) (tO X.K fa mh) σ H Q := fun r q =>
          tM_bind R E e1 fun v H1 ρ1 B1 R1 p1 E1 => ⟨ρ1, s1, en, l, s2, R1, E1, e2, fun H2 ρ2 B2 R2 => ⟨ρ2, s2, en, u, s3, R2, E1.bey B2, e3, fun H3 ρ3 B3 R3 => q ρ3 H3 v Q R3 ((p1.bey B2).bey B3) (k.bey ((B1.trans B2).trans B3))⟩⟩
        unfold fSl at e
        split at e
        · cases e
          refine (pe_slice sl_tupA ha hl hh).run pins s σ H Q I (go _ fun ρ H v Q R p k => ?_)
          cases p with
          | tup h q =>
            refine ⟨_, _, rfl, SqT.of h, fun hw => ?_, fun hw p np => k.tup R (q.cut _ _) np⟩
            rw [← q.length] at hw
            rw [cutD_whole hw] at k
            exact k.now R (.tup h q)
        · split at e
          · rename_i hx
            cases e
            refine (pe_slice sl_str ha hl hh).run pins s σ H Q I (go _ fun ρ H v Q R p k => ?_)
            cases p
            exact ⟨_, rfl, Nat.le_trans hx big_le, k.now R (.str _)⟩
          · cases e
        · split at e
          · rename_i l0 e0
            cases e
            refine (pe_slice sl_list ha hl hh).run pins s σ H Q I (go _ fun ρ H v Q R p k => ?_)
            cases p with
            | ref h1 =>
              obtain ⟨a, vs, h3, h4, h5⟩ := R.lst e0
              cases h1.symm.trans h3
              exact ⟨_, _, rfl, SqL.of h4, fun p np => k.lst R (h5.cut _ _) np⟩
          · cases e
        · cases e
      · cases e
    · cases e
  · cases e
/-- -a -/
def eNeg (m : M) : M := fun en st => match m en st with
  | some (.int i, s) => some (.int (-i), s)
  | _ => none
theorem ze_neg (ha : PE X a (tM X.K fa ma)) : PE X (.UnaryOp .USub a pos) (tM X.K fa (eNeg ma)) := by
  refine ⟨fun pins s σ H Q I h => (pe_un un_neg ha).run pins s σ H Q I ?_⟩
  obtain ⟨ρ, st, en, d, st', R, E, e, k⟩ := h
  unfold eNeg at e
  split at e
  · rename_i i s1 e1
    cases e
    refine tM_bind R E e1 fun v H1 ρ1 B1 R1 p1 E1 => ?_
    cases p1
    exact ⟨i, rfl, k _ H1 ρ1 B1 R1 (.int _)⟩
  · cases e
end
end Z
namespace Z
open PySem PySem.Spec PyProof.Rows L2

/-! ### methods of lists -/
def isL (s : S) : D → Bool
  | .ref n => match s[n]? with
    | some (.lst _) => true
    | _ => false
  | _ => false
def eMeth (f : D → List D → S → Option (D × S)) (m : M) (a : MA) : M := fun en st => match m en st with
  | some (x, s1) => if isL s1 x = true then match a en s1 with
    | some (l, s2) => f x l s2
    | none => none
    else none
  | none => none
def eMeth0 (f : D → List D → S → Option (D × S)) (m : M) : M := fun en st => match m en st with
  | some (x, s1) => if isL s1 x = true then f x [] s1 else none
  | none => none
def ZM1 (X : Cx) (fa : Nat → Addr) (id : String) (f : D → List D → S → Option (D × S)) : Prop :=
  ∀ x ds s d s', f x ds s = some (d, s') → ∃ r, MtR X id r ∧ ∀ ρ H v vs Q, Rep X.K fa ρ H s → Rp X.K fa ρ H x v → RpL X.K fa ρ H ds vs → After X.K fa ρ H s' d Q → r v vs H Q
theorem isL_ty {K : PySem.W.Frag} {fa : Nat → Addr} {ρ : List Addr} {H : Hp} {s : S} {x : D} {v : V} (R : Rep K fa ρ H s) (r : Rp K fa ρ H x v) (h : isL s x = true) : tyV K "list" v H := by
  unfold isL at h
  split at h
  · split at h
    · rename_i l e
      cases r with
      | ref h1 =>
        obtain ⟨a, vs, h3, h4, h5⟩ := R.lst e
        cases h1.symm.trans h3
        exact .inl ⟨rfl, _, SqL.of h4⟩
    · cases h
  · cases h
section
variable {X : Cx} {fa : Nat → Addr} {o e : Expr} {es : List Expr} {m : M} {ma : MA} {name : Str} {apos cpos : Pos} {id : String} {f : D → List D → S → Option (D × S)}
theorem ze_meth (slot : Slot "list" name id) (hty : typeOf (.builtin id) = pure (.type "method_descriptor")) (hm : ZM1 X fa id f) (ho : PE X o (tM X.K fa m)) (ha : PA X (e :: es) (tA X.K fa ma))
    (hbase : attributeBase o name X.env (eval o X.env) = eval o X.env := by rfl)
    (hfew : ((backTo cpos (starEach (e :: es) X.env)).all (fun x => !x.1) && (backToKw cpos (keywordEach [] X.env)).all (fun x => x.1.isSome)
      && decide ((e :: es).length + ([] : List Keyword).length + (if ([] : List Keyword).isEmpty then 0 else 1) < 30)) = true := by rfl)
    (hline : (apos.endLine == cpos.line) = true := by rfl) (hs : starEach (e :: es) X.env = (false, eval e X.env) :: starEach es X.env := by rfl) (hplain : (backTo cpos (starEach es X.env)).any (·.1) = false := by rfl) :
    PE X (.Call (.Attribute o name apos) (e :: es) [] cpos) (tM X.K fa (eMeth f m ma)) := by
  refine ⟨fun pins s σ H Q I h => ?_⟩
  obtain ⟨ρ, st, en, d, st', R, E, e, k⟩ := h
  unfold eMeth at e
  split at e
  · rename_i x s1 e1
    split at e
    · rename_i hL
      split at e
      · rename_i l s2 e2
        obtain ⟨r, hr, q⟩ := hm _ _ _ _ _ e
        exact (pe_bm PySem.F.plainAttrs_list slot hty hr ho ha hbase hfew hline hs hplain).run pins s σ H Q I (tM_bind R E e1 fun v H1 ρ1 B1 R1 p1 E1 => ⟨isL_ty R1 p1 hL, tA_bind R1 E1 e2 fun vs H2 ρ2 B2 R2 p2 E2 =>
          q ρ2 H2 v vs Q R2 (p1.bey B2) p2 (k.bey (B1.trans B2))⟩)
      · cases e
    · cases e
  · cases e
theorem ze_meth0 (slot : Slot "list" name id) (hty : typeOf (.builtin id) = pure (.type "method_descriptor")) (hm : ZM1 X fa id f) (ho : PE X o (tM X.K fa m))
    (hbase : attributeBase o name X.env (eval o X.env) = eval o X.env := by rfl) (hline : (apos.endLine == cpos.line) = true := by rfl) : PE X (.Call (.Attribute o name apos) [] [] cpos) (tM X.K fa (eMeth0 f m)) := by
  refine ⟨fun pins s σ H Q I h => ?_⟩
  obtain ⟨ρ, st, en, d, st', R, E, e, k⟩ := h
  unfold eMeth0 at e
  split at e
  · rename_i x s1 e1
    split at e
    · rename_i hL
      obtain ⟨r, hr, q⟩ := hm _ _ _ _ _ e
      exact (pe_bm0 PySem.F.plainAttrs_list slot hty hr ho hbase hline).run pins s σ H Q I (tM_bind R E e1 fun v H1 ρ1 B1 R1 p1 E1 => ⟨isL_ty R1 p1 hL, q ρ1 H1 v [] Q R1 p1 .nil (k.bey B1)⟩)
    · cases e
  · cases e
end
def mAppend : D → List D → S → Option (D × S)
  | .ref n, [y], s => match s[n]? with
    | some (.lst l) => if l.length < big then some (.non, s.set n (.lst (l ++ [y]))) else none
    | _ => none
  | _, _, _ => none
def mInsert : D → List D → S → Option (D × S)
  | .ref n, [.int i, y], s => match s[n]? with
    | some (.lst l) => if l.length < big ∧ 0 ≤ i ∧ i < 2 ^ 63 then some (.non, s.set n (.lst (l.take i.toNat ++ [y] ++ l.drop i.toNat))) else none
    | _ => none
  | _, _, _ => none
def mPop : D → List D → S → Option (D × S)
  | .ref n, [], s => match s[n]? with
    | some (.lst l) => match l[l.length - 1]? with
      | some y => some (y, s.set n (.lst l.dropLast))
      | none => none
    | _ => none
  | _, _, _ => none
def mExtend : D → List D → S → Option (D × S)
  | .ref n, [.ref m], s => match s[n]?, s[m]? with
    | some (.lst l), some (.lst k) => if l.length + k.length ≤ big then some (.non, s.set n (.lst (l ++ k))) else none
    | _, _ => none
  | _, _, _ => none
section
variable {X : Cx} {fa : Nat → Addr}
theorem After.set {K : PySem.W.Frag} {ρ : List Addr} {H : Hp} {s : S} {n : Nat} {a : Addr} {o : O} {ho : HO} {d : D} {v : V} {Q : VK} (k : After K fa ρ H (s.set n o) d Q) (R : Rep K fa ρ H s) (h : ρ[n]? = some a) (x : Ext H (upd H a ho)) (r : RpO K fa ρ H o ho) (q : Rp K fa ρ H d v) : Q v (upd H a ho) :=
  k v _ ρ (Bey.set h x) (R.set h x r) (q.bey (Bey.set h x))
theorem zm_append : ZM1 X fa "list.append" mAppend := by
  intro x ds s d s' h
  unfold mAppend at h
  split at h
  · split at h
    · rename_i l e
      split at h
      · rename_i hl
        cases h
        refine ⟨_, mt_append, fun ρ H v vs Q R p q k => ?_⟩
        cases p with
        | ref h1 => cases q with
          | cons q1 q2 =>
            cases q2
            obtain ⟨a, us, h3, h4, h5⟩ := R.lst e
            cases h1.symm.trans h3
            exact ⟨_, _, _, rfl, rfl, h4, by rw [← h5.length]; exact big_lt hl, k.set R h1 (Ext.lst h4) (.lst (h5.append (.cons q1 .nil))) .non⟩
      · cases h
    · cases h
  · cases h
theorem zm_insert : ZM1 X fa "list.insert" mInsert := by
  intro x ds s d s' h
  unfold mInsert at h
  split at h
  · split at h
    · rename_i l e
      split at h
      · rename_i hl
        cases h
        refine ⟨_, mt_insert, fun ρ H v vs Q R p q k => ?_⟩
        cases p with
        | ref h1 => cases q with
          | cons q0 q => cases q with
            | cons q1 q2 =>
              cases q2; cases q0
              obtain ⟨a, us, h3, h4, h5⟩ := R.lst e
              cases h1.symm.trans h3
              exact ⟨_, _, _, _, rfl, rfl, h4, by rw [← h5.length]; exact big_lt hl.1, hl.2.1, hl.2.2, k.set R h1 (Ext.lst h4) (.lst (((h5.take _).append (.cons q1 .nil)).append (h5.drop _))) .non⟩
      · cases h
    · cases h
  · cases h
theorem zm_pop : ZM1 X fa "list.pop" mPop := by
  intro x ds s d s' h
  unfold mPop at h
  split at h
  · split at h
    · rename_i l e
      split at h
      · rename_i y hy
        cases h
        refine ⟨_, mt_pop, fun ρ H v vs Q R p q k => ?_⟩
        cases p with
        | ref h1 =>
          cases q
          obtain ⟨a, us, h3, h4, h5⟩ := R.lst e
          cases h1.symm.trans h3
          obtain ⟨w, g1, g2⟩ := h5.get hy
          exact ⟨_, _, w, rfl, rfl, h4, by rw [← h5.length]; exact g1, k.set R h1 (Ext.lst h4) (.lst h5.dropLast) g2⟩
      · cases h
    · cases h
  · cases h
theorem zm_extend : ZM1 X fa "list.extend" mExtend := by
  intro x ds s d s' h
  unfold mExtend at h
  split at h
  · split at h
    · rename_i l k e e2
      split at h
      · rename_i hl
        cases h
        refine ⟨_, mt_extend, fun ρ H v vs Q R p q k => ?_⟩
        cases p with
        | ref h1 => cases q with
          | cons q1 q2 =>
            cases q2
            cases q1 with
            | ref h2 =>
              obtain ⟨a, us, h3, h4, h5⟩ := R.lst e
              cases h1.symm.trans h3
              obtain ⟨b, ws, h6, h7, h8⟩ := R.lst e2
              cases h2.symm.trans h6
              exact ⟨_, _, _, _, rfl, rfl, h4, h7, by rw [← h5.length, ← h8.length]; exact Nat.le_trans hl big_le, k.set R h1 (Ext.lst h4) (.lst (h5.append h8)) .non⟩
      · cases h
    · cases h
  · cases h
end

/-! ### dicts -/
def isDic (s : S) (n : Nat) : Bool := match s[n]? with
  | some (.dic _) => true
  | some (.dit _) => true
  | _ => false
/-- d.get(k, x) -/
def eGet2 (md mk mx : M) : M := fun en st => match md en st with
  | some (.ref n, s1) => if isDic s1 n = true then match mk en s1 with
    | some (y, s2) => match mx en s2 with
      | some (z, s3) => match getD s3 n y with
        | some (some d) => some (d, s3)
        | some none => some (z, s3)
        | none => none
      | none => none
    | none => none
    else none
  | _ => none
theorem isD_of {K : PySem.W.Frag} {fa : Nat → Addr} {ρ : List Addr} {H : Hp} {s : S} {n : Nat} {a : Addr} (R : Rep K fa ρ H s) (h : ρ[n]? = some a) (e : isDic s n = true) : IsD H a := by
  unfold isDic at e
  split at e
  · rename_i l e1
    obtain ⟨a', ho, h4, h5, h6⟩ := R.obj e1
    cases h.symm.trans h4
    cases h6 with
    | dK _ _ => exact .inl ⟨_, .inl h5⟩
  · rename_i l e1
    obtain ⟨a', ho, h4, h5, h6⟩ := R.obj e1
    cases h.symm.trans h4
    cases h6 with
    | dT _ _ => exact .inr ⟨_, .inl h5⟩
  · cases e
section
variable {X : Cx} {fa : Nat → Addr} {o e f : Expr} {md mk mx : M} {apos cpos pos' pos : Pos}
theorem ze_get2 (hu : X.A.units + 1 < cLine) (ho : PE X o (tM X.K fa md)) (he : PE X e (tM X.K fa mk)) (hf : PE X f (tM X.K fa mx)) (m : M2 X o "get" apos e f cpos := by exact ⟨rfl, rfl, rfl, rfl⟩) : PE X (.Call (.Attribute o "get" apos) [e, f] [] cpos) (tM X.K fa (eGet2 md mk mx)) := by
  refine ⟨fun pins s σ H Q I h => (pe_dget2 hu ho he hf m).run pins s σ H Q I ?_⟩
  obtain ⟨ρ, st, en, d, st', R, E, e, k⟩ := h
  unfold eGet2 at e
  split at e
  · rename_i n s1 e1
    split at e
    · rename_i hD
      split at e
      · rename_i y s2 e2
        split at e
        · rename_i z s3 e3
          refine tM_bind R E e1 fun v H1 ρ1 B1 R1 p1 E1 => ?_
          cases p1 with
          | ref h1 =>
            refine ⟨_, rfl, isD_of R1 h1 hD, tM_bind R1 E1 e2 fun u H2 ρ2 B2 R2 p2 E2 => tM_bind R2 E2 e3 fun w H3 ρ3 B3 R3 p3 E3 => ?_⟩
            have h3 := pre_get (B2.trans B3).pre h1
            split at e
            · rename_i d' e4
              cases e
              obtain ⟨o, g1, w', rfl, g2⟩ := getD_of R3 h3 (p2.bey B3) e4
              exact ⟨_, g1, k w' H3 ρ3 ((B1.trans B2).trans B3) R3 g2⟩
            · rename_i e4
              cases e
              obtain ⟨o, g1, rfl⟩ := getD_of R3 h3 (p2.bey B3) e4
              exact ⟨_, g1, k w H3 ρ3 ((B1.trans B2).trans B3) R3 p3⟩
            · cases e
        · cases e
      · cases e
    · cases e
  · cases e
/-- x[k] = v: a dict or a list -/
def putD (s : S) (n : Nat) (y v : D) : Option S := match s[n]? with
  | some (.dic l) => match keyD y with
    | some _ => if l.length < big then some (s.set n (.dic (dPut l y v))) else none
    | none => none
  | some (.dit l) => match keyT y with
    | some _ => if l.length < big then some (s.set n (.dit (dPut l y v))) else none
    | none => none
  | some (.lst l) => match y with
    | .int i => match ixN l.length i with
      | some j => some (s.set n (.lst (l.set j v)))
      | none => none
    | _ => none
  | none => none
def sPut (md mk mv : M) : MS := fun en st => match mv en st with
  | some (v, s1) => match md en s1 with
    | some (.ref n, s2) => match mk en s2 with
      | some (y, s3) => match putD s3 n y v with
        | some s4 => some (.nx en, s4)
        | none => none
      | none => none
    | _ => none
  | none => none
theorem zip_len {κ : Type} {l : List (D × D)} {kf : D → Option κ} {ks : List κ} {K : PySem.W.Frag} {ρ : List Addr} {H : Hp} {vs : List V} (h1 : l.map (fun p => kf p.1) = ks.map some) (h2 : RpL K fa ρ H (l.map (·.2)) vs) : (ks.zip vs).length = l.length := by
  have e1 := congrArg List.length h1
  rw [List.length_map, List.length_map] at e1
  have e2 := h2.length
  rw [List.length_map] at e2
  rw [List.length_zip, ← e1, ← e2]
  omega
theorem zs_put {value : Expr} {mv : M} (hu : X.A.units + 1 < cLine) (ho : PE X o (tM X.K fa md)) (he : PE X e (tM X.K fa mk)) (hv : PE X value (tM X.K fa mv)) (hs : swapsWith value (some (.Subscript o e pos')) pos.line X.env = pure false := by rfl)
    (ga : ∀ v, assign (.Subscript o e pos') X.env v = (do
      let ov ← holding [v] (eval o X.env)
      let iv ← holding [v, ov] (eval e X.env)
      standAt pos'
      holding [v, ov, iv] (setItem ov iv v)
      release [v, ov, iv] []) := by intro _; rfl)
    (g1 : swapsWithSole [.Subscript o e pos'] value pos.line X.env = pure false := by rfl) (g2 : swappedStores [.Subscript o e pos'] value X.env = pure none := by rfl)
    (g3 : (assignEach [.Subscript o e pos'] X.env).map (·.2) = [assign (.Subscript o e pos') X.env] := by rfl) :
    PS X (.Assign [.Subscript o e pos'] value pos) (tS X.K fa (sPut md mk mv)) := by
  refine ⟨fun pins s σ H D I h => ?_⟩
  obtain ⟨ρ, st, en, d, st', R, E, e, k⟩ := h
  unfold sPut at e
  split at e
  · rename_i v s1 e1
    split at e
    · rename_i n s2 e2
      split at e
      · rename_i y s3 e3
        split at e
        · rename_i s4 e4
          cases e
          unfold putD at e4
          split at e4
          · rename_i l el
            split at e4
            · rename_i kk hk
              split at e4
              · rename_i hl
                cases e4
                refine (ps_dput hu ho he hv hs).run pins s σ H D I (tM_bind R E e1 fun v1 H1 ρ1 B1 R1 p1 E1 => tM_bind R1 E1 e2 fun v2 H2 ρ2 B2 R2 p2 E2 => tM_bind R2 E2 e3 fun v3 H3 ρ3 B3 R3 p3 E3 => ?_)
                cases p2 with
                | ref h2 =>
                  have h3 := pre_get B3.pre h2
                  obtain ⟨a', ho', h4, h5, h6⟩ := R3.obj el
                  cases h3.symm.trans h4
                  cases h6 with
                  | dK q1 q2 =>
                    cases keyD_kV p3 hk
                    obtain ⟨ks', vs', g1, g2, g3⟩ := put_of (kf := keyD) eqK_iff hk ((p1.bey B2).bey B3) q1 q2
                    refine ⟨_, _, rfl, DPut.k h5 (by rw [zip_len q1 q2]; exact big_lt hl), ?_⟩
                    rw [g1]
                    have x : Ext H3 (upd H3 _ (.dK (ks'.zip vs'))) := Ext.dK h5
                    exact k _ _ ρ3 (((B1.trans B2).trans B3).trans (Bey.set h3 x)) (R3.set h3 x (.dK g2 g3)) (E3.bey (Bey.set h3 x))
              · cases e4
            · cases e4
          · rename_i l el
            split at e4
            · rename_i kk hk
              split at e4
              · rename_i hl
                cases e4
                refine (ps_dput hu ho he hv hs).run pins s σ H D I (tM_bind R E e1 fun v1 H1 ρ1 B1 R1 p1 E1 => tM_bind R1 E1 e2 fun v2 H2 ρ2 B2 R2 p2 E2 => tM_bind R2 E2 e3 fun v3 H3 ρ3 B3 R3 p3 E3 => ?_)
                cases p2 with
                | ref h2 =>
                  have h3 := pre_get B3.pre h2
                  obtain ⟨a', ho', h4, h5, h6⟩ := R3.obj el
                  cases h3.symm.trans h4
                  cases h6 with
                  | dT q1 q2 =>
                    cases p3 with
                    | tup g t =>
                      cases keysD_kV t hk
                      obtain ⟨ks', vs', g1, g2, g3⟩ := put_of (kf := keyT) eqKT_iff hk ((p1.bey B2).bey B3) q1 q2
                      refine ⟨_, _, rfl, DPut.t h5 g (by rw [zip_len q1 q2]; exact big_lt hl), ?_⟩
                      rw [g1]
                      have x : Ext H3 (upd H3 _ (.dT (ks'.zip vs'))) := Ext.dT h5
                      exact k _ _ ρ3 (((B1.trans B2).trans B3).trans (Bey.set h3 x)) (R3.set h3 x (.dT g2 g3)) (E3.bey (Bey.set h3 x))
                    | _ => simp [keyT] at hk
              · cases e4
            · cases e4
          · rename_i l el
            split at e4
            · rename_i i
              split at e4
              · rename_i j hj
                cases e4
                refine (ps_asg hv (pg_sub ho he set_list ga) g1 g2 g3).run pins s σ H D I (tM_bind R E e1 fun v1 H1 ρ1 B1 R1 p1 E1 => tM_bind R1 E1 e2 fun v2 H2 ρ2 B2 R2 p2 E2 => tM_bind R2 E2 e3 fun v3 H3 ρ3 B3 R3 p3 E3 => ?_)
                cases p3
                cases p2 with
                | ref h2 =>
                  have h3 := pre_get B3.pre h2
                  obtain ⟨a', vs, h4, h5, h6⟩ := R3.lst el
                  cases h3.symm.trans h4
                  have x : Ext H3 (upd H3 _ (.lst (vs.set j v1))) := Ext.lst h5
                  exact ⟨_, _, _, j, rfl, rfl, h5, by rw [← h6.length]; exact hj, k _ _ ρ3 (((B1.trans B2).trans B3).trans (Bey.set h3 x)) (R3.set h3 x (.lst (h6.set j ((p1.bey B2).bey B3)))) (E3.bey (Bey.set h3 x))⟩
              · cases e4
            · cases e4
          · cases e4
        · cases e
      · cases e
    · cases e
  · cases e
end
end Z
namespace Z
open PySem PySem.Spec PyProof.Rows L2

/-! ### what is walked -/
structure Src where
  len : Nat
  nxt : Nat → S → Option (Option D)
def srcL (l : List D) : Src := ⟨l.length, fun i _ => some l[i]?⟩
def srcR (n k : Nat) : Src := ⟨k, fun i s => match s[n]? with
  | some (.lst l) => some l[i]?
  | _ => none⟩
def srcN (lo : Int) (n : Nat) : Src := ⟨n, fun i _ => some (if i < n then some (.int (lo + (i : Nat))) else none)⟩
def both (i : Nat) (l m : List D) : Option D := match l[i]?, m[i]? with
  | some x, some y => some (.tup [x, y])
  | _, _ => none
def srcZ (l m : List D) : Src := ⟨min l.length m.length, fun i _ => some (both i l m)⟩
def srcZR (n m k : Nat) : Src := ⟨k, fun i s => match s[n]?, s[m]? with
  | some (.lst l), some (.lst l') => some (both i l l')
  | _, _ => none⟩
def srcER (n k : Nat) : Src := ⟨k, fun i s => match s[n]? with
  | some (.lst l) => some (l[i]?.map fun x => .tup [.int (i : Nat), x])
  | _ => none⟩
def srcE (l : List D) : Src := ⟨l.length, fun i _ => some (l[i]?.map fun x => .tup [.int (i : Nat), x])⟩
/-- an iterator goes as the source says -/
def JS (K : PySem.W.Frag) (fa : Nat → Addr) (J : It) (src : Src) (ρ1 : List Addr) (H1 : Hp) : Prop :=
  ∀ i ρ H s x, Bex ρ1 H1 ρ H → Rep K fa ρ H s → src.nxt i s = some x →
    (x = none → J.stop i H) ∧ ∀ d, x = some d → J.go i H ∧ ∀ v H', J.yld i H v H' → Bey ρ H ρ H' ∧ Rep K fa ρ H' s ∧ Rp K fa ρ H' d v
abbrev MI := En → S → Option (Src × S)
def tI (K : PySem.W.Frag) (fa : Nat → Addr) (m : MI) : TI := fun σ H R => ∃ ρ st en src st', Rep K fa ρ H st ∧ REnv K fa ρ H en σ ∧ m en st = some (src, st') ∧ ∀ J H' ρ', Bey ρ H ρ' H' → Rep K fa ρ' H' st' → JS K fa J src ρ' H' → R J H'
def srcOf (s : S) : D → Option Src
  | .tup l => some (srcL l)
  | .ctup l => some (srcL l)
  | .clst l => some (srcL l)
  | .ref n => match s[n]? with
    | some (.lst l) => some (srcR n l.length)
    | _ => none
  | .str x => some (srcL (x.cps.toList.map fun c => .str ⟨#[c]⟩))
  | _ => none
section
variable {K : PySem.W.Frag} {fa : Nat → Addr} {ρ : List Addr} {H : Hp} {l m : List D} {vs us : List V} {a b : Addr}
theorem js_tup (h : ∀ ρ' H', Bex ρ H ρ' H' → SqT K H' a vs) (r : RpL K fa ρ H l vs) : JS K fa (Itt K a) (srcL l) ρ H := by
  intro i ρ' H' s x B R e
  have e' : l[i]? = x := Option.some.inj e
  have r' := r.bex B
  refine ⟨fun z => ⟨_, h _ _ B, ?_⟩, fun d z => ?_⟩
  · subst z
    rw [← r'.length]
    exact List.getElem?_eq_none_iff.mp e'
  · subst z
    obtain ⟨v, h1, h2⟩ := r'.get e'
    refine ⟨⟨_, v, h _ _ B, h1⟩, fun w H2 y => ?_⟩
    obtain ⟨rfl, y⟩ := y
    have := y _ (h _ _ B)
    rw [h1] at this
    cases this
    exact ⟨Bey.refl, R, h2⟩
theorem js_lst (h : ∀ ρ' H', Bex ρ H ρ' H' → SqL K H' a vs) (r : RpL K fa ρ H l vs) : JS K fa (Itl K a) (srcL l) ρ H := by
  intro i ρ' H' s x B R e
  have e' : l[i]? = x := Option.some.inj e
  have r' := r.bex B
  refine ⟨fun z => ⟨_, h _ _ B, ?_⟩, fun d z => ?_⟩
  · subst z
    rw [← r'.length]
    exact List.getElem?_eq_none_iff.mp e'
  · subst z
    obtain ⟨v, h1, h2⟩ := r'.get e'
    refine ⟨⟨_, v, h _ _ B, h1⟩, fun w H2 y => ?_⟩
    obtain ⟨rfl, y⟩ := y
    have := y _ (h _ _ B)
    rw [h1] at this
    cases this
    exact ⟨Bey.refl, R, h2⟩
theorem js_ref {n k : Nat} (h : ρ[n]? = some a) : JS K fa (Itl K a) (srcR n k) ρ H := by
  intro i ρ' H' s x B R e
  have h' := pre_get B.pre h
  simp only [srcR] at e
  split at e
  · rename_i l e1
    have e' : l[i]? = x := Option.some.inj e
    obtain ⟨a', vs, h3, h4, h5⟩ := R.lst e1
    cases h'.symm.trans h3
    refine ⟨fun z => ⟨_, SqL.of h4, ?_⟩, fun d z => ?_⟩
    · subst z
      rw [← h5.length]
      exact List.getElem?_eq_none_iff.mp e'
    · subst z
      obtain ⟨v, h1, h2⟩ := h5.get e'
      refine ⟨⟨_, v, SqL.of h4, h1⟩, fun w H2 y => ?_⟩
      obtain ⟨rfl, y⟩ := y
      have := y _ (SqL.of h4)
      rw [h1] at this
      cases this
      exact ⟨Bey.refl, R, h2⟩
  · cases e
theorem js_rng {lo : Int} {n : Nat} : JS K fa (Itr lo n) (srcN lo n) ρ H := by
  intro i ρ' H' s x B R e
  have e' : (if i < n then some (D.int (lo + (i : Nat))) else none) = x := Option.some.inj e
  refine ⟨fun z => ?_, fun d z => ?_⟩
  · subst z
    split at e'
    · cases e'
    · rename_i hi
      exact Nat.le_of_not_lt hi
  · subst z
    split at e'
    · rename_i hi
      cases e'
      refine ⟨hi, fun v H2 y => ?_⟩
      obtain ⟨rfl, rfl⟩ := y
      exact ⟨Bey.refl, R, .int _⟩
    · cases e'
theorem js_str {x : Str} : JS K fa (Its x) (srcL (x.cps.toList.map fun c => .str ⟨#[c]⟩)) ρ H := by
  intro i ρ' H' s y B R e
  have e' : (x.cps.toList.map fun c => D.str ⟨#[c]⟩)[i]? = y := Option.some.inj e
  rw [List.getElem?_map] at e'
  refine ⟨fun z => ?_, fun d z => ?_⟩
  · subst z
    cases q : x.cps.toList[i]? with
    | none =>
      have := List.getElem?_eq_none_iff.mp q
      show x.cps.size ≤ i
      simpa using this
    | some c => rw [q] at e'; cases e'
  · subst z
    cases q : x.cps.toList[i]? with
    | none => rw [q] at e'; cases e'
    | some c =>
      rw [q] at e'
      cases e'
      have hi := (List.getElem?_eq_some_iff.mp q).1
      refine ⟨(show i < x.cps.size by simpa using hi), fun v H2 y => ?_⟩
      obtain ⟨rfl, c', h1, rfl⟩ := y
      have h2 : x.cps.toList[i]? = some c' := by rw [Array.getElem?_toList]; exact h1
      rw [q] at h2
      cases h2
      exact ⟨Bey.refl, R, .str _⟩
theorem js_zipT (h : ∀ ρ' H', Bex ρ H ρ' H' → SqT K H' a vs) (g : ∀ ρ' H', Bex ρ H ρ' H' → SqT K H' b us) (r : RpL K fa ρ H l vs) (q : RpL K fa ρ H m us) : JS K fa (RZ.ItzT K a b) (srcZ l m) ρ H := by
  intro i ρ' H' s x B R e
  have e' : both i l m = x := Option.some.inj e
  have r' := r.bex B
  have q' := q.bex B
  unfold both at e'
  refine ⟨fun z => ?_, fun d z => ?_⟩
  · subst z
    refine ⟨_, _, h _ _ B, g _ _ B, ?_⟩
    cases e1 : l[i]? with
    | none => exact .inl (by rw [← r'.length]; exact List.getElem?_eq_none_iff.mp e1)
    | some y => cases e2 : m[i]? with
      | none => exact .inr (by rw [← q'.length]; exact List.getElem?_eq_none_iff.mp e2)
      | some y' => rw [e1, e2] at e'; cases e'
  · subst z
    cases e1 : l[i]? with
    | none => rw [e1] at e'; cases e'
    | some y => cases e2 : m[i]? with
      | none => rw [e1, e2] at e'; cases e'
      | some y' =>
        rw [e1, e2] at e'
        cases e'
        obtain ⟨v, h1, h2⟩ := r'.get e1
        obtain ⟨u, h3, h4⟩ := q'.get e2
        refine ⟨⟨_, _, v, u, h _ _ B, g _ _ B, h1, h3⟩, fun w H2 y => ?_⟩
        obtain ⟨T, x1, y1, rfl, nT, rfl, y2, y3⟩ := y
        have z1 := y2 _ (h _ _ B)
        have z2 := y3 _ (g _ _ B)
        rw [h1] at z1
        rw [h3] at z2
        cases z1; cases z2
        exact ⟨Bey.new nT, R.new nT, .tup upd_same (.cons (h2.bey (Bey.new nT)) (.cons (h4.bey (Bey.new nT)) .nil))⟩
theorem js_zipR {n n' k : Nat} (h : ρ[n]? = some a) (g : ρ[n']? = some b) : JS K fa (Itz K a b) (srcZR n n' k) ρ H := by
  intro i ρ' H' s x B R e
  have h' := pre_get B.pre h
  have g' := pre_get B.pre g
  simp only [srcZR] at e
  split at e
  · rename_i l m e1 e2
    have e' : both i l m = x := Option.some.inj e
    obtain ⟨a', vs, h3, h4, r'⟩ := R.lst e1
    cases h'.symm.trans h3
    obtain ⟨b', us, g3, g4, q'⟩ := R.lst e2
    cases g'.symm.trans g3
    unfold both at e'
    refine ⟨fun z => ?_, fun d z => ?_⟩
    · subst z
      refine ⟨_, _, SqL.of h4, SqL.of g4, ?_⟩
      cases e1 : l[i]? with
      | none => exact .inl (by rw [← r'.length]; exact List.getElem?_eq_none_iff.mp e1)
      | some y => cases e2 : m[i]? with
        | none => exact .inr (by rw [← q'.length]; exact List.getElem?_eq_none_iff.mp e2)
        | some y' => rw [e1, e2] at e'; cases e'
    · subst z
      cases e1 : l[i]? with
      | none => rw [e1] at e'; cases e'
      | some y => cases e2 : m[i]? with
        | none => rw [e1, e2] at e'; cases e'
        | some y' =>
          rw [e1, e2] at e'
          cases e'
          obtain ⟨v, h1, h2⟩ := r'.get e1
          obtain ⟨u, h3, h5⟩ := q'.get e2
          refine ⟨⟨_, _, v, u, SqL.of h4, SqL.of g4, h1, h3⟩, fun w H2 y => ?_⟩
          obtain ⟨T, x1, y1, rfl, nT, rfl, y2, y3⟩ := y
          have z1 := y2 _ (SqL.of h4)
          have z2 := y3 _ (SqL.of g4)
          rw [h1] at z1
          rw [h3] at z2
          cases z1; cases z2
          exact ⟨Bey.new nT, R.new nT, .tup upd_same (.cons (h2.bey (Bey.new nT)) (.cons (h5.bey (Bey.new nT)) .nil))⟩
  · cases e
theorem js_enumR {n k : Nat} (h : ρ[n]? = some a) : JS K fa (Ite K a) (srcER n k) ρ H := by
  intro i ρ' H' s x B R e
  have h' := pre_get B.pre h
  simp only [srcER] at e
  split at e
  · rename_i l e1
    have e' : (l[i]?.map fun x => D.tup [.int (i : Nat), x]) = x := Option.some.inj e
    obtain ⟨a', vs, h3, h4, r'⟩ := R.lst e1
    cases h'.symm.trans h3
    refine ⟨fun z => ?_, fun d z => ?_⟩
    · subst z
      refine ⟨_, SqL.of h4, ?_⟩
      cases e1 : l[i]? with
      | none => rw [← r'.length]; exact List.getElem?_eq_none_iff.mp e1
      | some y => rw [e1] at e'; cases e'
    · subst z
      cases e1 : l[i]? with
      | none => rw [e1] at e'; cases e'
      | some y =>
        rw [e1] at e'
        cases e'
        obtain ⟨v, h1, h2⟩ := r'.get e1
        refine ⟨⟨_, v, SqL.of h4, h1⟩, fun w H2 y => ?_⟩
        obtain ⟨T, x1, rfl, nT, rfl, y2⟩ := y
        have z1 := y2 _ (SqL.of h4)
        rw [h1] at z1
        cases z1
        exact ⟨Bey.new nT, R.new nT, .tup upd_same (.cons (.int _) (.cons (h2.bey (Bey.new nT)) .nil))⟩
  · cases e
end
def iVal (m : M) : MI := fun en st => match m en st with
  | some (d, s) => match srcOf s d with
    | some src => some (src, s)
    | none => none
  | none => none
def iRange1 (a : MA) : MI := fun en st => match a en st with
  | some ([.int n], s) => if -(2 ^ 62) ≤ n ∧ n < 2 ^ 62 then some (srcN 0 n.toNat, s) else none
  | _ => none
def iRange2 (a : MA) : MI := fun en st => match a en st with
  | some ([.int lo, .int hi], s) => if -(2 ^ 62) ≤ lo ∧ lo < 2 ^ 62 ∧ -(2 ^ 62) ≤ hi ∧ hi < 2 ^ 62 then some (srcN lo (hi - lo).toNat, s) else none
  | _ => none
def zipOf (s : S) : D → D → Option Src
  | .tup l, .tup m => some (srcZ l m)
  | .ref n, .ref m => match s[n]?, s[m]? with
    | some (.lst l), some (.lst l') => some (srcZR n m (min l.length l'.length))
    | _, _ => none
  | _, _ => none
def iZip (a : MA) : MI := fun en st => match a en st with
  | some ([x, y], s) => match zipOf s x y with
    | some src => some (src, s)
    | none => none
  | _ => none
def iEnumR (a : MA) : MI := fun en st => match a en st with
  | some ([.ref n], s) => match s[n]? with
    | some (.lst l) => some (srcER n l.length, s)
    | _ => none
  | _ => none
section
variable {X : Cx} {fa : Nat → Addr} {tg e e2 : Expr} {m : M} {ma : MA} {p pos tpos : Pos} {elts : List Expr} {kk : Nat}
theorem zi_val (he : PE X e (tM X.K fa m)) : PI X tg e (tI X.K fa (iVal m)) := by
  refine ⟨fun pins s σ H R I h => ?_⟩
  obtain ⟨ρ, st, en, src, st', Rr, E, e, k⟩ := h
  unfold iVal at e
  split at e
  · rename_i d s1 e1
    split at e
    · rename_i src' e2
      cases e
      unfold srcOf at e2
      split at e2
      · cases e2
        refine (pi_tup he).run pins s σ H R I (tM_bind Rr E e1 fun v H1 ρ1 B1 R1 p1 E1 => ?_)
        cases p1 with
        | tup h q => exact ⟨_, rfl, ⟨_, SqT.of h⟩, k _ H1 ρ1 B1 R1 (js_tup (fun ρ' H' B => SqT.of (B.ext.tup _ _ h)) q)⟩
      · cases e2
        refine (pi_tup he).run pins s σ H R I (tM_bind Rr E e1 fun v H1 ρ1 B1 R1 p1 E1 => ?_)
        cases p1 with
        | ctup h q => exact ⟨_, rfl, ⟨_, h H1⟩, k _ H1 ρ1 B1 R1 (js_tup (fun ρ' H' B => h H') q)⟩
      · cases e2
        refine (pi_list he).run pins s σ H R I (tM_bind Rr E e1 fun v H1 ρ1 B1 R1 p1 E1 => ?_)
        cases p1 with
        | clst h q =>
          have hh : ∀ ρ' H', Bex ρ1 H1 ρ' H' → SqL X.K H' _ _ := fun ρ' H' B => h.elim (fun ⟨o, h⟩ => .inl (.inr ⟨o, B.ext.frz _ _ _ h⟩)) fun h => h H'
          exact ⟨_, rfl, ⟨_, hh ρ1 H1 Bey.refl.bex⟩, k _ H1 ρ1 B1 R1 (js_lst hh q)⟩
      · split at e2
        · rename_i l el
          cases e2
          refine (pi_list he).run pins s σ H R I (tM_bind Rr E e1 fun v H1 ρ1 B1 R1 p1 E1 => ?_)
          cases p1 with
          | ref h1 =>
            obtain ⟨a', vs, h3, h4, r'⟩ := R1.lst el
            cases h1.symm.trans h3
            exact ⟨_, rfl, ⟨_, SqL.of h4⟩, k _ H1 ρ1 B1 R1 (js_ref h1)⟩
        · cases e2
      · cases e2
        refine (pi_str he).run pins s σ H R I (tM_bind Rr E e1 fun v H1 ρ1 B1 R1 p1 E1 => ?_)
        cases p1
        exact ⟨_, rfl, k _ H1 ρ1 B1 R1 js_str⟩
      · cases e2
    · cases e
  · cases e
theorem zi_range1 (hg : Gl X "range") (hm : X.mg "range" = none) (ha : PA X [e] (tA X.K fa ma)) (hs : starEach [e] X.env = [(false, eval e X.env)] := by rfl) : PI X tg (.Call (.Name "range" p) [e] [] pos) (tI X.K fa (iRange1 ma)) := by
  refine ⟨fun pins s σ H R I h => (pi_range1 hg hm ha hs).run pins s σ H R I ?_⟩
  obtain ⟨ρ, st, en, src, st', Rr, E, e, k⟩ := h
  unfold iRange1 at e
  split at e
  · rename_i n s1 e1
    split at e
    · rename_i hn
      cases e
      refine tA_bind Rr E e1 fun vs H1 ρ1 B1 R1 p1 E1 => ?_
      cases p1 with
      | cons q r =>
        cases q; cases r
        exact ⟨n, rfl, hn.1, hn.2, k _ H1 ρ1 B1 R1 js_rng⟩
    · cases e
  · cases e
theorem zi_range2 (hg : Gl X "range") (hm : X.mg "range" = none) (ha : PA X [e, e2] (tA X.K fa ma)) (hs : starEach [e, e2] X.env = [(false, eval e X.env), (false, eval e2 X.env)] := by rfl) (hs2 : starEach [e2] X.env = [(false, eval e2 X.env)] := by rfl) :
    PI X tg (.Call (.Name "range" p) [e, e2] [] pos) (tI X.K fa (iRange2 ma)) := by
  refine ⟨fun pins s σ H R I h => (pi_range2 hg hm ha hs hs2).run pins s σ H R I ?_⟩
  obtain ⟨ρ, st, en, src, st', Rr, E, e, k⟩ := h
  unfold iRange2 at e
  split at e
  · rename_i lo hi s1 e1
    split at e
    · rename_i hn
      cases e
      refine tA_bind Rr E e1 fun vs H1 ρ1 B1 R1 p1 E1 => ?_
      cases p1 with
      | cons q r => cases r with
        | cons q' r' =>
          cases q; cases q'; cases r'
          exact ⟨lo, hi, rfl, hn, k _ H1 ρ1 B1 R1 js_rng⟩
    · cases e
  · cases e
theorem zi_zip (hg : Gl X "zip") (hm : X.mg "zip" = none) (ha : PA X [e, e2] (tA X.K fa ma)) (hs : starEach [e, e2] X.env = (false, eval e X.env) :: starEach [e2] X.env := by rfl) (hpl : (backTo pos (starEach [e2] X.env)).any (·.1) = false := by rfl) :
    PI X (.Tuple elts kk tpos) (.Call (.Name "zip" p) [e, e2] [] pos) (tI X.K fa (iZip ma)) := by
  refine ⟨fun pins s σ H R I h => (RZ.pi_zipA hg hm ha hs hpl).run pins s σ H R I ?_⟩
  obtain ⟨ρ, st, en, src, st', Rr, E, e, k⟩ := h
  unfold iZip at e
  split at e
  · rename_i x y s1 e1
    split at e
    · rename_i src' e2
      cases e
      refine tA_bind Rr E e1 fun vs H1 ρ1 B1 R1 p1 E1 => ?_
      unfold zipOf at e2
      split at e2
      · cases e2
        cases p1 with
        | cons q r => cases r with
          | cons q' r' =>
            cases r'
            cases q with
            | tup h1 r1 => cases q' with
              | tup h2 r2 => exact ⟨_, _, _, _, rfl, .inr ⟨SqT.of h1, SqT.of h2, k _ H1 ρ1 B1 R1 (js_zipT (fun ρ' H' B => SqT.of (B.ext.tup _ _ h1)) (fun ρ' H' B => SqT.of (B.ext.tup _ _ h2)) r1 r2)⟩⟩
      · split at e2
        · rename_i l l' g1 g2
          cases e2
          cases p1 with
          | cons q r => cases r with
            | cons q' r' =>
              cases r'
              cases q with
              | ref h1 => cases q' with
                | ref h2 =>
                  obtain ⟨a', us, h3, h4, r'⟩ := R1.lst g1
                  cases h1.symm.trans h3
                  obtain ⟨b', ws, h5, h6, r''⟩ := R1.lst g2
                  cases h2.symm.trans h5
                  exact ⟨_, _, _, _, rfl, .inl ⟨SqL.of h4, SqL.of h6, k _ H1 ρ1 B1 R1 (js_zipR h1 h2)⟩⟩
        · cases e2
      · cases e2
    · cases e
  · cases e
theorem zi_enumR (hg : Gl X "enumerate") (hm : X.mg "enumerate" = none) (ha : PA X [e] (tA X.K fa ma)) (hs : starEach [e] X.env = [(false, eval e X.env)] := by rfl) :
    PI X (.Tuple elts kk tpos) (.Call (.Name "enumerate" p) [e] [] pos) (tI X.K fa (iEnumR ma)) := by
  refine ⟨fun pins s σ H R I h => (pi_enum hg hm ha hs).run pins s σ H R I ?_⟩
  obtain ⟨ρ, st, en, src, st', Rr, E, e, k⟩ := h
  unfold iEnumR at e
  split at e
  · rename_i n s1 e1
    split at e
    · rename_i l el
      cases e
      refine tA_bind Rr E e1 fun vs H1 ρ1 B1 R1 p1 E1 => ?_
      cases p1 with
      | cons q r =>
        cases r
        cases q with
        | ref h1 =>
          obtain ⟨a', us, h3, h4, r'⟩ := R1.lst el
          cases h1.symm.trans h3
          exact ⟨_, _, rfl, SqL.of h4, k _ H1 ρ1 B1 R1 (js_enumR h1)⟩
    · cases e
  · cases e
end

/-! ### targets -/
/-- a target: what it stores, and the places that it may touch -/
def tG (K : PySem.W.Frag) (fa : Nat → Addr) (g : D → En → Option En) (ws : List Nat) : TG := fun v σ H Q => ∃ ρ en d en', REnv K fa ρ H en σ ∧ Rp K fa ρ H d v ∧ g d en = some en' ∧
  ∀ σ', REnv K fa ρ H en' σ' → (∀ vs, (∀ i ∈ ws, i ∈ vs) → wipe σ' vs = wipe σ vs) → Q σ' H
def tGs (K : PySem.W.Frag) (fa : Nat → Addr) (g : List D → En → Option En) (ws : List Nat) : TGs := fun v σ H Q => ∃ ρ en d en', REnv K fa ρ H en σ ∧ RpL K fa ρ H d v ∧ g d en = some en' ∧
  ∀ σ', REnv K fa ρ H en' σ' → (∀ vs, (∀ i ∈ ws, i ∈ vs) → wipe σ' vs = wipe σ vs) → Q σ' H
def gVar (i : Nat) : D → En → Option En := fun d en => some (en.set i (some d))
def gsNil : List D → En → Option En := fun ds en => match ds with
  | [] => some en
  | _ => none
def gsCons (g : D → En → Option En) (gs : List D → En → Option En) : List D → En → Option En := fun ds en => match ds with
  | d :: r => match g d en with
    | some en1 => gs r en1
    | none => none
  | [] => none
def gTupD (n : Nat) (gs : List D → En → Option En) : D → En → Option En := fun d en => match d with
  | .tup l => if l.length = n then gs l en else none
  | .ctup l => if l.length = n then gs l en else none
  | _ => none
theorem wipe_set {σ : L2.St} {i : Nat} {x : Option V} : ∀ {vs : List Nat}, i ∈ vs → wipe (σ.set i x) vs = wipe σ vs
  | [], h => by cases h
  | v :: vs, h => by
    unfold wipe
    by_cases e : i ∈ vs
    · rw [wipe_set e]
    · have hv : i = v := by
        rcases List.mem_cons.mp h with h | h
        · exact h
        · exact absurd h e
      subst hv
      have : ∀ (ws : List Nat), i ∉ ws → wipe (σ.set i x) ws = (wipe σ ws).set i x := by
        intro ws
        induction ws with
        | nil => intro _; rfl
        | cons w ws ih =>
          intro hw
          simp only [List.mem_cons, not_or] at hw
          unfold wipe
          rw [ih hw.2, List.set_comm _ _ hw.1]
      rw [this vs e, List.set_set]
section
variable {X : Cx} {fa : Nat → Addr} {pos : Pos} {e : Expr} {es : List Expr}
theorem zg_name {i : Nat} {x : Str} (hN : X.N.Nodup) (hi : X.N[i]? = some x) (hx : Loc X.env.scope x) (hf : X.fn x = true ∨ X.env.scope.names.lookup x = some .local := by first | exact .inl rfl | exact .inr rfl | assumption) : PG X (.Name x pos) (tG X.K fa (gVar i) [i]) :=
  ⟨fun pins s σ H v u Q I r h => (pg_name hN hi hx hf).run pins s σ H v u Q I r (by
    obtain ⟨ρ, en, d, en', E, p, e, k⟩ := h
    cases e
    exact k _ (E.set p i) fun vs hv => wipe_set (hv i (by simp)))⟩
theorem zg_nil : PGs X [] (tGs X.K fa gsNil []) := ⟨fun pins s σ H v u Q I r h => pgs_nil.run pins s σ H v u Q I r (by
  obtain ⟨ρ, en, d, en', E, p, e, k⟩ := h
  unfold gsNil at e
  split at e
  · cases e
    cases p
    exact ⟨rfl, k _ E fun _ _ => rfl⟩
  · cases e)⟩
theorem zg_cons {g : D → En → Option En} {gs : List D → En → Option En} {ws us : List Nat} (h1 : PG X e (tG X.K fa g ws)) (h2 : PGs X es (tGs X.K fa gs us)) (hs : (assignEach (e :: es) X.env).map (·.2) = assign e X.env :: (assignEach es X.env).map (·.2) := by rfl) :
    PGs X (e :: es) (tGs X.K fa (gsCons g gs) (ws ++ us)) := ⟨fun pins s σ H v u Q I r h => (pgs_cons h1 h2 hs).run pins s σ H v u Q I r (by
  obtain ⟨ρ, en, d, en', E, p, e, k⟩ := h
  unfold gsCons at e
  split at e
  · split at e
    · rename_i en1 e1
      cases p with
      | cons p1 p2 =>
        exact ⟨_, _, rfl, ρ, en, _, en1, E, p1, e1, fun σ1 E1 w1 => ⟨ρ, en1, _, en', E1, p2, e, fun σ2 E2 w2 => k σ2 E2 fun vs hv =>
          (w2 vs fun i hi => hv i (List.mem_append_right _ hi)).trans (w1 vs fun i hi => hv i (List.mem_append_left _ hi))⟩⟩
    · cases e
  · cases e)⟩
theorem zg_tup {k n : Nat} {gs : List D → En → Option En} {us : List Nat} (hc : X.calm = true) (h : PGs X es (tGs X.K fa gs us)) (hn : (assignEach es X.env).length = n := by rfl) (hst : (assignEach es X.env).findIdx? (·.1) = none := by rfl) :
    PG X (.Tuple es k pos) (tG X.K fa (gTupD n gs) us) := ⟨fun pins s σ H v u Q I r h' => (pg_tup hc h hn hst).run pins s σ H v u Q I r (by
  obtain ⟨ρ, en, d, en', E, p, e, k⟩ := h'
  unfold gTupD at e
  split at e
  · split at e
    · rename_i hl
      cases p with
      | tup h q => exact ⟨_, _, rfl, SqT.of h, by rw [← q.length]; exact hl, ρ, en, _, en', E, q, e, k⟩
    · cases e
  · split at e
    · rename_i hl
      cases p with
      | ctup h q => exact ⟨_, _, rfl, h H, by rw [← q.length]; exact hl, ρ, en, _, en', E, q, e, k⟩
    · cases e
  · cases e)⟩
end
end Z
namespace Z
open PySem PySem.Spec PyProof.Rows L2

/-! ### comprehensions -/
abbrev ML := En → S → Option (List D × S)
/-- a new list that has no number -/
def tL (K : PySem.W.Frag) (fa : Nat → Addr) (m : ML) : TE := fun σ H Q => ∃ ρ st en l st', Rep K fa ρ H st ∧ REnv K fa ρ H en σ ∧ m en st = some (l, st') ∧
  ∀ L vs H' ρ', Bey ρ H ρ' H' → Rep K fa ρ' H' st' → L ∉ ρ' → H L = none → H' L = some (.lst vs) → RpL K fa ρ' H' l vs → Q (.ref L) H'
def wipeE (en : En) : List Nat → En
  | [] => en
  | v :: vs => (wipeE en vs).set v none
theorem REnv.wipes {K : PySem.W.Frag} {fa : Nat → Addr} {ρ : List Addr} {H : Hp} {en : En} {σ : L2.St} (E : REnv K fa ρ H en σ) : ∀ vs : List Nat, REnv K fa ρ H (wipeE en vs) (L2.wipe σ vs)
  | [] => E
  | v :: vs => (REnv.wipes E vs).wipe v
def lcGo (src : Src) (g : D → En → Option En) (t : MT) (e : M) : Nat → Nat → En → S → List D → Option (List D × S)
  | 0, i, en, s, acc => match src.nxt i s with
    | some none => some (acc, s)
    | _ => none
  | k + 1, i, en, s, acc => match src.nxt i s with
    | some none => some (acc, s)
    | some (some x) => match g x en with
      | some en1 => match t en1 s with
        | some (true, s1) => match e en1 s1 with
          | some (y, s2) => if acc.length < big then lcGo src g t e k (i + 1) en s2 (acc ++ [y]) else none
          | none => none
        | some (false, s1) => lcGo src g t e k (i + 1) en s1 acc
        | none => none
      | none => none
    | none => none
def lLc (mi : MI) (g : D → En → Option En) (t : MT) (e : M) (vs : List Nat) : ML := fun en st => match mi en st with
  | some (src, s1) => lcGo src g t e src.len 0 (wipeE en vs) s1 []
  | none => none
def cTrue : MT := fun _ st => some (true, st)
theorem zts_nil {X : Cx} {fa : Nat → Addr} : PTs X [] (tT X.K fa cTrue) := ⟨fun pins s σ H Q I h => pts_nil.run pins s σ H Q I (by
  obtain ⟨ρ, st, en, d, st', R, E, e, k⟩ := h
  cases e
  exact k H ρ Bey.refl R)⟩
theorem zts_one {X : Cx} {fa : Nat → Addr} {c : Expr} {t : MT} (h : PT X c (tT X.K fa t)) : PTs X [c] (tT X.K fa t) := pts_one h
theorem wipe_none {σ : L2.St} {u : Nat} : ∀ {vs : List Nat}, u ∈ vs → (wipe σ vs).set u none = wipe σ vs
  | [], h => by cases h
  | w :: vs, h => by
    show ((wipe σ vs).set w none).set u none = (wipe σ vs).set w none
    by_cases e : u = w
    · subst e; rw [List.set_set]
    · rw [List.set_comm _ _ (Ne.symm e), wipe_none (by rcases List.mem_cons.mp h with h | h; exact absurd h e; exact h)]
theorem wipe_wipe {σ : L2.St} {vs : List Nat} : ∀ us : List Nat, (∀ i ∈ us, i ∈ vs) → wipe (wipe σ vs) us = wipe σ vs
  | [], _ => rfl
  | u :: us, h => by
    show (wipe (wipe σ vs) us).set u none = wipe σ vs
    rw [wipe_wipe us fun i hi => h i (List.mem_cons_of_mem _ hi), wipe_none (h u List.mem_cons_self)]
section
variable {K : PySem.W.Frag} {fa : Nat → Addr} {mi : MI} {g : D → En → Option En} {t : MT} {e : M} {vs ws : List Nat}
theorem lc_imp {σ : L2.St} {H : Hp} {Q : VK} (hw : ∀ i ∈ ws, i ∈ vs) (h : tL K fa (lLc mi g t e vs) σ H Q) : tLc (tI K fa mi) (tG K fa g ws) (tT K fa t) (tM K fa e) vs σ H Q := by
  obtain ⟨ρ, st, en, l, st', R, E, q, k⟩ := h
  unfold lLc at q
  split at q
  · rename_i src s1 e1
    refine ⟨ρ, st, en, src, s1, R, E, e1, fun J H1 ρ1 B1 R1 js L nL => ?_⟩
    have hL : H L = none := by
      cases z : H L with
      | none => rfl
      | some o =>
        by_cases m : L ∈ ρ
        · obtain ⟨ho, q⟩ := R1.tracked (B1.pre.subset m)
          rw [nL] at q; cases q
        · have := B1.unt _ _ m z
          rw [nL] at this; cases this
    refine ⟨fun i m H2 => ∃ ρ2 s2 acc us, Bey ρ1 H1 ρ2 H2 ∧ Rep K fa ρ2 H2 s2 ∧ L ∉ ρ2 ∧ H2 L = some (.lst us) ∧ RpL K fa ρ2 H2 acc us ∧ lcGo src g t e m i (wipeE en vs) s2 acc = some (l, st'),
      ⟨src.len, ρ1, s1, [], [], Bey.new nL, R1.new nL, R1.notIn nL, upd_same, .nil, q⟩, ?_⟩
    rintro i m H2 ⟨ρ2, s2, acc, us, B2, R2, nm, hl, ra, q2⟩
    have E2 : REnv K fa ρ2 H2 (wipeE en vs) (wipe σ vs) := ((E.bey B1).bey B2).wipes vs
    have stop : ∀ x, src.nxt i s2 = some x → x = none → lcGo src g t e m i (wipeE en vs) s2 acc = some (acc, s2) := fun x hx hn => by
      subst hn
      cases m <;> simp only [lcGo, hx]
    cases hx : src.nxt i s2 with
    | none => cases m <;> simp only [lcGo, hx] at q2 <;> cases q2
    | some x =>
      obtain ⟨j1, j2⟩ := js i ρ2 H2 s2 x B2.bex R2 hx
      cases x with
      | none =>
        rw [stop none hx rfl] at q2
        cases q2
        exact .inl ⟨j1 rfl, k L us H2 ρ2 (B1.trans B2) R2 nm hL hl ra⟩
      | some d =>
        obtain ⟨jg, jy⟩ := j2 d rfl
        cases m with
        | zero => simp only [lcGo, hx] at q2; cases q2
        | succ m =>
          simp only [lcGo, hx] at q2
          split at q2
          · rename_i en1 eg
            refine .inr ⟨jg, fun H' => ∃ ρ2 s2 acc us, Bey ρ1 H1 ρ2 H' ∧ Rep K fa ρ2 H' s2 ∧ L ∉ ρ2 ∧ H' L = some (.lst us) ∧ RpL K fa ρ2 H' acc us ∧ lcGo src g t e m (i + 1) (wipeE en vs) s2 acc = some (l, st'),
              fun H' h' => ⟨m, Nat.lt_succ_self _, h'⟩, fun v H3 y => ?_⟩
            obtain ⟨B3, R3, p3⟩ := jy v H3 y
            refine ⟨ρ2, wipeE en vs, d, en1, E2.bey B3, p3, eg, fun σ2 Es2 wp => ⟨?_, ?_⟩⟩
            · rw [wp vs hw]
              exact wipe_wipe vs fun _ h => h
            · split at q2
              · rename_i s3 et
                refine tT_bind R3 Es2 et fun H4 ρ4 B4 R4 E4 => ?_
                rw [if_pos rfl]
                split at q2
                · rename_i y s5 ee
                  split at q2
                  · rename_i hb
                    refine tM_bind R4 E4 ee fun v5 H5 ρ5 B5 R5 p5 E5 => ?_
                    have nm4 : L ∉ ρ4 := fun m => by have := B4.nw L m nm; rw [B3.unt _ _ nm hl] at this; cases this
                    have nm5 : L ∉ ρ5 := fun m => by have := B5.nw L m nm4; rw [B4.unt _ _ nm (B3.unt _ _ nm hl)] at this; cases this
                    have hl5 := B5.unt _ _ nm4 (B4.unt _ _ nm (B3.unt _ _ nm hl))
                    have ra5 := ((ra.bey B3).bey B4).bey B5
                    have x : Ext H5 (upd H5 L (.lst (us ++ [v5]))) := Ext.lst hl5
                    have bx : Bex ρ5 H5 ρ5 (upd H5 L (.lst (us ++ [v5]))) := ⟨x, List.prefix_refl _⟩
                    refine ⟨us, hl5, by rw [← ra5.length]; exact big_lt hb, ρ5, s5, acc ++ [y], us ++ [v5], ?_, R5.same x fun a ha => upd_ne fun z => nm5 (z ▸ ha), nm5, upd_same, (ra5.bex bx).append (.cons (p5.bex bx) .nil), q2⟩
                    have Ball := ((B2.trans B3).trans B4).trans B5
                    refine ⟨Ball.ext.trans x, Ball.pre, fun a o n z => ?_, Ball.nw⟩
                    rw [upd_ne]
                    · exact Ball.unt a o n z
                    · rintro rfl
                      rw [nL] at z; cases z
                  · cases q2
                · cases q2
              · rename_i s3 et
                refine tT_bind R3 Es2 et fun H4 ρ4 B4 R4 E4 => ?_
                rw [if_neg Bool.false_ne_true]
                have nm4 : L ∉ ρ4 := fun m => by have := B4.nw L m nm; rw [B3.unt _ _ nm hl] at this; cases this
                exact ⟨ρ4, s3, acc, us, (B2.trans B3).trans B4, R4, nm4, B4.unt _ _ nm (B3.unt _ _ nm hl), (ra.bey B3).bey B4, q2⟩
              · cases q2
          · cases q2
  · cases q
end
section
variable {X : Cx} {fa : Nat → Addr} {elt tg iter : Expr} {ifs : List Expr} {scope : Scope} {own : List (Str × Nat)} {pos spos py : Pos} {mi : MI} {g : D → En → Option En} {t : MT} {e : M} {ws : List Nat}
theorem zl_lc (hc : X.calm = true) (hN : X.N.Nodup) (hi : PI X tg iter (tI X.K fa mi)) (ok : BlkOk X.N X.env.scope scope own) (hw : ∀ i ∈ ws, i ∈ own.map (·.2))
    (hg : ∀ s H C cl fp, PG (X.blk s H scope (compEnvC scope cl C X.env) fp) tg (tG X.K fa g ws)) (ht : ∀ s H C cl fp, PTs (X.blk s H scope (compEnvC scope cl C X.env) fp) ifs (tT X.K fa t))
    (he : ∀ s H C cl fp, PE (X.blk s H scope (compEnvC scope cl C X.env) fp) elt (tM X.K fa e)) (hs : ∀ x, foldedSetIterable iter X.env x = pure x := by intro _; rfl) :
    PE X (.ListComp elt [⟨tg, iter, ifs, 0⟩] scope pos) (tL X.K fa (lLc mi g t e (own.map (·.2)))) :=
  ⟨fun pins s σ H Q I h => (pe_lc hc hN hi ok hg ht he hs).run pins s σ H Q I (lc_imp hw h)⟩
end
def eAl (m : ML) : M := fun en st => match m en st with
  | some (l, s) => some (.ref s.length, s ++ [.lst l])
  | none => none
theorem al_imp {K : PySem.W.Frag} {fa : Nat → Addr} {m : ML} {σ : L2.St} {H : Hp} {Q : VK} (h : tM K fa (eAl m) σ H Q) : tL K fa m σ H Q := by
  obtain ⟨ρ, st, en, d, st', R, E, q, k⟩ := h
  unfold eAl at q
  split at q
  · rename_i l s e
    cases q
    refine ⟨ρ, st, en, l, s, R, E, e, fun L vs H' ρ' B R' nm hL hl r => ?_⟩
    refine k _ H' (ρ' ++ [L]) (B.num nm hL) (R'.num nm hl (.lst (r.bex ⟨Ext.refl, List.prefix_append _ _⟩))) (.ref ?_)
    rw [← R'.len]
    exact List.getElem?_concat_length
  · cases q
section
variable {X : Cx} {fa : Nat → Addr} {a : Expr} {m : ML} {pos p : Pos} {x : Str}
theorem zl_al (h : PE X a (tL X.K fa m)) : PE X a (tM X.K fa (eAl m)) := ⟨fun pins s σ H Q I q => h.run pins s σ H Q I (al_imp q)⟩
/-- a call of a built-in with a new list -/
def eCallL (f : List D → S → Option (D × S)) (m : ML) : M := fun en st => match m en st with
  | some (l, s) => f l s
  | none => none
def ZL1 (X : Cx) (fa : Nat → Addr) (F : Value) (f : List D → S → Option (D × S)) : Prop :=
  ∀ l s d s', f l s = some (d, s') → ∃ r, CallR X F r ∧ ∀ ρ H L vs Q, Rep X.K fa ρ H s → H L = some (.lst vs) → RpL X.K fa ρ H l vs → After X.K fa ρ H s' d Q → r [.ref L] H Q
theorem zl_callB {id : String} {f : List D → S → Option (D × S)} (hf : ZL1 X fa (.builtin id) f) (hg : Gl X x) (hm : X.mg x = none) (hv : bootBuiltins x = some (.builtin id)) (ha : PE X a (tL X.K fa m)) (hn : x ≠ "__name__" := by decide) (hdb : (x == ("__debug__" : Str)) = false := by decide)
    (he : starEach [a] X.env = (false, eval a X.env) :: starEach [] X.env := by rfl) (hpl : (backTo pos (starEach [] X.env)).any (·.1) = false := by rfl) : PE X (.Call (.Name x p) [a] [] pos) (tM X.K fa (eCallL f m)) := by
  refine ⟨fun pins s σ H Q I h => ?_⟩
  obtain ⟨ρ, st, en, d, st', R, E, e, k⟩ := h
  unfold eCallL at e
  split at e
  · rename_i l s1 e1
    obtain ⟨r, hr, q⟩ := hf _ _ _ _ e
    exact (pe_callB hr hg hm hv (pa_cons ha pa_nil he) hn hdb he hpl).run pins s σ H Q I ⟨ρ, st, en, l, s1, R, E, e1, fun L vs H' ρ' B R' _ _ hl rr => q ρ' H' L vs Q R' hl rr (k.bey B)⟩
  · cases e
theorem zl_callTy {T : String} {f : List D → S → Option (D × S)} (hf : ZL1 X fa (.type T) f) (hg : Gl X x) (hm : X.mg x = none) (hv : bootBuiltins x = some (.type T)) (ha : PE X a (tL X.K fa m)) (hn : x ≠ "__name__" := by decide) (hdb : (x == ("__debug__" : Str)) = false := by decide)
    (he : starEach [a] X.env = (false, eval a X.env) :: starEach [] X.env := by rfl) (hpl : (backTo pos (starEach [] X.env)).any (·.1) = false := by rfl) : PE X (.Call (.Name x p) [a] [] pos) (tM X.K fa (eCallL f m)) := by
  refine ⟨fun pins s σ H Q I h => ?_⟩
  obtain ⟨ρ, st, en, d, st', R, E, e, k⟩ := h
  unfold eCallL at e
  split at e
  · rename_i l s1 e1
    obtain ⟨r, hr, q⟩ := hf _ _ _ _ e
    exact (pe_callTy hr hg hm hv (pa_cons ha pa_nil he) hn hdb he hpl).run pins s σ H Q I ⟨ρ, st, en, l, s1, R, E, e1, fun L vs H' ρ' B R' _ _ hl rr => q ρ' H' L vs Q R' hl rr (k.bey B)⟩
  · cases e
end
def boolsD : List D → Option (List Bool)
  | [] => some []
  | .bl b :: r => match boolsD r with
    | some bs => some (b :: bs)
    | none => none
  | _ => none
theorem boolsD_of {K : PySem.W.Frag} {fa : Nat → Addr} {ρ : List Addr} {H : Hp} : ∀ {l : List D} {vs : List V} {bs : List Bool}, boolsD l = some bs → RpL K fa ρ H l vs → vs = bs.map V.bl
  | [], _, _, e, r => by cases e; cases r; rfl
  | d :: l, _, _, e, r => by
    cases r with
    | cons p q =>
      unfold boolsD at e
      split at e
      · rename_i h
        cases h
      · rename_i b r' h
        cases h
        split at e
        · rename_i bs' e'
          cases e
          cases p
          rw [boolsD_of e' q]
          rfl
        · cases e
      · cases e
def lAll (l : List D) (s : S) : Option (D × S) := match boolsD l with
  | some bs => some (.bl (bs.all id), s)
  | none => none
def lAny (l : List D) (s : S) : Option (D × S) := match boolsD l with
  | some bs => some (.bl (bs.any id), s)
  | none => none
def lTup (l : List D) (s : S) : Option (D × S) := some (.tup l, s)
def lLen (l : List D) (s : S) : Option (D × S) := some (.int (l.length : Nat), s)
section
variable {X : Cx} {fa : Nat → Addr}
theorem zl_all (hc : X.calm = true) : ZL1 X fa (.builtin "all") lAll := by
  intro l s d s' h
  unfold lAll at h
  split at h
  · rename_i bs e
    cases h
    exact ⟨_, cr_all hc, fun ρ H L vs Q R hl r k => ⟨L, bs, rfl, SqL.of (by rw [← boolsD_of e r]; exact hl), k.now R (.bl _)⟩⟩
  · cases h
theorem zl_any (hc : X.calm = true) : ZL1 X fa (.builtin "any") lAny := by
  intro l s d s' h
  unfold lAny at h
  split at h
  · rename_i bs e
    cases h
    exact ⟨_, cr_any hc, fun ρ H L vs Q R hl r k => ⟨L, bs, rfl, SqL.of (by rw [← boolsD_of e r]; exact hl), k.now R (.bl _)⟩⟩
  · cases h
theorem zl_tup : ZL1 X fa (.type "tuple") lTup := by
  intro l s d s' h
  cases h
  exact ⟨_, call_tuple_of, fun ρ H L vs Q R hl r k => ⟨L, vs, rfl, .inl ⟨SqL.of hl, fun p np => k.tup R r np⟩⟩⟩
theorem zl_len : ZL1 X fa (.builtin "len") lLen := by
  intro l s d s' h
  cases h
  exact ⟨_, call_len_seq, fun ρ H L vs Q R hl r k => ⟨L, vs, rfl, .inl (SqL.of hl), by rw [← r.length]; exact k.now R (.int _)⟩⟩
end

/-! ### statements -/
def sNext : MS := fun en st => some (.nx en, st)
def sBrk : MS := fun en st => some (.bk en, st)
def sCnt : MS := fun en st => some (.ct en, st)
def sSeq (a b : MS) : MS := fun en st => match a en st with
  | some (.nx en1, s1) => b en1 s1
  | r => r
def sDrop (m : M) : MS := fun en st => match m en st with
  | some (_, s) => some (.nx en, s)
  | none => none
def sRet (m : M) : MS := fun en st => match m en st with
  | some (d, s) => some (.rt d, s)
  | none => none
def sIf (t : MT) (a b : MS) : MS := fun en st => match t en st with
  | some (true, s) => a en s
  | some (false, s) => b en s
  | none => none
def sAsg (g : D → En → Option En) (m : M) : MS := fun en st => match m en st with
  | some (d, s) => match g d en with
    | some en1 => some (.nx en1, s)
    | none => none
  | none => none
abbrev sSet (i : Nat) (m : M) : MS := sAsg (gVar i) m
def forGo (src : Src) (g : D → En → Option En) (b : MS) : Nat → Nat → En → S → Option (Out × S)
  | 0, i, en, s => match src.nxt i s with
    | some none => some (.nx en, s)
    | _ => none
  | k + 1, i, en, s => match src.nxt i s with
    | some none => some (.nx en, s)
    | some (some x) => match g x en with
      | some en1 => match b en1 s with
        | some (.nx en2, s2) => forGo src g b k (i + 1) en2 s2
        | some (.ct en2, s2) => forGo src g b k (i + 1) en2 s2
        | some (.bk en2, s2) => some (.nx en2, s2)
        | some (.rt d, s2) => some (.rt d, s2)
        | none => none
      | none => none
    | none => none
def sFor (mi : MI) (g : D → En → Option En) (b : MS) : MS := fun en st => match mi en st with
  | some (src, s) => forGo src g b src.len 0 en s
  | none => none
section
variable {K : PySem.W.Frag} {fa : Nat → Addr} {ρ ρ' : List Addr} {H H' : Hp} {st : S} {o : Out} {E : Ends}
theorem AfterS.bey (h : AfterS K fa ρ H st o E) (b : Bey ρ H ρ' H') : AfterS K fa ρ' H' st o E := by
  cases o with
  | nx en => exact fun σ' H2 ρ2 B R q => h σ' H2 ρ2 (b.trans B) R q
  | rt d => exact After.bey h b
  | bk en => exact fun σ' H2 ρ2 B R q => h σ' H2 ρ2 (b.trans B) R q
  | ct en => exact fun σ' H2 ρ2 B R q => h σ' H2 ρ2 (b.trans B) R q
end
section
variable {X : Cx} {fa : Nat → Addr} {e : Expr} {m : M} {pos : Pos} {st : Stmt} {sts : List Stmt} {a b : MS}
theorem zs_pass : PS X (.Pass pos) (tS X.K fa sNext) := ⟨fun pins s σ H D I h => ps_pass.run pins s σ H D I (by
  obtain ⟨ρ, st, en, o, st', R, E, e, k⟩ := h
  cases e
  exact k σ H ρ Bey.refl R E)⟩
theorem zs_break : PS X (.Break pos) (tS X.K fa sBrk) := ⟨fun pins s σ H D I h => ps_break.run pins s σ H D I (by
  obtain ⟨ρ, st, en, o, st', R, E, e, k⟩ := h
  cases e
  exact k σ H ρ Bey.refl R E)⟩
theorem zs_cont : PS X (.Continue pos) (tS X.K fa sCnt) := ⟨fun pins s σ H D I h => ps_continue.run pins s σ H D I (by
  obtain ⟨ρ, st, en, o, st', R, E, e, k⟩ := h
  cases e
  exact k σ H ρ Bey.refl R E)⟩
theorem zss_nil : PSs X [] (tS X.K fa sNext) := ⟨fun pins s σ H D I h => pss_nil.run pins s σ H D I (by
  obtain ⟨ρ, st, en, o, st', R, E, e, k⟩ := h
  cases e
  exact k σ H ρ Bey.refl R E)⟩
theorem zss_one (h : PS X st (tS X.K fa a)) : PSs X [st] (tS X.K fa a) := pss_one h
theorem zss_cons (h : PS X st (tS X.K fa a)) (h2 : PSs X sts (tS X.K fa b)) : PSs X (st :: sts) (tS X.K fa (sSeq a b)) := by
  refine ⟨fun pins s σ H D I q => (pss_cons h h2).run pins s σ H D I ?_⟩
  obtain ⟨ρ, st, en, o, st', R, E, e, k⟩ := q
  unfold sSeq at e
  split at e
  · rename_i en1 s1 e1
    refine ⟨ρ, st, en, .nx en1, s1, R, E, e1, fun σ1 H1 ρ1 B1 R1 E1 => ⟨ρ1, s1, en1, o, st', R1, E1, e, ?_⟩⟩
    exact AfterS.bey k B1
  · rename_i hno
    refine ⟨ρ, st, en, o, st', R, E, e, ?_⟩
    cases o with
    | nx en1 => exact absurd e (hno _ _)
    | rt d => exact k
    | bk en => exact k
    | ct en => exact k
theorem zs_expr (he : PE X e (tM X.K fa m)) (hs : swapsWith e none pos.line X.env = pure false := by rfl) : PS X (.Expr e pos) (tS X.K fa (sDrop m)) := by
  refine ⟨fun pins s σ H D I q => (ps_expr he hs).run pins s σ H D I ?_⟩
  obtain ⟨ρ, st, en, o, st', R, E, e, k⟩ := q
  unfold sDrop at e
  split at e
  · rename_i d s1 e1
    cases e
    exact tM_bind R E e1 fun v H1 ρ1 B1 R1 p1 E1 => k σ H1 ρ1 B1 R1 E1
  · cases e
theorem zs_ret (he : PE X e (tM X.K fa m)) : PS X (.Return (some e) pos) (tS X.K fa (sRet m)) := by
  refine ⟨fun pins s σ H D I q => (ps_ret he).run pins s σ H D I ?_⟩
  obtain ⟨ρ, st, en, o, st', R, E, e, k⟩ := q
  unfold sRet at e
  split at e
  · rename_i d s1 e1
    cases e
    exact tM_bind R E e1 fun v H1 ρ1 B1 R1 p1 E1 => k v H1 ρ1 B1 R1 p1
  · cases e
theorem zs_retN : PS X (.Return none pos) (tS X.K fa (sRet (eC .non))) := by
  refine ⟨fun pins s σ H D I q => ps_retN.run pins s σ H D I ?_⟩
  obtain ⟨ρ, st, en, o, st', R, E, e, k⟩ := q
  cases e
  exact k _ H ρ Bey.refl R .non
theorem zs_if {c : Expr} {t : MT} {sa sb : List Stmt} (hc : PT X c (tT X.K fa t)) (ha : PSs X sa (tS X.K fa a)) (hb : PSs X sb (tS X.K fa b)) : PS X (.If c sa sb pos) (tS X.K fa (sIf t a b)) := by
  refine ⟨fun pins s σ H D I q => (ps_if hc ha hb).run pins s σ H D I ?_⟩
  obtain ⟨ρ, st, en, o, st', R, E, e, k⟩ := q
  unfold sIf at e
  split at e
  · rename_i s1 e1
    refine tT_bind R E e1 fun H1 ρ1 B1 R1 E1 => ?_
    rw [if_pos rfl]
    exact ⟨ρ1, s1, en, o, st', R1, E1, e, AfterS.bey k B1⟩
  · rename_i s1 e1
    refine tT_bind R E e1 fun H1 ρ1 B1 R1 E1 => ?_
    rw [if_neg Bool.false_ne_true]
    exact ⟨ρ1, s1, en, o, st', R1, E1, e, AfterS.bey k B1⟩
  · cases e
theorem zs_set {i : Nat} {x : Str} {pos' : Pos} (hN : X.N.Nodup) (hi : X.N[i]? = some x) (hx : Loc X.env.scope x) (he : PE X e (tM X.K fa m)) (hs : swapsWith e (some (.Name x pos')) pos.line X.env = pure false := by rfl)
    (hf : X.fn x = true ∨ X.env.scope.names.lookup x = some .local := by first | exact .inl rfl | exact .inr rfl | assumption) : PS X (.Assign [.Name x pos'] e pos) (tS X.K fa (sSet i m)) := by
  refine ⟨fun pins s σ H D I q => (ps_set hN hi hx he hs hf).run pins s σ H D I ?_⟩
  obtain ⟨ρ, st, en, o, st', R, E, e, k⟩ := q
  simp only [sSet, sAsg, gVar] at e
  split at e
  · rename_i d s1 e1
    cases e
    exact tM_bind R E e1 fun v H1 ρ1 B1 R1 p1 E1 => k _ H1 ρ1 B1 R1 (E1.set p1 i)
  · cases e
theorem zs_asg {tg : Expr} {g : D → En → Option En} {ws : List Nat} (he : PE X e (tM X.K fa m)) (hg : PG X tg (tG X.K fa g ws)) (hs : swapsWithSole [tg] e pos.line X.env = pure false := by rfl) (hw : swappedStores [tg] e X.env = pure none := by rfl)
    (h1 : (assignEach [tg] X.env).map (·.2) = [assign tg X.env] := by rfl) : PS X (.Assign [tg] e pos) (tS X.K fa (sAsg g m)) := by
  refine ⟨fun pins s σ H D I q => (ps_asg he hg hs hw h1).run pins s σ H D I ?_⟩
  obtain ⟨ρ, st, en, o, st', R, E, e, k⟩ := q
  unfold sAsg at e
  split at e
  · rename_i d s1 e1
    split at e
    · rename_i en1 eg
      cases e
      exact tM_bind R E e1 fun v H1 ρ1 B1 R1 p1 E1 => ⟨ρ1, en, d, en1, E1, p1, eg, fun σ' E' _ => k σ' H1 ρ1 B1 R1 E'⟩
    · cases e
  · cases e
/-- x = [..] -/
theorem zs_setLc {i : Nat} {y : Str} {py spos : Pos} {elt tg iter : Expr} {ifs : List Expr} {scope : Scope} {own : List (Str × Nat)} {mi : MI} {g : D → En → Option En} {t : MT} {e : M} {ws : List Nat} (hc : X.calm = true) (hN : X.N.Nodup) (hy : X.N[i]? = some y) (hyl : X.env.scope.names.lookup y = some .local)
    (hsw : swapsWith (.ListComp elt [⟨tg, iter, ifs, 0⟩] scope pos) (some (.Name y py)) spos.line X.env = pure true) (hi : PI X tg iter (tI X.K fa mi)) (ok : BlkOk X.N X.env.scope scope own) (hw : ∀ i ∈ ws, i ∈ own.map (·.2))
    (hg : ∀ s H C cl fp, PG (X.blk s H scope (compEnvC scope cl C X.env) fp) tg (tG X.K fa g ws)) (ht : ∀ s H C cl fp, PTs (X.blk s H scope (compEnvC scope cl C X.env) fp) ifs (tT X.K fa t))
    (he : ∀ s H C cl fp, PE (X.blk s H scope (compEnvC scope cl C X.env) fp) elt (tM X.K fa e)) (hs : ∀ x, foldedSetIterable iter X.env x = pure x := by intro _; rfl) :
    PS X (.Assign [.Name y py] (.ListComp elt [⟨tg, iter, ifs, 0⟩] scope pos) spos) (tS X.K fa (sSet i (eAl (lLc mi g t e (own.map (·.2)))))) := by
  refine ⟨fun pins s σ H D I q => (ps_setLc hc hN hy hyl hsw hi ok hg ht he hs).run pins s σ H D I (lc_imp hw (al_imp ?_))⟩
  obtain ⟨ρ, st, en, o, st', R, E, e, k⟩ := q
  simp only [sSet, sAsg, gVar] at e
  split at e
  · rename_i d s1 e1
    cases e
    exact tM_bind R E e1 fun v H1 ρ1 B1 R1 p1 E1 => k _ H1 ρ1 B1 R1 (E1.set p1 i)
  · cases e
theorem zs_for {tg iter : Expr} {body : List Stmt} {mi : MI} {g : D → En → Option En} {ws : List Nat} (hp : PassesOwn (model X.prog X.w) X.A X.env X.xe) (hc : X.calm = true) (hi : PI X tg iter (tI X.K fa mi)) (hg : PG X tg (tG X.K fa g ws)) (hb : PSs X body (tS X.K fa b))
    (hs : ∀ x, foldedSetIterable iter X.env x = pure x := by intro _; rfl) : PS X (.For tg iter body [] pos) (tS X.K fa (sFor mi g b)) := by
  refine ⟨fun pins s σ H D I q => (ps_for hp hc hi hg hb hs).run pins s σ H D I ?_⟩
  obtain ⟨ρ, st, en, o, st', R, E, q, k⟩ := q
  unfold sFor at q
  split at q
  · rename_i src s1 e1
    refine ⟨ρ, st, en, src, s1, R, E, e1, fun J H1 ρ1 B1 R1 js => ?_⟩
    refine ⟨fun i m σ2 H2 => ∃ ρ2 s2 en2, Bey ρ1 H1 ρ2 H2 ∧ Rep X.K fa ρ2 H2 s2 ∧ REnv X.K fa ρ2 H2 en2 σ2 ∧ forGo src g b m i en2 s2 = some (o, st'), ⟨src.len, ρ1, s1, en, Bey.refl, R1, E.bey B1, q⟩, ?_⟩
    rintro i m σ2 H2 ⟨ρ2, s2, en2, B2, R2, E2, q2⟩
    cases hx : src.nxt i s2 with
    | none => cases m <;> simp only [forGo, hx] at q2 <;> cases q2
    | some x =>
      obtain ⟨j1, j2⟩ := js i ρ2 H2 s2 x B2.bex R2 hx
      cases x with
      | none =>
        have : forGo src g b m i en2 s2 = some (.nx en2, s2) := by cases m <;> simp only [forGo, hx]
        rw [this] at q2
        cases q2
        exact .inl ⟨j1 rfl, k σ2 H2 ρ2 (B1.trans B2) R2 E2⟩
      | some d =>
        obtain ⟨jg, jy⟩ := j2 d rfl
        cases m with
        | zero => simp only [forGo, hx] at q2; cases q2
        | succ m =>
          simp only [forGo, hx] at q2
          split at q2
          · rename_i en3 eg
            refine .inr ⟨jg, fun σ' H' => ∃ ρ2 s2 en2, Bey ρ1 H1 ρ2 H' ∧ Rep X.K fa ρ2 H' s2 ∧ REnv X.K fa ρ2 H' en2 σ' ∧ forGo src g b m (i + 1) en2 s2 = some (o, st'), fun σ' H' h' => ⟨m, Nat.lt_succ_self _, h'⟩, fun v H3 y => ?_⟩
            obtain ⟨B3, R3, p3⟩ := jy v H3 y
            refine ⟨ρ2, en2, d, en3, E2.bey B3, p3, eg, fun σ3 E3 _ => ?_⟩
            cases hb : b en3 s2 with
            | none => rw [hb] at q2; cases q2
            | some r =>
              obtain ⟨o2, s4⟩ := r
              rw [hb] at q2
              refine ⟨ρ2, s2, en3, o2, s4, R3, E3, hb, ?_⟩
              cases o2 with
              | nx en4 => exact fun σ4 H4 ρ4 B4 R4 E4 => ⟨ρ4, s4, en4, (B2.trans B3).trans B4, R4, E4, q2⟩
              | ct en4 => exact fun σ4 H4 ρ4 B4 R4 E4 => ⟨ρ4, s4, en4, (B2.trans B3).trans B4, R4, E4, q2⟩
              | bk en4 =>
                simp only at q2
                cases q2
                exact fun σ4 H4 ρ4 B4 R4 E4 => k σ4 H4 ρ4 (((B1.trans B2).trans B3).trans B4) R4 E4
              | rt d4 =>
                simp only at q2
                cases q2
                exact After.bey k ((B1.trans B2).trans B3)
          · cases q2
  · cases q
end

/-! ### a def -/
def startE (n : Nat) (ds : List D) : En := ds.map some ++ List.replicate (n - ds.length) none
def runBody (n : Nat) (m : MS) (ds : List D) (st : S) : Option (D × S) := match m (startE n ds) st with
  | some (.rt d, s) => some (d, s)
  | some (.nx _, s) => some (.non, s)
  | _ => none
section
variable {P : Program} {w : World} {K : PySem.W.Frag} {mg : Str → Option Value} {base : Heap} {fa : Nat → Addr}
theorem start_env {ρ : List Addr} {H : Hp} {N : List Str} {ds : List D} {vs : List V} (r : RpL K fa ρ H ds vs) : REnv K fa ρ H (startE N.length ds) (L2.start N vs) := by
  unfold startE L2.start
  refine ⟨by simp [r.length], fun i d e => ?_⟩
  rw [List.getElem?_append] at e
  split at e
  · rename_i hi
    rw [List.length_map] at hi
    rw [List.getElem?_map] at e
    cases q : ds[i]? with
    | none => rw [q] at e; cases e
    | some x =>
      rw [q] at e
      cases e
      obtain ⟨v, h1, h2⟩ := r.get q
      refine ⟨v, ?_, h2⟩
      rw [List.getElem?_append_left (by rw [List.length_map, ← r.length]; exact hi), List.getElem?_map, h1]
      rfl
  · rename_i hi
    rw [List.getElem?_replicate] at e
    split at e <;> cases e
/-- THE RULE for a def -/
theorem fn_ok {x qual : Str} {st : Stmt} {f : Addr} {fd : FuncData} {N ps : List Str} {k n : Nat} {m : MS} (F : Fun K x qual st f fd) (S : FnScope N ps (defScope st)) (hn : ps.length = n)
    (hbody : ∀ (cdv : Value) (A : Around) (outer : List Env) (s : Shared) (H : Hp), Room k (A.deeper (envOfC qual (defScope st) s.heap.objs.size f cdv)) → PSs (cxOf CX0 P w K mg base N qual (defScope st) f cdv A outer s H E0).nox (defBody st) (tS K fa m)) :
    FnOk P w K mg base CX0 (k + 1) f fd ps (spM K fa (runBody N.length m) n) := by
  have hE : ∀ E : XK, E = E0 → True := fun _ _ => trivial
  refine F.ok S (fun vs H Q E h => ?_) (fun cdv A outer s H vs Q E hr h => ?_)
  · obtain ⟨_, _, _, _, _, h, _⟩ := h
    rw [h, hn]
  · refine ⟨_, hbody cdv A outer s H hr, ?_⟩
    obtain ⟨ρ, st0, ds, d, st', hl, R, r, e, k⟩ := h
    unfold runBody at e
    split at e
    · rename_i d0 s0 e0
      cases e
      exact ⟨ρ, st0, _, _, _, R, start_env r, e0, k⟩
    · rename_i en0 s0 e0
      cases e
      exact ⟨ρ, st0, _, _, _, R, start_env r, e0, fun σ' H' ρ' B R' _ => k .non H' ρ' B R' .non⟩
    · cases e
end
end Z
namespace Z
open PySem PySem.Spec PyProof.Rows L2

/-! ### dict displays -/
abbrev MP := En → S → Option (List (D × D) × S)
def pNil : MP := fun _ s => some ([], s)
def pCons (k v : M) (r : MP) : MP := fun en st => match k en st with
  | some (x, s1) => match v en s1 with
    | some (y, s2) => match r en s2 with
      | some (ps, s3) => some ((x, y) :: ps, s3)
      | none => none
    | none => none
  | none => none
def allK : List (D × D) → Bool
  | [] => true
  | p :: ps => (keyD p.1).isSome && allK ps
def eDisp (m : MP) : M := fun en st => match m en st with
  | some (ps, s) => if allK ps = true ∧ ps.length ≤ 15 then some (.ref s.length, s ++ [.dic (ps.foldl (fun l p => dPut l p.1 p.2) [])]) else none
  | none => none
section
variable {K : PySem.W.Frag} {fa : Nat → Addr} {ρ : List Addr} {H : Hp}
theorem allK_of : ∀ {ps : List (D × D)} {vs : List (V × V)}, allK ps = true → RpL K fa ρ H (ps.map (·.1)) (vs.map (·.1)) → RpL K fa ρ H (ps.map (·.2)) (vs.map (·.2)) →
    ∃ kvs : List (Key × V), vs = kvs.map (fun kv => (kV kv.1, kv.2)) ∧ ps.map (fun p => keyD p.1) = kvs.map (fun kv => some kv.1) ∧ kvs.length = ps.length
  | [], [], _, _, _ => ⟨[], rfl, rfl, rfl⟩
  | [], v :: vs, _, h, _ => by cases h
  | p :: ps, [], _, h, _ => by cases h
  | p :: ps, v :: vs, a, h1, h2 => by
    simp only [allK, Bool.and_eq_true] at a
    cases h1 with
    | cons r1 t1 => cases h2 with
      | cons r2 t2 =>
        obtain ⟨kvs, e1, e2, e3⟩ := allK_of a.2 t1 t2
        obtain ⟨k, hk⟩ := Option.isSome_iff_exists.mp a.1
        refine ⟨(k, v.2) :: kvs, ?_, ?_, ?_⟩
        · rw [List.map_cons, ← e1, ← keyD_kV r1 hk]
        · rw [List.map_cons, List.map_cons, e2, hk]
        · rw [List.length_cons, List.length_cons, e3]
theorem merge_of : ∀ {ps : List (D × D)} {kvs : List (Key × V)} {l : List (D × D)} {ks : List Key} {vs : List V}, ps.map (fun p => keyD p.1) = kvs.map (fun kv => some kv.1) → RpL K fa ρ H (ps.map (·.2)) (kvs.map (·.2)) →
    l.map (fun p => keyD p.1) = ks.map some → RpL K fa ρ H (l.map (·.2)) vs → RpO K fa ρ H (.dic (ps.foldl (fun l p => dPut l p.1 p.2) l)) (.dK (mergeK (ks.zip vs) kvs))
  | [], kvs, l, ks, vs, h1, h2, h3, h4 => by
    cases kvs with
    | nil => exact .dK h3 h4
    | cons _ _ => cases h1
  | p :: ps, kvs, l, ks, vs, h1, h2, h3, h4 => by
    cases kvs with
    | nil => cases h1
    | cons kv kvs =>
      simp only [List.map_cons, List.cons.injEq] at h1
      cases h2 with
      | cons r t =>
        obtain ⟨ks', vs', e1, e2, e3⟩ := put_of (kf := keyD) eqK_iff h1.1 r h3 h4
        show RpO K fa ρ H (.dic (ps.foldl (fun l p => dPut l p.1 p.2) (dPut l p.1 p.2))) (.dK (mergeK (putK (ks.zip vs) kv.1 kv.2) kvs))
        rw [e1]
        exact merge_of h1.2 t e2 e3
def trsOf (K : PySem.W.Frag) (fa : Nat → Addr) (ms : List (M × M)) : List (TE × TE) := ms.map fun p => (tM K fa p.1, tM K fa p.2)
def mpOf : List (M × M) → MP
  | [] => pNil
  | (k, v) :: r => pCons k v (mpOf r)
theorem pairs_imp : ∀ {ms : List (M × M)} {σ : L2.St} {H : Hp} {ρ : List Addr} {st st' : S} {en : En} {ps : List (D × D)} {Q : List (V × V) → Hp → Prop}, Rep K fa ρ H st → REnv K fa ρ H en σ → mpOf ms en st = some (ps, st') →
    (∀ vs H' ρ', Bey ρ H ρ' H' → Rep K fa ρ' H' st' → RpL K fa ρ' H' (ps.map (·.1)) (vs.map (·.1)) → RpL K fa ρ' H' (ps.map (·.2)) (vs.map (·.2)) → Q vs H') → tPairs (trsOf K fa ms) σ H Q
  | [], σ, H, ρ, st, st', en, ps, Q, R, E, e, k => by
    cases e
    exact k [] H ρ Bey.refl R .nil .nil
  | (mk, mv) :: ms, σ, H, ρ, st, st', en, ps, Q, R, E, e, k => by
    simp only [mpOf, pCons] at e
    split at e
    · rename_i x s1 e1
      split at e
      · rename_i y s2 e2
        split at e
        · rename_i ps' s3 e3
          cases e
          refine tM_bind R E e1 fun v H1 ρ1 B1 R1 p1 E1 => tM_bind R1 E1 e2 fun u H2 ρ2 B2 R2 p2 E2 => ?_
          exact pairs_imp R2 E2 e3 fun vs H3 ρ3 B3 R3 q1 q2 => k _ H3 ρ3 ((B1.trans B2).trans B3) R3 (.cons ((p1.bey B2).bey B3) q1) (.cons (p2.bey B3) q2)
        · cases e
      · cases e
    · cases e
end
section
variable {X : Cx} {fa : Nat → Addr} {pos : Pos}
theorem zps_nil : PPs X pos [] [] (trsOf X.K fa []) := pps_nil
theorem zps_cons {k v : Expr} {ks : List (Option Expr)} {vs : List Expr} {mk mv : M} {ms : List (M × M)} (hk : PE X k (tM X.K fa mk)) (hv : PE X v (tM X.K fa mv)) (hr : PPs X pos ks vs (trsOf X.K fa ms)) : PPs X pos (some k :: ks) (v :: vs) (trsOf X.K fa ((mk, mv) :: ms)) := pps_cons hk hv hr
theorem ze_disp {keys : List (Option Expr)} {values : List Expr} {ms : List (M × M)} (h : PPs X pos keys values (trsOf X.K fa ms)) (hall : keys.all (·.isSome) = true) (hl : keys.length = values.length) (h0 : keys ≠ []) (h15 : keys.length ≤ 15) :
    PE X (.Dict keys values pos) (tM X.K fa (eDisp (mpOf ms))) := by
  refine ⟨fun pins s σ H Q I q => (pe_disp h hall hl h0 h15).run pins s σ H Q I fun p np => ?_⟩
  obtain ⟨ρ, st, en, d, st', R, E, e, k⟩ := q
  unfold eDisp at e
  split at e
  · rename_i ps s1 e1
    split at e
    · rename_i ha
      cases e
      refine pairs_imp (R.new np) (E.bey (Bey.new np)) e1 fun vs H1 ρ1 B1 R1 q1 q2 => ?_
      have h1 := B1.unt p _ (R.notIn np) upd_same
      obtain ⟨kvs, g1, g2, g3⟩ := allK_of ha.1 q1 q2
      have q3 : RpL X.K fa ρ1 H1 (ps.map (·.2)) (kvs.map (·.2)) := by
        rw [g1, List.map_map] at q2
        exact q2
      refine ⟨h1, kvs, g1, by rw [g3]; exact ha.2, ?_⟩
      have nm : p ∉ ρ1 := fun m => by
        have := B1.nw p m (R.notIn np)
        rw [upd_same] at this
        cases this
      have x : Ext H1 (upd H1 p (.dK (mergeK [] kvs))) := Ext.dK h1
      have r := merge_of (l := []) (ks := []) (vs := []) g2 q3 rfl .nil
      have R2 : Rep X.K fa ρ1 (upd H1 p (.dK (mergeK [] kvs))) s1 := R1.same x fun a ha => upd_ne fun z => nm (z ▸ ha)
      refine k _ _ (ρ1 ++ [p]) ?_ (R2.num nm upd_same (r.bex ⟨x, List.prefix_append _ _⟩)) (.ref (by rw [← R1.len]; exact List.getElem?_concat_length))
      have B := (Bey.new (ρ := ρ) (ho := .dK []) np).trans B1
      refine Bey.num ⟨B.ext.trans x, B.pre, fun a o n z => ?_, B.nw⟩ nm np
      rw [upd_ne]
      · exact B.unt a o n z
      · rintro rfl
        rw [np] at z; cases z
    · cases e
  · cases e
end

/-! ### comprehensions of two clauses -/
def lc2In (src : Src) (g : D → En → Option En) (t : MT) (e : M) : Nat → Nat → En → S → List D → Option (List D × S) := lcGo src g t e
def lc2Go (src : Src) (g : D → En → Option En) (t : MT) (mi1 : MI) (g1 : D → En → Option En) (t1 : MT) (e : M) (vs1 : List Nat) : Nat → Nat → En → S → List D → Option (List D × S)
  | 0, i, en, s, acc => match src.nxt i s with
    | some none => some (acc, s)
    | _ => none
  | k + 1, i, en, s, acc => match src.nxt i s with
    | some none => some (acc, s)
    | some (some x) => match g x en with
      | some en1 => match t en1 s with
        | some (true, s1) => match mi1 en1 s1 with
          | some (src1, s2) => match lcGo src1 g1 t1 e src1.len 0 (wipeE en1 vs1) s2 acc with
            | some (acc', s3) => lc2Go src g t mi1 g1 t1 e vs1 k (i + 1) en s3 acc'
            | none => none
          | none => none
        | some (false, s1) => lc2Go src g t mi1 g1 t1 e vs1 k (i + 1) en s1 acc
        | none => none
      | none => none
    | none => none
def lLc2 (mi : MI) (g : D → En → Option En) (t : MT) (mi1 : MI) (g1 : D → En → Option En) (t1 : MT) (e : M) (vs vs1 : List Nat) : ML := fun en st => match mi en st with
  | some (src, s1) => lc2Go src g t mi1 g1 t1 e vs1 src.len 0 (wipeE en vs) s1 []
  | none => none
section
variable {K : PySem.W.Frag} {fa : Nat → Addr} {mi mi1 : MI} {g g1 : D → En → Option En} {t t1 : MT} {e : M} {vs vs1 ws ws1 : List Nat}
theorem lc2_imp {σ : L2.St} {H : Hp} {Q : VK} (hw : ∀ i ∈ ws, i ∈ vs) (hw1 : ∀ i ∈ ws1, i ∈ vs1) (h : tL K fa (lLc2 mi g t mi1 g1 t1 e vs vs1) σ H Q) :
    tLc2 (tI K fa mi) (tG K fa g ws) (tT K fa t) (tI K fa mi1) (tG K fa g1 ws1) (tT K fa t1) (tM K fa e) vs vs1 σ H Q := by
  obtain ⟨ρ, st, en, l, st', R, E, q, k⟩ := h
  unfold lLc2 at q
  split at q
  · rename_i src s1 e1
    refine ⟨ρ, st, en, src, s1, R, E, e1, fun J H1 ρ1 B1 R1 js L nL => ?_⟩
    have hL : H L = none := by
      cases z : H L with
      | none => rfl
      | some o =>
        by_cases m : L ∈ ρ
        · obtain ⟨ho, q⟩ := R1.tracked (B1.pre.subset m)
          rw [nL] at q; cases q
        · have := B1.unt _ _ m z
          rw [nL] at this; cases this
    refine ⟨fun i m H2 => ∃ ρ2 s2 acc us, Bey ρ1 H1 ρ2 H2 ∧ Rep K fa ρ2 H2 s2 ∧ L ∉ ρ2 ∧ H2 L = some (.lst us) ∧ RpL K fa ρ2 H2 acc us ∧ lc2Go src g t mi1 g1 t1 e vs1 m i (wipeE en vs) s2 acc = some (l, st'),
      ⟨src.len, ρ1, s1, [], [], Bey.new nL, R1.new nL, R1.notIn nL, upd_same, .nil, q⟩, ?_⟩
    rintro i m H2 ⟨ρ2, s2, acc, us, B2, R2, nm, hl, ra, q2⟩
    have E2 : REnv K fa ρ2 H2 (wipeE en vs) (wipe σ vs) := ((E.bey B1).bey B2).wipes vs
    cases hx : src.nxt i s2 with
    | none => cases m <;> simp only [lc2Go, hx] at q2 <;> cases q2
    | some x =>
      obtain ⟨j1, j2⟩ := js i ρ2 H2 s2 x B2.bex R2 hx
      cases x with
      | none =>
        have : lc2Go src g t mi1 g1 t1 e vs1 m i (wipeE en vs) s2 acc = some (acc, s2) := by cases m <;> simp only [lc2Go, hx]
        rw [this] at q2
        cases q2
        exact .inl ⟨j1 rfl, k L us H2 ρ2 (B1.trans B2) R2 nm hL hl ra⟩
      | some d =>
        obtain ⟨jg, jy⟩ := j2 d rfl
        cases m with
        | zero => simp only [lc2Go, hx] at q2; cases q2
        | succ m =>
          simp only [lc2Go, hx] at q2
          split at q2
          · rename_i en1 eg
            refine .inr ⟨jg, fun H' => ∃ ρ2 s2 acc us, Bey ρ1 H1 ρ2 H' ∧ Rep K fa ρ2 H' s2 ∧ L ∉ ρ2 ∧ H' L = some (.lst us) ∧ RpL K fa ρ2 H' acc us ∧ lc2Go src g t mi1 g1 t1 e vs1 m (i + 1) (wipeE en vs) s2 acc = some (l, st'),
              fun H' h' => ⟨m, Nat.lt_succ_self _, h'⟩, fun v H3 y => ?_⟩
            obtain ⟨B3, R3, p3⟩ := jy v H3 y
            refine ⟨ρ2, wipeE en vs, d, en1, E2.bey B3, p3, eg, fun σ2 Es2 wp => ⟨?_, ?_⟩⟩
            · rw [wp vs hw]
              exact wipe_wipe vs fun _ h => h
            · split at q2
              · rename_i s3 et
                refine tT_bind R3 Es2 et fun H4 ρ4 B4 R4 E4 => ?_
                rw [if_pos rfl]
                have nm4 : L ∉ ρ4 := fun m => by have := B4.nw L m nm; rw [B3.unt _ _ nm hl] at this; cases this
                have hl4 := B4.unt _ _ nm (B3.unt _ _ nm hl)
                split at q2
                · rename_i src1 s5 ei
                  split at q2
                  · rename_i acc' s6 eq
                    refine ⟨ρ4, s3, en1, src1, s5, R4, E4, ei, fun J1 H5 ρ5 B5 R5 js1 => ?_⟩
                    have nm5 : L ∉ ρ5 := fun m => by have := B5.nw L m nm4; rw [hl4] at this; cases this
                    have hl5 := B5.unt _ _ nm4 hl4
                    have B15 := ((B2.trans B3).trans B4).trans B5
                    have nL1 : L ∉ ρ1 := R1.notIn nL
                    refine ⟨fun i m H6 => ∃ ρ6 s6' acc6 us6, Bex ρ5 H5 ρ6 H6 ∧ (∀ a o, a ≠ L → a ∉ ρ5 → H5 a = some o → H6 a = some o) ∧ (∀ a, a ∈ ρ6 → a ∉ ρ5 → H5 a = none) ∧ Rep K fa ρ6 H6 s6' ∧ L ∉ ρ6 ∧ H6 L = some (.lst us6) ∧ RpL K fa ρ6 H6 acc6 us6 ∧
                      lcGo src1 g1 t1 e m i (wipeE en1 vs1) s6' acc6 = some (acc', s6), ⟨src1.len, ρ5, s5, acc, us, Bey.refl.bex, fun _ _ _ _ h => h, fun _ h n => absurd h n, R5, nm5, hl5, ((ra.bey B3).bey B4).bey B5, eq⟩, ?_⟩
                    rintro j m1 H6 ⟨ρ6, s6', acc6, us6, X6, U6, N6, R6, nm6, hl6, ra6, q6⟩
                    have E6 : REnv K fa ρ6 H6 (wipeE en1 vs1) (wipe σ2 vs1) := by
                      have E5 := E4.bey B5
                      have E6' : REnv K fa ρ6 H6 en1 σ2 := ⟨E5.len, fun i d e => let ⟨v, h1, h2⟩ := E5.at_ i d e; ⟨v, h1, h2.bex X6⟩⟩
                      exact E6'.wipes vs1
                    cases hx1 : src1.nxt j s6' with
                    | none => cases m1 <;> simp only [lcGo, hx1] at q6 <;> cases q6
                    | some x1 =>
                      obtain ⟨j3, j4⟩ := js1 j ρ6 H6 s6' x1 X6 R6 hx1
                      -- what holds behind the inner loop's turns, seen from (ρ1, H1)
                      have BB : ∀ {ρ7 H7}, Bey ρ6 H6 ρ7 H7 → Bey ρ1 H1 ρ7 H7 := fun {ρ7 H7} b => by
                        refine ⟨(B15.ext.trans X6.ext).trans b.ext, (B15.pre.trans X6.pre).trans b.pre, fun a o n z => ?_, fun a m n => ?_⟩
                        · have hne : a ≠ L := by rintro rfl; rw [nL] at z; cases z
                          have n5 : a ∉ ρ5 := fun m => by have := B15.nw a m n; rw [this] at z; cases z
                          have z5 := B15.unt a o n z
                          have n6 : a ∉ ρ6 := fun m => by have := N6 a m n5; rw [this] at z5; cases z5
                          exact b.unt a o n6 (U6 a o hne n5 z5)
                        · by_cases m6 : a ∈ ρ6
                          · by_cases m5 : a ∈ ρ5
                            · exact B15.nw a m5 n
                            · have := N6 a m6 m5
                              cases z : H1 a with
                              | none => rfl
                              | some o => rw [B15.unt a o n z] at this; cases this
                          · have := b.nw a m m6
                            cases z : H1 a with
                            | none => rfl
                            | some o =>
                              have hne : a ≠ L := by rintro rfl; rw [nL] at z; cases z
                              have n5 : a ∉ ρ5 := fun m => by have := B15.nw a m n; rw [this] at z; cases z
                              rw [U6 a o hne n5 (B15.unt a o n z)] at this; cases this
                      cases x1 with
                      | none =>
                        have : lcGo src1 g1 t1 e m1 j (wipeE en1 vs1) s6' acc6 = some (acc6, s6') := by cases m1 <;> simp only [lcGo, hx1]
                        rw [this] at q6
                        cases q6
                        exact .inl ⟨j3 rfl, ρ6, s6, _, us6, BB Bey.refl, R6, nm6, hl6, ra6, q2⟩
                      | some d1 =>
                        obtain ⟨jg1, jy1⟩ := j4 d1 rfl
                        cases m1 with
                        | zero => simp only [lcGo, hx1] at q6; cases q6
                        | succ m1 =>
                          simp only [lcGo, hx1] at q6
                          split at q6
                          · rename_i en3 eg3
                            refine .inr ⟨jg1, fun H' => ∃ ρ6 s6' acc6 us6, Bex ρ5 H5 ρ6 H' ∧ (∀ a o, a ≠ L → a ∉ ρ5 → H5 a = some o → H' a = some o) ∧ (∀ a, a ∈ ρ6 → a ∉ ρ5 → H5 a = none) ∧ Rep K fa ρ6 H' s6' ∧ L ∉ ρ6 ∧ H' L = some (.lst us6) ∧ RpL K fa ρ6 H' acc6 us6 ∧
                              lcGo src1 g1 t1 e m1 (j + 1) (wipeE en1 vs1) s6' acc6 = some (acc', s6), fun H' h' => ⟨m1, Nat.lt_succ_self _, h'⟩, fun v7 H7 y7 => ?_⟩
                            obtain ⟨B7, R7, p7⟩ := jy1 v7 H7 y7
                            have fin : ∀ {ρ8 H8}, Bey ρ6 H6 ρ8 H8 → Bex ρ5 H5 ρ8 H8 ∧ (∀ a o, a ≠ L → a ∉ ρ5 → H5 a = some o → H8 a = some o) ∧ (∀ a, a ∈ ρ8 → a ∉ ρ5 → H5 a = none) := fun {ρ8 H8} b => by
                              refine ⟨⟨X6.ext.trans b.ext, X6.pre.trans b.pre⟩, fun a o hne n z => ?_, fun a m n => ?_⟩
                              · have n6 : a ∉ ρ6 := fun m => by have := N6 a m n; rw [this] at z; cases z
                                exact b.unt a o n6 (U6 a o hne n z)
                              · by_cases m6 : a ∈ ρ6
                                · exact N6 a m6 n
                                · have := b.nw a m m6
                                  by_cases hne : a = L
                                  · subst hne; rw [hl6] at this; cases this
                                  · cases z : H5 a with
                                    | none => rfl
                                    | some o => rw [U6 a o hne n z] at this; cases this
                            refine ⟨ρ6, wipeE en1 vs1, d1, en3, E6.bey B7, p7, eg3, fun σ3 Es3 wp3 => ⟨?_, ?_⟩⟩
                            · rw [wp3 vs1 hw1]
                              exact wipe_wipe vs1 fun _ h => h
                            · split at q6
                              · rename_i s8 et8
                                refine tT_bind R7 Es3 et8 fun H8 ρ8 B8 R8 E8 => ?_
                                rw [if_pos rfl]
                                split at q6
                                · rename_i y9 s9 ee9
                                  split at q6
                                  · rename_i hb9
                                    refine tM_bind R8 E8 ee9 fun v9 H9 ρ9 B9 R9 p9 E9 => ?_
                                    have nm8 : L ∉ ρ8 := fun m => by have := B8.nw L m nm6; rw [B7.unt _ _ nm6 hl6] at this; cases this
                                    have hl8 := B8.unt _ _ nm6 (B7.unt _ _ nm6 hl6)
                                    have nm9 : L ∉ ρ9 := fun m => by have := B9.nw L m nm8; rw [hl8] at this; cases this
                                    have hl9 := B9.unt _ _ nm8 hl8
                                    have ra9 := ((ra6.bey B7).bey B8).bey B9
                                    have x : Ext H9 (upd H9 L (.lst (us6 ++ [v9]))) := Ext.lst hl9
                                    have bx : Bex ρ9 H9 ρ9 (upd H9 L (.lst (us6 ++ [v9]))) := ⟨x, List.prefix_refl _⟩
                                    obtain ⟨f1, f2, f3⟩ := fin ((B7.trans B8).trans B9)
                                    refine ⟨us6, hl9, by rw [← ra9.length]; exact big_lt hb9, ρ9, s9, acc6 ++ [y9], us6 ++ [v9], ⟨f1.ext.trans x, f1.pre⟩, fun a o hne n z => by rw [upd_ne hne]; exact f2 a o hne n z, f3,
                                      R9.same x fun a ha => upd_ne fun z => nm9 (z ▸ ha), nm9, upd_same, (ra9.bex bx).append (.cons (p9.bex bx) .nil), q6⟩
                                  · cases q6
                                · cases q6
                              · rename_i s8 et8
                                refine tT_bind R7 Es3 et8 fun H8 ρ8 B8 R8 E8 => ?_
                                rw [if_neg Bool.false_ne_true]
                                have nm8 : L ∉ ρ8 := fun m => by have := B8.nw L m nm6; rw [B7.unt _ _ nm6 hl6] at this; cases this
                                obtain ⟨f1, f2, f3⟩ := fin (B7.trans B8)
                                exact ⟨ρ8, s8, acc6, us6, f1, f2, f3, R8, nm8, B8.unt _ _ nm6 (B7.unt _ _ nm6 hl6), (ra6.bey B7).bey B8, q6⟩
                              · cases q6
                          · cases q6
                  · cases q2
                · cases q2
              · rename_i s3 et
                refine tT_bind R3 Es2 et fun H4 ρ4 B4 R4 E4 => ?_
                rw [if_neg Bool.false_ne_true]
                have nm4 : L ∉ ρ4 := fun m => by have := B4.nw L m nm; rw [B3.unt _ _ nm hl] at this; cases this
                exact ⟨ρ4, s3, acc, us, (B2.trans B3).trans B4, R4, nm4, B4.unt _ _ nm (B3.unt _ _ nm hl), (ra.bey B3).bey B4, q2⟩
              · cases q2
          · cases q2
  · cases q
end
section
variable {X : Cx} {fa : Nat → Addr} {elt tg iter tg1 iter1 : Expr} {ifs ifs1 : List Expr} {scope : Scope} {own : List (Str × Nat)} {vs1 : List Nat} {pos spos py : Pos} {mi mi1 : MI} {g g1 : D → En → Option En} {t t1 : MT} {e : M} {ws ws1 : List Nat}
theorem zl_lc2 (hc : X.calm = true) (hN : X.N.Nodup) (hi : PI X tg iter (tI X.K fa mi)) (ok : BlkOk X.N X.env.scope scope own) (hv : ∀ i ∈ vs1, i ∈ own.map (·.2)) (hw : ∀ i ∈ ws, i ∈ own.map (·.2)) (hw1 : ∀ i ∈ ws1, i ∈ vs1)
    (hg : ∀ s H C cl fp, PG (X.blk s H scope (compEnvC scope cl C X.env) fp) tg (tG X.K fa g ws)) (ht : ∀ s H C cl fp, PTs (X.blk s H scope (compEnvC scope cl C X.env) fp) ifs (tT X.K fa t))
    (hi1 : ∀ s H C cl fp, PI (X.blk s H scope (compEnvC scope cl C X.env) fp) tg1 iter1 (tI X.K fa mi1))
    (hg1 : ∀ s H C cl fp, PG (X.blk s H scope (compEnvC scope cl C X.env) fp) tg1 (tG X.K fa g1 ws1)) (ht1 : ∀ s H C cl fp, PTs (X.blk s H scope (compEnvC scope cl C X.env) fp) ifs1 (tT X.K fa t1))
    (he : ∀ s H C cl fp, PE (X.blk s H scope (compEnvC scope cl C X.env) fp) elt (tM X.K fa e)) (hs : ∀ x, foldedSetIterable iter X.env x = pure x := by intro _; rfl) (hs1 : ∀ env x, foldedSetIterable iter1 env x = pure x := by intro _ _; rfl) :
    PE X (.ListComp elt [⟨tg, iter, ifs, 0⟩, ⟨tg1, iter1, ifs1, 0⟩] scope pos) (tL X.K fa (lLc2 mi g t mi1 g1 t1 e (own.map (·.2)) vs1)) :=
  ⟨fun pins s σ H Q I h => (pe_lc2 hc hN hi ok hv hg ht hi1 hg1 ht1 he hs hs1).run pins s σ H Q I (lc2_imp hw hw1 h)⟩
end
end Z
/-! reasoning about what a text does: Ok r Q: r comes to an end of which Q holds -/
namespace Z
open PySem L2
def Ok {α : Type} (r : Option (α × S)) (Q : α → S → Prop) : Prop := ∃ a s, r = some (a, s) ∧ Q a s
section
variable {α β : Type} {Q : α → S → Prop}
theorem Ok_some {a : α} {s : S} : Ok (some (a, s)) Q = Q a s := propext ⟨fun ⟨_, _, e, h⟩ => by cases e; exact h, fun h => ⟨_, _, rfl, h⟩⟩
theorem Ok_none : Ok (none : Option (α × S)) Q = False := propext ⟨fun ⟨_, _, e, _⟩ => (nomatch e), False.elim⟩
theorem Ok.mono {r : Option (α × S)} {Q' : α → S → Prop} (h : Ok r Q) (k : ∀ a s, Q a s → Q' a s) : Ok r Q' := let ⟨a, s, e, q⟩ := h; ⟨a, s, e, k a s q⟩
theorem Ok_ite {c : Prop} [Decidable c] {r r' : Option (α × S)} : Ok (if c then r else r') Q = if c then Ok r Q else Ok r' Q := by split <;> rfl
theorem Ok_bindD {r : Option (D × S)} {f : D → S → Option (α × S)} : Ok (match r with | some (x, s) => f x s | none => none) Q = Ok r fun x s => Ok (f x s) Q := by
  cases r with
  | none => exact Ok_none.trans Ok_none.symm
  | some p => obtain ⟨x, s⟩ := p; exact Eq.symm (by exact Ok_some)
theorem Ok_bindL {r : Option ((List D) × S)} {f : List D → S → Option (α × S)} : Ok (match r with | some (x, s) => f x s | none => none) Q = Ok r fun x s => Ok (f x s) Q := by
  cases r with
  | none => exact Ok_none.trans Ok_none.symm
  | some p => obtain ⟨x, s⟩ := p; exact Eq.symm (by exact Ok_some)
theorem Ok_bindS {r : Option (Src × S)} {f : Src → S → Option (α × S)} : Ok (match r with | some (x, s) => f x s | none => none) Q = Ok r fun x s => Ok (f x s) Q := by
  cases r with
  | none => exact Ok_none.trans Ok_none.symm
  | some p => obtain ⟨x, s⟩ := p; exact Eq.symm (by exact Ok_some)
theorem Ok_bindI {r : Option ((Option Int) × S)} {f : Option Int → S → Option (α × S)} : Ok (match r with | some (x, s) => f x s | none => none) Q = Ok r fun x s => Ok (f x s) Q := by
  cases r with
  | none => exact Ok_none.trans Ok_none.symm
  | some p => obtain ⟨x, s⟩ := p; exact Eq.symm (by exact Ok_some)
theorem Ok_bindP {r : Option ((List (D × D)) × S)} {f : List (D × D) → S → Option (α × S)} : Ok (match r with | some (x, s) => f x s | none => none) Q = Ok r fun x s => Ok (f x s) Q := by
  cases r with
  | none => exact Ok_none.trans Ok_none.symm
  | some p => obtain ⟨x, s⟩ := p; exact Eq.symm (by exact Ok_some)
theorem Ok_bindO {r : Option (Out × S)} {f : Out → S → Option (α × S)} : Ok (match r with | some (x, s) => f x s | none => none) Q = Ok r fun x s => Ok (f x s) Q := by
  cases r with
  | none => exact Ok_none.trans Ok_none.symm
  | some p => obtain ⟨x, s⟩ := p; exact Eq.symm (by exact Ok_some)
end
section
variable {en : En} {st : S} {a b : M} {Q : D → S → Prop}
theorem ok_var {i : Nat} : Ok (eVar i en st) Q = match en[i]? with
    | some (some d) => Q d st
    | _ => False := by
  unfold eVar
  cases en[i]? with
  | none => exact Ok_none
  | some o => cases o with
    | none => exact Ok_none
    | some d => exact Ok_some
theorem ok_c {d : D} : Ok (eC d en st) Q = Q d st := Ok_some
theorem ok_bin {f : D → D → S → Option (D × S)} : Ok (eBin f a b en st) Q = Ok (a en st) fun x s1 => Ok (b en s1) fun y s2 => Ok (f x y s2) Q := by
  unfold eBin
  cases a en st with
  | none => exact Ok_none.trans Ok_none.symm
  | some p =>
    obtain ⟨x, s1⟩ := p
    refine Eq.trans ?_ Ok_some.symm
    show Ok (match b en s1 with | some (y, s2) => f x y s2 | none => none) Q = _
    exact Ok_bindD
theorem ok_val {Q : Bool → S → Prop} : Ok (cVal a en st) Q = Ok (a en st) fun d s => match d with
    | .bl b => Q b s
    | _ => False := by
  unfold cVal
  cases a en st with
  | none => exact Ok_none.trans Ok_none.symm
  | some p =>
    obtain ⟨x, s1⟩ := p
    refine Eq.trans ?_ Ok_some.symm
    cases x <;> first | exact Ok_some | exact Ok_none
theorem ok_not {t : MT} {Q : Bool → S → Prop} : Ok (cNot t en st) Q = Ok (t en st) fun b s => Q (!b) s := by
  unfold cNot
  cases t en st with
  | none => exact Ok_none.trans Ok_none.symm
  | some p => obtain ⟨x, s1⟩ := p; exact Ok_some.trans (Eq.symm (by exact Ok_some))
theorem ok_and {t u : MT} {Q : Bool → S → Prop} : Ok (cAnd t u en st) Q = Ok (t en st) fun b s => if b = true then Ok (u en s) Q else Q false s := by
  unfold cAnd
  cases t en st with
  | none => exact Ok_none.trans Ok_none.symm
  | some p =>
    obtain ⟨x, s1⟩ := p
    refine Eq.trans ?_ Ok_some.symm
    cases x
    · rw [if_neg Bool.false_ne_true]; exact Ok_some
    · rw [if_pos rfl]
theorem ok_or {t u : MT} {Q : Bool → S → Prop} : Ok (cOr t u en st) Q = Ok (t en st) fun b s => if b = true then Q true s else Ok (u en s) Q := by
  unfold cOr
  cases t en st with
  | none => exact Ok_none.trans Ok_none.symm
  | some p =>
    obtain ⟨x, s1⟩ := p
    refine Eq.trans ?_ Ok_some.symm
    cases x
    · rw [if_neg Bool.false_ne_true]
    · rw [if_pos rfl]; exact Ok_some
theorem ok_eAnd : Ok (eAnd a b en st) Q = Ok (a en st) fun d s => match d with
    | .bl true => Ok (b en s) Q
    | .bl false => Q (.bl false) s
    | _ => False := by
  unfold eAnd
  cases a en st with
  | none => exact Ok_none.trans Ok_none.symm
  | some p =>
    obtain ⟨x, s1⟩ := p
    refine Eq.trans ?_ Ok_some.symm
    cases x with
    | bl b => cases b <;> first | rfl | exact Ok_some
    | _ => exact Ok_none
theorem ok_eOr : Ok (eOr a b en st) Q = Ok (a en st) fun d s => match d with
    | .bl true => Q (.bl true) s
    | .bl false => Ok (b en s) Q
    | _ => False := by
  unfold eOr
  cases a en st with
  | none => exact Ok_none.trans Ok_none.symm
  | some p =>
    obtain ⟨x, s1⟩ := p
    refine Eq.trans ?_ Ok_some.symm
    cases x with
    | bl b => cases b <;> first | rfl | exact Ok_some
    | _ => exact Ok_none
theorem ok_eNot : Ok (eNot a en st) Q = Ok (a en st) fun d s => match d with
    | .bl b => Q (.bl (!b)) s
    | _ => False := by
  unfold eNot
  cases a en st with
  | none => exact Ok_none.trans Ok_none.symm
  | some p =>
    obtain ⟨x, s1⟩ := p
    refine Eq.trans ?_ Ok_some.symm
    cases x <;> first | exact Ok_some | exact Ok_none
theorem ok_eNeg : Ok (eNeg a en st) Q = Ok (a en st) fun d s => match d with
    | .int i => Q (.int (-i)) s
    | _ => False := by
  unfold eNeg
  cases a en st with
  | none => exact Ok_none.trans Ok_none.symm
  | some p =>
    obtain ⟨x, s1⟩ := p
    refine Eq.trans ?_ Ok_some.symm
    cases x <;> first | exact Ok_some | exact Ok_none
theorem ok_eIf {t : MT} : Ok (eIf t a b en st) Q = Ok (t en st) fun c s => if c = true then Ok (a en s) Q else Ok (b en s) Q := by
  unfold eIf
  cases t en st with
  | none => exact Ok_none.trans Ok_none.symm
  | some p =>
    obtain ⟨x, s1⟩ := p
    refine Eq.trans ?_ Ok_some.symm
    cases x
    · rw [if_neg Bool.false_ne_true]
    · rw [if_pos rfl]
theorem ok_call {f : List D → S → Option (D × S)} {m : MA} : Ok (eCall f m en st) Q = Ok (m en st) fun l s => Ok (f l s) Q := by
  unfold eCall
  exact Ok_bindL
theorem ok_callL {f : List D → S → Option (D × S)} {m : ML} : Ok (eCallL f m en st) Q = Ok (m en st) fun l s => Ok (f l s) Q := by
  unfold eCallL
  exact Ok_bindL
theorem ok_al {m : ML} : Ok (eAl m en st) Q = Ok (m en st) fun l s => Q (.ref s.length) (s ++ [.lst l]) := by
  unfold eAl
  cases m en st with
  | none => exact Ok_none.trans Ok_none.symm
  | some p => obtain ⟨x, s1⟩ := p; exact Ok_some.trans (Eq.symm (by exact Ok_some))
theorem ok_nil {Q : List D → S → Prop} : Ok (aNil en st) Q = Q [] st := Ok_some
theorem ok_cons {m : MA} {Q : List D → S → Prop} : Ok (aCons a m en st) Q = Ok (a en st) fun x s1 => Ok (m en s1) fun l s2 => Q (x :: l) s2 := by
  unfold aCons
  cases a en st with
  | none => exact Ok_none.trans Ok_none.symm
  | some p =>
    obtain ⟨x, s1⟩ := p
    refine Eq.trans ?_ Ok_some.symm
    cases h : m en s1 with
    | none => simp only [h]; exact Ok_none.trans Ok_none.symm
    | some p => obtain ⟨l, s2⟩ := p; simp only [h]; exact Ok_some.trans (Eq.symm (by exact Ok_some))
theorem ok_tup {m : MA} : Ok (eTup m en st) Q = Ok (m en st) fun l s => l.length ≤ big ∧ Q (.tup l) s := by
  unfold eTup
  cases m en st with
  | none => exact Ok_none.trans Ok_none.symm
  | some p =>
    obtain ⟨l, s1⟩ := p
    refine Eq.trans ?_ Ok_some.symm
    show Ok (if l.length ≤ big then _ else _) Q = _
    by_cases h : l.length ≤ big
    · rw [if_pos h, Ok_some]; simp [h]
    · rw [if_neg h, Ok_none]; simp [h]
theorem ok_lst {m : MA} : Ok (eLst m en st) Q = Ok (m en st) fun l s => l.length ≤ big ∧ Q (.ref s.length) (s ++ [.lst l]) := by
  unfold eLst
  cases m en st with
  | none => exact Ok_none.trans Ok_none.symm
  | some p =>
    obtain ⟨l, s1⟩ := p
    refine Eq.trans ?_ Ok_some.symm
    show Ok (if l.length ≤ big then _ else _) Q = _
    by_cases h : l.length ≤ big
    · rw [if_pos h, Ok_some]; simp [h]
    · rw [if_neg h, Ok_none]; simp [h]
theorem ok_sl {lo hi : MO} : Ok (eSl a lo hi en st) Q = Ok (a en st) fun x s1 => Ok (lo en s1) fun l s2 => Ok (hi en s2) fun h s3 => Ok (fSl x l h s3) Q := by
  unfold eSl
  cases a en st with
  | none => exact Ok_none.trans Ok_none.symm
  | some p =>
    obtain ⟨x, s1⟩ := p
    refine Eq.trans ?_ Ok_some.symm
    show Ok (match lo en s1 with | some (l, s2) => (match hi en s2 with | some (h, s3) => fSl x l h s3 | none => none) | none => none) Q = _
    cases lo en s1 with
    | none => exact Ok_none.trans Ok_none.symm
    | some p =>
      obtain ⟨l, s2⟩ := p
      refine Eq.trans ?_ Ok_some.symm
      exact Ok_bindI
theorem ok_no {Q : Option Int → S → Prop} : Ok (oNo en st) Q = Q none st := Ok_some
theorem ok_so {Q : Option Int → S → Prop} : Ok (oSo a en st) Q = Ok (a en st) fun d s => match d with
    | .int i => Q (some i) s
    | _ => False := by
  unfold oSo
  cases a en st with
  | none => exact Ok_none.trans Ok_none.symm
  | some p =>
    obtain ⟨x, s1⟩ := p
    refine Eq.trans ?_ Ok_some.symm
    cases x <;> first | exact Ok_some | exact Ok_none
theorem ok_meth {f : D → List D → S → Option (D × S)} {m : MA} : Ok (eMeth f a m en st) Q = Ok (a en st) fun x s1 => isL s1 x = true ∧ Ok (m en s1) fun l s2 => Ok (f x l s2) Q := by
  unfold eMeth
  cases a en st with
  | none => exact Ok_none.trans Ok_none.symm
  | some p =>
    obtain ⟨x, s1⟩ := p
    refine Eq.trans ?_ Ok_some.symm
    show Ok (if isL s1 x = true then _ else _) Q = _
    by_cases h : isL s1 x = true
    · rw [if_pos h]
      refine Eq.trans Ok_bindL ?_
      simp [h]
    · rw [if_neg h, Ok_none]; simp [h]
theorem ok_meth0 {f : D → List D → S → Option (D × S)} : Ok (eMeth0 f a en st) Q = Ok (a en st) fun x s1 => isL s1 x = true ∧ Ok (f x [] s1) Q := by
  unfold eMeth0
  cases a en st with
  | none => exact Ok_none.trans Ok_none.symm
  | some p =>
    obtain ⟨x, s1⟩ := p
    refine Eq.trans ?_ Ok_some.symm
    show Ok (if isL s1 x = true then _ else _) Q = _
    by_cases h : isL s1 x = true
    · rw [if_pos h]; simp [h]
    · rw [if_neg h, Ok_none]; simp [h]
theorem ok_disp {m : MP} : Ok (eDisp m en st) Q = Ok (m en st) fun ps s => (allK ps = true ∧ ps.length ≤ 15) ∧ Q (.ref s.length) (s ++ [.dic (ps.foldl (fun l p => dPut l p.1 p.2) [])]) := by
  unfold eDisp
  cases m en st with
  | none => exact Ok_none.trans Ok_none.symm
  | some p =>
    obtain ⟨ps, s1⟩ := p
    refine Eq.trans ?_ Ok_some.symm
    show Ok (if allK ps = true ∧ ps.length ≤ 15 then _ else _) Q = _
    by_cases h : allK ps = true ∧ ps.length ≤ 15
    · rw [if_pos h, Ok_some]; simp [h]
    · rw [if_neg h, Ok_none]; simp [h]
theorem ok_pNil {Q : List (D × D) → S → Prop} : Ok (mpOf [] en st) Q = Q [] st := Ok_some
theorem ok_pCons {r : List (M × M)} {Q : List (D × D) → S → Prop} : Ok (mpOf ((a, b) :: r) en st) Q = Ok (a en st) fun x s1 => Ok (b en s1) fun y s2 => Ok (mpOf r en s2) fun ps s3 => Q ((x, y) :: ps) s3 := by
  show Ok (pCons a b (mpOf r) en st) Q = _
  unfold pCons
  cases a en st with
  | none => exact Ok_none.trans Ok_none.symm
  | some p =>
    obtain ⟨x, s1⟩ := p
    refine Eq.trans ?_ Ok_some.symm
    show Ok (match b en s1 with | some (y, s2) => (match mpOf r en s2 with | some (ps, s3) => some ((x, y) :: ps, s3) | none => none) | none => none) Q = _
    cases b en s1 with
    | none => exact Ok_none.trans Ok_none.symm
    | some p =>
      obtain ⟨y, s2⟩ := p
      refine Eq.trans ?_ Ok_some.symm
      show Ok (match mpOf r en s2 with | some (ps, s3) => some ((x, y) :: ps, s3) | none => none) Q = _
      cases mpOf r en s2 with
      | none => exact Ok_none.trans Ok_none.symm
      | some p => obtain ⟨ps, s3⟩ := p; exact Ok_some.trans (Eq.symm (by exact Ok_some))
theorem ok_get2 {x : M} : Ok (eGet2 a b x en st) Q = Ok (a en st) fun d s1 => match d with
    | .ref n => isDic s1 n = true ∧ Ok (b en s1) fun y s2 => Ok (x en s2) fun z s3 => match getD s3 n y with
      | some (some d) => Q d s3
      | some none => Q z s3
      | none => False
    | _ => False := by
  unfold eGet2
  cases a en st with
  | none => exact Ok_none.trans Ok_none.symm
  | some p =>
    obtain ⟨d, s1⟩ := p
    refine Eq.trans ?_ Ok_some.symm
    cases d with
    | ref n =>
      show Ok (if isDic s1 n = true then _ else _) Q = _
      by_cases h : isDic s1 n = true
      · rw [if_pos h]
        simp only [h, true_and]
        cases b en s1 with
        | none => exact Ok_none.trans Ok_none.symm
        | some p =>
          obtain ⟨y, s2⟩ := p
          refine Eq.trans ?_ Ok_some.symm
          show Ok (match x en s2 with | some (z, s3) => (match getD s3 n y with | some (some d) => some (d, s3) | some none => some (z, s3) | none => none) | none => none) Q = _
          cases x en s2 with
          | none => exact Ok_none.trans Ok_none.symm
          | some p =>
            obtain ⟨z, s3⟩ := p
            refine Eq.trans ?_ Ok_some.symm
            show Ok (match getD s3 n y with | some (some d) => some (d, s3) | some none => some (z, s3) | none => none) Q = _
            cases getD s3 n y with
            | none => exact Ok_none
            | some o => cases o <;> exact Ok_some
      · rw [if_neg h, Ok_none]; simp [h]
    | _ => exact Ok_none
end
section
variable {en : En} {st : S} {a b : MS} {m : M} {Q : Out → S → Prop}
/-- what is wanted behind a block -/
def then_ (b : MS) (Q : Out → S → Prop) : Out → S → Prop := fun o s => match o with
  | .nx en => Ok (b en s) Q
  | o => Q o s
theorem then_nx {s : S} {en : En} : then_ b Q (.nx en) s = Ok (b en s) Q := rfl
theorem then_rt {s : S} {d : D} : then_ b Q (.rt d) s = Q (.rt d) s := rfl
theorem then_bk {s : S} {en : En} : then_ b Q (.bk en) s = Q (.bk en) s := rfl
theorem then_ct {s : S} {en : En} : then_ b Q (.ct en) s = Q (.ct en) s := rfl
theorem ok_next : Ok (sNext en st) Q = Q (.nx en) st := Ok_some
theorem ok_brk : Ok (sBrk en st) Q = Q (.bk en) st := Ok_some
theorem ok_cnt : Ok (sCnt en st) Q = Q (.ct en) st := Ok_some
theorem ok_seq : Ok (sSeq a b en st) Q = Ok (a en st) (then_ b Q) := by
  unfold sSeq
  cases h : a en st with
  | none => exact Ok_none.trans Ok_none.symm
  | some p =>
    obtain ⟨o, s⟩ := p
    refine Eq.trans ?_ Ok_some.symm
    cases o <;> first | rfl | exact Ok_some
theorem ok_drop : Ok (sDrop m en st) Q = Ok (m en st) fun _ s => Q (.nx en) s := by
  unfold sDrop
  cases m en st with
  | none => exact Ok_none.trans Ok_none.symm
  | some p => obtain ⟨d, s⟩ := p; exact Ok_some.trans (Eq.symm (by exact Ok_some))
theorem ok_ret : Ok (sRet m en st) Q = Ok (m en st) fun d s => Q (.rt d) s := by
  unfold sRet
  cases m en st with
  | none => exact Ok_none.trans Ok_none.symm
  | some p => obtain ⟨d, s⟩ := p; exact Ok_some.trans (Eq.symm (by exact Ok_some))
theorem ok_if {t : MT} : Ok (sIf t a b en st) Q = Ok (t en st) fun c s => if c = true then Ok (a en s) Q else Ok (b en s) Q := by
  unfold sIf
  cases t en st with
  | none => exact Ok_none.trans Ok_none.symm
  | some p =>
    obtain ⟨x, s1⟩ := p
    refine Eq.trans ?_ Ok_some.symm
    cases x
    · rw [if_neg Bool.false_ne_true]
    · rw [if_pos rfl]
theorem ok_asg {g : D → En → Option En} : Ok (sAsg g m en st) Q = Ok (m en st) fun d s => match g d en with
    | some en1 => Q (.nx en1) s
    | none => False := by
  unfold sAsg
  cases m en st with
  | none => exact Ok_none.trans Ok_none.symm
  | some p =>
    obtain ⟨d, s⟩ := p
    refine Eq.trans ?_ Ok_some.symm
    show Ok (match g d en with | some en1 => some (.nx en1, s) | none => none) Q = _
    cases g d en <;> first | exact Ok_some | exact Ok_none
theorem ok_put {d k v : M} : Ok (sPut d k v en st) Q = Ok (v en st) fun v s1 => Ok (d en s1) fun o s2 => match o with
    | .ref n => Ok (k en s2) fun y s3 => match putD s3 n y v with
      | some s4 => Q (.nx en) s4
      | none => False
    | _ => False := by
  unfold sPut
  cases v en st with
  | none => exact Ok_none.trans Ok_none.symm
  | some p =>
    obtain ⟨v, s1⟩ := p
    refine Eq.trans ?_ Ok_some.symm
    show Ok (match d en s1 with | some (.ref n, s2) => (match k en s2 with | some (y, s3) => (match putD s3 n y v with | some s4 => some (.nx en, s4) | none => none) | none => none) | _ => none) Q = _
    cases d en s1 with
    | none => exact Ok_none.trans Ok_none.symm
    | some p =>
      obtain ⟨o, s2⟩ := p
      refine Eq.trans ?_ Ok_some.symm
      cases o with
      | ref n =>
        show Ok (match k en s2 with | some (y, s3) => (match putD s3 n y v with | some s4 => some (.nx en, s4) | none => none) | none => none) Q = _
        cases k en s2 with
        | none => exact Ok_none.trans Ok_none.symm
        | some p =>
          obtain ⟨y, s3⟩ := p
          refine Eq.trans ?_ Ok_some.symm
          show Ok (match putD s3 n y v with | some s4 => some (.nx en, s4) | none => none) Q = _
          cases putD s3 n y v <;> first | exact Ok_some | exact Ok_none
      | _ => exact Ok_none
theorem ok_for {mi : MI} {g : D → En → Option En} : Ok (sFor mi g b en st) Q = Ok (mi en st) fun src s => Ok (forGo src g b src.len 0 en s) Q := by
  unfold sFor
  exact Ok_bindS
theorem ok_lc {mi : MI} {g : D → En → Option En} {t : MT} {vs : List Nat} {Q : List D → S → Prop} : Ok (lLc mi g t m vs en st) Q = Ok (mi en st) fun src s => Ok (lcGo src g t m src.len 0 (wipeE en vs) s []) Q := by
  unfold lLc
  exact Ok_bindS
theorem ok_lc2 {mi mi1 : MI} {g g1 : D → En → Option En} {t t1 : MT} {vs vs1 : List Nat} {Q : List D → S → Prop} : Ok (lLc2 mi g t mi1 g1 t1 m vs vs1 en st) Q = Ok (mi en st) fun src s => Ok (lc2Go src g t mi1 g1 t1 m vs1 src.len 0 (wipeE en vs) s []) Q := by
  unfold lLc2
  exact Ok_bindS
theorem ok_true {Q : Bool → S → Prop} : Ok (cTrue en st) Q = Q true st := Ok_some
theorem ok_iVal {Q : Src → S → Prop} : Ok (iVal m en st) Q = Ok (m en st) fun d s => match srcOf s d with
    | some src => Q src s
    | none => False := by
  unfold iVal
  cases m en st with
  | none => exact Ok_none.trans Ok_none.symm
  | some p =>
    obtain ⟨d, s⟩ := p
    refine Eq.trans ?_ Ok_some.symm
    show Ok (match srcOf s d with | some src => some (src, s) | none => none) Q = _
    cases srcOf s d <;> first | exact Ok_some | exact Ok_none
theorem ok_range1 {l : MA} {Q : Src → S → Prop} : Ok (iRange1 l en st) Q = Ok (l en st) fun l s => match l with
    | [.int n] => (-(2 ^ 62) ≤ n ∧ n < 2 ^ 62) ∧ Q (srcN 0 n.toNat) s
    | _ => False := by
  unfold iRange1
  cases l en st with
  | none => exact Ok_none.trans Ok_none.symm
  | some p =>
    obtain ⟨l, s⟩ := p
    refine Eq.trans ?_ Ok_some.symm
    split
    · rename_i n s' h
      cases h
      by_cases h : -(2 ^ 62) ≤ n ∧ n < 2 ^ 62
      · rw [if_pos h, Ok_some]; exact propext ⟨fun q => ⟨h, q⟩, fun q => q.2⟩
      · rw [if_neg h, Ok_none]; exact propext ⟨False.elim, fun q => h q.1⟩
    · rename_i h
      split
      · exact absurd rfl (h _ _)
      · exact Ok_none
theorem ok_zip {l : MA} {Q : Src → S → Prop} : Ok (iZip l en st) Q = Ok (l en st) fun l s => match l with
    | [x, y] => (match zipOf s x y with
      | some src => Q src s
      | none => False)
    | _ => False := by
  unfold iZip
  cases l en st with
  | none => exact Ok_none.trans Ok_none.symm
  | some p =>
    obtain ⟨l, s⟩ := p
    refine Eq.trans ?_ Ok_some.symm
    split
    · rename_i x y s' h
      obtain ⟨rfl, rfl⟩ := Prod.mk.inj (Option.some.inj h)
      show Ok (match zipOf s x y with | some src => some (src, s) | none => none) Q = (match zipOf s x y with | some src => Q src s | none => False)
      cases zipOf s x y <;> first | exact Ok_some | exact Ok_none
    · rename_i h
      split
      · exact absurd rfl (h _ _ _)
      · exact Ok_none
end
/-- a def's body -/
theorem ok_body {n : Nat} {m : MS} {ds : List D} {st : S} {Q : D → S → Prop} : Ok (runBody n m ds st) Q = Ok (m (startE n ds) st) fun o s => match o with
    | .rt d => Q d s
    | .nx _ => Q .non s
    | _ => False := by
  unfold runBody
  cases m (startE n ds) st with
  | none => exact Ok_none.trans Ok_none.symm
  | some p =>
    obtain ⟨o, s⟩ := p
    refine Eq.trans ?_ Ok_some.symm
    cases o <;> first | exact Ok_some | exact Ok_none

/-! ### loops by an invariant -/
theorem for_rule {src : Src} {g : D → En → Option En} {b : MS} {en : En} {st : S} {Q : Out → S → Prop} (l : List D) (P : Nat → En → S → Prop) (hk : src.len = l.length) (hn : ∀ i en s, P i en s → src.nxt i s = some l[i]?) (h0 : P 0 en st)
    (hs : ∀ i x en s, l[i]? = some x → P i en s → match g x en with
      | some en1 => Ok (b en1 s) fun o s' => match o with
        | .nx en2 => P (i + 1) en2 s'
        | .ct en2 => P (i + 1) en2 s'
        | .bk en2 => Q (.nx en2) s'
        | .rt d => Q (.rt d) s'
      | none => False)
    (hd : ∀ en s, P l.length en s → Q (.nx en) s) : Ok (forGo src g b src.len 0 en st) Q := by
  have go : ∀ (k i : Nat) (en : En) (s : S), i + k = l.length → P i en s → Ok (forGo src g b k i en s) Q := by
    intro k
    induction k with
    | zero =>
      intro i en s hi p
      have e : l[i]? = none := List.getElem?_eq_none_iff.mpr (by omega)
      unfold forGo
      rw [hn i en s p, e]
      simp only
      rw [Ok_some]
      have : i = l.length := by omega
      subst this
      exact hd en s p
    | succ k ih =>
      intro i en s hi p
      have hlt : i < l.length := by omega
      have e : l[i]? = some l[i] := List.getElem?_eq_getElem hlt
      have h1 := hs i l[i] en s e p
      unfold forGo
      rw [hn i en s p, e]
      simp only
      cases hg : g l[i] en with
      | none => rw [hg] at h1; exact h1.elim
      | some en1 =>
        rw [hg] at h1
        simp only at h1 ⊢
        obtain ⟨o, s', e', q⟩ := h1
        rw [e']
        cases o with
        | nx en2 => exact ih (i + 1) en2 s' (by omega) q
        | ct en2 => exact ih (i + 1) en2 s' (by omega) q
        | bk en2 => exact ⟨_, _, rfl, q⟩
        | rt d => exact ⟨_, _, rfl, q⟩
  rw [hk]
  exact go l.length 0 en st (by omega) h0
theorem lc_rule {src : Src} {g : D → En → Option En} {t : MT} {e : M} {en : En} {st : S} {acc : List D} {Q : List D → S → Prop} (l : List D) (P : Nat → List D → S → Prop) (hk : src.len = l.length) (hn : ∀ i acc s, P i acc s → src.nxt i s = some l[i]?) (h0 : P 0 acc st)
    (hs : ∀ i x acc s, l[i]? = some x → P i acc s → match g x en with
      | some en1 => Ok (t en1 s) fun c s1 => if c = true then acc.length < big ∧ Ok (e en1 s1) fun y s2 => P (i + 1) (acc ++ [y]) s2 else P (i + 1) acc s1
      | none => False)
    (hd : ∀ acc s, P l.length acc s → Q acc s) : Ok (lcGo src g t e src.len 0 en st acc) Q := by
  have go : ∀ (k i : Nat) (acc : List D) (s : S), i + k = l.length → P i acc s → Ok (lcGo src g t e k i en s acc) Q := by
    intro k
    induction k with
    | zero =>
      intro i acc s hi p
      have e : l[i]? = none := List.getElem?_eq_none_iff.mpr (by omega)
      unfold lcGo
      rw [hn i acc s p, e]
      simp only
      rw [Ok_some]
      have : i = l.length := by omega
      subst this
      exact hd acc s p
    | succ k ih =>
      intro i acc s hi p
      have hlt : i < l.length := by omega
      have e1 : l[i]? = some l[i] := List.getElem?_eq_getElem hlt
      have h1 := hs i l[i] acc s e1 p
      unfold lcGo
      rw [hn i acc s p, e1]
      simp only
      cases hg : g l[i] en with
      | none => rw [hg] at h1; exact h1.elim
      | some en1 =>
        rw [hg] at h1
        simp only at h1 ⊢
        obtain ⟨c, s', e', q⟩ := h1
        rw [e']
        cases c with
        | false =>
          simp only [Bool.false_eq_true, if_false] at q
          exact ih (i + 1) acc s' (by omega) q
        | true =>
          simp only [if_true] at q
          obtain ⟨hb, y, s2, e2, q⟩ := q
          simp only [e2, if_pos hb]
          exact ih (i + 1) _ s2 (by omega) q
  rw [hk]
  exact go l.length 0 acc st (by omega) h0
end Z
namespace Z
open PySem L2
/-! ### operators on given data -/
section
variable {s : S}
theorem add_int {i j : Int} : fAdd (.int i) (.int j) s = some (.int (i + j), s) := rfl
theorem add_str {i j : Str} : fAdd (.str i) (.str j) s = if i.length + j.length ≤ big then some (.str (i ++ j), s) else none := rfl
theorem add_tup {l m : List D} : fAdd (.tup l) (.tup m) s = if l.length + m.length ≤ big then some (.tup (l ++ m), s) else none := rfl
theorem sub_int {i j : Int} : fSub (.int i) (.int j) s = some (.int (i - j), s) := rfl
theorem mul_int {i j : Int} : fMul (.int i) (.int j) s = if i.natAbs < 2 ^ 64 ∨ j.natAbs < 2 ^ 64 then some (.int (i * j), s) else none := rfl
theorem mod_int {i j : Int} : fMod (.int i) (.int j) s = if j ≠ 0 then some (.int (i.fmod j), s) else none := rfl
theorem div_int {i j : Int} : fDiv (.int i) (.int j) s = if j ≠ 0 ∧ j.natAbs < 1073741824 then some (.int (i.fdiv j), s) else none := rfl
theorem pow_int {i j : Int} : fPow (.int i) (.int j) s = if 0 ≤ j ∧ j ≤ 1000000 ∧ i.natAbs < 2 ^ 64 then some (.int (i ^ j.toNat), s) else none := rfl
theorem I_int {p : Int → Int → Bool} {i j : Int} : fI p (.int i) (.int j) s = some (.bl (p i j), s) := rfl
theorem eq_int {i j : Int} : fEq (.int i) (.int j) s = some (.bl (decide (i = j)), s) := rfl
theorem eq_str {i j : Str} : fEq (.str i) (.str j) s = some (.bl (decide (i = j)), s) := rfl
theorem ne_def {x y : D} : fNe x y s = neg (fEq x y s) := rfl
theorem neg_bl {b : Bool} : neg (some (.bl b, s)) = some (.bl (!b), s) := rfl
theorem is_bl {a b : Bool} : fIs (.bl a) (.bl b) s = some (.bl (decide (a = b)), s) := rfl
theorem isNot_bl {a b : Bool} : fIsNot (.bl a) (.bl b) s = some (.bl (!decide (a = b)), s) := rfl
theorem len_str {x : Str} : bLen [.str x] s = if x.length ≤ big then some (.int (x.length : Nat), s) else none := rfl
theorem len_tup {l : List D} : bLen [.tup l] s = some (.int (l.length : Nat), s) := rfl
theorem abs_int {i : Int} : bAbs [.int i] s = some (.int (if i < 0 then -i else i), s) := rfl
theorem int_int {i : Int} : bInt [.int i] s = some (.int i, s) := rfl
theorem int_bl {b : Bool} : bInt [.bl b] s = some (.int (if b then 1 else 0), s) := rfl
theorem tuple_tup {l : List D} : bTuple [.tup l] s = some (.tup l, s) := rfl
theorem sl_tup {l : List D} {lo hi : Option Int} : fSl (.tup l) lo hi s = some (.tup (cutD l lo hi), s) := rfl
theorem sl_str {x : Str} {lo hi : Option Int} : fSl (.str x) lo hi s = if x.length ≤ big then some (.str (cutS x lo hi), s) else none := rfl
section
variable {n : Nat} {l : List D} (h : s[n]? = some (.lst l))
include h
theorem len_ref : bLen [.ref n] s = some (.int (l.length : Nat), s) := by simp only [bLen, seqD, h]
theorem list_ref : bList [.ref n] s = some (.ref s.length, s ++ [.lst l]) := by simp only [bList, seqD, h]
theorem tuple_ref : bTuple [.ref n] s = some (.tup l, s) := by simp only [bTuple, h]
theorem isL_ref : isL s (.ref n) = true := by simp only [isL, h]
theorem append_ref {y : D} : mAppend (.ref n) [y] s = if l.length < big then some (.non, s.set n (.lst (l ++ [y]))) else none := by simp only [mAppend, h]
theorem sl_ref {lo hi : Option Int} : fSl (.ref n) lo hi s = some (.ref s.length, s ++ [.lst (cutD l lo hi)]) := by simp only [fSl, h]
theorem src_ref : srcOf s (.ref n) = some (srcR n l.length) := by simp only [srcOf, h]
end
theorem list_tup {l : List D} : bList [.tup l] s = some (.ref s.length, s ++ [.lst l]) := rfl
theorem list_clst {l : List D} : bList [.clst l] s = some (.ref s.length, s ++ [.lst l]) := rfl
theorem src_tup {l : List D} : srcOf s (.tup l) = some (srcL l) := rfl
section
variable {Q : D → S → Prop}
/-- a value that is there -/
def Got (o : Option D) (s : S) (Q : D → S → Prop) : Prop := match o with
  | some d => Q d s
  | none => False
theorem got_some {d : D} : Got (some d) s Q = Q d s := rfl
theorem ok_ix_tup {l : List D} {i : Int} : Ok (fIx (.tup l) (.int i) s) Q = Got (atD l i) s Q := by
  show Ok (match atD l i with | some d => some (d, s) | none => none) Q = _
  cases atD l i <;> first | exact Ok_some | exact Ok_none
theorem ok_ix_ctup {l : List D} {i : Int} : Ok (fIx (.ctup l) (.int i) s) Q = Got (atD l i) s Q := by
  show Ok (match atD l i with | some d => some (d, s) | none => none) Q = _
  cases atD l i <;> first | exact Ok_some | exact Ok_none
theorem ok_ix_lst {n : Nat} {l : List D} (h : s[n]? = some (.lst l)) {i : Int} : Ok (fIx (.ref n) (.int i) s) Q = Got (atD l i) s Q := by
  simp only [fIx, seqD, h]
  cases atD l i <;> first | exact Ok_some | exact Ok_none
theorem ok_ix_dic {n : Nat} {l : List (D × D)} (h : s[n]? = some (.dic l)) {y : D} {k : Key} (hk : keyD y = some k) : Ok (fIx (.ref n) y s) Q = Got (dLook l y) s Q := by
  cases y with
  | int i =>
    simp only [fIx, seqD, h, getD, keyD]
    cases dLook l (.int i) <;> first | exact Ok_some | exact Ok_none
  | str i =>
    simp only [fIx, seqD, h, getD, keyD]
    cases dLook l (.str i) <;> first | exact Ok_some | exact Ok_none
  | _ => cases hk
theorem ok_ix_str {x : Str} {i : Int} (hx : x.length ≤ big) {c : Nat} (h : (ixN x.cps.toList.length i).bind (fun j => x.cps.toList[j]?) = some c) : Ok (fIx (.str x) (.int i) s) Q = Q (.str ⟨#[c]⟩) s := by
  simp only [fIx, if_pos hx, h]
  exact Ok_some
theorem put_lst {n : Nat} {l : List D} (h : s[n]? = some (.lst l)) {i : Int} {v : D} : putD s n (.int i) v = (ixN l.length i).map fun j => s.set n (.lst (l.set j v)) := by
  simp only [putD, h]
  cases ixN l.length i <;> rfl
end
end
theorem gs_self {st : S} {s : Nat} {o o' : O} (h : st[s]? = some o') : (st.set s o)[s]? = some o := List.getElem?_set_self (List.getElem?_eq_some_iff.mp h).1
theorem gs_ne {st : S} {s a : Nat} {o : O} (h : s ≠ a) : (st.set s o)[a]? = st[a]? := List.getElem?_set_ne h
theorem ga_old {st g : S} {s : Nat} {o : O} (h : st[s]? = some o) : (st ++ g)[s]? = some o := by
  rw [List.getElem?_append_left (List.getElem?_eq_some_iff.mp h).1, h]
theorem ga_new {st : S} {o : O} : (st ++ [o])[st.length]? = some o := List.getElem?_concat_length
theorem lt_of_get {α : Type} {st : List α} {s : Nat} {o : α} (h : st[s]? = some o) : s < st.length := (List.getElem?_eq_some_iff.mp h).1

/-! ### the law's own state: its cells at 0, itself at 1 -/
structure St (st : S) : Prop where
  ex : ∃ (cells : List Int) (p r c : Int), st[1]? = some (.lst [.ref 0, .int p, .int r, .int c]) ∧ st[0]? = some (.lst (cells.map D.int)) ∧ 0 ≤ r
theorem St.two {st : S} (h : St st) : 2 ≤ st.length := let ⟨_, _, _, _, h, _⟩ := h.ex; lt_of_get h
/-- from st on: of what was there only the state has changed -/
structure Fr (st st' : S) : Prop where
  ok : St st'
  le : st.length ≤ st'.length
  eq : ∀ n, n < st.length → n ≠ 1 → st'[n]? = st[n]?
theorem Fr.refl {st : S} (h : St st) : Fr st st := ⟨h, Nat.le_refl _, fun _ _ _ => rfl⟩
theorem Fr.trans {st st1 st2 : S} (a : Fr st st1) (b : Fr st1 st2) : Fr st st2 := ⟨b.ok, Nat.le_trans a.le b.le, fun n h1 h2 => (b.eq n (Nat.lt_of_lt_of_le h1 a.le) h2).trans (a.eq n h1 h2)⟩
theorem Fr.get {n : Nat} {st st' : S} {o : O} (a : Fr st st') (h : st[n]? = some o) (hn : 2 ≤ n) : st'[n]? = some o := (a.eq n (lt_of_get h) (by omega)).trans h
theorem St.app {st g : S} (h : St st) : St (st ++ g) := by
  obtain ⟨cells, p, r, c, h1, h2, h3⟩ := h.ex
  exact ⟨cells, p, r, c, ga_old h1, ga_old h2, h3⟩
theorem Fr.app {st st' g : S} (a : Fr st st') : Fr st (st' ++ g) := ⟨a.ok.app, by rw [List.length_append]; exact Nat.le_trans a.le (Nat.le_add_right _ _), fun n h1 h2 => by
  rw [List.getElem?_append_left (Nat.lt_of_lt_of_le h1 a.le)]
  exact a.eq n h1 h2⟩
/-- an object is changed that was not there -/
theorem Fr.set {n : Nat} {st st' : S} {o : O} (a : Fr st st') (hn : st.length ≤ n) (h2 : 2 ≤ n) : Fr st (st'.set n o) := by
  refine ⟨?_, by rw [List.length_set]; exact a.le, fun m h1 _ => ?_⟩
  · obtain ⟨cells, p, r, c, h1, h3, h4⟩ := a.ok.ex
    exact ⟨cells, p, r, c, by rw [gs_ne (by omega)]; exact h1, by rw [gs_ne (by omega)]; exact h3, h4⟩
  · rw [gs_ne (by omega)]
    exact a.eq m h1 ‹_›
theorem St.set {n : Nat} {st : S} {o : O} (a : St st) (h2 : 2 ≤ n) : St (st.set n o) := by
  obtain ⟨cells, p, r, c, h1, h3, h4⟩ := a.ex
  exact ⟨cells, p, r, c, by rw [gs_ne (by omega)]; exact h1, by rw [gs_ne (by omega)]; exact h3, h4⟩
/-- nothing that was there has changed -/
structure Px (st st' : S) : Prop where
  pre : st <+: st'
theorem Px.refl {st : S} : Px st st := ⟨List.prefix_refl _⟩
theorem Px.trans {st st1 st2 : S} (a : Px st st1) (b : Px st1 st2) : Px st st2 := ⟨a.pre.trans b.pre⟩
theorem Px.get {n : Nat} {st st' : S} {o : O} (a : Px st st') (h : st[n]? = some o) : st'[n]? = some o := pre_get a.pre h
theorem Px.app {st st' g : S} (a : Px st st') : Px st (st' ++ g) := ⟨a.pre.trans (List.prefix_append _ _)⟩
theorem Px.le {st st' : S} (a : Px st st') : st.length ≤ st'.length := a.pre.length_le
theorem Px.set {n : Nat} {st st' : S} {o : O} (a : Px st st') (hn : st.length ≤ n) : Px st (st'.set n o) := by
  obtain ⟨t, rfl⟩ := a.pre
  rw [List.set_append_right _ _ hn]
  exact ⟨List.prefix_append _ _⟩
theorem Px.fr {st st' : S} (a : Px st st') (h : St st) : Fr st st' := by
  obtain ⟨t, rfl⟩ := a.pre
  exact (Fr.refl h).app
end Z
namespace Z
open PySem L2
/-! ### loops over ranges, data, lists -/
def rngD (lo : Int) (n : Nat) : List D := (List.range n).map fun (i : Nat) => D.int (lo + i)
theorem rng_get {lo : Int} {n i : Nat} : (rngD lo n)[i]? = if i < n then some (.int (lo + (i : Nat))) else none := by
  unfold rngD
  rw [List.getElem?_map]
  by_cases h : i < n
  · rw [List.getElem?_range h, if_pos h]; rfl
  · rw [List.getElem?_eq_none_iff.mpr (by rw [List.length_range]; omega), if_neg h]; rfl
theorem rng_length {lo : Int} {n : Nat} : (rngD lo n).length = n := by unfold rngD; rw [List.length_map, List.length_range]
def After1 (Q : Out → S → Prop) (nx : En → S → Prop) : Out → S → Prop := fun o s => match o with
  | .nx en => nx en s
  | .ct en => nx en s
  | .bk en => Q (.nx en) s
  | .rt d => Q (.rt d) s
section
variable {g : D → En → Option En} {b : MS} {en : En} {st : S} {Q : Out → S → Prop}
theorem a1_nx {nx : En → S → Prop} {s : S} : After1 Q nx (.nx en) s = nx en s := rfl
theorem a1_ct {nx : En → S → Prop} {s : S} : After1 Q nx (.ct en) s = nx en s := rfl
theorem a1_bk {nx : En → S → Prop} {s : S} : After1 Q nx (.bk en) s = Q (.nx en) s := rfl
theorem a1_rt {nx : En → S → Prop} {s : S} {d : D} : After1 Q nx (.rt d) s = Q (.rt d) s := rfl
/-- a turn: the item is stored, then the body -/
def Trn (g : D → En → Option En) (b : MS) (x : D) (en : En) (s : S) (Q : Out → S → Prop) : Prop := match g x en with
  | some en1 => Ok (b en1 s) Q
  | none => False
theorem for_rng {lo : Int} {n : Nat} (P : Nat → En → S → Prop) (h0 : P 0 en st) (hs : ∀ (i : Nat) en s, i < n → P i en s → Trn g b (.int (lo + (i : Nat))) en s (After1 Q (P (i + 1)))) (hd : ∀ en s, P n en s → Q (.nx en) s) :
    Ok (forGo (srcN lo n) g b (srcN lo n).len 0 en st) Q := by
  refine for_rule (rngD lo n) P rng_length.symm (fun i en s _ => ?_) h0 (fun i x en s hx p => ?_) (fun en s p => hd en s (by rw [rng_length] at p; exact p))
  · rw [rng_get]; rfl
  · rw [rng_get] at hx
    split at hx
    · rename_i hi
      cases hx
      exact hs i en s hi p
    · cases hx
theorem for_dat {l : List D} (P : Nat → En → S → Prop) (h0 : P 0 en st) (hs : ∀ (i : Nat) x en s, l[i]? = some x → P i en s → Trn g b x en s (After1 Q (P (i + 1)))) (hd : ∀ en s, P l.length en s → Q (.nx en) s) :
    Ok (forGo (srcL l) g b (srcL l).len 0 en st) Q :=
  for_rule l P rfl (fun i en s _ => rfl) h0 (fun i x en s hx p => hs i x en s hx p) hd
theorem for_ref {n : Nat} {l : List D} (P : Nat → En → S → Prop) (h0 : P 0 en st) (hl : ∀ i en s, P i en s → s[n]? = some (.lst l)) (hs : ∀ (i : Nat) x en s, l[i]? = some x → P i en s → Trn g b x en s (After1 Q (P (i + 1)))) (hd : ∀ en s, P l.length en s → Q (.nx en) s) :
    Ok (forGo (srcR n l.length) g b (srcR n l.length).len 0 en st) Q :=
  for_rule l P rfl (fun i en s p => by simp only [srcR, hl i en s p]) h0 (fun i x en s hx p => hs i x en s hx p) hd
end
section
variable {g : D → En → Option En} {t : MT} {e : M} {en : En} {st : S} {acc : List D} {Q : List D → S → Prop}
/-- a turn of a comprehension -/
def TrnL (g : D → En → Option En) (t : MT) (e : M) (x : D) (en : En) (s : S) (acc : List D) (P : List D → S → Prop) : Prop := match g x en with
  | some en1 => Ok (t en1 s) fun c s1 => if c = true then acc.length < big ∧ Ok (e en1 s1) fun y s2 => P (acc ++ [y]) s2 else P acc s1
  | none => False
theorem lc_rng {lo : Int} {n : Nat} (P : Nat → List D → S → Prop) (h0 : P 0 acc st) (hs : ∀ (i : Nat) acc s, i < n → P i acc s → TrnL g t e (.int (lo + (i : Nat))) en s acc (P (i + 1))) (hd : ∀ acc s, P n acc s → Q acc s) :
    Ok (lcGo (srcN lo n) g t e (srcN lo n).len 0 en st acc) Q := by
  refine lc_rule (rngD lo n) P rng_length.symm (fun i en s _ => ?_) h0 (fun i x acc s hx p => ?_) (fun acc s p => hd acc s (by rw [rng_length] at p; exact p))
  · rw [rng_get]; rfl
  · rw [rng_get] at hx
    split at hx
    · rename_i hi
      cases hx
      exact hs i acc s hi p
    · cases hx
theorem lc_dat {l : List D} (P : Nat → List D → S → Prop) (h0 : P 0 acc st) (hs : ∀ (i : Nat) x acc s, l[i]? = some x → P i acc s → TrnL g t e x en s acc (P (i + 1))) (hd : ∀ acc s, P l.length acc s → Q acc s) :
    Ok (lcGo (srcL l) g t e (srcL l).len 0 en st acc) Q :=
  lc_rule l P rfl (fun i en s _ => rfl) h0 (fun i x acc s hx p => hs i x acc s hx p) hd
theorem lc_ref {n : Nat} {l : List D} (P : Nat → List D → S → Prop) (h0 : P 0 acc st) (hl : ∀ i acc s, P i acc s → s[n]? = some (.lst l)) (hs : ∀ (i : Nat) x acc s, l[i]? = some x → P i acc s → TrnL g t e x en s acc (P (i + 1))) (hd : ∀ acc s, P l.length acc s → Q acc s) :
    Ok (lcGo (srcR n l.length) g t e (srcR n l.length).len 0 en st acc) Q :=
  lc_rule l P rfl (fun i acc s p => by simp only [srcR, hl i acc s p]) h0 (fun i x acc s hx p => hs i x acc s hx p) hd
end
/-! ### words -/
structure Wd (w : Str) : Prop where
  lo : 1 ≤ w.cps.size
  hi : w.cps.size ≤ 4
  az : ∀ c ∈ w.cps.toList, 97 ≤ c ∧ c ≤ 122
structure Words (ws : List Str) (many : Nat) : Prop where
  len : ws.length = many
  nd : ws.Nodup
  ok : ∀ w ∈ ws, Wd w
/-- a word of a shared part and a letter -/
def wordA (sh : List Nat) (front : Bool) (c : Nat) : Str := ⟨(if front then sh ++ [c] else [c] ++ sh).toArray⟩
theorem wordA_inj {sh : List Nat} {f : Bool} {c d : Nat} (h : wordA sh f c = wordA sh f d) : c = d := by
  unfold wordA at h
  have h' := congrArg (fun s : Str => s.cps.toList) h
  cases f <;> simpa using h'
theorem wordA_wd {sh : List Nat} {f : Bool} {c : Nat} (h1 : sh.length ≤ 3) (h2 : ∀ x ∈ sh, 97 ≤ x ∧ x ≤ 122) (h3 : 97 ≤ c ∧ c ≤ 122) : Wd (wordA sh f c) := by
  unfold wordA
  refine ⟨?_, ?_, fun x hx => ?_⟩
  · cases f <;> simp
  · cases f <;> simp <;> omega
  · cases f <;> simp at hx <;> rcases hx with hx | hx <;> first | exact h2 x hx | (subst hx; exact h3)
end Z
namespace Z
open PySem L2
/-! ### kinds of data -/
theorem isi_of {s : S} {x : D} {t T : String} {b : Bool} (h1 : tyD s x = some t) (h2 : kitB t T = some b) : bIsi [x, .ty T] s = some (.bl b, s) := by
  simp only [bIsi, isT, h1, h2]
section
variable {s : S}
theorem isi_int_int {i : Int} : bIsi [.int i, .ty "int"] s = some (.bl true, s) := isi_of rfl (by decide +kernel)
theorem isi_int_bool {i : Int} : bIsi [.int i, .ty "bool"] s = some (.bl false, s) := isi_of rfl (by decide +kernel)
theorem isi_int_str {i : Int} : bIsi [.int i, .ty "str"] s = some (.bl false, s) := isi_of rfl (by decide +kernel)
theorem isi_int_tup {i : Int} : bIsi [.int i, .ty "tuple"] s = some (.bl false, s) := isi_of rfl (by decide +kernel)
theorem isi_bl_int {i : Bool} : bIsi [.bl i, .ty "int"] s = some (.bl true, s) := isi_of rfl (by decide +kernel)
theorem isi_bl_bool {i : Bool} : bIsi [.bl i, .ty "bool"] s = some (.bl true, s) := isi_of rfl (by decide +kernel)
theorem isi_bl_str {i : Bool} : bIsi [.bl i, .ty "str"] s = some (.bl false, s) := isi_of rfl (by decide +kernel)
theorem isi_bl_tup {i : Bool} : bIsi [.bl i, .ty "tuple"] s = some (.bl false, s) := isi_of rfl (by decide +kernel)
theorem isi_str_int {i : Str} : bIsi [.str i, .ty "int"] s = some (.bl false, s) := isi_of rfl (by decide +kernel)
theorem isi_str_bool {i : Str} : bIsi [.str i, .ty "bool"] s = some (.bl false, s) := isi_of rfl (by decide +kernel)
theorem isi_str_str {i : Str} : bIsi [.str i, .ty "str"] s = some (.bl true, s) := isi_of rfl (by decide +kernel)
theorem isi_str_tup {i : Str} : bIsi [.str i, .ty "tuple"] s = some (.bl false, s) := isi_of rfl (by decide +kernel)
theorem isi_tup_int {l : List D} : bIsi [.tup l, .ty "int"] s = some (.bl false, s) := isi_of rfl (by decide +kernel)
theorem isi_tup_bool {l : List D} : bIsi [.tup l, .ty "bool"] s = some (.bl false, s) := isi_of rfl (by decide +kernel)
theorem isi_tup_str {l : List D} : bIsi [.tup l, .ty "str"] s = some (.bl false, s) := isi_of rfl (by decide +kernel)
theorem isi_tup_tup {l : List D} : bIsi [.tup l, .ty "tuple"] s = some (.bl true, s) := isi_of rfl (by decide +kernel)
section
variable {n : Nat} {l : List D} (h : s[n]? = some (.lst l))
include h
theorem isi_ref_int : bIsi [.ref n, .ty "int"] s = some (.bl false, s) := isi_of (t := "list") (by simp only [tyD, h]) (by decide +kernel)
theorem isi_ref_str : bIsi [.ref n, .ty "str"] s = some (.bl false, s) := isi_of (t := "list") (by simp only [tyD, h]) (by decide +kernel)
theorem isi_ref_tup : bIsi [.ref n, .ty "tuple"] s = some (.bl false, s) := isi_of (t := "list") (by simp only [tyD, h]) (by decide +kernel)
end
end
/-! integers, texts, tuples of these, nested at most so deep -/
mutual
def plainD : Nat → D → Bool
  | _, .int _ => true
  | _, .str _ => true
  | k + 1, .tup l => decide (l.length ≤ big) && plainL k l
  | _, _ => false
def plainL : Nat → List D → Bool
  | _, [] => true
  | k, d :: ds => plainD k d && plainL k ds
end
theorem plainL_iff {k : Nat} : ∀ {l : List D}, plainL k l = true ↔ ∀ d ∈ l, plainD k d = true
  | [] => by simp [plainL]
  | d :: ds => by simp only [plainL, Bool.and_eq_true, plainL_iff (l := ds), List.mem_cons, forall_eq_or_imp]
theorem plainL_get {k i : Nat} {l : List D} {d : D} (h : plainL k l = true) (e : l[i]? = some d) : plainD k d = true := plainL_iff.mp h d (List.mem_of_getElem? e)
mutual
theorem plainD_mono {k j : Nat} (h : k ≤ j) : ∀ (d : D), plainD k d = true → plainD j d = true
  | .int i, _ => by cases j <;> rfl
  | .str i, _ => by cases j <;> rfl
  | .tup l, p => by
    cases k with
    | zero => simp [plainD] at p
    | succ k => cases j with
      | zero => omega
      | succ j =>
        simp only [plainD, Bool.and_eq_true] at p ⊢
        exact ⟨p.1, plainL_mono (by omega) l p.2⟩
  | .non, p => by cases k <;> simp [plainD] at p
  | .bl _, p => by cases k <;> simp [plainD] at p
  | .ref _, p => by cases k <;> simp [plainD] at p
  | .ctup _, p => by cases k <;> simp [plainD] at p
  | .clst _, p => by cases k <;> simp [plainD] at p
  | .fn _, p => by cases k <;> simp [plainD] at p
  | .ty _, p => by cases k <;> simp [plainD] at p
theorem plainL_mono {k j : Nat} (h : k ≤ j) : ∀ (l : List D), plainL k l = true → plainL j l = true
  | [], _ => by cases j <;> rfl
  | d :: ds, p => by
    simp only [plainL, Bool.and_eq_true] at p ⊢
    exact ⟨plainD_mono h d p.1, plainL_mono h ds p.2⟩
end
theorem plain_ints {k : Nat} (ns : List Int) : plainL k (ns.map D.int) = true := plainL_iff.mpr fun d hd => by
  obtain ⟨i, _, rfl⟩ := List.mem_map.mp hd
  cases k <;> rfl
theorem boolsD_rep {n : Nat} {b : Bool} : boolsD (List.replicate n (.bl b)) = some (List.replicate n b) := by
  induction n with
  | zero => rfl
  | succ n ih => rw [List.replicate_succ, List.replicate_succ]; simp only [boolsD, ih]
theorem all_rep {n : Nat} {s : S} : lAll (List.replicate n (.bl true)) s = some (.bl true, s) := by
  simp only [lAll, boolsD_rep]
  congr 3
  simp
theorem strOk_wd {w : Str} (h : Wd w) : PyData.strOk w = true := by
  unfold PyData.strOk
  rw [Array.all_eq_true']
  intro c hc
  have := h.az c (by simpa using hc)
  simp
  omega
end Z
namespace Z
theorem Fr.of_app {st g st' : S} (h : St st) (f : Fr (st ++ g) st') : Fr st st' := (Fr.refl h).app.trans f
theorem Fr.new {st st' : S} {o : O} (h : St st) (f : Fr (st ++ [o]) st') : st'[st.length]? = some o := f.get ga_new h.two
end Z
namespace Lw
open PySem PySem.Spec PyProof.Rows L2 Z
/-! ### the text by places -/
def top (i : Nat) : Stmt := PySem.Challenge.pw_onlywhatmatters_k25_open_cuts.main.body.getD i (.Pass ⟨0, 0, 0, 0⟩)
inductive Fn where
  | open_cuts | law_start | law_draw | law_one_of | law_words | law_is_int | law_same | law_path | law_fate | law
abbrev s_open_cuts : Stmt := top 2
abbrev s_law_start : Stmt := top 4
abbrev s_law_draw : Stmt := top 5
abbrev s_law_one_of : Stmt := top 6
abbrev s_law_words : Stmt := top 7
abbrev s_law_is_int : Stmt := top 8
abbrev s_law_same : Stmt := top 9
abbrev s_law_path : Stmt := top 10
abbrev s_law_fate : Stmt := top 11
abbrev s_law : Stmt := top 12
abbrev N_open_cuts : List Str := ["datum", "cut", "fate"]
abbrev N_law_start : List Str := ["script"]
abbrev N_law_draw : List Str := ["state", "most", "cell", "mixed", "found"]
abbrev N_law_one_of : List Str := ["state", "items"]
abbrev N_law_words : List Str := ["state", "many", "letters", "start", "step", "shared", "k"]
abbrev N_law_is_int : List Str := ["x"]
abbrev N_law_same : List Str := ["x", "y", "k"]
abbrev N_law_path : List Str := ["state", "path", "turn"]
abbrev N_law_fate : List Str := ["state", "k"]
abbrev N_law : List Str := ["script", "state", "names", "turn", "fates", "k", "due", "cut", "fate"]
def Fn.nm : Fn → Str
  | .open_cuts => "open_cuts"
  | .law_start => "_law_start"
  | .law_draw => "_law_draw"
  | .law_one_of => "_law_one_of"
  | .law_words => "_law_words"
  | .law_is_int => "_law_is_int"
  | .law_same => "_law_same"
  | .law_path => "_law_path"
  | .law_fate => "_law_fate"
  | .law => "law"
def Fn.st : Fn → Stmt
  | .open_cuts => s_open_cuts
  | .law_start => s_law_start
  | .law_draw => s_law_draw
  | .law_one_of => s_law_one_of
  | .law_words => s_law_words
  | .law_is_int => s_law_is_int
  | .law_same => s_law_same
  | .law_path => s_law_path
  | .law_fate => s_law_fate
  | .law => s_law
def Fn.ps : Fn → List Str
  | .open_cuts => ["datum"]
  | .law_start => ["script"]
  | .law_draw => ["state", "most"]
  | .law_one_of => ["state", "items"]
  | .law_words => ["state", "many"]
  | .law_is_int => ["x"]
  | .law_same => ["x", "y"]
  | .law_path => ["state"]
  | .law_fate => ["state"]
  | .law => ["script"]
def Fn.no : Nat → Fn
  | 0 => .open_cuts
  | 1 => .law_start
  | 2 => .law_draw
  | 3 => .law_one_of
  | 4 => .law_words
  | 5 => .law_is_int
  | 6 => .law_same
  | 7 => .law_path
  | 8 => .law_fate
  | _ => .law
/-! ### what each def does -/
abbrev Cl := Fn → List D → S → Option (D × S)
def b_open_cuts (c : Cl) : MS :=
    sRet (eCallL lTup (lLc (iVal (eBin fIx (eVar 0) (eC (.int 2)))) (gTupD 2 (gsCons (gVar 1) (gsCons (gVar 2) (gsNil)))) (cVal (eBin fEq (eVar 2) (eC (.ctup [(.str "open")])))) (eVar 1) [1, 2]))
def b_law_start (c : Cl) : MS :=
    sRet (eLst (aCons (eCall bList (aCons (eVar 0) (aNil))) (aCons (eC (.int 0)) (aCons (eC (.int 0)) (aCons (eC (.int 0)) (aNil))))))
def b_law_draw (c : Cl) : MS :=
    sSeq (sPut (eVar 0) (eC (.int 3)) (eBin fAdd (eBin fIx (eVar 0) (eC (.int 3))) (eC (.int 1))))
    (sSeq (sIf (cVal (eBin fGt (eBin fIx (eVar 0) (eC (.int 2))) (eC (.int 0)))) (sSeq (sSet 4 (eBin fMod (eCall bInt (aCons (eBin fIx (eVar 0) (eC (.int 2))) (aNil))) (eVar 1)))
    (sSeq (sPut (eVar 0) (eC (.int 2)) (eBin fDiv (eBin fIx (eVar 0) (eC (.int 2))) (eVar 1)))
    (sRet (eVar 4)))) (sNext))
    (sSeq (sSet 2 (eC (.int 0)))
    (sSeq (sIf (cVal (eBin fGt (eCall bLen (aCons (eBin fIx (eVar 0) (eC (.int 0))) (aNil))) (eC (.int 0)))) (sSet 2 (eCall bAbs (aCons (eBin fIx (eBin fIx (eVar 0) (eC (.int 0))) (eBin fMod (eCall bInt (aCons (eBin fIx (eVar 0) (eC (.int 1))) (aNil))) (eCall bLen (aCons (eBin fIx (eVar 0) (eC (.int 0))) (aNil))))) (aNil)))) (sNext))
    (sSeq (sPut (eVar 0) (eC (.int 1)) (eBin fAdd (eBin fIx (eVar 0) (eC (.int 1))) (eC (.int 1))))
    (sSeq (sIf (cVal (eBin fGe (eVar 2) (eBin fPow (eC (.int 10)) (eC (.int 18))))) (sSeq (sPut (eVar 0) (eC (.int 2)) (eBin fDiv (eVar 2) (eVar 1)))
    (sRet (eBin fMod (eCall bInt (aCons (eVar 2) (aNil))) (eVar 1)))) (sNext))
    (sSeq (sSet 3 (eBin fMod (eCall bInt (aCons (eBin fAdd (eBin fMul (eBin fAdd (eVar 2) (eC (.int 1))) (eC (.int 48271))) (eBin fMul (eBin fIx (eVar 0) (eC (.int 3))) (eC (.int 69621)))) (aNil))) (eC (.int 2147483647))))
    (sSeq (sSet 3 (eBin fMod (eCall bInt (aCons (eBin fAdd (eBin fAdd (eBin fMul (eVar 3) (eC (.int 16807))) (eBin fDiv (eVar 2) (eC (.int 97)))) (eBin fIx (eVar 0) (eC (.int 3)))) (aNil))) (eC (.int 2147483629))))
    (sRet (eBin fMod (eBin fDiv (eVar 3) (eC (.int 11))) (eVar 1))))))))))
def b_law_one_of (c : Cl) : MS :=
    sRet (eBin fIx (eVar 1) (eCall (c .law_draw) (aCons (eVar 0) (aCons (eCall bLen (aCons (eVar 1) (aNil))) (aNil)))))
def b_law_words (c : Cl) : MS :=
    sSeq (sSet 2 (eC (.str "abcdefghijklmnopqrstuvwxyz")))
    (sSeq (sSet 3 (eCall (c .law_draw) (aCons (eVar 0) (aCons (eC (.int 26)) (aNil)))))
    (sSeq (sSet 4 (eBin fAdd (eC (.int 1)) (eBin fMul (eC (.int 2)) (eCall (c .law_draw) (aCons (eVar 0) (aCons (eC (.int 6)) (aNil)))))))
    (sSeq (sSet 5 (eSl (eC (.str "qxz")) oNo (oSo (eCall (c .law_draw) (aCons (eVar 0) (aCons (eC (.int 4)) (aNil)))))))
    (sSeq (sIf (cVal (eBin fEq (eCall (c .law_draw) (aCons (eVar 0) (aCons (eC (.int 2)) (aNil)))) (eC (.int 0)))) (sRet (eAl (lLc (iRange1 (aCons (eVar 1) (aNil))) (gVar 6) (cTrue) (eBin fAdd (eVar 5) (eBin fIx (eVar 2) (eBin fMod (eCall bInt (aCons (eBin fAdd (eVar 3) (eBin fMul (eVar 6) (eVar 4))) (aNil))) (eC (.int 26))))) [6]))) (sNext))
    (sRet (eAl (lLc (iRange1 (aCons (eVar 1) (aNil))) (gVar 6) (cTrue) (eBin fAdd (eBin fIx (eVar 2) (eBin fMod (eCall bInt (aCons (eBin fAdd (eVar 3) (eBin fMul (eVar 6) (eVar 4))) (aNil))) (eC (.int 26)))) (eVar 5)) [6])))))))
def b_law_is_int (c : Cl) : MS :=
    sRet (eAnd (eCall bIsi (aCons (eVar 0) (aCons (eC (.ty "int")) (aNil)))) (eNot (eCall bIsi (aCons (eVar 0) (aCons (eC (.ty "bool")) (aNil))))))
def b_law_same (c : Cl) : MS :=
    sSeq (sIf (cVal (eCall bIsi (aCons (eVar 1) (aCons (eC (.ty "tuple")) (aNil))))) (sSeq (sIf (cOr (cNot (cVal (eCall bIsi (aCons (eVar 0) (aCons (eC (.ty "tuple")) (aNil)))))) (cVal (eBin fNe (eCall bLen (aCons (eVar 0) (aNil))) (eCall bLen (aCons (eVar 1) (aNil)))))) (sRet (eC (.bl false))) (sNext))
    (sRet (eCallL lAll (lLc (iRange1 (aCons (eCall bLen (aCons (eVar 1) (aNil))) (aNil))) (gVar 2) (cTrue) (eCall (c .law_same) (aCons (eBin fIx (eVar 0) (eVar 2)) (aCons (eBin fIx (eVar 1) (eVar 2)) (aNil)))) [2])))) (sNext))
    (sSeq (sIf (cVal (eCall bIsi (aCons (eVar 1) (aCons (eC (.ty "str")) (aNil))))) (sRet (eAnd (eCall bIsi (aCons (eVar 0) (aCons (eC (.ty "str")) (aNil)))) (eBin fEq (eVar 0) (eVar 1)))) (sNext))
    (sRet (eAnd (eCall (c .law_is_int) (aCons (eVar 0) (aNil))) (eBin fEq (eVar 0) (eVar 1)))))
def b_law_path (c : Cl) : MS :=
    sSeq (sSet 1 (eTup (aCons (eCall (c .law_draw) (aCons (eVar 0) (aCons (eC (.int 5)) (aNil)))) (aNil))))
    (sSeq (sFor (iRange1 (aCons (eCall (c .law_draw) (aCons (eVar 0) (aCons (eC (.int 3)) (aNil)))) (aNil))) (gVar 2) (sSet 1 (eBin fAdd (eVar 1) (eTup (aCons (eBin fAdd (eC (.int 2)) (eCall (c .law_draw) (aCons (eVar 0) (aCons (eC (.int 2)) (aNil))))) (aCons (eCall (c .law_draw) (aCons (eVar 0) (aCons (eC (.int 4)) (aNil)))) (aNil)))))))
    (sRet (eVar 1)))
def b_law_fate (c : Cl) : MS :=
    sSeq (sIf (cVal (eBin fEq (eCall (c .law_draw) (aCons (eVar 0) (aCons (eC (.int 2)) (aNil)))) (eC (.int 0)))) (sRet (eTup (aCons (eC (.str "open")) (aNil)))) (sNext))
    (sRet (eTup (aCons (eC (.str "matters")) (aCons (eCallL lTup (lLc (iRange1 (aCons (eCall (c .law_draw) (aCons (eVar 0) (aCons (eC (.int 3)) (aNil)))) (aNil))) (gVar 1) (cTrue) (eBin fSub (eCall (c .law_draw) (aCons (eVar 0) (aCons (eC (.int 9)) (aNil)))) (eC (.int 4))) [1])) (aNil)))))
def b_law (c : Cl) : MS :=
    sSeq (sSet 1 (eCall (c .law_start) (aCons (eVar 0) (aNil))))
    (sSeq (sSet 2 (eCall (c .law_words) (aCons (eVar 1) (aCons (eC (.int 2)) (aNil)))))
    (sSeq (sFor (iRange1 (aCons (eC (.int 3)) (aNil))) (gVar 3) (sSeq (sSet 4 (eLst (aNil)))
    (sSeq (sFor (iRange1 (aCons (eCall (c .law_draw) (aCons (eVar 1) (aCons (eC (.int 13)) (aNil)))) (aNil))) (gVar 5) (sSeq (sSet 7 (eTup (aCons (eCall (c .law_one_of) (aCons (eVar 1) (aCons (eVar 2) (aNil)))) (aCons (eCall (c .law_path) (aCons (eVar 1) (aNil))) (aCons (eBin fIx (eLst (aCons (eC (.int 0)) (aCons (eC (.int 0)) (aCons (eC (.int 2)) (aCons (eC (.int 3)) (aNil)))))) (eCall (c .law_draw) (aCons (eVar 1) (aCons (eC (.int 4)) (aNil))))) (aNil))))))
    (sDrop (eMeth mAppend (eVar 4) (aCons (eTup (aCons (eVar 7) (aCons (eCall (c .law_fate) (aCons (eVar 1) (aNil))) (aNil)))) (aNil))))))
    (sSeq (sSet 6 (eCallL lTup (lLc (iVal (eVar 4)) (gTupD 2 (gsCons (gVar 7) (gsCons (gVar 8) (gsNil)))) (cVal (eBin fEq (eCall bLen (aCons (eVar 8) (aNil))) (eC (.int 1)))) (eVar 7) [7, 8])))
    (sIf (cNot (cVal (eCall (c .law_same) (aCons (eCall (c .open_cuts) (aCons (eTup (aCons (eTup (aNil)) (aCons (eTup (aCons (eC (.str "always")) (aCons (eTup (aNil)) (aNil)))) (aCons (eCall bTuple (aCons (eVar 4) (aNil))) (aNil))))) (aNil))) (aCons (eVar 6) (aNil)))))) (sRet (eC (.bl false))) (sNext))))))
    (sRet (eC (.bl true)))))
def F : Nat → Cl
  | 0, _, _, _ => none
  | n + 1, .open_cuts, ds, st => runBody 3 (b_open_cuts (F n)) ds st
  | n + 1, .law_start, ds, st => runBody 1 (b_law_start (F n)) ds st
  | n + 1, .law_draw, ds, st => runBody 5 (b_law_draw (F n)) ds st
  | n + 1, .law_one_of, ds, st => runBody 2 (b_law_one_of (F n)) ds st
  | n + 1, .law_words, ds, st => runBody 7 (b_law_words (F n)) ds st
  | n + 1, .law_is_int, ds, st => runBody 1 (b_law_is_int (F n)) ds st
  | n + 1, .law_same, ds, st => runBody 3 (b_law_same (F n)) ds st
  | n + 1, .law_path, ds, st => runBody 3 (b_law_path (F n)) ds st
  | n + 1, .law_fate, ds, st => runBody 2 (b_law_fate (F n)) ds st
  | n + 1, .law, ds, st => runBody 9 (b_law (F n)) ds st
theorem F_open_cuts {n : Nat} {ds : List D} {st : S} : F (n + 1) .open_cuts ds st = runBody 3 (b_open_cuts (F n)) ds st := rfl
theorem F_law_start {n : Nat} {ds : List D} {st : S} : F (n + 1) .law_start ds st = runBody 1 (b_law_start (F n)) ds st := rfl
theorem F_law_draw {n : Nat} {ds : List D} {st : S} : F (n + 1) .law_draw ds st = runBody 5 (b_law_draw (F n)) ds st := rfl
theorem F_law_one_of {n : Nat} {ds : List D} {st : S} : F (n + 1) .law_one_of ds st = runBody 2 (b_law_one_of (F n)) ds st := rfl
theorem F_law_words {n : Nat} {ds : List D} {st : S} : F (n + 1) .law_words ds st = runBody 7 (b_law_words (F n)) ds st := rfl
theorem F_law_is_int {n : Nat} {ds : List D} {st : S} : F (n + 1) .law_is_int ds st = runBody 1 (b_law_is_int (F n)) ds st := rfl
theorem F_law_same {n : Nat} {ds : List D} {st : S} : F (n + 1) .law_same ds st = runBody 3 (b_law_same (F n)) ds st := rfl
theorem F_law_path {n : Nat} {ds : List D} {st : S} : F (n + 1) .law_path ds st = runBody 3 (b_law_path (F n)) ds st := rfl
theorem F_law_fate {n : Nat} {ds : List D} {st : S} : F (n + 1) .law_fate ds st = runBody 2 (b_law_fate (F n)) ds st := rfl
theorem F_law {n : Nat} {ds : List D} {st : S} : F (n + 1) .law ds st = runBody 9 (b_law (F n)) ds st := rfl
end Lw
namespace Lw
open PySem Z L2
theorem draw_ok {n : Nat} {m : Int} {st : S} {Q : D → S → Prop} (hs : St st) (hm : 0 < m) (hm2 : m < 1000000000) (k : ∀ r st', Fr st st' → 0 ≤ r → r < m → Q (.int r) st') : Ok (F (n+1) .law_draw [.ref 1, .int m] st) Q := by
  obtain ⟨cells, p, r, c, h1, h0, hr⟩ := hs.ex
  have h1' : ∀ {o : O}, (st.set 1 o)[1]? = some o := fun {o} => gs_self h1
  have h0' : ∀ {o : O}, (st.set 1 o)[0]? = some (.lst (cells.map D.int)) := fun {o} => (gs_ne (by decide)).trans h0
  have hm0 : m ≠ 0 := by omega
  have hmn : m.natAbs < 1073741824 := by omega
  have fin : ∀ (x p' r' c' : Int), 0 ≤ r' → Q (.int (x.fmod m)) (st.set 1 (.lst [.ref 0, .int p', .int r', .int c'])) := fun x p' r' c' hr' =>
    k _ _ ⟨⟨cells, p', r', c', gs_self h1, (gs_ne (by decide)).trans h0, hr'⟩, by simp, fun n _ h => gs_ne (Ne.symm h)⟩ (Int.fmod_nonneg_of_pos x hm) (Int.fmod_lt_of_pos x hm)
  rw [F_law_draw]
  simp only [b_law_draw, ok_var, ok_c, ok_bin, ok_val, ok_not, ok_and, ok_or, ok_eAnd, ok_eOr, ok_eNot, ok_eNeg, ok_eIf, ok_call, ok_callL, ok_al, ok_nil, ok_cons, ok_tup, ok_lst, ok_sl, ok_no, ok_so, ok_meth, ok_meth0, ok_disp, ok_pNil, ok_pCons, ok_get2, then_nx, then_rt, then_bk, then_ct, ok_next, ok_brk, ok_cnt, ok_seq, ok_drop, ok_ret, ok_if, ok_asg, ok_put, ok_for, ok_lc, ok_lc2, ok_true, ok_iVal, ok_range1, ok_zip, ok_body, Ok_some, Ok_none, Ok_ite, startE, List.map_cons, List.map_nil, List.length_cons, List.length_nil, List.replicate, List.cons_append, List.nil_append, List.getElem?_cons_zero, List.getElem?_cons_succ, List.set_cons_zero, List.set_cons_succ, Nat.reduceAdd, Nat.reduceSub, Nat.zero_add, add_int, add_str, add_tup, sub_int, mul_int, mod_int, div_int, pow_int, I_int, fLt, fLe, fGt, fGe, eq_int, eq_str, ne_def, neg_bl, is_bl, isNot_bl, len_str, len_tup, abs_int, int_int, int_bl, tuple_tup, Z.sl_tup, Z.sl_str, got_some, list_tup, list_clst, src_tup, gVar, gTupD, gsNil, gsCons, atD, ixN, Int.cast_ofNat_Int, Int.reduceLE, Int.reduceAbs, Int.reducePow, Int.zero_le_ofNat, Int.reduceNeg, Int.reduceEq, Int.reduceAdd, Int.reduceMul, Int.reduceLT, Int.reduceToNat, Option.bind_some, Option.map_some, reduceIte, wipeE, Int.zero_add, big, Nat.reducePow, Nat.reduceLT, Nat.reduceLeDiff, or_true, true_or, and_true, true_and, and_self, Bool.false_eq_true, Bool.true_eq_false, Bool.not_true, Bool.not_false, decide_true, decide_false, decide_eq_true_eq, ne_eq, not_true, not_false_eq_true, reduceCtorEq, List.set_set, hm0, hmn, gs_self h1, h0', len_ref h0', ok_ix_lst h1, ok_ix_lst h1', ok_ix_lst h0', put_lst h1, put_lst h1']
  split
  · exact fin _ _ _ _ (Int.fdiv_nonneg hr (by omega))
  · split
    · rename_i h3
      have hl : (0 : Int) < (cells.length : Nat) := by simpa using h3
      rw [if_pos (by omega)]
      generalize hq : p.fmod ((List.map D.int cells).length : Nat) = q
      have q0 : 0 ≤ q := by rw [← hq]; exact Int.fmod_nonneg_of_pos _ h3
      have q1 : q < ((List.map D.int cells).length : Nat) := by rw [← hq]; exact Int.fmod_lt_of_pos _ h3
      rw [if_pos q0, if_pos q1]
      have q2 : q.toNat < cells.length := by simp at q1; omega
      have e : (List.map D.int cells)[q.toNat]? = some (.int cells[q.toNat]) := by simp [q2]
      simp only [ok_var, ok_c, ok_bin, ok_val, ok_not, ok_and, ok_or, ok_eAnd, ok_eOr, ok_eNot, ok_eNeg, ok_eIf, ok_call, ok_callL, ok_al, ok_nil, ok_cons, ok_tup, ok_lst, ok_sl, ok_no, ok_so, ok_meth, ok_meth0, ok_disp, ok_pNil, ok_pCons, ok_get2, then_nx, then_rt, then_bk, then_ct, ok_next, ok_brk, ok_cnt, ok_seq, ok_drop, ok_ret, ok_if, ok_asg, ok_put, ok_for, ok_lc, ok_lc2, ok_true, ok_iVal, ok_range1, ok_zip, ok_body, Ok_some, Ok_none, Ok_ite, startE, List.map_cons, List.map_nil, List.length_cons, List.length_nil, List.replicate, List.cons_append, List.nil_append, List.getElem?_cons_zero, List.getElem?_cons_succ, List.set_cons_zero, List.set_cons_succ, Nat.reduceAdd, Nat.reduceSub, Nat.zero_add, add_int, add_str, add_tup, sub_int, mul_int, mod_int, div_int, pow_int, I_int, fLt, fLe, fGt, fGe, eq_int, eq_str, ne_def, neg_bl, is_bl, isNot_bl, len_str, len_tup, abs_int, int_int, int_bl, tuple_tup, Z.sl_tup, Z.sl_str, got_some, list_tup, list_clst, src_tup, gVar, gTupD, gsNil, gsCons, atD, ixN, Int.cast_ofNat_Int, Int.reduceLE, Int.reduceAbs, Int.reducePow, Int.zero_le_ofNat, Int.reduceNeg, Int.reduceEq, Int.reduceAdd, Int.reduceMul, Int.reduceLT, Int.reduceToNat, Option.bind_some, Option.map_some, reduceIte, wipeE, Int.zero_add, big, Nat.reducePow, Nat.reduceLT, Nat.reduceLeDiff, or_true, true_or, and_true, true_and, and_self, Bool.false_eq_true, Bool.true_eq_false, Bool.not_true, Bool.not_false, decide_true, decide_false, decide_eq_true_eq, ne_eq, not_true, not_false_eq_true, reduceCtorEq, List.set_set, e, hm0, hmn, gs_self h1, h0', len_ref h0', ok_ix_lst h1, ok_ix_lst h1', ok_ix_lst h0', put_lst h1, put_lst h1']
      have hx : 0 ≤ (if cells[q.toNat] < 0 then -cells[q.toNat] else cells[q.toNat]) := by split <;> omega
      generalize (if cells[q.toNat] < 0 then -cells[q.toNat] else cells[q.toNat]) = X at hx ⊢
      split
      · exact fin _ _ _ _ (Int.fdiv_nonneg hx (by omega))
      · exact fin _ _ _ _ hr
    · exact fin _ _ _ _ hr
theorem az_get {i : Nat} (h : i < 26) : ("abcdefghijklmnopqrstuvwxyz" : Str).cps.toList[i]? = some (97 + i) := by
  have e : ("abcdefghijklmnopqrstuvwxyz" : Str).cps.toList = (List.range 26).map fun i => 97 + i := by decide +kernel
  rw [e, List.getElem?_map, List.getElem?_range h]
  rfl
theorem words_ok {n : Nat} {m : Int} {st : S} {Q : D → S → Prop} (hs : St st) (h0 : 0 ≤ m) (h26 : m ≤ 26) (k : ∀ ws r st', Fr st st' → st.length ≤ r → st'[r]? = some (.lst (ws.map D.str)) → Words ws m.toNat → Q (.ref r) st') :
    Ok (F (n+2) .law_words [.ref 1, .int m] st) Q := by
  rw [F_law_words]
  simp only [b_law_words, ok_var, ok_c, ok_bin, ok_val, ok_not, ok_and, ok_or, ok_eAnd, ok_eOr, ok_eNot, ok_eNeg, ok_eIf, ok_call, ok_callL, ok_al, ok_nil, ok_cons, ok_tup, ok_lst, ok_sl, ok_no, ok_so, ok_meth, ok_meth0, ok_disp, ok_pNil, ok_pCons, ok_get2, then_nx, then_rt, then_bk, then_ct, ok_next, ok_brk, ok_cnt, ok_seq, ok_drop, ok_ret, ok_if, ok_asg, ok_put, ok_for, ok_lc, ok_lc2, ok_true, ok_iVal, ok_range1, ok_zip, ok_body, Ok_some, Ok_none, Ok_ite, startE, List.map_cons, List.map_nil, List.length_cons, List.length_nil, List.replicate, List.cons_append, List.nil_append, List.getElem?_cons_zero, List.getElem?_cons_succ, List.set_cons_zero, List.set_cons_succ, Nat.reduceAdd, Nat.reduceSub, Nat.zero_add, add_int, add_str, add_tup, sub_int, mul_int, mod_int, div_int, pow_int, I_int, fLt, fLe, fGt, fGe, eq_int, eq_str, ne_def, neg_bl, is_bl, isNot_bl, len_str, len_tup, abs_int, int_int, int_bl, tuple_tup, Z.sl_tup, Z.sl_str, got_some, list_tup, list_clst, src_tup, gVar, gTupD, gsNil, gsCons, atD, ixN, Int.cast_ofNat_Int, Int.reduceLE, Int.reduceAbs, Int.reducePow, Int.zero_le_ofNat, Int.reduceNeg, Int.reduceEq, Int.reduceAdd, Int.reduceMul, Int.reduceLT, Int.reduceToNat, Option.bind_some, Option.map_some, reduceIte, wipeE, Int.zero_add, big, Nat.reducePow, Nat.reduceLT, Nat.reduceLeDiff, or_true, true_or, and_true, true_and, and_self, Bool.false_eq_true, Bool.true_eq_false, Bool.not_true, Bool.not_false, decide_true, decide_false, decide_eq_true_eq, ne_eq, not_true, not_false_eq_true, reduceCtorEq, List.set_set]
  refine draw_ok hs (by decide) (by decide) fun a s1 f1 a0 a1 => ?_
  refine draw_ok f1.ok (by decide) (by decide) fun b s2 f2 b0 b1 => ?_
  try simp only [ok_var, ok_c, ok_bin, ok_val, ok_not, ok_and, ok_or, ok_eAnd, ok_eOr, ok_eNot, ok_eNeg, ok_eIf, ok_call, ok_callL, ok_al, ok_nil, ok_cons, ok_tup, ok_lst, ok_sl, ok_no, ok_so, ok_meth, ok_meth0, ok_disp, ok_pNil, ok_pCons, ok_get2, then_nx, then_rt, then_bk, then_ct, ok_next, ok_brk, ok_cnt, ok_seq, ok_drop, ok_ret, ok_if, ok_asg, ok_put, ok_for, ok_lc, ok_lc2, ok_true, ok_iVal, ok_range1, ok_zip, ok_body, Ok_some, Ok_none, Ok_ite, startE, List.map_cons, List.map_nil, List.length_cons, List.length_nil, List.replicate, List.cons_append, List.nil_append, List.getElem?_cons_zero, List.getElem?_cons_succ, List.set_cons_zero, List.set_cons_succ, Nat.reduceAdd, Nat.reduceSub, Nat.zero_add, add_int, add_str, add_tup, sub_int, mul_int, mod_int, div_int, pow_int, I_int, fLt, fLe, fGt, fGe, eq_int, eq_str, ne_def, neg_bl, is_bl, isNot_bl, len_str, len_tup, abs_int, int_int, int_bl, tuple_tup, Z.sl_tup, Z.sl_str, got_some, list_tup, list_clst, src_tup, gVar, gTupD, gsNil, gsCons, atD, ixN, Int.cast_ofNat_Int, Int.reduceLE, Int.reduceAbs, Int.reducePow, Int.zero_le_ofNat, Int.reduceNeg, Int.reduceEq, Int.reduceAdd, Int.reduceMul, Int.reduceLT, Int.reduceToNat, Option.bind_some, Option.map_some, reduceIte, wipeE, Int.zero_add, big, Nat.reducePow, Nat.reduceLT, Nat.reduceLeDiff, or_true, true_or, and_true, true_and, and_self, Bool.false_eq_true, Bool.true_eq_false, Bool.not_true, Bool.not_false, decide_true, decide_false, decide_eq_true_eq, ne_eq, not_true, not_false_eq_true, reduceCtorEq, List.set_set]
  refine draw_ok f2.ok (by decide) (by decide) fun c s3 f3 c0 c1 => ?_
  try simp only [ok_var, ok_c, ok_bin, ok_val, ok_not, ok_and, ok_or, ok_eAnd, ok_eOr, ok_eNot, ok_eNeg, ok_eIf, ok_call, ok_callL, ok_al, ok_nil, ok_cons, ok_tup, ok_lst, ok_sl, ok_no, ok_so, ok_meth, ok_meth0, ok_disp, ok_pNil, ok_pCons, ok_get2, then_nx, then_rt, then_bk, then_ct, ok_next, ok_brk, ok_cnt, ok_seq, ok_drop, ok_ret, ok_if, ok_asg, ok_put, ok_for, ok_lc, ok_lc2, ok_true, ok_iVal, ok_range1, ok_zip, ok_body, Ok_some, Ok_none, Ok_ite, startE, List.map_cons, List.map_nil, List.length_cons, List.length_nil, List.replicate, List.cons_append, List.nil_append, List.getElem?_cons_zero, List.getElem?_cons_succ, List.set_cons_zero, List.set_cons_succ, Nat.reduceAdd, Nat.reduceSub, Nat.zero_add, add_int, add_str, add_tup, sub_int, mul_int, mod_int, div_int, pow_int, I_int, fLt, fLe, fGt, fGe, eq_int, eq_str, ne_def, neg_bl, is_bl, isNot_bl, len_str, len_tup, abs_int, int_int, int_bl, tuple_tup, Z.sl_tup, Z.sl_str, got_some, list_tup, list_clst, src_tup, gVar, gTupD, gsNil, gsCons, atD, ixN, Int.cast_ofNat_Int, Int.reduceLE, Int.reduceAbs, Int.reducePow, Int.zero_le_ofNat, Int.reduceNeg, Int.reduceEq, Int.reduceAdd, Int.reduceMul, Int.reduceLT, Int.reduceToNat, Option.bind_some, Option.map_some, reduceIte, wipeE, Int.zero_add, big, Nat.reducePow, Nat.reduceLT, Nat.reduceLeDiff, or_true, true_or, and_true, true_and, and_self, Bool.false_eq_true, Bool.true_eq_false, Bool.not_true, Bool.not_false, decide_true, decide_false, decide_eq_true_eq, ne_eq, not_true, not_false_eq_true, reduceCtorEq, List.set_set]
  have hq : ("qxz" : Str).length ≤ big := by decide +kernel
  rw [if_pos hq]
  obtain ⟨sh, hsh, hsl, hsa⟩ : ∃ sh : List Nat, cutS ("qxz" : Str) none (some c) = ⟨sh.toArray⟩ ∧ sh.length ≤ 3 ∧ ∀ x ∈ sh, 97 ≤ x ∧ x ≤ 122 := by
    obtain rfl | rfl | rfl | rfl : c = 0 ∨ c = 1 ∨ c = 2 ∨ c = 3 := by omega
    · exact ⟨[], by decide +kernel, by decide, by decide⟩
    · exact ⟨[113], by decide +kernel, by decide, by decide⟩
    · exact ⟨[113, 120], by decide +kernel, by decide, by decide⟩
    · exact ⟨[113, 120, 122], by decide +kernel, by decide, by decide⟩
  rw [hsh]
  refine draw_ok f3.ok (by decide) (by decide) fun d s4 f4 d0 d1 => ?_
  have F4 := ((f1.trans f2).trans f3).trans f4
  -- the words
  let ix : Nat → Nat := fun j => ((a + (j : Nat) * (1 + 2 * b)).fmod 26).toNat
  have hix : ∀ j, ix j < 26 := fun j => by
    have h1 := Int.fmod_nonneg_of_pos (a + (j : Nat) * (1 + 2 * b)) (show (0 : Int) < 26 by decide)
    have h2 := Int.fmod_lt_of_pos (a + (j : Nat) * (1 + 2 * b)) (show (0 : Int) < 26 by decide)
    show ((a + (j : Nat) * (1 + 2 * b)).fmod 26).toNat < 26
    omega
  have hinj : ∀ i j, i < 26 → j < 26 → ix i = ix j → i = j := fun i j hi hj e => by
    have e' : ((a + (i : Nat) * (1 + 2 * b)).fmod 26).toNat = ((a + (j : Nat) * (1 + 2 * b)).fmod 26).toNat := e
    rw [Int.fmod_eq_emod_of_nonneg _ (by decide), Int.fmod_eq_emod_of_nonneg _ (by decide)] at e'
    obtain rfl | rfl | rfl | rfl | rfl | rfl : b = 0 ∨ b = 1 ∨ b = 2 ∨ b = 3 ∨ b = 4 ∨ b = 5 := by omega
    all_goals omega
  have fin : ∀ (f : Bool) (st' : S), Fr st st' → st.length ≤ st'.length → Words ((List.range m.toNat).map fun j => wordA sh f (97 + ix j)) m.toNat := fun f st' _ _ => by
    refine ⟨by simp, ?_, fun w hw => ?_⟩
    · refine (List.nodup_iff_pairwise_ne.mp List.nodup_range).imp_of_mem (R := fun i j => i ≠ j) ?_ |> List.pairwise_map.mpr |> List.nodup_iff_pairwise_ne.mpr
      intro i j hi hj hne e
      rw [List.mem_range] at hi hj
      exact hne (hinj i j (by omega) (by omega) (by have := wordA_inj e; omega))
    · obtain ⟨j, _, rfl⟩ := List.mem_map.mp hw
      exact wordA_wd hsl hsa (by have := hix j; omega)
  have hlen : ∀ i, i < m.toNat → i < big := fun i hi => by show i < 16777216; omega
  have item : ∀ (i : Nat) (s : S) (Q : D → S → Prop), i < m.toNat → Ok (fIx (.str "abcdefghijklmnopqrstuvwxyz") (.int ((a + ((i : Nat) : Int) * (1 + 2 * b)).fmod 26)) s) Q = Q (.str ⟨#[97 + ix i]⟩) s := fun i s Q hi => by
    have h1 := Int.fmod_nonneg_of_pos (a + (i : Nat) * (1 + 2 * b)) (show (0 : Int) < 26 by decide)
    have h2 := Int.fmod_lt_of_pos (a + (i : Nat) * (1 + 2 * b)) (show (0 : Int) < 26 by decide)
    refine ok_ix_str (by decide +kernel) ?_
    have hl : ("abcdefghijklmnopqrstuvwxyz" : Str).cps.toList.length = 26 := by decide +kernel
    unfold ixN
    rw [hl, if_pos h1, if_pos (show (a + ((i : Nat) : Int) * (1 + 2 * b)).fmod 26 < ((26 : Nat) : Int) from h2)]
    exact az_get (hix i)
  have hb : (1 + 2 * b).natAbs < 18446744073709551616 := by omega
  try simp only [ok_var, ok_c, ok_bin, ok_val, ok_not, ok_and, ok_or, ok_eAnd, ok_eOr, ok_eNot, ok_eNeg, ok_eIf, ok_call, ok_callL, ok_al, ok_nil, ok_cons, ok_tup, ok_lst, ok_sl, ok_no, ok_so, ok_meth, ok_meth0, ok_disp, ok_pNil, ok_pCons, ok_get2, then_nx, then_rt, then_bk, then_ct, ok_next, ok_brk, ok_cnt, ok_seq, ok_drop, ok_ret, ok_if, ok_asg, ok_put, ok_for, ok_lc, ok_lc2, ok_true, ok_iVal, ok_range1, ok_zip, ok_body, Ok_some, Ok_none, Ok_ite, startE, List.map_cons, List.map_nil, List.length_cons, List.length_nil, List.replicate, List.cons_append, List.nil_append, List.getElem?_cons_zero, List.getElem?_cons_succ, List.set_cons_zero, List.set_cons_succ, Nat.reduceAdd, Nat.reduceSub, Nat.zero_add, add_int, add_str, add_tup, sub_int, mul_int, mod_int, div_int, pow_int, I_int, fLt, fLe, fGt, fGe, eq_int, eq_str, ne_def, neg_bl, is_bl, isNot_bl, len_str, len_tup, abs_int, int_int, int_bl, tuple_tup, Z.sl_tup, Z.sl_str, got_some, list_tup, list_clst, src_tup, gVar, gTupD, gsNil, gsCons, atD, ixN, Int.cast_ofNat_Int, Int.reduceLE, Int.reduceAbs, Int.reducePow, Int.zero_le_ofNat, Int.reduceNeg, Int.reduceEq, Int.reduceAdd, Int.reduceMul, Int.reduceLT, Int.reduceToNat, Option.bind_some, Option.map_some, reduceIte, wipeE, Int.zero_add, big, Nat.reducePow, Nat.reduceLT, Nat.reduceLeDiff, or_true, true_or, and_true, true_and, and_self, Bool.false_eq_true, Bool.true_eq_false, Bool.not_true, Bool.not_false, decide_true, decide_false, decide_eq_true_eq, ne_eq, not_true, not_false_eq_true, reduceCtorEq, List.set_set]
  split
  · refine ⟨⟨by omega, by omega⟩, ?_⟩
    refine lc_rng (fun i acc s => s = s4 ∧ acc = (List.range i).map fun j => D.str (wordA sh true (97 + ix j))) ⟨rfl, rfl⟩ (fun i acc s hi p => ?_) (fun acc s p => ?_)
    · obtain ⟨rfl, rfl⟩ := p
      simp only [TrnL, ok_var, ok_c, ok_bin, ok_val, ok_not, ok_and, ok_or, ok_eAnd, ok_eOr, ok_eNot, ok_eNeg, ok_eIf, ok_call, ok_callL, ok_al, ok_nil, ok_cons, ok_tup, ok_lst, ok_sl, ok_no, ok_so, ok_meth, ok_meth0, ok_disp, ok_pNil, ok_pCons, ok_get2, then_nx, then_rt, then_bk, then_ct, ok_next, ok_brk, ok_cnt, ok_seq, ok_drop, ok_ret, ok_if, ok_asg, ok_put, ok_for, ok_lc, ok_lc2, ok_true, ok_iVal, ok_range1, ok_zip, ok_body, Ok_some, Ok_none, Ok_ite, startE, List.map_cons, List.map_nil, List.length_cons, List.length_nil, List.replicate, List.cons_append, List.nil_append, List.getElem?_cons_zero, List.getElem?_cons_succ, List.set_cons_zero, List.set_cons_succ, Nat.reduceAdd, Nat.reduceSub, Nat.zero_add, add_int, add_str, add_tup, sub_int, mul_int, mod_int, div_int, pow_int, I_int, fLt, fLe, fGt, fGe, eq_int, eq_str, ne_def, neg_bl, is_bl, isNot_bl, len_str, len_tup, abs_int, int_int, int_bl, tuple_tup, Z.sl_tup, Z.sl_str, got_some, list_tup, list_clst, src_tup, gVar, gTupD, gsNil, gsCons, atD, ixN, Int.cast_ofNat_Int, Int.reduceLE, Int.reduceAbs, Int.reducePow, Int.zero_le_ofNat, Int.reduceNeg, Int.reduceEq, Int.reduceAdd, Int.reduceMul, Int.reduceLT, Int.reduceToNat, Option.bind_some, Option.map_some, reduceIte, wipeE, Int.zero_add, big, Nat.reducePow, Nat.reduceLT, Nat.reduceLeDiff, or_true, true_or, and_true, true_and, and_self, Bool.false_eq_true, Bool.true_eq_false, Bool.not_true, Bool.not_false, decide_true, decide_false, decide_eq_true_eq, ne_eq, not_true, not_false_eq_true, reduceCtorEq, List.set_set, hb, item i _ _ hi, List.length_map, List.length_range]
      have h4 : ((⟨sh.toArray⟩ : Str).length + (⟨#[97 + ix i]⟩ : Str).length ≤ big) := by show sh.toArray.size + 1 ≤ 16777216; simp; omega
      refine ⟨hlen i hi, ?_⟩
      rw [if_pos h4]
      rw [List.range_succ, List.map_append]
      congr 1
      show [D.str (⟨sh.toArray⟩ ++ ⟨#[97 + ix i]⟩)] = [D.str (wordA sh true (97 + ix i))]
      congr 2
      show (⟨sh.toArray ++ #[97 + ix i]⟩ : Str) = ⟨(sh ++ [97 + ix i]).toArray⟩
      simp
    · obtain ⟨rfl, rfl⟩ := p
      refine k _ _ _ F4.app F4.le (by rw [ga_new, List.map_map]; rfl) (fin true s F4 F4.le)
  · refine ⟨⟨by omega, by omega⟩, ?_⟩
    refine lc_rng (fun i acc s => s = s4 ∧ acc = (List.range i).map fun j => D.str (wordA sh false (97 + ix j))) ⟨rfl, rfl⟩ (fun i acc s hi p => ?_) (fun acc s p => ?_)
    · obtain ⟨rfl, rfl⟩ := p
      simp only [TrnL, ok_var, ok_c, ok_bin, ok_val, ok_not, ok_and, ok_or, ok_eAnd, ok_eOr, ok_eNot, ok_eNeg, ok_eIf, ok_call, ok_callL, ok_al, ok_nil, ok_cons, ok_tup, ok_lst, ok_sl, ok_no, ok_so, ok_meth, ok_meth0, ok_disp, ok_pNil, ok_pCons, ok_get2, then_nx, then_rt, then_bk, then_ct, ok_next, ok_brk, ok_cnt, ok_seq, ok_drop, ok_ret, ok_if, ok_asg, ok_put, ok_for, ok_lc, ok_lc2, ok_true, ok_iVal, ok_range1, ok_zip, ok_body, Ok_some, Ok_none, Ok_ite, startE, List.map_cons, List.map_nil, List.length_cons, List.length_nil, List.replicate, List.cons_append, List.nil_append, List.getElem?_cons_zero, List.getElem?_cons_succ, List.set_cons_zero, List.set_cons_succ, Nat.reduceAdd, Nat.reduceSub, Nat.zero_add, add_int, add_str, add_tup, sub_int, mul_int, mod_int, div_int, pow_int, I_int, fLt, fLe, fGt, fGe, eq_int, eq_str, ne_def, neg_bl, is_bl, isNot_bl, len_str, len_tup, abs_int, int_int, int_bl, tuple_tup, Z.sl_tup, Z.sl_str, got_some, list_tup, list_clst, src_tup, gVar, gTupD, gsNil, gsCons, atD, ixN, Int.cast_ofNat_Int, Int.reduceLE, Int.reduceAbs, Int.reducePow, Int.zero_le_ofNat, Int.reduceNeg, Int.reduceEq, Int.reduceAdd, Int.reduceMul, Int.reduceLT, Int.reduceToNat, Option.bind_some, Option.map_some, reduceIte, wipeE, Int.zero_add, big, Nat.reducePow, Nat.reduceLT, Nat.reduceLeDiff, or_true, true_or, and_true, true_and, and_self, Bool.false_eq_true, Bool.true_eq_false, Bool.not_true, Bool.not_false, decide_true, decide_false, decide_eq_true_eq, ne_eq, not_true, not_false_eq_true, reduceCtorEq, List.set_set, hb, item i _ _ hi, List.length_map, List.length_range]
      have h4 : ((⟨#[97 + ix i]⟩ : Str).length + (⟨sh.toArray⟩ : Str).length ≤ big) := by show 1 + sh.toArray.size ≤ 16777216; simp; omega
      refine ⟨hlen i hi, ?_⟩
      rw [if_pos h4]
      rw [List.range_succ, List.map_append]
      congr 1
      show [D.str (⟨#[97 + ix i]⟩ ++ ⟨sh.toArray⟩)] = [D.str (wordA sh false (97 + ix i))]
      congr 2
      show (⟨#[97 + ix i] ++ sh.toArray⟩ : Str) = ⟨([97 + ix i] ++ sh).toArray⟩
      simp
    · obtain ⟨rfl, rfl⟩ := p
      refine k _ _ _ F4.app F4.le (by rw [ga_new, List.map_map]; rfl) (fin false s F4 F4.le)
theorem one_of_ref {n i : Nat} {l : List D} {st : S} {Q : D → S → Prop} (hs : St st) (h2 : 2 ≤ i) (h : st[i]? = some (.lst l)) (h0 : l ≠ []) (hb : l.length < 1000000000) (k : ∀ (j : Nat) d st', Fr st st' → l[j]? = some d → Q d st') :
    Ok (F (n+2) .law_one_of [.ref 1, .ref i] st) Q := by
  rw [F_law_one_of]
  simp only [b_law_one_of, ok_var, ok_c, ok_bin, ok_val, ok_not, ok_and, ok_or, ok_eAnd, ok_eOr, ok_eNot, ok_eNeg, ok_eIf, ok_call, ok_callL, ok_al, ok_nil, ok_cons, ok_tup, ok_lst, ok_sl, ok_no, ok_so, ok_meth, ok_meth0, ok_disp, ok_pNil, ok_pCons, ok_get2, then_nx, then_rt, then_bk, then_ct, ok_next, ok_brk, ok_cnt, ok_seq, ok_drop, ok_ret, ok_if, ok_asg, ok_put, ok_for, ok_lc, ok_lc2, ok_true, ok_iVal, ok_range1, ok_zip, ok_body, Ok_some, Ok_none, Ok_ite, startE, List.map_cons, List.map_nil, List.length_cons, List.length_nil, List.replicate, List.cons_append, List.nil_append, List.getElem?_cons_zero, List.getElem?_cons_succ, List.set_cons_zero, List.set_cons_succ, Nat.reduceAdd, Nat.reduceSub, Nat.zero_add, add_int, add_str, add_tup, sub_int, mul_int, mod_int, div_int, pow_int, I_int, fLt, fLe, fGt, fGe, eq_int, eq_str, ne_def, neg_bl, is_bl, isNot_bl, len_str, len_tup, abs_int, int_int, int_bl, tuple_tup, Z.sl_tup, Z.sl_str, got_some, list_tup, list_clst, src_tup, gVar, gTupD, gsNil, gsCons, atD, ixN, Int.cast_ofNat_Int, Int.reduceLE, Int.reduceAbs, Int.reducePow, Int.zero_le_ofNat, Int.reduceNeg, Int.reduceEq, Int.reduceAdd, Int.reduceMul, Int.reduceLT, Int.reduceToNat, Option.bind_some, Option.map_some, reduceIte, wipeE, Int.zero_add, big, Nat.reducePow, Nat.reduceLT, Nat.reduceLeDiff, or_true, true_or, and_true, true_and, and_self, Bool.false_eq_true, Bool.true_eq_false, Bool.not_true, Bool.not_false, decide_true, decide_false, decide_eq_true_eq, ne_eq, not_true, not_false_eq_true, reduceCtorEq, List.set_set, len_ref h]
  have hp : 0 < l.length := List.length_pos_iff.mpr h0
  refine draw_ok hs (by omega) (by omega) fun r s1 f1 r0 r1 => ?_
  have h' := f1.get h h2
  have hr : r.toNat < l.length := by omega
  simp only [ok_ix_lst h', ok_var, ok_c, ok_bin, ok_val, ok_not, ok_and, ok_or, ok_eAnd, ok_eOr, ok_eNot, ok_eNeg, ok_eIf, ok_call, ok_callL, ok_al, ok_nil, ok_cons, ok_tup, ok_lst, ok_sl, ok_no, ok_so, ok_meth, ok_meth0, ok_disp, ok_pNil, ok_pCons, ok_get2, then_nx, then_rt, then_bk, then_ct, ok_next, ok_brk, ok_cnt, ok_seq, ok_drop, ok_ret, ok_if, ok_asg, ok_put, ok_for, ok_lc, ok_lc2, ok_true, ok_iVal, ok_range1, ok_zip, ok_body, Ok_some, Ok_none, Ok_ite, startE, List.map_cons, List.map_nil, List.length_cons, List.length_nil, List.replicate, List.cons_append, List.nil_append, List.getElem?_cons_zero, List.getElem?_cons_succ, List.set_cons_zero, List.set_cons_succ, Nat.reduceAdd, Nat.reduceSub, Nat.zero_add, add_int, add_str, add_tup, sub_int, mul_int, mod_int, div_int, pow_int, I_int, fLt, fLe, fGt, fGe, eq_int, eq_str, ne_def, neg_bl, is_bl, isNot_bl, len_str, len_tup, abs_int, int_int, int_bl, tuple_tup, Z.sl_tup, Z.sl_str, got_some, list_tup, list_clst, src_tup, gVar, gTupD, gsNil, gsCons, atD, ixN, Int.cast_ofNat_Int, Int.reduceLE, Int.reduceAbs, Int.reducePow, Int.zero_le_ofNat, Int.reduceNeg, Int.reduceEq, Int.reduceAdd, Int.reduceMul, Int.reduceLT, Int.reduceToNat, Option.bind_some, Option.map_some, reduceIte, wipeE, Int.zero_add, big, Nat.reducePow, Nat.reduceLT, Nat.reduceLeDiff, or_true, true_or, and_true, true_and, and_self, Bool.false_eq_true, Bool.true_eq_false, Bool.not_true, Bool.not_false, decide_true, decide_false, decide_eq_true_eq, ne_eq, not_true, not_false_eq_true, reduceCtorEq, List.set_set, r0, r1, List.getElem?_eq_getElem hr]
  exact k r.toNat _ s1 f1 (List.getElem?_eq_getElem hr)
theorem one_of_tup {n : Nat} {l : List D} {st : S} {Q : D → S → Prop} (hs : St st) (h0 : l ≠ []) (hb : l.length < 1000000000) (k : ∀ (j : Nat) d st', Fr st st' → l[j]? = some d → Q d st') :
    Ok (F (n+2) .law_one_of [.ref 1, .tup l] st) Q := by
  rw [F_law_one_of]
  simp only [b_law_one_of, ok_var, ok_c, ok_bin, ok_val, ok_not, ok_and, ok_or, ok_eAnd, ok_eOr, ok_eNot, ok_eNeg, ok_eIf, ok_call, ok_callL, ok_al, ok_nil, ok_cons, ok_tup, ok_lst, ok_sl, ok_no, ok_so, ok_meth, ok_meth0, ok_disp, ok_pNil, ok_pCons, ok_get2, then_nx, then_rt, then_bk, then_ct, ok_next, ok_brk, ok_cnt, ok_seq, ok_drop, ok_ret, ok_if, ok_asg, ok_put, ok_for, ok_lc, ok_lc2, ok_true, ok_iVal, ok_range1, ok_zip, ok_body, Ok_some, Ok_none, Ok_ite, startE, List.map_cons, List.map_nil, List.length_cons, List.length_nil, List.replicate, List.cons_append, List.nil_append, List.getElem?_cons_zero, List.getElem?_cons_succ, List.set_cons_zero, List.set_cons_succ, Nat.reduceAdd, Nat.reduceSub, Nat.zero_add, add_int, add_str, add_tup, sub_int, mul_int, mod_int, div_int, pow_int, I_int, fLt, fLe, fGt, fGe, eq_int, eq_str, ne_def, neg_bl, is_bl, isNot_bl, len_str, len_tup, abs_int, int_int, int_bl, tuple_tup, Z.sl_tup, Z.sl_str, got_some, list_tup, list_clst, src_tup, gVar, gTupD, gsNil, gsCons, atD, ixN, Int.cast_ofNat_Int, Int.reduceLE, Int.reduceAbs, Int.reducePow, Int.zero_le_ofNat, Int.reduceNeg, Int.reduceEq, Int.reduceAdd, Int.reduceMul, Int.reduceLT, Int.reduceToNat, Option.bind_some, Option.map_some, reduceIte, wipeE, Int.zero_add, big, Nat.reducePow, Nat.reduceLT, Nat.reduceLeDiff, or_true, true_or, and_true, true_and, and_self, Bool.false_eq_true, Bool.true_eq_false, Bool.not_true, Bool.not_false, decide_true, decide_false, decide_eq_true_eq, ne_eq, not_true, not_false_eq_true, reduceCtorEq, List.set_set]
  have hp : 0 < l.length := List.length_pos_iff.mpr h0
  refine draw_ok hs (by omega) (by omega) fun r s1 f1 r0 r1 => ?_
  have hr : r.toNat < l.length := by omega
  simp only [ok_ix_tup, ok_var, ok_c, ok_bin, ok_val, ok_not, ok_and, ok_or, ok_eAnd, ok_eOr, ok_eNot, ok_eNeg, ok_eIf, ok_call, ok_callL, ok_al, ok_nil, ok_cons, ok_tup, ok_lst, ok_sl, ok_no, ok_so, ok_meth, ok_meth0, ok_disp, ok_pNil, ok_pCons, ok_get2, then_nx, then_rt, then_bk, then_ct, ok_next, ok_brk, ok_cnt, ok_seq, ok_drop, ok_ret, ok_if, ok_asg, ok_put, ok_for, ok_lc, ok_lc2, ok_true, ok_iVal, ok_range1, ok_zip, ok_body, Ok_some, Ok_none, Ok_ite, startE, List.map_cons, List.map_nil, List.length_cons, List.length_nil, List.replicate, List.cons_append, List.nil_append, List.getElem?_cons_zero, List.getElem?_cons_succ, List.set_cons_zero, List.set_cons_succ, Nat.reduceAdd, Nat.reduceSub, Nat.zero_add, add_int, add_str, add_tup, sub_int, mul_int, mod_int, div_int, pow_int, I_int, fLt, fLe, fGt, fGe, eq_int, eq_str, ne_def, neg_bl, is_bl, isNot_bl, len_str, len_tup, abs_int, int_int, int_bl, tuple_tup, Z.sl_tup, Z.sl_str, got_some, list_tup, list_clst, src_tup, gVar, gTupD, gsNil, gsCons, atD, ixN, Int.cast_ofNat_Int, Int.reduceLE, Int.reduceAbs, Int.reducePow, Int.zero_le_ofNat, Int.reduceNeg, Int.reduceEq, Int.reduceAdd, Int.reduceMul, Int.reduceLT, Int.reduceToNat, Option.bind_some, Option.map_some, reduceIte, wipeE, Int.zero_add, big, Nat.reducePow, Nat.reduceLT, Nat.reduceLeDiff, or_true, true_or, and_true, true_and, and_self, Bool.false_eq_true, Bool.true_eq_false, Bool.not_true, Bool.not_false, decide_true, decide_false, decide_eq_true_eq, ne_eq, not_true, not_false_eq_true, reduceCtorEq, List.set_set, r0, r1, List.getElem?_eq_getElem hr]
  exact k r.toNat _ s1 f1 (List.getElem?_eq_getElem hr)
theorem same_refl : ∀ (k : Nat) (d : D), plainD k d = true → ∀ (n : Nat) (st : S) (Q : D → S → Prop), Q (.bl true) st → Ok (F (n+k+2) .law_same [d, d] st) Q
  | k, .int i, _, n, st, Q, q => by
    rw [F_law_same]
    simp only [b_law_same, ok_var, ok_c, ok_bin, ok_val, ok_not, ok_and, ok_or, ok_eAnd, ok_eOr, ok_eNot, ok_eNeg, ok_eIf, ok_call, ok_callL, ok_al, ok_nil, ok_cons, ok_tup, ok_lst, ok_sl, ok_no, ok_so, ok_meth, ok_meth0, ok_disp, ok_pNil, ok_pCons, ok_get2, then_nx, then_rt, then_bk, then_ct, ok_next, ok_brk, ok_cnt, ok_seq, ok_drop, ok_ret, ok_if, ok_asg, ok_put, ok_for, ok_lc, ok_lc2, ok_true, ok_iVal, ok_range1, ok_zip, ok_body, Ok_some, Ok_none, Ok_ite, startE, List.map_cons, List.map_nil, List.length_cons, List.length_nil, List.replicate, List.cons_append, List.nil_append, List.getElem?_cons_zero, List.getElem?_cons_succ, List.set_cons_zero, List.set_cons_succ, Nat.reduceAdd, Nat.reduceSub, Nat.zero_add, add_int, add_str, add_tup, sub_int, mul_int, mod_int, div_int, pow_int, I_int, fLt, fLe, fGt, fGe, eq_int, eq_str, ne_def, neg_bl, is_bl, isNot_bl, len_str, len_tup, abs_int, int_int, int_bl, tuple_tup, Z.sl_tup, Z.sl_str, got_some, list_tup, list_clst, src_tup, gVar, gTupD, gsNil, gsCons, atD, ixN, Int.cast_ofNat_Int, Int.reduceLE, Int.reduceAbs, Int.reducePow, Int.zero_le_ofNat, Int.reduceNeg, Int.reduceEq, Int.reduceAdd, Int.reduceMul, Int.reduceLT, Int.reduceToNat, Option.bind_some, Option.map_some, reduceIte, wipeE, Int.zero_add, big, Nat.reducePow, Nat.reduceLT, Nat.reduceLeDiff, or_true, true_or, and_true, true_and, and_self, Bool.false_eq_true, Bool.true_eq_false, Bool.not_true, Bool.not_false, decide_true, decide_false, decide_eq_true_eq, ne_eq, not_true, not_false_eq_true, reduceCtorEq, List.set_set, isi_int_tup, isi_int_str]
    show Ok (F (n + k + 1) .law_is_int [.int i] st) _
    rw [F_law_is_int]
    simp only [b_law_is_int, ok_var, ok_c, ok_bin, ok_val, ok_not, ok_and, ok_or, ok_eAnd, ok_eOr, ok_eNot, ok_eNeg, ok_eIf, ok_call, ok_callL, ok_al, ok_nil, ok_cons, ok_tup, ok_lst, ok_sl, ok_no, ok_so, ok_meth, ok_meth0, ok_disp, ok_pNil, ok_pCons, ok_get2, then_nx, then_rt, then_bk, then_ct, ok_next, ok_brk, ok_cnt, ok_seq, ok_drop, ok_ret, ok_if, ok_asg, ok_put, ok_for, ok_lc, ok_lc2, ok_true, ok_iVal, ok_range1, ok_zip, ok_body, Ok_some, Ok_none, Ok_ite, startE, List.map_cons, List.map_nil, List.length_cons, List.length_nil, List.replicate, List.cons_append, List.nil_append, List.getElem?_cons_zero, List.getElem?_cons_succ, List.set_cons_zero, List.set_cons_succ, Nat.reduceAdd, Nat.reduceSub, Nat.zero_add, add_int, add_str, add_tup, sub_int, mul_int, mod_int, div_int, pow_int, I_int, fLt, fLe, fGt, fGe, eq_int, eq_str, ne_def, neg_bl, is_bl, isNot_bl, len_str, len_tup, abs_int, int_int, int_bl, tuple_tup, Z.sl_tup, Z.sl_str, got_some, list_tup, list_clst, src_tup, gVar, gTupD, gsNil, gsCons, atD, ixN, Int.cast_ofNat_Int, Int.reduceLE, Int.reduceAbs, Int.reducePow, Int.zero_le_ofNat, Int.reduceNeg, Int.reduceEq, Int.reduceAdd, Int.reduceMul, Int.reduceLT, Int.reduceToNat, Option.bind_some, Option.map_some, reduceIte, wipeE, Int.zero_add, big, Nat.reducePow, Nat.reduceLT, Nat.reduceLeDiff, or_true, true_or, and_true, true_and, and_self, Bool.false_eq_true, Bool.true_eq_false, Bool.not_true, Bool.not_false, decide_true, decide_false, decide_eq_true_eq, ne_eq, not_true, not_false_eq_true, reduceCtorEq, List.set_set, isi_int_int, isi_int_bool]
    exact q
  | k, .str i, _, n, st, Q, q => by
    rw [F_law_same]
    simp only [b_law_same, ok_var, ok_c, ok_bin, ok_val, ok_not, ok_and, ok_or, ok_eAnd, ok_eOr, ok_eNot, ok_eNeg, ok_eIf, ok_call, ok_callL, ok_al, ok_nil, ok_cons, ok_tup, ok_lst, ok_sl, ok_no, ok_so, ok_meth, ok_meth0, ok_disp, ok_pNil, ok_pCons, ok_get2, then_nx, then_rt, then_bk, then_ct, ok_next, ok_brk, ok_cnt, ok_seq, ok_drop, ok_ret, ok_if, ok_asg, ok_put, ok_for, ok_lc, ok_lc2, ok_true, ok_iVal, ok_range1, ok_zip, ok_body, Ok_some, Ok_none, Ok_ite, startE, List.map_cons, List.map_nil, List.length_cons, List.length_nil, List.replicate, List.cons_append, List.nil_append, List.getElem?_cons_zero, List.getElem?_cons_succ, List.set_cons_zero, List.set_cons_succ, Nat.reduceAdd, Nat.reduceSub, Nat.zero_add, add_int, add_str, add_tup, sub_int, mul_int, mod_int, div_int, pow_int, I_int, fLt, fLe, fGt, fGe, eq_int, eq_str, ne_def, neg_bl, is_bl, isNot_bl, len_str, len_tup, abs_int, int_int, int_bl, tuple_tup, Z.sl_tup, Z.sl_str, got_some, list_tup, list_clst, src_tup, gVar, gTupD, gsNil, gsCons, atD, ixN, Int.cast_ofNat_Int, Int.reduceLE, Int.reduceAbs, Int.reducePow, Int.zero_le_ofNat, Int.reduceNeg, Int.reduceEq, Int.reduceAdd, Int.reduceMul, Int.reduceLT, Int.reduceToNat, Option.bind_some, Option.map_some, reduceIte, wipeE, Int.zero_add, big, Nat.reducePow, Nat.reduceLT, Nat.reduceLeDiff, or_true, true_or, and_true, true_and, and_self, Bool.false_eq_true, Bool.true_eq_false, Bool.not_true, Bool.not_false, decide_true, decide_false, decide_eq_true_eq, ne_eq, not_true, not_false_eq_true, reduceCtorEq, List.set_set, isi_str_tup, isi_str_str]
    exact q
  | 0, .tup l, p, n, st, Q, q => by simp [plainD] at p
  | k + 1, .tup l, p, n, st, Q, q => by
    rw [F_law_same]
    simp only [plainD, Bool.and_eq_true, decide_eq_true_eq] at p
    have hb : l.length ≤ 16777216 := p.1
    simp only [b_law_same, ok_var, ok_c, ok_bin, ok_val, ok_not, ok_and, ok_or, ok_eAnd, ok_eOr, ok_eNot, ok_eNeg, ok_eIf, ok_call, ok_callL, ok_al, ok_nil, ok_cons, ok_tup, ok_lst, ok_sl, ok_no, ok_so, ok_meth, ok_meth0, ok_disp, ok_pNil, ok_pCons, ok_get2, then_nx, then_rt, then_bk, then_ct, ok_next, ok_brk, ok_cnt, ok_seq, ok_drop, ok_ret, ok_if, ok_asg, ok_put, ok_for, ok_lc, ok_lc2, ok_true, ok_iVal, ok_range1, ok_zip, ok_body, Ok_some, Ok_none, Ok_ite, startE, List.map_cons, List.map_nil, List.length_cons, List.length_nil, List.replicate, List.cons_append, List.nil_append, List.getElem?_cons_zero, List.getElem?_cons_succ, List.set_cons_zero, List.set_cons_succ, Nat.reduceAdd, Nat.reduceSub, Nat.zero_add, add_int, add_str, add_tup, sub_int, mul_int, mod_int, div_int, pow_int, I_int, fLt, fLe, fGt, fGe, eq_int, eq_str, ne_def, neg_bl, is_bl, isNot_bl, len_str, len_tup, abs_int, int_int, int_bl, tuple_tup, Z.sl_tup, Z.sl_str, got_some, list_tup, list_clst, src_tup, gVar, gTupD, gsNil, gsCons, atD, ixN, Int.cast_ofNat_Int, Int.reduceLE, Int.reduceAbs, Int.reducePow, Int.zero_le_ofNat, Int.reduceNeg, Int.reduceEq, Int.reduceAdd, Int.reduceMul, Int.reduceLT, Int.reduceToNat, Option.bind_some, Option.map_some, reduceIte, wipeE, Int.zero_add, big, Nat.reducePow, Nat.reduceLT, Nat.reduceLeDiff, or_true, true_or, and_true, true_and, and_self, Bool.false_eq_true, Bool.true_eq_false, Bool.not_true, Bool.not_false, decide_true, decide_false, decide_eq_true_eq, ne_eq, not_true, not_false_eq_true, reduceCtorEq, List.set_set, isi_tup_tup, Int.toNat_natCast]
    refine ⟨⟨by omega, by omega⟩, ?_⟩
    refine lc_rng (fun i acc s => s = st ∧ acc = List.replicate i (.bl true)) ⟨rfl, rfl⟩ (fun i acc s hi q' => ?_) (fun acc s q' => ?_)
    · obtain ⟨rfl, rfl⟩ := q'
      have e : l[i]? = some l[i] := List.getElem?_eq_getElem hi
      have hi' : ((i : Nat) : Int) < (l.length : Nat) := by omega
      have h0 : (0 : Int) ≤ ((i : Nat) : Int) := by omega
      simp only [TrnL, ok_var, ok_c, ok_bin, ok_val, ok_not, ok_and, ok_or, ok_eAnd, ok_eOr, ok_eNot, ok_eNeg, ok_eIf, ok_call, ok_callL, ok_al, ok_nil, ok_cons, ok_tup, ok_lst, ok_sl, ok_no, ok_so, ok_meth, ok_meth0, ok_disp, ok_pNil, ok_pCons, ok_get2, then_nx, then_rt, then_bk, then_ct, ok_next, ok_brk, ok_cnt, ok_seq, ok_drop, ok_ret, ok_if, ok_asg, ok_put, ok_for, ok_lc, ok_lc2, ok_true, ok_iVal, ok_range1, ok_zip, ok_body, Ok_some, Ok_none, Ok_ite, startE, List.map_cons, List.map_nil, List.length_cons, List.length_nil, List.replicate, List.cons_append, List.nil_append, List.getElem?_cons_zero, List.getElem?_cons_succ, List.set_cons_zero, List.set_cons_succ, Nat.reduceAdd, Nat.reduceSub, Nat.zero_add, add_int, add_str, add_tup, sub_int, mul_int, mod_int, div_int, pow_int, I_int, fLt, fLe, fGt, fGe, eq_int, eq_str, ne_def, neg_bl, is_bl, isNot_bl, len_str, len_tup, abs_int, int_int, int_bl, tuple_tup, Z.sl_tup, Z.sl_str, got_some, list_tup, list_clst, src_tup, gVar, gTupD, gsNil, gsCons, atD, ixN, Int.cast_ofNat_Int, Int.reduceLE, Int.reduceAbs, Int.reducePow, Int.zero_le_ofNat, Int.reduceNeg, Int.reduceEq, Int.reduceAdd, Int.reduceMul, Int.reduceLT, Int.reduceToNat, Option.bind_some, Option.map_some, reduceIte, wipeE, Int.zero_add, big, Nat.reducePow, Nat.reduceLT, Nat.reduceLeDiff, or_true, true_or, and_true, true_and, and_self, Bool.false_eq_true, Bool.true_eq_false, Bool.not_true, Bool.not_false, decide_true, decide_false, decide_eq_true_eq, ne_eq, not_true, not_false_eq_true, reduceCtorEq, List.set_set, ok_ix_tup, hi', h0, Int.toNat_natCast, e, List.length_replicate]
      refine ⟨by show i < 16777216; omega, same_refl k l[i] (plainL_get p.2 e) n _ _ ⟨rfl, ?_⟩⟩
      exact List.replicate_succ'.symm.trans List.replicate_succ
    · obtain ⟨rfl, rfl⟩ := q'
      rw [all_rep]
      try simp only [ok_var, ok_c, ok_bin, ok_val, ok_not, ok_and, ok_or, ok_eAnd, ok_eOr, ok_eNot, ok_eNeg, ok_eIf, ok_call, ok_callL, ok_al, ok_nil, ok_cons, ok_tup, ok_lst, ok_sl, ok_no, ok_so, ok_meth, ok_meth0, ok_disp, ok_pNil, ok_pCons, ok_get2, then_nx, then_rt, then_bk, then_ct, ok_next, ok_brk, ok_cnt, ok_seq, ok_drop, ok_ret, ok_if, ok_asg, ok_put, ok_for, ok_lc, ok_lc2, ok_true, ok_iVal, ok_range1, ok_zip, ok_body, Ok_some, Ok_none, Ok_ite, startE, List.map_cons, List.map_nil, List.length_cons, List.length_nil, List.replicate, List.cons_append, List.nil_append, List.getElem?_cons_zero, List.getElem?_cons_succ, List.set_cons_zero, List.set_cons_succ, Nat.reduceAdd, Nat.reduceSub, Nat.zero_add, add_int, add_str, add_tup, sub_int, mul_int, mod_int, div_int, pow_int, I_int, fLt, fLe, fGt, fGe, eq_int, eq_str, ne_def, neg_bl, is_bl, isNot_bl, len_str, len_tup, abs_int, int_int, int_bl, tuple_tup, Z.sl_tup, Z.sl_str, got_some, list_tup, list_clst, src_tup, gVar, gTupD, gsNil, gsCons, atD, ixN, Int.cast_ofNat_Int, Int.reduceLE, Int.reduceAbs, Int.reducePow, Int.zero_le_ofNat, Int.reduceNeg, Int.reduceEq, Int.reduceAdd, Int.reduceMul, Int.reduceLT, Int.reduceToNat, Option.bind_some, Option.map_some, reduceIte, wipeE, Int.zero_add, big, Nat.reducePow, Nat.reduceLT, Nat.reduceLeDiff, or_true, true_or, and_true, true_and, and_self, Bool.false_eq_true, Bool.true_eq_false, Bool.not_true, Bool.not_false, decide_true, decide_false, decide_eq_true_eq, ne_eq, not_true, not_false_eq_true, reduceCtorEq, List.set_set]
      exact q
  | k, .non, p, _, _, _, _ => by cases k <;> simp [plainD] at p
  | k, .bl _, p, _, _, _, _ => by cases k <;> simp [plainD] at p
  | k, .ref _, p, _, _, _, _ => by cases k <;> simp [plainD] at p
  | k, .ctup _, p, _, _, _, _ => by cases k <;> simp [plainD] at p
  | k, .clst _, p, _, _, _, _ => by cases k <;> simp [plainD] at p
  | k, .fn _, p, _, _, _, _ => by cases k <;> simp [plainD] at p
  | k, .ty _, p, _, _, _, _ => by cases k <;> simp [plainD] at p
theorem start_ok {n : Nat} {cells : List Int} {Q : D → S → Prop} (k : ∀ st, St st → st.length = 2 → Q (.ref 1) st) : Ok (F (n+1) .law_start [.clst (cells.map D.int)] []) Q := by
  rw [F_law_start]
  simp only [b_law_start, ok_var, ok_c, ok_bin, ok_val, ok_not, ok_and, ok_or, ok_eAnd, ok_eOr, ok_eNot, ok_eNeg, ok_eIf, ok_call, ok_callL, ok_al, ok_nil, ok_cons, ok_tup, ok_lst, ok_sl, ok_no, ok_so, ok_meth, ok_meth0, ok_disp, ok_pNil, ok_pCons, ok_get2, then_nx, then_rt, then_bk, then_ct, ok_next, ok_brk, ok_cnt, ok_seq, ok_drop, ok_ret, ok_if, ok_asg, ok_put, ok_for, ok_lc, ok_lc2, ok_true, ok_iVal, ok_range1, ok_zip, ok_body, Ok_some, Ok_none, Ok_ite, startE, List.map_cons, List.map_nil, List.length_cons, List.length_nil, List.replicate, List.cons_append, List.nil_append, List.getElem?_cons_zero, List.getElem?_cons_succ, List.set_cons_zero, List.set_cons_succ, Nat.reduceAdd, Nat.reduceSub, Nat.zero_add, add_int, add_str, add_tup, sub_int, mul_int, mod_int, div_int, pow_int, I_int, fLt, fLe, fGt, fGe, eq_int, eq_str, ne_def, neg_bl, is_bl, isNot_bl, len_str, len_tup, abs_int, int_int, int_bl, tuple_tup, Z.sl_tup, Z.sl_str, got_some, list_tup, list_clst, src_tup, gVar, gTupD, gsNil, gsCons, atD, ixN, Int.cast_ofNat_Int, Int.reduceLE, Int.reduceAbs, Int.reducePow, Int.zero_le_ofNat, Int.reduceNeg, Int.reduceEq, Int.reduceAdd, Int.reduceMul, Int.reduceLT, Int.reduceToNat, Option.bind_some, Option.map_some, reduceIte, wipeE, Int.zero_add, big, Nat.reducePow, Nat.reduceLT, Nat.reduceLeDiff, or_true, true_or, and_true, true_and, and_self, Bool.false_eq_true, Bool.true_eq_false, Bool.not_true, Bool.not_false, decide_true, decide_false, decide_eq_true_eq, ne_eq, not_true, not_false_eq_true, reduceCtorEq, List.set_set]
  exact k _ ⟨cells, 0, 0, 0, rfl, rfl, by decide⟩ rfl
theorem path_ok {n : Nat} {st : S} {Q : D → S → Prop} (hs : St st) (k : ∀ ns : List Int, ∀ st', Fr st st' → ns.length ≤ 5 → Q (.tup (ns.map D.int)) st') : Ok (F (n+2) .law_path [.ref 1] st) Q := by
  rw [F_law_path]
  simp only [b_law_path, ok_var, ok_c, ok_bin, ok_val, ok_not, ok_and, ok_or, ok_eAnd, ok_eOr, ok_eNot, ok_eNeg, ok_eIf, ok_call, ok_callL, ok_al, ok_nil, ok_cons, ok_tup, ok_lst, ok_sl, ok_no, ok_so, ok_meth, ok_meth0, ok_disp, ok_pNil, ok_pCons, ok_get2, then_nx, then_rt, then_bk, then_ct, ok_next, ok_brk, ok_cnt, ok_seq, ok_drop, ok_ret, ok_if, ok_asg, ok_put, ok_for, ok_lc, ok_lc2, ok_true, ok_iVal, ok_range1, ok_zip, ok_body, Ok_some, Ok_none, Ok_ite, startE, List.map_cons, List.map_nil, List.length_cons, List.length_nil, List.replicate, List.cons_append, List.nil_append, List.getElem?_cons_zero, List.getElem?_cons_succ, List.set_cons_zero, List.set_cons_succ, Nat.reduceAdd, Nat.reduceSub, Nat.zero_add, add_int, add_str, add_tup, sub_int, mul_int, mod_int, div_int, pow_int, I_int, fLt, fLe, fGt, fGe, eq_int, eq_str, ne_def, neg_bl, is_bl, isNot_bl, len_str, len_tup, abs_int, int_int, int_bl, tuple_tup, Z.sl_tup, Z.sl_str, got_some, list_tup, list_clst, src_tup, gVar, gTupD, gsNil, gsCons, atD, ixN, Int.cast_ofNat_Int, Int.reduceLE, Int.reduceAbs, Int.reducePow, Int.zero_le_ofNat, Int.reduceNeg, Int.reduceEq, Int.reduceAdd, Int.reduceMul, Int.reduceLT, Int.reduceToNat, Option.bind_some, Option.map_some, reduceIte, wipeE, Int.zero_add, big, Nat.reducePow, Nat.reduceLT, Nat.reduceLeDiff, or_true, true_or, and_true, true_and, and_self, Bool.false_eq_true, Bool.true_eq_false, Bool.not_true, Bool.not_false, decide_true, decide_false, decide_eq_true_eq, ne_eq, not_true, not_false_eq_true, reduceCtorEq, List.set_set]
  refine draw_ok hs (by decide) (by decide) fun a s1 f1 a0 a1 => ?_
  try simp only [ok_var, ok_c, ok_bin, ok_val, ok_not, ok_and, ok_or, ok_eAnd, ok_eOr, ok_eNot, ok_eNeg, ok_eIf, ok_call, ok_callL, ok_al, ok_nil, ok_cons, ok_tup, ok_lst, ok_sl, ok_no, ok_so, ok_meth, ok_meth0, ok_disp, ok_pNil, ok_pCons, ok_get2, then_nx, then_rt, then_bk, then_ct, ok_next, ok_brk, ok_cnt, ok_seq, ok_drop, ok_ret, ok_if, ok_asg, ok_put, ok_for, ok_lc, ok_lc2, ok_true, ok_iVal, ok_range1, ok_zip, ok_body, Ok_some, Ok_none, Ok_ite, startE, List.map_cons, List.map_nil, List.length_cons, List.length_nil, List.replicate, List.cons_append, List.nil_append, List.getElem?_cons_zero, List.getElem?_cons_succ, List.set_cons_zero, List.set_cons_succ, Nat.reduceAdd, Nat.reduceSub, Nat.zero_add, add_int, add_str, add_tup, sub_int, mul_int, mod_int, div_int, pow_int, I_int, fLt, fLe, fGt, fGe, eq_int, eq_str, ne_def, neg_bl, is_bl, isNot_bl, len_str, len_tup, abs_int, int_int, int_bl, tuple_tup, Z.sl_tup, Z.sl_str, got_some, list_tup, list_clst, src_tup, gVar, gTupD, gsNil, gsCons, atD, ixN, Int.cast_ofNat_Int, Int.reduceLE, Int.reduceAbs, Int.reducePow, Int.zero_le_ofNat, Int.reduceNeg, Int.reduceEq, Int.reduceAdd, Int.reduceMul, Int.reduceLT, Int.reduceToNat, Option.bind_some, Option.map_some, reduceIte, wipeE, Int.zero_add, big, Nat.reducePow, Nat.reduceLT, Nat.reduceLeDiff, or_true, true_or, and_true, true_and, and_self, Bool.false_eq_true, Bool.true_eq_false, Bool.not_true, Bool.not_false, decide_true, decide_false, decide_eq_true_eq, ne_eq, not_true, not_false_eq_true, reduceCtorEq, List.set_set]
  refine draw_ok f1.ok (by decide) (by decide) fun b s2 f2 b0 b1 => ?_
  try simp only [ok_var, ok_c, ok_bin, ok_val, ok_not, ok_and, ok_or, ok_eAnd, ok_eOr, ok_eNot, ok_eNeg, ok_eIf, ok_call, ok_callL, ok_al, ok_nil, ok_cons, ok_tup, ok_lst, ok_sl, ok_no, ok_so, ok_meth, ok_meth0, ok_disp, ok_pNil, ok_pCons, ok_get2, then_nx, then_rt, then_bk, then_ct, ok_next, ok_brk, ok_cnt, ok_seq, ok_drop, ok_ret, ok_if, ok_asg, ok_put, ok_for, ok_lc, ok_lc2, ok_true, ok_iVal, ok_range1, ok_zip, ok_body, Ok_some, Ok_none, Ok_ite, startE, List.map_cons, List.map_nil, List.length_cons, List.length_nil, List.replicate, List.cons_append, List.nil_append, List.getElem?_cons_zero, List.getElem?_cons_succ, List.set_cons_zero, List.set_cons_succ, Nat.reduceAdd, Nat.reduceSub, Nat.zero_add, add_int, add_str, add_tup, sub_int, mul_int, mod_int, div_int, pow_int, I_int, fLt, fLe, fGt, fGe, eq_int, eq_str, ne_def, neg_bl, is_bl, isNot_bl, len_str, len_tup, abs_int, int_int, int_bl, tuple_tup, Z.sl_tup, Z.sl_str, got_some, list_tup, list_clst, src_tup, gVar, gTupD, gsNil, gsCons, atD, ixN, Int.cast_ofNat_Int, Int.reduceLE, Int.reduceAbs, Int.reducePow, Int.zero_le_ofNat, Int.reduceNeg, Int.reduceEq, Int.reduceAdd, Int.reduceMul, Int.reduceLT, Int.reduceToNat, Option.bind_some, Option.map_some, reduceIte, wipeE, Int.zero_add, big, Nat.reducePow, Nat.reduceLT, Nat.reduceLeDiff, or_true, true_or, and_true, true_and, and_self, Bool.false_eq_true, Bool.true_eq_false, Bool.not_true, Bool.not_false, decide_true, decide_false, decide_eq_true_eq, ne_eq, not_true, not_false_eq_true, reduceCtorEq, List.set_set]
  refine ⟨⟨by omega, by omega⟩, ?_⟩
  refine for_rng (fun i en s => ∃ (ns : List Int) (v : Option D), en = [some (.ref 1), some (.tup (ns.map D.int)), v] ∧ Fr st s ∧ ns.length = 1 + 2 * i) ⟨[a], none, rfl, f1.trans f2, rfl⟩ (fun i en s hi p => ?_) (fun en s p => ?_)
  · obtain ⟨ns, v, rfl, f3, hl⟩ := p
    simp only [Trn, ok_var, ok_c, ok_bin, ok_val, ok_not, ok_and, ok_or, ok_eAnd, ok_eOr, ok_eNot, ok_eNeg, ok_eIf, ok_call, ok_callL, ok_al, ok_nil, ok_cons, ok_tup, ok_lst, ok_sl, ok_no, ok_so, ok_meth, ok_meth0, ok_disp, ok_pNil, ok_pCons, ok_get2, then_nx, then_rt, then_bk, then_ct, ok_next, ok_brk, ok_cnt, ok_seq, ok_drop, ok_ret, ok_if, ok_asg, ok_put, ok_for, ok_lc, ok_lc2, ok_true, ok_iVal, ok_range1, ok_zip, ok_body, Ok_some, Ok_none, Ok_ite, startE, List.map_cons, List.map_nil, List.length_cons, List.length_nil, List.replicate, List.cons_append, List.nil_append, List.getElem?_cons_zero, List.getElem?_cons_succ, List.set_cons_zero, List.set_cons_succ, Nat.reduceAdd, Nat.reduceSub, Nat.zero_add, add_int, add_str, add_tup, sub_int, mul_int, mod_int, div_int, pow_int, I_int, fLt, fLe, fGt, fGe, eq_int, eq_str, ne_def, neg_bl, is_bl, isNot_bl, len_str, len_tup, abs_int, int_int, int_bl, tuple_tup, Z.sl_tup, Z.sl_str, got_some, list_tup, list_clst, src_tup, gVar, gTupD, gsNil, gsCons, atD, ixN, Int.cast_ofNat_Int, Int.reduceLE, Int.reduceAbs, Int.reducePow, Int.zero_le_ofNat, Int.reduceNeg, Int.reduceEq, Int.reduceAdd, Int.reduceMul, Int.reduceLT, Int.reduceToNat, Option.bind_some, Option.map_some, reduceIte, wipeE, Int.zero_add, big, Nat.reducePow, Nat.reduceLT, Nat.reduceLeDiff, or_true, true_or, and_true, true_and, and_self, Bool.false_eq_true, Bool.true_eq_false, Bool.not_true, Bool.not_false, decide_true, decide_false, decide_eq_true_eq, ne_eq, not_true, not_false_eq_true, reduceCtorEq, List.set_set]
    refine draw_ok f3.ok (by decide) (by decide) fun c s4 f4 c0 c1 => ?_
    try simp only [ok_var, ok_c, ok_bin, ok_val, ok_not, ok_and, ok_or, ok_eAnd, ok_eOr, ok_eNot, ok_eNeg, ok_eIf, ok_call, ok_callL, ok_al, ok_nil, ok_cons, ok_tup, ok_lst, ok_sl, ok_no, ok_so, ok_meth, ok_meth0, ok_disp, ok_pNil, ok_pCons, ok_get2, then_nx, then_rt, then_bk, then_ct, ok_next, ok_brk, ok_cnt, ok_seq, ok_drop, ok_ret, ok_if, ok_asg, ok_put, ok_for, ok_lc, ok_lc2, ok_true, ok_iVal, ok_range1, ok_zip, ok_body, Ok_some, Ok_none, Ok_ite, startE, List.map_cons, List.map_nil, List.length_cons, List.length_nil, List.replicate, List.cons_append, List.nil_append, List.getElem?_cons_zero, List.getElem?_cons_succ, List.set_cons_zero, List.set_cons_succ, Nat.reduceAdd, Nat.reduceSub, Nat.zero_add, add_int, add_str, add_tup, sub_int, mul_int, mod_int, div_int, pow_int, I_int, fLt, fLe, fGt, fGe, eq_int, eq_str, ne_def, neg_bl, is_bl, isNot_bl, len_str, len_tup, abs_int, int_int, int_bl, tuple_tup, Z.sl_tup, Z.sl_str, got_some, list_tup, list_clst, src_tup, gVar, gTupD, gsNil, gsCons, atD, ixN, Int.cast_ofNat_Int, Int.reduceLE, Int.reduceAbs, Int.reducePow, Int.zero_le_ofNat, Int.reduceNeg, Int.reduceEq, Int.reduceAdd, Int.reduceMul, Int.reduceLT, Int.reduceToNat, Option.bind_some, Option.map_some, reduceIte, wipeE, Int.zero_add, big, Nat.reducePow, Nat.reduceLT, Nat.reduceLeDiff, or_true, true_or, and_true, true_and, and_self, Bool.false_eq_true, Bool.true_eq_false, Bool.not_true, Bool.not_false, decide_true, decide_false, decide_eq_true_eq, ne_eq, not_true, not_false_eq_true, reduceCtorEq, List.set_set]
    refine draw_ok f4.ok (by decide) (by decide) fun d s5 f5 d0 d1 => ?_
    simp only [ok_var, ok_c, ok_bin, ok_val, ok_not, ok_and, ok_or, ok_eAnd, ok_eOr, ok_eNot, ok_eNeg, ok_eIf, ok_call, ok_callL, ok_al, ok_nil, ok_cons, ok_tup, ok_lst, ok_sl, ok_no, ok_so, ok_meth, ok_meth0, ok_disp, ok_pNil, ok_pCons, ok_get2, then_nx, then_rt, then_bk, then_ct, ok_next, ok_brk, ok_cnt, ok_seq, ok_drop, ok_ret, ok_if, ok_asg, ok_put, ok_for, ok_lc, ok_lc2, ok_true, ok_iVal, ok_range1, ok_zip, ok_body, Ok_some, Ok_none, Ok_ite, startE, List.map_cons, List.map_nil, List.length_cons, List.length_nil, List.replicate, List.cons_append, List.nil_append, List.getElem?_cons_zero, List.getElem?_cons_succ, List.set_cons_zero, List.set_cons_succ, Nat.reduceAdd, Nat.reduceSub, Nat.zero_add, add_int, add_str, add_tup, sub_int, mul_int, mod_int, div_int, pow_int, I_int, fLt, fLe, fGt, fGe, eq_int, eq_str, ne_def, neg_bl, is_bl, isNot_bl, len_str, len_tup, abs_int, int_int, int_bl, tuple_tup, Z.sl_tup, Z.sl_str, got_some, list_tup, list_clst, src_tup, gVar, gTupD, gsNil, gsCons, atD, ixN, Int.cast_ofNat_Int, Int.reduceLE, Int.reduceAbs, Int.reducePow, Int.zero_le_ofNat, Int.reduceNeg, Int.reduceEq, Int.reduceAdd, Int.reduceMul, Int.reduceLT, Int.reduceToNat, Option.bind_some, Option.map_some, reduceIte, wipeE, Int.zero_add, big, Nat.reducePow, Nat.reduceLT, Nat.reduceLeDiff, or_true, true_or, and_true, true_and, and_self, Bool.false_eq_true, Bool.true_eq_false, Bool.not_true, Bool.not_false, decide_true, decide_false, decide_eq_true_eq, ne_eq, not_true, not_false_eq_true, reduceCtorEq, List.set_set, List.length_map]
    rw [if_pos (by omega)]
    exact ⟨ns ++ [2 + c, d], some (.int (i : Nat)), by simp, (f3.trans f4).trans f5, by simp; omega⟩
  · obtain ⟨ns, v, rfl, f3, hl⟩ := p
    try simp only [ok_var, ok_c, ok_bin, ok_val, ok_not, ok_and, ok_or, ok_eAnd, ok_eOr, ok_eNot, ok_eNeg, ok_eIf, ok_call, ok_callL, ok_al, ok_nil, ok_cons, ok_tup, ok_lst, ok_sl, ok_no, ok_so, ok_meth, ok_meth0, ok_disp, ok_pNil, ok_pCons, ok_get2, then_nx, then_rt, then_bk, then_ct, ok_next, ok_brk, ok_cnt, ok_seq, ok_drop, ok_ret, ok_if, ok_asg, ok_put, ok_for, ok_lc, ok_lc2, ok_true, ok_iVal, ok_range1, ok_zip, ok_body, Ok_some, Ok_none, Ok_ite, startE, List.map_cons, List.map_nil, List.length_cons, List.length_nil, List.replicate, List.cons_append, List.nil_append, List.getElem?_cons_zero, List.getElem?_cons_succ, List.set_cons_zero, List.set_cons_succ, Nat.reduceAdd, Nat.reduceSub, Nat.zero_add, add_int, add_str, add_tup, sub_int, mul_int, mod_int, div_int, pow_int, I_int, fLt, fLe, fGt, fGe, eq_int, eq_str, ne_def, neg_bl, is_bl, isNot_bl, len_str, len_tup, abs_int, int_int, int_bl, tuple_tup, Z.sl_tup, Z.sl_str, got_some, list_tup, list_clst, src_tup, gVar, gTupD, gsNil, gsCons, atD, ixN, Int.cast_ofNat_Int, Int.reduceLE, Int.reduceAbs, Int.reducePow, Int.zero_le_ofNat, Int.reduceNeg, Int.reduceEq, Int.reduceAdd, Int.reduceMul, Int.reduceLT, Int.reduceToNat, Option.bind_some, Option.map_some, reduceIte, wipeE, Int.zero_add, big, Nat.reducePow, Nat.reduceLT, Nat.reduceLeDiff, or_true, true_or, and_true, true_and, and_self, Bool.false_eq_true, Bool.true_eq_false, Bool.not_true, Bool.not_false, decide_true, decide_false, decide_eq_true_eq, ne_eq, not_true, not_false_eq_true, reduceCtorEq, List.set_set]
    exact k ns s f3 (by omega)
/-- a fate as data -/
def fateD : Option (List Int) → D
  | none => .tup [.str "open"]
  | some ns => .tup [.str "matters", .tup (ns.map D.int)]
theorem fate_ok {n : Nat} {st : S} {Q : D → S → Prop} (hs : St st) (k : ∀ o : Option (List Int), ∀ st', Fr st st' → (∀ ns, o = some ns → ns.length ≤ 2) → Q (fateD o) st') : Ok (F (n+2) .law_fate [.ref 1] st) Q := by
  rw [F_law_fate]
  simp only [b_law_fate, ok_var, ok_c, ok_bin, ok_val, ok_not, ok_and, ok_or, ok_eAnd, ok_eOr, ok_eNot, ok_eNeg, ok_eIf, ok_call, ok_callL, ok_al, ok_nil, ok_cons, ok_tup, ok_lst, ok_sl, ok_no, ok_so, ok_meth, ok_meth0, ok_disp, ok_pNil, ok_pCons, ok_get2, then_nx, then_rt, then_bk, then_ct, ok_next, ok_brk, ok_cnt, ok_seq, ok_drop, ok_ret, ok_if, ok_asg, ok_put, ok_for, ok_lc, ok_lc2, ok_true, ok_iVal, ok_range1, ok_zip, ok_body, Ok_some, Ok_none, Ok_ite, startE, List.map_cons, List.map_nil, List.length_cons, List.length_nil, List.replicate, List.cons_append, List.nil_append, List.getElem?_cons_zero, List.getElem?_cons_succ, List.set_cons_zero, List.set_cons_succ, Nat.reduceAdd, Nat.reduceSub, Nat.zero_add, add_int, add_str, add_tup, sub_int, mul_int, mod_int, div_int, pow_int, I_int, fLt, fLe, fGt, fGe, eq_int, eq_str, ne_def, neg_bl, is_bl, isNot_bl, len_str, len_tup, abs_int, int_int, int_bl, tuple_tup, Z.sl_tup, Z.sl_str, got_some, list_tup, list_clst, src_tup, gVar, gTupD, gsNil, gsCons, atD, ixN, Int.cast_ofNat_Int, Int.reduceLE, Int.reduceAbs, Int.reducePow, Int.zero_le_ofNat, Int.reduceNeg, Int.reduceEq, Int.reduceAdd, Int.reduceMul, Int.reduceLT, Int.reduceToNat, Option.bind_some, Option.map_some, reduceIte, wipeE, Int.zero_add, big, Nat.reducePow, Nat.reduceLT, Nat.reduceLeDiff, or_true, true_or, and_true, true_and, and_self, Bool.false_eq_true, Bool.true_eq_false, Bool.not_true, Bool.not_false, decide_true, decide_false, decide_eq_true_eq, ne_eq, not_true, not_false_eq_true, reduceCtorEq, List.set_set]
  refine draw_ok hs (by decide) (by decide) fun a s1 f1 a0 a1 => ?_
  try simp only [ok_var, ok_c, ok_bin, ok_val, ok_not, ok_and, ok_or, ok_eAnd, ok_eOr, ok_eNot, ok_eNeg, ok_eIf, ok_call, ok_callL, ok_al, ok_nil, ok_cons, ok_tup, ok_lst, ok_sl, ok_no, ok_so, ok_meth, ok_meth0, ok_disp, ok_pNil, ok_pCons, ok_get2, then_nx, then_rt, then_bk, then_ct, ok_next, ok_brk, ok_cnt, ok_seq, ok_drop, ok_ret, ok_if, ok_asg, ok_put, ok_for, ok_lc, ok_lc2, ok_true, ok_iVal, ok_range1, ok_zip, ok_body, Ok_some, Ok_none, Ok_ite, startE, List.map_cons, List.map_nil, List.length_cons, List.length_nil, List.replicate, List.cons_append, List.nil_append, List.getElem?_cons_zero, List.getElem?_cons_succ, List.set_cons_zero, List.set_cons_succ, Nat.reduceAdd, Nat.reduceSub, Nat.zero_add, add_int, add_str, add_tup, sub_int, mul_int, mod_int, div_int, pow_int, I_int, fLt, fLe, fGt, fGe, eq_int, eq_str, ne_def, neg_bl, is_bl, isNot_bl, len_str, len_tup, abs_int, int_int, int_bl, tuple_tup, Z.sl_tup, Z.sl_str, got_some, list_tup, list_clst, src_tup, gVar, gTupD, gsNil, gsCons, atD, ixN, Int.cast_ofNat_Int, Int.reduceLE, Int.reduceAbs, Int.reducePow, Int.zero_le_ofNat, Int.reduceNeg, Int.reduceEq, Int.reduceAdd, Int.reduceMul, Int.reduceLT, Int.reduceToNat, Option.bind_some, Option.map_some, reduceIte, wipeE, Int.zero_add, big, Nat.reducePow, Nat.reduceLT, Nat.reduceLeDiff, or_true, true_or, and_true, true_and, and_self, Bool.false_eq_true, Bool.true_eq_false, Bool.not_true, Bool.not_false, decide_true, decide_false, decide_eq_true_eq, ne_eq, not_true, not_false_eq_true, reduceCtorEq, List.set_set]
  split
  · try simp only [ok_var, ok_c, ok_bin, ok_val, ok_not, ok_and, ok_or, ok_eAnd, ok_eOr, ok_eNot, ok_eNeg, ok_eIf, ok_call, ok_callL, ok_al, ok_nil, ok_cons, ok_tup, ok_lst, ok_sl, ok_no, ok_so, ok_meth, ok_meth0, ok_disp, ok_pNil, ok_pCons, ok_get2, then_nx, then_rt, then_bk, then_ct, ok_next, ok_brk, ok_cnt, ok_seq, ok_drop, ok_ret, ok_if, ok_asg, ok_put, ok_for, ok_lc, ok_lc2, ok_true, ok_iVal, ok_range1, ok_zip, ok_body, Ok_some, Ok_none, Ok_ite, startE, List.map_cons, List.map_nil, List.length_cons, List.length_nil, List.replicate, List.cons_append, List.nil_append, List.getElem?_cons_zero, List.getElem?_cons_succ, List.set_cons_zero, List.set_cons_succ, Nat.reduceAdd, Nat.reduceSub, Nat.zero_add, add_int, add_str, add_tup, sub_int, mul_int, mod_int, div_int, pow_int, I_int, fLt, fLe, fGt, fGe, eq_int, eq_str, ne_def, neg_bl, is_bl, isNot_bl, len_str, len_tup, abs_int, int_int, int_bl, tuple_tup, Z.sl_tup, Z.sl_str, got_some, list_tup, list_clst, src_tup, gVar, gTupD, gsNil, gsCons, atD, ixN, Int.cast_ofNat_Int, Int.reduceLE, Int.reduceAbs, Int.reducePow, Int.zero_le_ofNat, Int.reduceNeg, Int.reduceEq, Int.reduceAdd, Int.reduceMul, Int.reduceLT, Int.reduceToNat, Option.bind_some, Option.map_some, reduceIte, wipeE, Int.zero_add, big, Nat.reducePow, Nat.reduceLT, Nat.reduceLeDiff, or_true, true_or, and_true, true_and, and_self, Bool.false_eq_true, Bool.true_eq_false, Bool.not_true, Bool.not_false, decide_true, decide_false, decide_eq_true_eq, ne_eq, not_true, not_false_eq_true, reduceCtorEq, List.set_set]
    exact k none s1 f1 (fun _ h => by cases h)
  · try simp only [ok_var, ok_c, ok_bin, ok_val, ok_not, ok_and, ok_or, ok_eAnd, ok_eOr, ok_eNot, ok_eNeg, ok_eIf, ok_call, ok_callL, ok_al, ok_nil, ok_cons, ok_tup, ok_lst, ok_sl, ok_no, ok_so, ok_meth, ok_meth0, ok_disp, ok_pNil, ok_pCons, ok_get2, then_nx, then_rt, then_bk, then_ct, ok_next, ok_brk, ok_cnt, ok_seq, ok_drop, ok_ret, ok_if, ok_asg, ok_put, ok_for, ok_lc, ok_lc2, ok_true, ok_iVal, ok_range1, ok_zip, ok_body, Ok_some, Ok_none, Ok_ite, startE, List.map_cons, List.map_nil, List.length_cons, List.length_nil, List.replicate, List.cons_append, List.nil_append, List.getElem?_cons_zero, List.getElem?_cons_succ, List.set_cons_zero, List.set_cons_succ, Nat.reduceAdd, Nat.reduceSub, Nat.zero_add, add_int, add_str, add_tup, sub_int, mul_int, mod_int, div_int, pow_int, I_int, fLt, fLe, fGt, fGe, eq_int, eq_str, ne_def, neg_bl, is_bl, isNot_bl, len_str, len_tup, abs_int, int_int, int_bl, tuple_tup, Z.sl_tup, Z.sl_str, got_some, list_tup, list_clst, src_tup, gVar, gTupD, gsNil, gsCons, atD, ixN, Int.cast_ofNat_Int, Int.reduceLE, Int.reduceAbs, Int.reducePow, Int.zero_le_ofNat, Int.reduceNeg, Int.reduceEq, Int.reduceAdd, Int.reduceMul, Int.reduceLT, Int.reduceToNat, Option.bind_some, Option.map_some, reduceIte, wipeE, Int.zero_add, big, Nat.reducePow, Nat.reduceLT, Nat.reduceLeDiff, or_true, true_or, and_true, true_and, and_self, Bool.false_eq_true, Bool.true_eq_false, Bool.not_true, Bool.not_false, decide_true, decide_false, decide_eq_true_eq, ne_eq, not_true, not_false_eq_true, reduceCtorEq, List.set_set]
    refine draw_ok f1.ok (by decide) (by decide) fun b s2 f2 b0 b1 => ?_
    try simp only [ok_var, ok_c, ok_bin, ok_val, ok_not, ok_and, ok_or, ok_eAnd, ok_eOr, ok_eNot, ok_eNeg, ok_eIf, ok_call, ok_callL, ok_al, ok_nil, ok_cons, ok_tup, ok_lst, ok_sl, ok_no, ok_so, ok_meth, ok_meth0, ok_disp, ok_pNil, ok_pCons, ok_get2, then_nx, then_rt, then_bk, then_ct, ok_next, ok_brk, ok_cnt, ok_seq, ok_drop, ok_ret, ok_if, ok_asg, ok_put, ok_for, ok_lc, ok_lc2, ok_true, ok_iVal, ok_range1, ok_zip, ok_body, Ok_some, Ok_none, Ok_ite, startE, List.map_cons, List.map_nil, List.length_cons, List.length_nil, List.replicate, List.cons_append, List.nil_append, List.getElem?_cons_zero, List.getElem?_cons_succ, List.set_cons_zero, List.set_cons_succ, Nat.reduceAdd, Nat.reduceSub, Nat.zero_add, add_int, add_str, add_tup, sub_int, mul_int, mod_int, div_int, pow_int, I_int, fLt, fLe, fGt, fGe, eq_int, eq_str, ne_def, neg_bl, is_bl, isNot_bl, len_str, len_tup, abs_int, int_int, int_bl, tuple_tup, Z.sl_tup, Z.sl_str, got_some, list_tup, list_clst, src_tup, gVar, gTupD, gsNil, gsCons, atD, ixN, Int.cast_ofNat_Int, Int.reduceLE, Int.reduceAbs, Int.reducePow, Int.zero_le_ofNat, Int.reduceNeg, Int.reduceEq, Int.reduceAdd, Int.reduceMul, Int.reduceLT, Int.reduceToNat, Option.bind_some, Option.map_some, reduceIte, wipeE, Int.zero_add, big, Nat.reducePow, Nat.reduceLT, Nat.reduceLeDiff, or_true, true_or, and_true, true_and, and_self, Bool.false_eq_true, Bool.true_eq_false, Bool.not_true, Bool.not_false, decide_true, decide_false, decide_eq_true_eq, ne_eq, not_true, not_false_eq_true, reduceCtorEq, List.set_set]
    refine ⟨⟨by omega, by omega⟩, ?_⟩
    refine lc_rng (fun i acc s => ∃ ns : List Int, acc = ns.map D.int ∧ ns.length = i ∧ Fr st s) ⟨[], rfl, rfl, f1.trans f2⟩ (fun i acc s hi p => ?_) (fun acc s p => ?_)
    · obtain ⟨ns, rfl, hl, f3⟩ := p
      simp only [TrnL, ok_var, ok_c, ok_bin, ok_val, ok_not, ok_and, ok_or, ok_eAnd, ok_eOr, ok_eNot, ok_eNeg, ok_eIf, ok_call, ok_callL, ok_al, ok_nil, ok_cons, ok_tup, ok_lst, ok_sl, ok_no, ok_so, ok_meth, ok_meth0, ok_disp, ok_pNil, ok_pCons, ok_get2, then_nx, then_rt, then_bk, then_ct, ok_next, ok_brk, ok_cnt, ok_seq, ok_drop, ok_ret, ok_if, ok_asg, ok_put, ok_for, ok_lc, ok_lc2, ok_true, ok_iVal, ok_range1, ok_zip, ok_body, Ok_some, Ok_none, Ok_ite, startE, List.map_cons, List.map_nil, List.length_cons, List.length_nil, List.replicate, List.cons_append, List.nil_append, List.getElem?_cons_zero, List.getElem?_cons_succ, List.set_cons_zero, List.set_cons_succ, Nat.reduceAdd, Nat.reduceSub, Nat.zero_add, add_int, add_str, add_tup, sub_int, mul_int, mod_int, div_int, pow_int, I_int, fLt, fLe, fGt, fGe, eq_int, eq_str, ne_def, neg_bl, is_bl, isNot_bl, len_str, len_tup, abs_int, int_int, int_bl, tuple_tup, Z.sl_tup, Z.sl_str, got_some, list_tup, list_clst, src_tup, gVar, gTupD, gsNil, gsCons, atD, ixN, Int.cast_ofNat_Int, Int.reduceLE, Int.reduceAbs, Int.reducePow, Int.zero_le_ofNat, Int.reduceNeg, Int.reduceEq, Int.reduceAdd, Int.reduceMul, Int.reduceLT, Int.reduceToNat, Option.bind_some, Option.map_some, reduceIte, wipeE, Int.zero_add, big, Nat.reducePow, Nat.reduceLT, Nat.reduceLeDiff, or_true, true_or, and_true, true_and, and_self, Bool.false_eq_true, Bool.true_eq_false, Bool.not_true, Bool.not_false, decide_true, decide_false, decide_eq_true_eq, ne_eq, not_true, not_false_eq_true, reduceCtorEq, List.set_set]
      refine ⟨by simp; omega, ?_⟩
      refine draw_ok f3.ok (by decide) (by decide) fun c s4 f4 c0 c1 => ?_
      try simp only [ok_var, ok_c, ok_bin, ok_val, ok_not, ok_and, ok_or, ok_eAnd, ok_eOr, ok_eNot, ok_eNeg, ok_eIf, ok_call, ok_callL, ok_al, ok_nil, ok_cons, ok_tup, ok_lst, ok_sl, ok_no, ok_so, ok_meth, ok_meth0, ok_disp, ok_pNil, ok_pCons, ok_get2, then_nx, then_rt, then_bk, then_ct, ok_next, ok_brk, ok_cnt, ok_seq, ok_drop, ok_ret, ok_if, ok_asg, ok_put, ok_for, ok_lc, ok_lc2, ok_true, ok_iVal, ok_range1, ok_zip, ok_body, Ok_some, Ok_none, Ok_ite, startE, List.map_cons, List.map_nil, List.length_cons, List.length_nil, List.replicate, List.cons_append, List.nil_append, List.getElem?_cons_zero, List.getElem?_cons_succ, List.set_cons_zero, List.set_cons_succ, Nat.reduceAdd, Nat.reduceSub, Nat.zero_add, add_int, add_str, add_tup, sub_int, mul_int, mod_int, div_int, pow_int, I_int, fLt, fLe, fGt, fGe, eq_int, eq_str, ne_def, neg_bl, is_bl, isNot_bl, len_str, len_tup, abs_int, int_int, int_bl, tuple_tup, Z.sl_tup, Z.sl_str, got_some, list_tup, list_clst, src_tup, gVar, gTupD, gsNil, gsCons, atD, ixN, Int.cast_ofNat_Int, Int.reduceLE, Int.reduceAbs, Int.reducePow, Int.zero_le_ofNat, Int.reduceNeg, Int.reduceEq, Int.reduceAdd, Int.reduceMul, Int.reduceLT, Int.reduceToNat, Option.bind_some, Option.map_some, reduceIte, wipeE, Int.zero_add, big, Nat.reducePow, Nat.reduceLT, Nat.reduceLeDiff, or_true, true_or, and_true, true_and, and_self, Bool.false_eq_true, Bool.true_eq_false, Bool.not_true, Bool.not_false, decide_true, decide_false, decide_eq_true_eq, ne_eq, not_true, not_false_eq_true, reduceCtorEq, List.set_set]
      exact ⟨ns ++ [c - 4], by simp, by simp [hl], f3.trans f4⟩
    · obtain ⟨ns, rfl, hl, f3⟩ := p
      simp only [lTup, ok_var, ok_c, ok_bin, ok_val, ok_not, ok_and, ok_or, ok_eAnd, ok_eOr, ok_eNot, ok_eNeg, ok_eIf, ok_call, ok_callL, ok_al, ok_nil, ok_cons, ok_tup, ok_lst, ok_sl, ok_no, ok_so, ok_meth, ok_meth0, ok_disp, ok_pNil, ok_pCons, ok_get2, then_nx, then_rt, then_bk, then_ct, ok_next, ok_brk, ok_cnt, ok_seq, ok_drop, ok_ret, ok_if, ok_asg, ok_put, ok_for, ok_lc, ok_lc2, ok_true, ok_iVal, ok_range1, ok_zip, ok_body, Ok_some, Ok_none, Ok_ite, startE, List.map_cons, List.map_nil, List.length_cons, List.length_nil, List.replicate, List.cons_append, List.nil_append, List.getElem?_cons_zero, List.getElem?_cons_succ, List.set_cons_zero, List.set_cons_succ, Nat.reduceAdd, Nat.reduceSub, Nat.zero_add, add_int, add_str, add_tup, sub_int, mul_int, mod_int, div_int, pow_int, I_int, fLt, fLe, fGt, fGe, eq_int, eq_str, ne_def, neg_bl, is_bl, isNot_bl, len_str, len_tup, abs_int, int_int, int_bl, tuple_tup, Z.sl_tup, Z.sl_str, got_some, list_tup, list_clst, src_tup, gVar, gTupD, gsNil, gsCons, atD, ixN, Int.cast_ofNat_Int, Int.reduceLE, Int.reduceAbs, Int.reducePow, Int.zero_le_ofNat, Int.reduceNeg, Int.reduceEq, Int.reduceAdd, Int.reduceMul, Int.reduceLT, Int.reduceToNat, Option.bind_some, Option.map_some, reduceIte, wipeE, Int.zero_add, big, Nat.reducePow, Nat.reduceLT, Nat.reduceLeDiff, or_true, true_or, and_true, true_and, and_self, Bool.false_eq_true, Bool.true_eq_false, Bool.not_true, Bool.not_false, decide_true, decide_false, decide_eq_true_eq, ne_eq, not_true, not_false_eq_true, reduceCtorEq, List.set_set]
      exact k (some ns) s f3 (fun ns' h => by cases h; omega)
/-- cuts with fates as data -/
def entD (x : D × Option (List Int)) : D := .tup [x.1, fateD x.2]
def dueD (xs : List (D × Option (List Int))) : List D := (xs.filter fun x => x.2.isNone).map (·.1)
theorem shaped_ints (ns : List Int) (h : ns.length ≤ 2) : SeqAt.shaped (.tuple [.str "matters", .tuple (ns.map PyData.int)]) = true := by
  match ns, h with
  | [], _ => decide +kernel
  | [a], _ => unfold SeqAt.shaped; simp [PyData.canLay0, PyData.canLayAll0, PyData.depth, PyData.depthAll]; decide +kernel
  | [a, b], _ => unfold SeqAt.shaped; simp [PyData.canLay0, PyData.canLayAll0, PyData.depth, PyData.depthAll]; decide +kernel
theorem pyL_ints : ∀ ns : List Int, pyL (ns.map D.int) = some (ns.map PyData.int)
  | [] => rfl
  | n :: ns => by simp only [List.map_cons, pyL, pyD, pyL_ints ns]
theorem fate_eq {s : S} (o : Option (List Int)) (h : ∀ ns, o = some ns → ns.length ≤ 2) : fEq (fateD o) (.ctup [.str "open"]) s = some (.bl o.isNone, s) := by
  cases o with
  | none =>
    show (if SeqAt.shaped (.tuple [.str "open"]) = true ∧ SeqAt.shaped (.tuple [.str "open"]) = true then some (D.bl (PyData.eqv (.tuple [.str "open"]) (.tuple [.str "open"])), s) else none) = _
    rw [if_pos ⟨by decide +kernel, by decide +kernel⟩]
    have : PyData.eqv (.tuple [.str "open"]) (.tuple [.str "open"]) = true := by decide +kernel
    rw [this]
    rfl
  | some ns =>
    have e : fEq (fateD (some ns)) (.ctup [.str "open"]) s = (if SeqAt.shaped (.tuple [.str "matters", .tuple (ns.map PyData.int)]) = true ∧ SeqAt.shaped (.tuple [.str "open"]) = true then some (D.bl (PyData.eqv (.tuple [.str "matters", .tuple (ns.map PyData.int)]) (.tuple [.str "open"])), s) else none) := by
      simp only [fateD, fEq, pyO, pyD, pyL, pyL_ints]
    rw [e, if_pos ⟨shaped_ints ns (h ns rfl), by decide +kernel⟩]
    have : PyData.eqv (.tuple [.str "matters", .tuple (ns.map PyData.int)]) (.tuple [.str "open"]) = false := by
      simp [PyData.eqv, PyData.eqvAll]
    rw [this]
    rfl
theorem open_ok {n : Nat} {st : S} {a b : D} {xs : List (D × Option (List Int))} {Q : D → S → Prop} (hl : xs.length ≤ 1000) (hx : ∀ x ∈ xs, ∀ ns, x.2 = some ns → ns.length ≤ 2) (k : Q (.tup (dueD xs)) st) :
    Ok (F (n+1) .open_cuts [.tup [a, b, .tup (xs.map entD)]] st) Q := by
  rw [F_open_cuts]
  simp only [b_open_cuts, ok_var, ok_c, ok_bin, ok_val, ok_not, ok_and, ok_or, ok_eAnd, ok_eOr, ok_eNot, ok_eNeg, ok_eIf, ok_call, ok_callL, ok_al, ok_nil, ok_cons, ok_tup, ok_lst, ok_sl, ok_no, ok_so, ok_meth, ok_meth0, ok_disp, ok_pNil, ok_pCons, ok_get2, then_nx, then_rt, then_bk, then_ct, ok_next, ok_brk, ok_cnt, ok_seq, ok_drop, ok_ret, ok_if, ok_asg, ok_put, ok_for, ok_lc, ok_lc2, ok_true, ok_iVal, ok_range1, ok_zip, ok_body, Ok_some, Ok_none, Ok_ite, startE, List.map_cons, List.map_nil, List.length_cons, List.length_nil, List.replicate, List.cons_append, List.nil_append, List.getElem?_cons_zero, List.getElem?_cons_succ, List.set_cons_zero, List.set_cons_succ, Nat.reduceAdd, Nat.reduceSub, Nat.zero_add, add_int, add_str, add_tup, sub_int, mul_int, mod_int, div_int, pow_int, I_int, fLt, fLe, fGt, fGe, eq_int, eq_str, ne_def, neg_bl, is_bl, isNot_bl, len_str, len_tup, abs_int, int_int, int_bl, tuple_tup, Z.sl_tup, Z.sl_str, got_some, list_tup, list_clst, src_tup, gVar, gTupD, gsNil, gsCons, atD, ixN, Int.cast_ofNat_Int, Int.reduceLE, Int.reduceAbs, Int.reducePow, Int.zero_le_ofNat, Int.reduceNeg, Int.reduceEq, Int.reduceAdd, Int.reduceMul, Int.reduceLT, Int.reduceToNat, Option.bind_some, Option.map_some, reduceIte, wipeE, Int.zero_add, big, Nat.reducePow, Nat.reduceLT, Nat.reduceLeDiff, or_true, true_or, and_true, true_and, and_self, Bool.false_eq_true, Bool.true_eq_false, Bool.not_true, Bool.not_false, decide_true, decide_false, decide_eq_true_eq, ne_eq, not_true, not_false_eq_true, reduceCtorEq, List.set_set, ok_ix_tup]
  refine lc_dat (fun i acc s => s = st ∧ acc = dueD (xs.take i)) ⟨rfl, rfl⟩ (fun i x acc s hi p => ?_) (fun acc s p => ?_)
  · obtain ⟨rfl, rfl⟩ := p
    rw [List.getElem?_map] at hi
    cases e : xs[i]? with
    | none => rw [e] at hi; cases hi
    | some y =>
      rw [e] at hi
      cases hi
      have ht : xs.take (i + 1) = xs.take i ++ [y] := by rw [List.take_succ, e]; rfl
      simp only [TrnL, entD, ok_var, ok_c, ok_bin, ok_val, ok_not, ok_and, ok_or, ok_eAnd, ok_eOr, ok_eNot, ok_eNeg, ok_eIf, ok_call, ok_callL, ok_al, ok_nil, ok_cons, ok_tup, ok_lst, ok_sl, ok_no, ok_so, ok_meth, ok_meth0, ok_disp, ok_pNil, ok_pCons, ok_get2, then_nx, then_rt, then_bk, then_ct, ok_next, ok_brk, ok_cnt, ok_seq, ok_drop, ok_ret, ok_if, ok_asg, ok_put, ok_for, ok_lc, ok_lc2, ok_true, ok_iVal, ok_range1, ok_zip, ok_body, Ok_some, Ok_none, Ok_ite, startE, List.map_cons, List.map_nil, List.length_cons, List.length_nil, List.replicate, List.cons_append, List.nil_append, List.getElem?_cons_zero, List.getElem?_cons_succ, List.set_cons_zero, List.set_cons_succ, Nat.reduceAdd, Nat.reduceSub, Nat.zero_add, add_int, add_str, add_tup, sub_int, mul_int, mod_int, div_int, pow_int, I_int, fLt, fLe, fGt, fGe, eq_int, eq_str, ne_def, neg_bl, is_bl, isNot_bl, len_str, len_tup, abs_int, int_int, int_bl, tuple_tup, Z.sl_tup, Z.sl_str, got_some, list_tup, list_clst, src_tup, gVar, gTupD, gsNil, gsCons, atD, ixN, Int.cast_ofNat_Int, Int.reduceLE, Int.reduceAbs, Int.reducePow, Int.zero_le_ofNat, Int.reduceNeg, Int.reduceEq, Int.reduceAdd, Int.reduceMul, Int.reduceLT, Int.reduceToNat, Option.bind_some, Option.map_some, reduceIte, wipeE, Int.zero_add, big, Nat.reducePow, Nat.reduceLT, Nat.reduceLeDiff, or_true, true_or, and_true, true_and, and_self, Bool.false_eq_true, Bool.true_eq_false, Bool.not_true, Bool.not_false, decide_true, decide_false, decide_eq_true_eq, ne_eq, not_true, not_false_eq_true, reduceCtorEq, List.set_set, fate_eq y.2 (hx y (List.mem_of_getElem? e))]
      have hle : (dueD (xs.take i)).length < big := by
        unfold dueD
        rw [List.length_map]
        exact Nat.lt_of_le_of_lt (Nat.le_trans (List.length_filter_le _ _) (by rw [List.length_take]; omega : _ ≤ 1000)) (by decide)
      cases hy : y.2.isNone
      · try simp only [ok_var, ok_c, ok_bin, ok_val, ok_not, ok_and, ok_or, ok_eAnd, ok_eOr, ok_eNot, ok_eNeg, ok_eIf, ok_call, ok_callL, ok_al, ok_nil, ok_cons, ok_tup, ok_lst, ok_sl, ok_no, ok_so, ok_meth, ok_meth0, ok_disp, ok_pNil, ok_pCons, ok_get2, then_nx, then_rt, then_bk, then_ct, ok_next, ok_brk, ok_cnt, ok_seq, ok_drop, ok_ret, ok_if, ok_asg, ok_put, ok_for, ok_lc, ok_lc2, ok_true, ok_iVal, ok_range1, ok_zip, ok_body, Ok_some, Ok_none, Ok_ite, startE, List.map_cons, List.map_nil, List.length_cons, List.length_nil, List.replicate, List.cons_append, List.nil_append, List.getElem?_cons_zero, List.getElem?_cons_succ, List.set_cons_zero, List.set_cons_succ, Nat.reduceAdd, Nat.reduceSub, Nat.zero_add, add_int, add_str, add_tup, sub_int, mul_int, mod_int, div_int, pow_int, I_int, fLt, fLe, fGt, fGe, eq_int, eq_str, ne_def, neg_bl, is_bl, isNot_bl, len_str, len_tup, abs_int, int_int, int_bl, tuple_tup, Z.sl_tup, Z.sl_str, got_some, list_tup, list_clst, src_tup, gVar, gTupD, gsNil, gsCons, atD, ixN, Int.cast_ofNat_Int, Int.reduceLE, Int.reduceAbs, Int.reducePow, Int.zero_le_ofNat, Int.reduceNeg, Int.reduceEq, Int.reduceAdd, Int.reduceMul, Int.reduceLT, Int.reduceToNat, Option.bind_some, Option.map_some, reduceIte, wipeE, Int.zero_add, big, Nat.reducePow, Nat.reduceLT, Nat.reduceLeDiff, or_true, true_or, and_true, true_and, and_self, Bool.false_eq_true, Bool.true_eq_false, Bool.not_true, Bool.not_false, decide_true, decide_false, decide_eq_true_eq, ne_eq, not_true, not_false_eq_true, reduceCtorEq, List.set_set]
        unfold dueD
        rw [ht, List.filter_append]
        simp [hy]
      · try simp only [ok_var, ok_c, ok_bin, ok_val, ok_not, ok_and, ok_or, ok_eAnd, ok_eOr, ok_eNot, ok_eNeg, ok_eIf, ok_call, ok_callL, ok_al, ok_nil, ok_cons, ok_tup, ok_lst, ok_sl, ok_no, ok_so, ok_meth, ok_meth0, ok_disp, ok_pNil, ok_pCons, ok_get2, then_nx, then_rt, then_bk, then_ct, ok_next, ok_brk, ok_cnt, ok_seq, ok_drop, ok_ret, ok_if, ok_asg, ok_put, ok_for, ok_lc, ok_lc2, ok_true, ok_iVal, ok_range1, ok_zip, ok_body, Ok_some, Ok_none, Ok_ite, startE, List.map_cons, List.map_nil, List.length_cons, List.length_nil, List.replicate, List.cons_append, List.nil_append, List.getElem?_cons_zero, List.getElem?_cons_succ, List.set_cons_zero, List.set_cons_succ, Nat.reduceAdd, Nat.reduceSub, Nat.zero_add, add_int, add_str, add_tup, sub_int, mul_int, mod_int, div_int, pow_int, I_int, fLt, fLe, fGt, fGe, eq_int, eq_str, ne_def, neg_bl, is_bl, isNot_bl, len_str, len_tup, abs_int, int_int, int_bl, tuple_tup, Z.sl_tup, Z.sl_str, got_some, list_tup, list_clst, src_tup, gVar, gTupD, gsNil, gsCons, atD, ixN, Int.cast_ofNat_Int, Int.reduceLE, Int.reduceAbs, Int.reducePow, Int.zero_le_ofNat, Int.reduceNeg, Int.reduceEq, Int.reduceAdd, Int.reduceMul, Int.reduceLT, Int.reduceToNat, Option.bind_some, Option.map_some, reduceIte, wipeE, Int.zero_add, big, Nat.reducePow, Nat.reduceLT, Nat.reduceLeDiff, or_true, true_or, and_true, true_and, and_self, Bool.false_eq_true, Bool.true_eq_false, Bool.not_true, Bool.not_false, decide_true, decide_false, decide_eq_true_eq, ne_eq, not_true, not_false_eq_true, reduceCtorEq, List.set_set]
        refine ⟨hle, ?_⟩
        unfold dueD
        rw [ht, List.filter_append]
        simp [hy]
  · obtain ⟨rfl, rfl⟩ := p
    rw [List.length_map, List.take_length]
    simp only [lTup, ok_var, ok_c, ok_bin, ok_val, ok_not, ok_and, ok_or, ok_eAnd, ok_eOr, ok_eNot, ok_eNeg, ok_eIf, ok_call, ok_callL, ok_al, ok_nil, ok_cons, ok_tup, ok_lst, ok_sl, ok_no, ok_so, ok_meth, ok_meth0, ok_disp, ok_pNil, ok_pCons, ok_get2, then_nx, then_rt, then_bk, then_ct, ok_next, ok_brk, ok_cnt, ok_seq, ok_drop, ok_ret, ok_if, ok_asg, ok_put, ok_for, ok_lc, ok_lc2, ok_true, ok_iVal, ok_range1, ok_zip, ok_body, Ok_some, Ok_none, Ok_ite, startE, List.map_cons, List.map_nil, List.length_cons, List.length_nil, List.replicate, List.cons_append, List.nil_append, List.getElem?_cons_zero, List.getElem?_cons_succ, List.set_cons_zero, List.set_cons_succ, Nat.reduceAdd, Nat.reduceSub, Nat.zero_add, add_int, add_str, add_tup, sub_int, mul_int, mod_int, div_int, pow_int, I_int, fLt, fLe, fGt, fGe, eq_int, eq_str, ne_def, neg_bl, is_bl, isNot_bl, len_str, len_tup, abs_int, int_int, int_bl, tuple_tup, Z.sl_tup, Z.sl_str, got_some, list_tup, list_clst, src_tup, gVar, gTupD, gsNil, gsCons, atD, ixN, Int.cast_ofNat_Int, Int.reduceLE, Int.reduceAbs, Int.reducePow, Int.zero_le_ofNat, Int.reduceNeg, Int.reduceEq, Int.reduceAdd, Int.reduceMul, Int.reduceLT, Int.reduceToNat, Option.bind_some, Option.map_some, reduceIte, wipeE, Int.zero_add, big, Nat.reducePow, Nat.reduceLT, Nat.reduceLeDiff, or_true, true_or, and_true, true_and, and_self, Bool.false_eq_true, Bool.true_eq_false, Bool.not_true, Bool.not_false, decide_true, decide_false, decide_eq_true_eq, ne_eq, not_true, not_false_eq_true, reduceCtorEq, List.set_set]
    exact k
theorem law_true (ns : List Int) (h63 : ns.length ≤ 63) : ∃ st, F 100 .law [.clst (ns.map Z.D.int)] [] = some (.bl true, st) := by
  have key : Ok (F 100 .law [.clst (ns.map D.int)] []) fun d _ => d = .bl true := by
    rw [F_law]
    simp only [b_law, ok_var, ok_c, ok_bin, ok_val, ok_not, ok_and, ok_or, ok_eAnd, ok_eOr, ok_eNot, ok_eNeg, ok_eIf, ok_call, ok_callL, ok_al, ok_nil, ok_cons, ok_tup, ok_lst, ok_sl, ok_no, ok_so, ok_meth, ok_meth0, ok_disp, ok_pNil, ok_pCons, ok_get2, then_nx, then_rt, then_bk, then_ct, ok_next, ok_brk, ok_cnt, ok_seq, ok_drop, ok_ret, ok_if, ok_asg, ok_put, ok_for, ok_lc, ok_lc2, ok_true, ok_iVal, ok_range1, ok_zip, ok_body, Ok_some, Ok_none, Ok_ite, startE, List.map_cons, List.map_nil, List.length_cons, List.length_nil, List.replicate, List.cons_append, List.nil_append, List.getElem?_cons_zero, List.getElem?_cons_succ, List.set_cons_zero, List.set_cons_succ, Nat.reduceAdd, Nat.reduceSub, Nat.zero_add, add_int, add_str, add_tup, sub_int, mul_int, mod_int, div_int, pow_int, I_int, fLt, fLe, fGt, fGe, eq_int, eq_str, ne_def, neg_bl, is_bl, isNot_bl, len_str, len_tup, abs_int, int_int, int_bl, tuple_tup, Z.sl_tup, Z.sl_str, got_some, list_tup, list_clst, src_tup, gVar, gTupD, gsNil, gsCons, atD, ixN, Int.cast_ofNat_Int, Int.reduceLE, Int.reduceAbs, Int.reducePow, Int.zero_le_ofNat, Int.reduceNeg, Int.reduceEq, Int.reduceAdd, Int.reduceMul, Int.reduceLT, Int.reduceToNat, Option.bind_some, Option.map_some, reduceIte, wipeE, Int.zero_add, big, Nat.reducePow, Nat.reduceLT, Nat.reduceLeDiff, or_true, true_or, and_true, true_and, and_self, Bool.false_eq_true, Bool.true_eq_false, Bool.not_true, Bool.not_false, decide_true, decide_false, decide_eq_true_eq, ne_eq, not_true, not_false_eq_true, reduceCtorEq, List.set_set]
    refine start_ok fun s1 h1 hl1 => ?_
    try simp only [ok_var, ok_c, ok_bin, ok_val, ok_not, ok_and, ok_or, ok_eAnd, ok_eOr, ok_eNot, ok_eNeg, ok_eIf, ok_call, ok_callL, ok_al, ok_nil, ok_cons, ok_tup, ok_lst, ok_sl, ok_no, ok_so, ok_meth, ok_meth0, ok_disp, ok_pNil, ok_pCons, ok_get2, then_nx, then_rt, then_bk, then_ct, ok_next, ok_brk, ok_cnt, ok_seq, ok_drop, ok_ret, ok_if, ok_asg, ok_put, ok_for, ok_lc, ok_lc2, ok_true, ok_iVal, ok_range1, ok_zip, ok_body, Ok_some, Ok_none, Ok_ite, startE, List.map_cons, List.map_nil, List.length_cons, List.length_nil, List.replicate, List.cons_append, List.nil_append, List.getElem?_cons_zero, List.getElem?_cons_succ, List.set_cons_zero, List.set_cons_succ, Nat.reduceAdd, Nat.reduceSub, Nat.zero_add, add_int, add_str, add_tup, sub_int, mul_int, mod_int, div_int, pow_int, I_int, fLt, fLe, fGt, fGe, eq_int, eq_str, ne_def, neg_bl, is_bl, isNot_bl, len_str, len_tup, abs_int, int_int, int_bl, tuple_tup, Z.sl_tup, Z.sl_str, got_some, list_tup, list_clst, src_tup, gVar, gTupD, gsNil, gsCons, atD, ixN, Int.cast_ofNat_Int, Int.reduceLE, Int.reduceAbs, Int.reducePow, Int.zero_le_ofNat, Int.reduceNeg, Int.reduceEq, Int.reduceAdd, Int.reduceMul, Int.reduceLT, Int.reduceToNat, Option.bind_some, Option.map_some, reduceIte, wipeE, Int.zero_add, big, Nat.reducePow, Nat.reduceLT, Nat.reduceLeDiff, or_true, true_or, and_true, true_and, and_self, Bool.false_eq_true, Bool.true_eq_false, Bool.not_true, Bool.not_false, decide_true, decide_false, decide_eq_true_eq, ne_eq, not_true, not_false_eq_true, reduceCtorEq, List.set_set]
    refine words_ok h1 (by decide) (by decide) fun ws r s2 f2 hr hw W => ?_
    try simp only [ok_var, ok_c, ok_bin, ok_val, ok_not, ok_and, ok_or, ok_eAnd, ok_eOr, ok_eNot, ok_eNeg, ok_eIf, ok_call, ok_callL, ok_al, ok_nil, ok_cons, ok_tup, ok_lst, ok_sl, ok_no, ok_so, ok_meth, ok_meth0, ok_disp, ok_pNil, ok_pCons, ok_get2, then_nx, then_rt, then_bk, then_ct, ok_next, ok_brk, ok_cnt, ok_seq, ok_drop, ok_ret, ok_if, ok_asg, ok_put, ok_for, ok_lc, ok_lc2, ok_true, ok_iVal, ok_range1, ok_zip, ok_body, Ok_some, Ok_none, Ok_ite, startE, List.map_cons, List.map_nil, List.length_cons, List.length_nil, List.replicate, List.cons_append, List.nil_append, List.getElem?_cons_zero, List.getElem?_cons_succ, List.set_cons_zero, List.set_cons_succ, Nat.reduceAdd, Nat.reduceSub, Nat.zero_add, add_int, add_str, add_tup, sub_int, mul_int, mod_int, div_int, pow_int, I_int, fLt, fLe, fGt, fGe, eq_int, eq_str, ne_def, neg_bl, is_bl, isNot_bl, len_str, len_tup, abs_int, int_int, int_bl, tuple_tup, Z.sl_tup, Z.sl_str, got_some, list_tup, list_clst, src_tup, gVar, gTupD, gsNil, gsCons, atD, ixN, Int.cast_ofNat_Int, Int.reduceLE, Int.reduceAbs, Int.reducePow, Int.zero_le_ofNat, Int.reduceNeg, Int.reduceEq, Int.reduceAdd, Int.reduceMul, Int.reduceLT, Int.reduceToNat, Option.bind_some, Option.map_some, reduceIte, wipeE, Int.zero_add, big, Nat.reducePow, Nat.reduceLT, Nat.reduceLeDiff, or_true, true_or, and_true, true_and, and_self, Bool.false_eq_true, Bool.true_eq_false, Bool.not_true, Bool.not_false, decide_true, decide_false, decide_eq_true_eq, ne_eq, not_true, not_false_eq_true, reduceCtorEq, List.set_set]
    have hwl : ws.length = 2 := W.len
    refine for_rng (fun i en s => ∃ (v : List (Option D)), en = some (.clst (ns.map D.int)) :: some (.ref 1) :: some (.ref r) :: v ∧ v.length = 6 ∧ Fr s2 s) ⟨_, rfl, rfl, Fr.refl f2.ok⟩ (fun i en s hi p => ?_) (fun en s p => ?_)
    · obtain ⟨v, rfl, hv, f3⟩ := p
      match v, hv with
      | [v3, v4, v5, v6, v7, v8], _ =>
        simp only [Trn, ok_var, ok_c, ok_bin, ok_val, ok_not, ok_and, ok_or, ok_eAnd, ok_eOr, ok_eNot, ok_eNeg, ok_eIf, ok_call, ok_callL, ok_al, ok_nil, ok_cons, ok_tup, ok_lst, ok_sl, ok_no, ok_so, ok_meth, ok_meth0, ok_disp, ok_pNil, ok_pCons, ok_get2, then_nx, then_rt, then_bk, then_ct, ok_next, ok_brk, ok_cnt, ok_seq, ok_drop, ok_ret, ok_if, ok_asg, ok_put, ok_for, ok_lc, ok_lc2, ok_true, ok_iVal, ok_range1, ok_zip, ok_body, Ok_some, Ok_none, Ok_ite, startE, List.map_cons, List.map_nil, List.length_cons, List.length_nil, List.replicate, List.cons_append, List.nil_append, List.getElem?_cons_zero, List.getElem?_cons_succ, List.set_cons_zero, List.set_cons_succ, Nat.reduceAdd, Nat.reduceSub, Nat.zero_add, add_int, add_str, add_tup, sub_int, mul_int, mod_int, div_int, pow_int, I_int, fLt, fLe, fGt, fGe, eq_int, eq_str, ne_def, neg_bl, is_bl, isNot_bl, len_str, len_tup, abs_int, int_int, int_bl, tuple_tup, Z.sl_tup, Z.sl_str, got_some, list_tup, list_clst, src_tup, gVar, gTupD, gsNil, gsCons, atD, ixN, Int.cast_ofNat_Int, Int.reduceLE, Int.reduceAbs, Int.reducePow, Int.zero_le_ofNat, Int.reduceNeg, Int.reduceEq, Int.reduceAdd, Int.reduceMul, Int.reduceLT, Int.reduceToNat, Option.bind_some, Option.map_some, reduceIte, wipeE, Int.zero_add, big, Nat.reducePow, Nat.reduceLT, Nat.reduceLeDiff, or_true, true_or, and_true, true_and, and_self, Bool.false_eq_true, Bool.true_eq_false, Bool.not_true, Bool.not_false, decide_true, decide_false, decide_eq_true_eq, ne_eq, not_true, not_false_eq_true, reduceCtorEq, List.set_set]
        have hr2 : 2 ≤ r := by omega
        have hw3 := f3.get hw hr2
        have lt3 := lt_of_get hw3
        refine draw_ok f3.ok.app (by decide) (by decide) fun m s4 f4 m0 m1 => ?_
        try simp only [ok_var, ok_c, ok_bin, ok_val, ok_not, ok_and, ok_or, ok_eAnd, ok_eOr, ok_eNot, ok_eNeg, ok_eIf, ok_call, ok_callL, ok_al, ok_nil, ok_cons, ok_tup, ok_lst, ok_sl, ok_no, ok_so, ok_meth, ok_meth0, ok_disp, ok_pNil, ok_pCons, ok_get2, then_nx, then_rt, then_bk, then_ct, ok_next, ok_brk, ok_cnt, ok_seq, ok_drop, ok_ret, ok_if, ok_asg, ok_put, ok_for, ok_lc, ok_lc2, ok_true, ok_iVal, ok_range1, ok_zip, ok_body, Ok_some, Ok_none, Ok_ite, startE, List.map_cons, List.map_nil, List.length_cons, List.length_nil, List.replicate, List.cons_append, List.nil_append, List.getElem?_cons_zero, List.getElem?_cons_succ, List.set_cons_zero, List.set_cons_succ, Nat.reduceAdd, Nat.reduceSub, Nat.zero_add, add_int, add_str, add_tup, sub_int, mul_int, mod_int, div_int, pow_int, I_int, fLt, fLe, fGt, fGe, eq_int, eq_str, ne_def, neg_bl, is_bl, isNot_bl, len_str, len_tup, abs_int, int_int, int_bl, tuple_tup, Z.sl_tup, Z.sl_str, got_some, list_tup, list_clst, src_tup, gVar, gTupD, gsNil, gsCons, atD, ixN, Int.cast_ofNat_Int, Int.reduceLE, Int.reduceAbs, Int.reducePow, Int.zero_le_ofNat, Int.reduceNeg, Int.reduceEq, Int.reduceAdd, Int.reduceMul, Int.reduceLT, Int.reduceToNat, Option.bind_some, Option.map_some, reduceIte, wipeE, Int.zero_add, big, Nat.reducePow, Nat.reduceLT, Nat.reduceLeDiff, or_true, true_or, and_true, true_and, and_self, Bool.false_eq_true, Bool.true_eq_false, Bool.not_true, Bool.not_false, decide_true, decide_false, decide_eq_true_eq, ne_eq, not_true, not_false_eq_true, reduceCtorEq, List.set_set]
        refine ⟨⟨by omega, by omega⟩, ?_⟩
        refine for_rng (fun j en s' => ∃ (xs : List (D × Option (List Int))) (w5 w7 : Option D), en = [some (.clst (ns.map D.int)), some (.ref 1), some (.ref r), some (.int (0 + (i : Nat))), some (.ref s.length), w5, v6, w7, v8] ∧ Fr s s' ∧ s'[s.length]? = some (.lst (xs.map entD)) ∧
          xs.length = j ∧ ∀ x ∈ xs, plainD 2 x.1 = true ∧ ∀ ns, x.2 = some ns → ns.length ≤ 2) ⟨[], v5, v7, by simp, ?_, ?_, rfl, by simp⟩ (fun j en s' hj p => ?_) (fun en s' p => ?_)
        · exact f4.of_app f3.ok
        · exact f4.new f3.ok
        · obtain ⟨xs, w5, w7, rfl, f5, hx, hl, hp⟩ := p
          have sl : 2 ≤ s.length := f3.ok.two
          simp only [Trn, ok_var, ok_c, ok_bin, ok_val, ok_not, ok_and, ok_or, ok_eAnd, ok_eOr, ok_eNot, ok_eNeg, ok_eIf, ok_call, ok_callL, ok_al, ok_nil, ok_cons, ok_tup, ok_lst, ok_sl, ok_no, ok_so, ok_meth, ok_meth0, ok_disp, ok_pNil, ok_pCons, ok_get2, then_nx, then_rt, then_bk, then_ct, ok_next, ok_brk, ok_cnt, ok_seq, ok_drop, ok_ret, ok_if, ok_asg, ok_put, ok_for, ok_lc, ok_lc2, ok_true, ok_iVal, ok_range1, ok_zip, ok_body, Ok_some, Ok_none, Ok_ite, startE, List.map_cons, List.map_nil, List.length_cons, List.length_nil, List.replicate, List.cons_append, List.nil_append, List.getElem?_cons_zero, List.getElem?_cons_succ, List.set_cons_zero, List.set_cons_succ, Nat.reduceAdd, Nat.reduceSub, Nat.zero_add, add_int, add_str, add_tup, sub_int, mul_int, mod_int, div_int, pow_int, I_int, fLt, fLe, fGt, fGe, eq_int, eq_str, ne_def, neg_bl, is_bl, isNot_bl, len_str, len_tup, abs_int, int_int, int_bl, tuple_tup, Z.sl_tup, Z.sl_str, got_some, list_tup, list_clst, src_tup, gVar, gTupD, gsNil, gsCons, atD, ixN, Int.cast_ofNat_Int, Int.reduceLE, Int.reduceAbs, Int.reducePow, Int.zero_le_ofNat, Int.reduceNeg, Int.reduceEq, Int.reduceAdd, Int.reduceMul, Int.reduceLT, Int.reduceToNat, Option.bind_some, Option.map_some, reduceIte, wipeE, Int.zero_add, big, Nat.reducePow, Nat.reduceLT, Nat.reduceLeDiff, or_true, true_or, and_true, true_and, and_self, Bool.false_eq_true, Bool.true_eq_false, Bool.not_true, Bool.not_false, decide_true, decide_false, decide_eq_true_eq, ne_eq, not_true, not_false_eq_true, reduceCtorEq, List.set_set]
          have hw5 := (f3.trans f5).get hw hr2
          refine one_of_ref f5.ok hr2 hw5 (fun h => by have := congrArg List.length h; rw [List.length_map, hwl] at this; cases this) (by rw [List.length_map, hwl]; decide) fun t d s6 f6 hd => ?_
          rw [List.getElem?_map] at hd
          cases ew : ws[t]? with
          | none => rw [ew] at hd; cases hd
          | some w =>
            rw [ew] at hd
            cases hd
            refine path_ok f6.ok fun ps s7 f7 hps => ?_
            try simp only [ok_var, ok_c, ok_bin, ok_val, ok_not, ok_and, ok_or, ok_eAnd, ok_eOr, ok_eNot, ok_eNeg, ok_eIf, ok_call, ok_callL, ok_al, ok_nil, ok_cons, ok_tup, ok_lst, ok_sl, ok_no, ok_so, ok_meth, ok_meth0, ok_disp, ok_pNil, ok_pCons, ok_get2, then_nx, then_rt, then_bk, then_ct, ok_next, ok_brk, ok_cnt, ok_seq, ok_drop, ok_ret, ok_if, ok_asg, ok_put, ok_for, ok_lc, ok_lc2, ok_true, ok_iVal, ok_range1, ok_zip, ok_body, Ok_some, Ok_none, Ok_ite, startE, List.map_cons, List.map_nil, List.length_cons, List.length_nil, List.replicate, List.cons_append, List.nil_append, List.getElem?_cons_zero, List.getElem?_cons_succ, List.set_cons_zero, List.set_cons_succ, Nat.reduceAdd, Nat.reduceSub, Nat.zero_add, add_int, add_str, add_tup, sub_int, mul_int, mod_int, div_int, pow_int, I_int, fLt, fLe, fGt, fGe, eq_int, eq_str, ne_def, neg_bl, is_bl, isNot_bl, len_str, len_tup, abs_int, int_int, int_bl, tuple_tup, Z.sl_tup, Z.sl_str, got_some, list_tup, list_clst, src_tup, gVar, gTupD, gsNil, gsCons, atD, ixN, Int.cast_ofNat_Int, Int.reduceLE, Int.reduceAbs, Int.reducePow, Int.zero_le_ofNat, Int.reduceNeg, Int.reduceEq, Int.reduceAdd, Int.reduceMul, Int.reduceLT, Int.reduceToNat, Option.bind_some, Option.map_some, reduceIte, wipeE, Int.zero_add, big, Nat.reducePow, Nat.reduceLT, Nat.reduceLeDiff, or_true, true_or, and_true, true_and, and_self, Bool.false_eq_true, Bool.true_eq_false, Bool.not_true, Bool.not_false, decide_true, decide_false, decide_eq_true_eq, ne_eq, not_true, not_false_eq_true, reduceCtorEq, List.set_set]
            refine draw_ok f7.ok.app (by decide) (by decide) fun e s8 f8 e0 e1 => ?_
            have h8 := f8.new f7.ok
            have f8' := f8.of_app f7.ok
            obtain ⟨y, hy⟩ : ∃ y : Int, ∀ Q : D → S → Prop, Ok (fIx (.ref s7.length) (.int e) s8) Q = Q (.int y) s8 := by
              obtain rfl | rfl | rfl | rfl : e = 0 ∨ e = 1 ∨ e = 2 ∨ e = 3 := by omega
              · exact ⟨0, fun Q => by simp only [ok_ix_lst h8, ok_var, ok_c, ok_bin, ok_val, ok_not, ok_and, ok_or, ok_eAnd, ok_eOr, ok_eNot, ok_eNeg, ok_eIf, ok_call, ok_callL, ok_al, ok_nil, ok_cons, ok_tup, ok_lst, ok_sl, ok_no, ok_so, ok_meth, ok_meth0, ok_disp, ok_pNil, ok_pCons, ok_get2, then_nx, then_rt, then_bk, then_ct, ok_next, ok_brk, ok_cnt, ok_seq, ok_drop, ok_ret, ok_if, ok_asg, ok_put, ok_for, ok_lc, ok_lc2, ok_true, ok_iVal, ok_range1, ok_zip, ok_body, Ok_some, Ok_none, Ok_ite, startE, List.map_cons, List.map_nil, List.length_cons, List.length_nil, List.replicate, List.cons_append, List.nil_append, List.getElem?_cons_zero, List.getElem?_cons_succ, List.set_cons_zero, List.set_cons_succ, Nat.reduceAdd, Nat.reduceSub, Nat.zero_add, add_int, add_str, add_tup, sub_int, mul_int, mod_int, div_int, pow_int, I_int, fLt, fLe, fGt, fGe, eq_int, eq_str, ne_def, neg_bl, is_bl, isNot_bl, len_str, len_tup, abs_int, int_int, int_bl, tuple_tup, Z.sl_tup, Z.sl_str, got_some, list_tup, list_clst, src_tup, gVar, gTupD, gsNil, gsCons, atD, ixN, Int.cast_ofNat_Int, Int.reduceLE, Int.reduceAbs, Int.reducePow, Int.zero_le_ofNat, Int.reduceNeg, Int.reduceEq, Int.reduceAdd, Int.reduceMul, Int.reduceLT, Int.reduceToNat, Option.bind_some, Option.map_some, reduceIte, wipeE, Int.zero_add, big, Nat.reducePow, Nat.reduceLT, Nat.reduceLeDiff, or_true, true_or, and_true, true_and, and_self, Bool.false_eq_true, Bool.true_eq_false, Bool.not_true, Bool.not_false, decide_true, decide_false, decide_eq_true_eq, ne_eq, not_true, not_false_eq_true, reduceCtorEq, List.set_set]⟩
              · exact ⟨0, fun Q => by simp only [ok_ix_lst h8, ok_var, ok_c, ok_bin, ok_val, ok_not, ok_and, ok_or, ok_eAnd, ok_eOr, ok_eNot, ok_eNeg, ok_eIf, ok_call, ok_callL, ok_al, ok_nil, ok_cons, ok_tup, ok_lst, ok_sl, ok_no, ok_so, ok_meth, ok_meth0, ok_disp, ok_pNil, ok_pCons, ok_get2, then_nx, then_rt, then_bk, then_ct, ok_next, ok_brk, ok_cnt, ok_seq, ok_drop, ok_ret, ok_if, ok_asg, ok_put, ok_for, ok_lc, ok_lc2, ok_true, ok_iVal, ok_range1, ok_zip, ok_body, Ok_some, Ok_none, Ok_ite, startE, List.map_cons, List.map_nil, List.length_cons, List.length_nil, List.replicate, List.cons_append, List.nil_append, List.getElem?_cons_zero, List.getElem?_cons_succ, List.set_cons_zero, List.set_cons_succ, Nat.reduceAdd, Nat.reduceSub, Nat.zero_add, add_int, add_str, add_tup, sub_int, mul_int, mod_int, div_int, pow_int, I_int, fLt, fLe, fGt, fGe, eq_int, eq_str, ne_def, neg_bl, is_bl, isNot_bl, len_str, len_tup, abs_int, int_int, int_bl, tuple_tup, Z.sl_tup, Z.sl_str, got_some, list_tup, list_clst, src_tup, gVar, gTupD, gsNil, gsCons, atD, ixN, Int.cast_ofNat_Int, Int.reduceLE, Int.reduceAbs, Int.reducePow, Int.zero_le_ofNat, Int.reduceNeg, Int.reduceEq, Int.reduceAdd, Int.reduceMul, Int.reduceLT, Int.reduceToNat, Option.bind_some, Option.map_some, reduceIte, wipeE, Int.zero_add, big, Nat.reducePow, Nat.reduceLT, Nat.reduceLeDiff, or_true, true_or, and_true, true_and, and_self, Bool.false_eq_true, Bool.true_eq_false, Bool.not_true, Bool.not_false, decide_true, decide_false, decide_eq_true_eq, ne_eq, not_true, not_false_eq_true, reduceCtorEq, List.set_set]⟩
              · exact ⟨2, fun Q => by simp only [ok_ix_lst h8, ok_var, ok_c, ok_bin, ok_val, ok_not, ok_and, ok_or, ok_eAnd, ok_eOr, ok_eNot, ok_eNeg, ok_eIf, ok_call, ok_callL, ok_al, ok_nil, ok_cons, ok_tup, ok_lst, ok_sl, ok_no, ok_so, ok_meth, ok_meth0, ok_disp, ok_pNil, ok_pCons, ok_get2, then_nx, then_rt, then_bk, then_ct, ok_next, ok_brk, ok_cnt, ok_seq, ok_drop, ok_ret, ok_if, ok_asg, ok_put, ok_for, ok_lc, ok_lc2, ok_true, ok_iVal, ok_range1, ok_zip, ok_body, Ok_some, Ok_none, Ok_ite, startE, List.map_cons, List.map_nil, List.length_cons, List.length_nil, List.replicate, List.cons_append, List.nil_append, List.getElem?_cons_zero, List.getElem?_cons_succ, List.set_cons_zero, List.set_cons_succ, Nat.reduceAdd, Nat.reduceSub, Nat.zero_add, add_int, add_str, add_tup, sub_int, mul_int, mod_int, div_int, pow_int, I_int, fLt, fLe, fGt, fGe, eq_int, eq_str, ne_def, neg_bl, is_bl, isNot_bl, len_str, len_tup, abs_int, int_int, int_bl, tuple_tup, Z.sl_tup, Z.sl_str, got_some, list_tup, list_clst, src_tup, gVar, gTupD, gsNil, gsCons, atD, ixN, Int.cast_ofNat_Int, Int.reduceLE, Int.reduceAbs, Int.reducePow, Int.zero_le_ofNat, Int.reduceNeg, Int.reduceEq, Int.reduceAdd, Int.reduceMul, Int.reduceLT, Int.reduceToNat, Option.bind_some, Option.map_some, reduceIte, wipeE, Int.zero_add, big, Nat.reducePow, Nat.reduceLT, Nat.reduceLeDiff, or_true, true_or, and_true, true_and, and_self, Bool.false_eq_true, Bool.true_eq_false, Bool.not_true, Bool.not_false, decide_true, decide_false, decide_eq_true_eq, ne_eq, not_true, not_false_eq_true, reduceCtorEq, List.set_set]⟩
              · exact ⟨3, fun Q => by simp only [ok_ix_lst h8, ok_var, ok_c, ok_bin, ok_val, ok_not, ok_and, ok_or, ok_eAnd, ok_eOr, ok_eNot, ok_eNeg, ok_eIf, ok_call, ok_callL, ok_al, ok_nil, ok_cons, ok_tup, ok_lst, ok_sl, ok_no, ok_so, ok_meth, ok_meth0, ok_disp, ok_pNil, ok_pCons, ok_get2, then_nx, then_rt, then_bk, then_ct, ok_next, ok_brk, ok_cnt, ok_seq, ok_drop, ok_ret, ok_if, ok_asg, ok_put, ok_for, ok_lc, ok_lc2, ok_true, ok_iVal, ok_range1, ok_zip, ok_body, Ok_some, Ok_none, Ok_ite, startE, List.map_cons, List.map_nil, List.length_cons, List.length_nil, List.replicate, List.cons_append, List.nil_append, List.getElem?_cons_zero, List.getElem?_cons_succ, List.set_cons_zero, List.set_cons_succ, Nat.reduceAdd, Nat.reduceSub, Nat.zero_add, add_int, add_str, add_tup, sub_int, mul_int, mod_int, div_int, pow_int, I_int, fLt, fLe, fGt, fGe, eq_int, eq_str, ne_def, neg_bl, is_bl, isNot_bl, len_str, len_tup, abs_int, int_int, int_bl, tuple_tup, Z.sl_tup, Z.sl_str, got_some, list_tup, list_clst, src_tup, gVar, gTupD, gsNil, gsCons, atD, ixN, Int.cast_ofNat_Int, Int.reduceLE, Int.reduceAbs, Int.reducePow, Int.zero_le_ofNat, Int.reduceNeg, Int.reduceEq, Int.reduceAdd, Int.reduceMul, Int.reduceLT, Int.reduceToNat, Option.bind_some, Option.map_some, reduceIte, wipeE, Int.zero_add, big, Nat.reducePow, Nat.reduceLT, Nat.reduceLeDiff, or_true, true_or, and_true, true_and, and_self, Bool.false_eq_true, Bool.true_eq_false, Bool.not_true, Bool.not_false, decide_true, decide_false, decide_eq_true_eq, ne_eq, not_true, not_false_eq_true, reduceCtorEq, List.set_set]⟩
            simp only [ok_var, ok_c, ok_bin, ok_val, ok_not, ok_and, ok_or, ok_eAnd, ok_eOr, ok_eNot, ok_eNeg, ok_eIf, ok_call, ok_callL, ok_al, ok_nil, ok_cons, ok_tup, ok_lst, ok_sl, ok_no, ok_so, ok_meth, ok_meth0, ok_disp, ok_pNil, ok_pCons, ok_get2, then_nx, then_rt, then_bk, then_ct, ok_next, ok_brk, ok_cnt, ok_seq, ok_drop, ok_ret, ok_if, ok_asg, ok_put, ok_for, ok_lc, ok_lc2, ok_true, ok_iVal, ok_range1, ok_zip, ok_body, Ok_some, Ok_none, Ok_ite, startE, List.map_cons, List.map_nil, List.length_cons, List.length_nil, List.replicate, List.cons_append, List.nil_append, List.getElem?_cons_zero, List.getElem?_cons_succ, List.set_cons_zero, List.set_cons_succ, Nat.reduceAdd, Nat.reduceSub, Nat.zero_add, add_int, add_str, add_tup, sub_int, mul_int, mod_int, div_int, pow_int, I_int, fLt, fLe, fGt, fGe, eq_int, eq_str, ne_def, neg_bl, is_bl, isNot_bl, len_str, len_tup, abs_int, int_int, int_bl, tuple_tup, Z.sl_tup, Z.sl_str, got_some, list_tup, list_clst, src_tup, gVar, gTupD, gsNil, gsCons, atD, ixN, Int.cast_ofNat_Int, Int.reduceLE, Int.reduceAbs, Int.reducePow, Int.zero_le_ofNat, Int.reduceNeg, Int.reduceEq, Int.reduceAdd, Int.reduceMul, Int.reduceLT, Int.reduceToNat, Option.bind_some, Option.map_some, reduceIte, wipeE, Int.zero_add, big, Nat.reducePow, Nat.reduceLT, Nat.reduceLeDiff, or_true, true_or, and_true, true_and, and_self, Bool.false_eq_true, Bool.true_eq_false, Bool.not_true, Bool.not_false, decide_true, decide_false, decide_eq_true_eq, ne_eq, not_true, not_false_eq_true, reduceCtorEq, List.set_set, hy]
            have fx := ((f5.trans f6).trans f7).trans f8'
            have hx8 := ((f6.trans f7).trans f8').get hx sl
            refine ⟨isL_ref hx8, ?_⟩
            refine fate_ok f8'.ok fun o s9 f9 ho => ?_
            have hx9 := f9.get hx8 sl
            simp only [ok_var, ok_c, ok_bin, ok_val, ok_not, ok_and, ok_or, ok_eAnd, ok_eOr, ok_eNot, ok_eNeg, ok_eIf, ok_call, ok_callL, ok_al, ok_nil, ok_cons, ok_tup, ok_lst, ok_sl, ok_no, ok_so, ok_meth, ok_meth0, ok_disp, ok_pNil, ok_pCons, ok_get2, then_nx, then_rt, then_bk, then_ct, ok_next, ok_brk, ok_cnt, ok_seq, ok_drop, ok_ret, ok_if, ok_asg, ok_put, ok_for, ok_lc, ok_lc2, ok_true, ok_iVal, ok_range1, ok_zip, ok_body, Ok_some, Ok_none, Ok_ite, startE, List.map_cons, List.map_nil, List.length_cons, List.length_nil, List.replicate, List.cons_append, List.nil_append, List.getElem?_cons_zero, List.getElem?_cons_succ, List.set_cons_zero, List.set_cons_succ, Nat.reduceAdd, Nat.reduceSub, Nat.zero_add, add_int, add_str, add_tup, sub_int, mul_int, mod_int, div_int, pow_int, I_int, fLt, fLe, fGt, fGe, eq_int, eq_str, ne_def, neg_bl, is_bl, isNot_bl, len_str, len_tup, abs_int, int_int, int_bl, tuple_tup, Z.sl_tup, Z.sl_str, got_some, list_tup, list_clst, src_tup, gVar, gTupD, gsNil, gsCons, atD, ixN, Int.cast_ofNat_Int, Int.reduceLE, Int.reduceAbs, Int.reducePow, Int.zero_le_ofNat, Int.reduceNeg, Int.reduceEq, Int.reduceAdd, Int.reduceMul, Int.reduceLT, Int.reduceToNat, Option.bind_some, Option.map_some, reduceIte, wipeE, Int.zero_add, big, Nat.reducePow, Nat.reduceLT, Nat.reduceLeDiff, or_true, true_or, and_true, true_and, and_self, Bool.false_eq_true, Bool.true_eq_false, Bool.not_true, Bool.not_false, decide_true, decide_false, decide_eq_true_eq, ne_eq, not_true, not_false_eq_true, reduceCtorEq, List.set_set, append_ref hx9, List.length_map]
            rw [if_pos (by omega)]
            refine ⟨xs ++ [(.tup [.str w, .tup (ps.map D.int), .int y], o)], some (.int ((j : Nat))), some (.tup [.str w, .tup (ps.map D.int), .int y]), by simp, (fx.trans f9).set (Nat.le_refl _) sl, ?_, by simp [hl], fun x hx => ?_⟩
            · rw [gs_self hx9, List.map_append]; rfl
            · rcases List.mem_append.mp hx with hx | hx
              · exact hp x hx
              · have : x = (.tup [.str w, .tup (ps.map D.int), .int y], o) := by simpa using hx
                subst this
                refine ⟨?_, ho⟩
                simp only [plainD, plainL, plain_ints, List.length_map, List.length_cons, List.length_nil, Bool.and_true, Bool.true_and, Bool.and_eq_true, decide_eq_true_eq]
                exact ⟨by decide, by show ps.length ≤ 16777216; omega⟩
        · obtain ⟨xs, w5, w7, rfl, f5, hx, hl, hp⟩ := p
          have sl : 2 ≤ s.length := f3.ok.two
          simp only [ok_var, ok_c, ok_bin, ok_val, ok_not, ok_and, ok_or, ok_eAnd, ok_eOr, ok_eNot, ok_eNeg, ok_eIf, ok_call, ok_callL, ok_al, ok_nil, ok_cons, ok_tup, ok_lst, ok_sl, ok_no, ok_so, ok_meth, ok_meth0, ok_disp, ok_pNil, ok_pCons, ok_get2, then_nx, then_rt, then_bk, then_ct, ok_next, ok_brk, ok_cnt, ok_seq, ok_drop, ok_ret, ok_if, ok_asg, ok_put, ok_for, ok_lc, ok_lc2, ok_true, ok_iVal, ok_range1, ok_zip, ok_body, Ok_some, Ok_none, Ok_ite, startE, List.map_cons, List.map_nil, List.length_cons, List.length_nil, List.replicate, List.cons_append, List.nil_append, List.getElem?_cons_zero, List.getElem?_cons_succ, List.set_cons_zero, List.set_cons_succ, Nat.reduceAdd, Nat.reduceSub, Nat.zero_add, add_int, add_str, add_tup, sub_int, mul_int, mod_int, div_int, pow_int, I_int, fLt, fLe, fGt, fGe, eq_int, eq_str, ne_def, neg_bl, is_bl, isNot_bl, len_str, len_tup, abs_int, int_int, int_bl, tuple_tup, Z.sl_tup, Z.sl_str, got_some, list_tup, list_clst, src_tup, gVar, gTupD, gsNil, gsCons, atD, ixN, Int.cast_ofNat_Int, Int.reduceLE, Int.reduceAbs, Int.reducePow, Int.zero_le_ofNat, Int.reduceNeg, Int.reduceEq, Int.reduceAdd, Int.reduceMul, Int.reduceLT, Int.reduceToNat, Option.bind_some, Option.map_some, reduceIte, wipeE, Int.zero_add, big, Nat.reducePow, Nat.reduceLT, Nat.reduceLeDiff, or_true, true_or, and_true, true_and, and_self, Bool.false_eq_true, Bool.true_eq_false, Bool.not_true, Bool.not_false, decide_true, decide_false, decide_eq_true_eq, ne_eq, not_true, not_false_eq_true, reduceCtorEq, List.set_set, src_ref hx]
          have hxl : xs.length ≤ 1000 := by omega
          refine lc_ref (fun i acc s'' => s'' = s' ∧ acc = dueD (xs.take i)) ⟨rfl, rfl⟩ (fun i acc s'' p => by rw [p.1]; exact hx) (fun i x acc s'' hi p => ?_) (fun acc s'' p => ?_)
          · obtain ⟨rfl, rfl⟩ := p
            rw [List.getElem?_map] at hi
            cases e : xs[i]? with
            | none => rw [e] at hi; cases hi
            | some y =>
              rw [e] at hi
              cases hi
              have ht : xs.take (i + 1) = xs.take i ++ [y] := by rw [List.take_succ, e]; rfl
              have hle : (dueD (xs.take i)).length < 16777216 := by
                unfold dueD
                rw [List.length_map]
                exact Nat.lt_of_le_of_lt (Nat.le_trans (List.length_filter_le _ _) (by rw [List.length_take]; omega : _ ≤ 1000)) (by decide)
              obtain ⟨cut, o⟩ := y
              cases o with
              | none =>
                simp only [TrnL, entD, fateD, ok_var, ok_c, ok_bin, ok_val, ok_not, ok_and, ok_or, ok_eAnd, ok_eOr, ok_eNot, ok_eNeg, ok_eIf, ok_call, ok_callL, ok_al, ok_nil, ok_cons, ok_tup, ok_lst, ok_sl, ok_no, ok_so, ok_meth, ok_meth0, ok_disp, ok_pNil, ok_pCons, ok_get2, then_nx, then_rt, then_bk, then_ct, ok_next, ok_brk, ok_cnt, ok_seq, ok_drop, ok_ret, ok_if, ok_asg, ok_put, ok_for, ok_lc, ok_lc2, ok_true, ok_iVal, ok_range1, ok_zip, ok_body, Ok_some, Ok_none, Ok_ite, startE, List.map_cons, List.map_nil, List.length_cons, List.length_nil, List.replicate, List.cons_append, List.nil_append, List.getElem?_cons_zero, List.getElem?_cons_succ, List.set_cons_zero, List.set_cons_succ, Nat.reduceAdd, Nat.reduceSub, Nat.zero_add, add_int, add_str, add_tup, sub_int, mul_int, mod_int, div_int, pow_int, I_int, fLt, fLe, fGt, fGe, eq_int, eq_str, ne_def, neg_bl, is_bl, isNot_bl, len_str, len_tup, abs_int, int_int, int_bl, tuple_tup, Z.sl_tup, Z.sl_str, got_some, list_tup, list_clst, src_tup, gVar, gTupD, gsNil, gsCons, atD, ixN, Int.cast_ofNat_Int, Int.reduceLE, Int.reduceAbs, Int.reducePow, Int.zero_le_ofNat, Int.reduceNeg, Int.reduceEq, Int.reduceAdd, Int.reduceMul, Int.reduceLT, Int.reduceToNat, Option.bind_some, Option.map_some, reduceIte, wipeE, Int.zero_add, big, Nat.reducePow, Nat.reduceLT, Nat.reduceLeDiff, or_true, true_or, and_true, true_and, and_self, Bool.false_eq_true, Bool.true_eq_false, Bool.not_true, Bool.not_false, decide_true, decide_false, decide_eq_true_eq, ne_eq, not_true, not_false_eq_true, reduceCtorEq, List.set_set]
                refine ⟨hle, ?_⟩
                unfold dueD
                rw [ht, List.filter_append]
                simp
              | some ns =>
                simp only [TrnL, entD, fateD, ok_var, ok_c, ok_bin, ok_val, ok_not, ok_and, ok_or, ok_eAnd, ok_eOr, ok_eNot, ok_eNeg, ok_eIf, ok_call, ok_callL, ok_al, ok_nil, ok_cons, ok_tup, ok_lst, ok_sl, ok_no, ok_so, ok_meth, ok_meth0, ok_disp, ok_pNil, ok_pCons, ok_get2, then_nx, then_rt, then_bk, then_ct, ok_next, ok_brk, ok_cnt, ok_seq, ok_drop, ok_ret, ok_if, ok_asg, ok_put, ok_for, ok_lc, ok_lc2, ok_true, ok_iVal, ok_range1, ok_zip, ok_body, Ok_some, Ok_none, Ok_ite, startE, List.map_cons, List.map_nil, List.length_cons, List.length_nil, List.replicate, List.cons_append, List.nil_append, List.getElem?_cons_zero, List.getElem?_cons_succ, List.set_cons_zero, List.set_cons_succ, Nat.reduceAdd, Nat.reduceSub, Nat.zero_add, add_int, add_str, add_tup, sub_int, mul_int, mod_int, div_int, pow_int, I_int, fLt, fLe, fGt, fGe, eq_int, eq_str, ne_def, neg_bl, is_bl, isNot_bl, len_str, len_tup, abs_int, int_int, int_bl, tuple_tup, Z.sl_tup, Z.sl_str, got_some, list_tup, list_clst, src_tup, gVar, gTupD, gsNil, gsCons, atD, ixN, Int.cast_ofNat_Int, Int.reduceLE, Int.reduceAbs, Int.reducePow, Int.zero_le_ofNat, Int.reduceNeg, Int.reduceEq, Int.reduceAdd, Int.reduceMul, Int.reduceLT, Int.reduceToNat, Option.bind_some, Option.map_some, reduceIte, wipeE, Int.zero_add, big, Nat.reducePow, Nat.reduceLT, Nat.reduceLeDiff, or_true, true_or, and_true, true_and, and_self, Bool.false_eq_true, Bool.true_eq_false, Bool.not_true, Bool.not_false, decide_true, decide_false, decide_eq_true_eq, ne_eq, not_true, not_false_eq_true, reduceCtorEq, List.set_set]
                unfold dueD
                rw [ht, List.filter_append]
                simp
          · obtain ⟨rfl, rfl⟩ := p
            rw [List.length_map, List.take_length]
            simp only [lTup, ok_var, ok_c, ok_bin, ok_val, ok_not, ok_and, ok_or, ok_eAnd, ok_eOr, ok_eNot, ok_eNeg, ok_eIf, ok_call, ok_callL, ok_al, ok_nil, ok_cons, ok_tup, ok_lst, ok_sl, ok_no, ok_so, ok_meth, ok_meth0, ok_disp, ok_pNil, ok_pCons, ok_get2, then_nx, then_rt, then_bk, then_ct, ok_next, ok_brk, ok_cnt, ok_seq, ok_drop, ok_ret, ok_if, ok_asg, ok_put, ok_for, ok_lc, ok_lc2, ok_true, ok_iVal, ok_range1, ok_zip, ok_body, Ok_some, Ok_none, Ok_ite, startE, List.map_cons, List.map_nil, List.length_cons, List.length_nil, List.replicate, List.cons_append, List.nil_append, List.getElem?_cons_zero, List.getElem?_cons_succ, List.set_cons_zero, List.set_cons_succ, Nat.reduceAdd, Nat.reduceSub, Nat.zero_add, add_int, add_str, add_tup, sub_int, mul_int, mod_int, div_int, pow_int, I_int, fLt, fLe, fGt, fGe, eq_int, eq_str, ne_def, neg_bl, is_bl, isNot_bl, len_str, len_tup, abs_int, int_int, int_bl, tuple_tup, Z.sl_tup, Z.sl_str, got_some, list_tup, list_clst, src_tup, gVar, gTupD, gsNil, gsCons, atD, ixN, Int.cast_ofNat_Int, Int.reduceLE, Int.reduceAbs, Int.reducePow, Int.zero_le_ofNat, Int.reduceNeg, Int.reduceEq, Int.reduceAdd, Int.reduceMul, Int.reduceLT, Int.reduceToNat, Option.bind_some, Option.map_some, reduceIte, wipeE, Int.zero_add, big, Nat.reducePow, Nat.reduceLT, Nat.reduceLeDiff, or_true, true_or, and_true, true_and, and_self, Bool.false_eq_true, Bool.true_eq_false, Bool.not_true, Bool.not_false, decide_true, decide_false, decide_eq_true_eq, ne_eq, not_true, not_false_eq_true, reduceCtorEq, List.set_set, tuple_ref hx]
            refine open_ok hxl (fun x hx => (hp x hx).2) ?_
            refine same_refl 3 (.tup (dueD xs)) ?_ _ _ _ ?_
            · simp only [plainD, Bool.and_eq_true, decide_eq_true_eq]
              refine ⟨?_, plainL_iff.mpr fun d hd => ?_⟩
              · unfold dueD
                rw [List.length_map]
                exact Nat.le_trans (Nat.le_trans (List.length_filter_le _ _) hxl) (by decide)
              · unfold dueD at hd
                obtain ⟨x, hx, rfl⟩ := List.mem_map.mp hd
                exact (hp x (List.mem_filter.mp hx).1).1
            · try simp only [ok_var, ok_c, ok_bin, ok_val, ok_not, ok_and, ok_or, ok_eAnd, ok_eOr, ok_eNot, ok_eNeg, ok_eIf, ok_call, ok_callL, ok_al, ok_nil, ok_cons, ok_tup, ok_lst, ok_sl, ok_no, ok_so, ok_meth, ok_meth0, ok_disp, ok_pNil, ok_pCons, ok_get2, then_nx, then_rt, then_bk, then_ct, ok_next, ok_brk, ok_cnt, ok_seq, ok_drop, ok_ret, ok_if, ok_asg, ok_put, ok_for, ok_lc, ok_lc2, ok_true, ok_iVal, ok_range1, ok_zip, ok_body, Ok_some, Ok_none, Ok_ite, startE, List.map_cons, List.map_nil, List.length_cons, List.length_nil, List.replicate, List.cons_append, List.nil_append, List.getElem?_cons_zero, List.getElem?_cons_succ, List.set_cons_zero, List.set_cons_succ, Nat.reduceAdd, Nat.reduceSub, Nat.zero_add, add_int, add_str, add_tup, sub_int, mul_int, mod_int, div_int, pow_int, I_int, fLt, fLe, fGt, fGe, eq_int, eq_str, ne_def, neg_bl, is_bl, isNot_bl, len_str, len_tup, abs_int, int_int, int_bl, tuple_tup, Z.sl_tup, Z.sl_str, got_some, list_tup, list_clst, src_tup, gVar, gTupD, gsNil, gsCons, atD, ixN, Int.cast_ofNat_Int, Int.reduceLE, Int.reduceAbs, Int.reducePow, Int.zero_le_ofNat, Int.reduceNeg, Int.reduceEq, Int.reduceAdd, Int.reduceMul, Int.reduceLT, Int.reduceToNat, Option.bind_some, Option.map_some, reduceIte, wipeE, Int.zero_add, big, Nat.reducePow, Nat.reduceLT, Nat.reduceLeDiff, or_true, true_or, and_true, true_and, and_self, Bool.false_eq_true, Bool.true_eq_false, Bool.not_true, Bool.not_false, decide_true, decide_false, decide_eq_true_eq, ne_eq, not_true, not_false_eq_true, reduceCtorEq, List.set_set]
              exact ⟨_, rfl, rfl, f3.trans f5⟩
    · obtain ⟨v, rfl, hv, f3⟩ := p
      try simp only [ok_var, ok_c, ok_bin, ok_val, ok_not, ok_and, ok_or, ok_eAnd, ok_eOr, ok_eNot, ok_eNeg, ok_eIf, ok_call, ok_callL, ok_al, ok_nil, ok_cons, ok_tup, ok_lst, ok_sl, ok_no, ok_so, ok_meth, ok_meth0, ok_disp, ok_pNil, ok_pCons, ok_get2, then_nx, then_rt, then_bk, then_ct, ok_next, ok_brk, ok_cnt, ok_seq, ok_drop, ok_ret, ok_if, ok_asg, ok_put, ok_for, ok_lc, ok_lc2, ok_true, ok_iVal, ok_range1, ok_zip, ok_body, Ok_some, Ok_none, Ok_ite, startE, List.map_cons, List.map_nil, List.length_cons, List.length_nil, List.replicate, List.cons_append, List.nil_append, List.getElem?_cons_zero, List.getElem?_cons_succ, List.set_cons_zero, List.set_cons_succ, Nat.reduceAdd, Nat.reduceSub, Nat.zero_add, add_int, add_str, add_tup, sub_int, mul_int, mod_int, div_int, pow_int, I_int, fLt, fLe, fGt, fGe, eq_int, eq_str, ne_def, neg_bl, is_bl, isNot_bl, len_str, len_tup, abs_int, int_int, int_bl, tuple_tup, Z.sl_tup, Z.sl_str, got_some, list_tup, list_clst, src_tup, gVar, gTupD, gsNil, gsCons, atD, ixN, Int.cast_ofNat_Int, Int.reduceLE, Int.reduceAbs, Int.reducePow, Int.zero_le_ofNat, Int.reduceNeg, Int.reduceEq, Int.reduceAdd, Int.reduceMul, Int.reduceLT, Int.reduceToNat, Option.bind_some, Option.map_some, reduceIte, wipeE, Int.zero_add, big, Nat.reducePow, Nat.reduceLT, Nat.reduceLeDiff, or_true, true_or, and_true, true_and, and_self, Bool.false_eq_true, Bool.true_eq_false, Bool.not_true, Bool.not_false, decide_true, decide_false, decide_eq_true_eq, ne_eq, not_true, not_false_eq_true, reduceCtorEq, List.set_set]
  obtain ⟨d, st, e, rfl⟩ := key
  exact ⟨st, e⟩
end Lw
namespace Lw
open PySem PySem.Spec PyProof.Rows L2 Z
/-! ### the derivations -/
theorem sc_open_cuts : FnScope N_open_cuts ["datum"] (defScope s_open_cuts) := ⟨rfl, rfl, rfl, by decide +kernel, rfl, by decide +kernel, by decide +kernel⟩
theorem sc_law_start : FnScope N_law_start ["script"] (defScope s_law_start) := ⟨rfl, rfl, rfl, by decide +kernel, rfl, by decide +kernel, by decide +kernel⟩
theorem sc_law_draw : FnScope N_law_draw ["state", "most"] (defScope s_law_draw) := ⟨rfl, rfl, rfl, by decide +kernel, rfl, by decide +kernel, by decide +kernel⟩
theorem sc_law_one_of : FnScope N_law_one_of ["state", "items"] (defScope s_law_one_of) := ⟨rfl, rfl, rfl, by decide +kernel, rfl, by decide +kernel, by decide +kernel⟩
theorem sc_law_words : FnScope N_law_words ["state", "many"] (defScope s_law_words) := ⟨rfl, rfl, rfl, by decide +kernel, rfl, by decide +kernel, by decide +kernel⟩
theorem sc_law_is_int : FnScope N_law_is_int ["x"] (defScope s_law_is_int) := ⟨rfl, rfl, rfl, by decide +kernel, rfl, by decide +kernel, by decide +kernel⟩
theorem sc_law_same : FnScope N_law_same ["x", "y"] (defScope s_law_same) := ⟨rfl, rfl, rfl, by decide +kernel, rfl, by decide +kernel, by decide +kernel⟩
theorem sc_law_path : FnScope N_law_path ["state"] (defScope s_law_path) := ⟨rfl, rfl, rfl, by decide +kernel, rfl, by decide +kernel, by decide +kernel⟩
theorem sc_law_fate : FnScope N_law_fate ["state"] (defScope s_law_fate) := ⟨rfl, rfl, rfl, by decide +kernel, rfl, by decide +kernel, by decide +kernel⟩
theorem sc_law : FnScope N_law ["script"] (defScope s_law) := ⟨rfl, rfl, rfl, by decide +kernel, rfl, by decide +kernel, by decide +kernel⟩
structure Tx (K : PySem.W.Frag) (mg : Str → Option Value) (ad : Fn → Addr) (fd : Fn → FuncData) : Prop where
  fm : ∀ f : Fn, mg f.nm = some (.ref (ad f))
  fn : ∀ f : Fn, Fun K f.nm f.nm f.st (ad f) (fd f)
  bi : ∀ f : Fn, Binds K (fd f) f.ps []
  b_abs : mg "abs" = none
  b_all : mg "all" = none
  b_bool : mg "bool" = none
  b_int : mg "int" = none
  b_isinstance : mg "isinstance" = none
  b_len : mg "len" = none
  b_list : mg "list" = none
  b_range : mg "range" = none
  b_str : mg "str" = none
  b_tuple : mg "tuple" = none
  k_OPEN : ∃ u v, mg "OPEN" = some u ∧ RelV v u ∧ ∀ (fa : Nat → Addr) ρ H, Rp K fa ρ H (.ctup [(.str "open")]) v
theorem Tx.c_OPEN {X : Cx} {ad : Fn → Addr} {fd : Fn → FuncData} {fa : Nat → Addr} {pos : Pos} (T : Tx X.K X.mg ad fd) (hg : Gl X "OPEN") : PE X (.Name "OPEN" pos) (tM X.K fa (eC (.ctup [(.str "open")]))) := by
  obtain ⟨u, v, h1, h2, h3⟩ := T.k_OPEN
  exact ze_glob hg h1 h2 (h3 fa)
section
variable {P : Program} {w : World} {K : PySem.W.Frag} {mg : Str → Option Value} {base : Heap} {ad : Fn → Addr} {fd : Fn → FuncData} {n : Nat}
abbrev fas (ad : Fn → Addr) : Nat → Addr := fun i => ad (Fn.no i)
abbrev Ih (P : Program) (w : World) (K : PySem.W.Frag) (mg : Str → Option Value) (base : Heap) (ad : Fn → Addr) (fd : Fn → FuncData) (n : Nat) : Prop := ∀ f : Fn, FnOk P w K mg base CX0 n (ad f) (fd f) f.ps (spM K (fas ad) (F n f) f.ps.length)
theorem ok_open_cuts (T : Tx K mg ad fd) (ih : Ih P w K mg base ad fd n) : FnOk P w K mg base CX0 (n + 1) (ad .open_cuts) (fd .open_cuts) ["datum"] (spM K (fas ad) (runBody N_open_cuts.length (b_open_cuts (F n))) 1) :=
  fn_ok (T.fn .open_cuts) sc_open_cuts rfl fun cdv A outer s H hr =>
    zss_one (zs_ret (zl_callTy (zl_tup) rfl T.b_tuple (by decide +kernel) (zl_lc (own := [("cut", 1), ("fate", 2)]) rfl sc_open_cuts.nd (zi_val (ze_ix (hu_of hr) (ze_var 0) (ze_int))) (blkOk_by (own := [("cut", 1), ("fate", 2)]) (N := N_open_cuts) (sc := defScope s_open_cuts) (by decide +kernel)) (by decide) (fun _ _ _ _ _ => zg_tup rfl (zg_cons (zg_name (i := 1) sc_open_cuts.nd rfl (Or.inl rfl)) (zg_cons (zg_name (i := 2) sc_open_cuts.nd rfl (Or.inl rfl)) (zg_nil)))) (fun _ _ _ _ _ => zts_one (zt_cmp (zo_eq hr.units) (ze_var 2) (T.c_OPEN rfl) (nomark _))) (fun _ _ _ _ _ => ze_var 1))))
theorem ok_law_start (T : Tx K mg ad fd) (ih : Ih P w K mg base ad fd n) : FnOk P w K mg base CX0 (n + 1) (ad .law_start) (fd .law_start) ["script"] (spM K (fas ad) (runBody N_law_start.length (b_law_start (F n))) 1) :=
  fn_ok (T.fn .law_start) sc_law_start rfl fun cdv A outer s H hr =>
    zss_one (zs_ret (ze_lst (za_cons (ze_callTy zc_list rfl T.b_list (by decide +kernel) (za_cons (ze_var 0) (za_nil))) (za_cons (ze_int) (za_cons (ze_int) (za_cons (ze_int) (za_nil)))))))
theorem ok_law_draw (T : Tx K mg ad fd) (ih : Ih P w K mg base ad fd n) : FnOk P w K mg base CX0 (n + 1) (ad .law_draw) (fd .law_draw) ["state", "most"] (spM K (fas ad) (runBody N_law_draw.length (b_law_draw (F n))) 2) :=
  fn_ok (T.fn .law_draw) sc_law_draw rfl fun cdv A outer s H hr =>
    zss_cons (zs_put (hu_of hr) (ze_var 0) (ze_int) (ze_op zo_add (ze_ix (hu_of hr) (ze_var 0) (ze_int)) (ze_int)))
    (zss_cons (zs_if (zt_cmp zo_gt (ze_ix (hu_of hr) (ze_var 0) (ze_int)) (ze_int) (nomark _)) (zss_cons (zs_set (i := 4) sc_law_draw.nd rfl (Or.inl rfl) (ze_op zo_mod (ze_callTy zc_int rfl T.b_int (by decide +kernel) (za_cons (ze_ix (hu_of hr) (ze_var 0) (ze_int)) (za_nil))) (ze_var 1)))
    (zss_cons (zs_put (hu_of hr) (ze_var 0) (ze_int) (ze_op zo_div (ze_ix (hu_of hr) (ze_var 0) (ze_int)) (ze_var 1)))
    (zss_one (zs_ret (ze_var 4))))) (zss_nil))
    (zss_cons (zs_set (i := 2) sc_law_draw.nd rfl (Or.inl rfl) (ze_int))
    (zss_cons (zs_if (zt_cmp zo_gt (ze_callB zc_len rfl T.b_len PySem.boot_len (za_cons (ze_ix (hu_of hr) (ze_var 0) (ze_int)) (za_nil))) (ze_int) (nomark _)) (zss_one (zs_set (i := 2) sc_law_draw.nd rfl (Or.inl rfl) (ze_callB zc_abs rfl T.b_abs (by decide +kernel) (za_cons (ze_ix (hu_of hr) (ze_ix (hu_of hr) (ze_var 0) (ze_int)) (ze_op zo_mod (ze_callTy zc_int rfl T.b_int (by decide +kernel) (za_cons (ze_ix (hu_of hr) (ze_var 0) (ze_int)) (za_nil))) (ze_callB zc_len rfl T.b_len PySem.boot_len (za_cons (ze_ix (hu_of hr) (ze_var 0) (ze_int)) (za_nil))))) (za_nil))))) (zss_nil))
    (zss_cons (zs_put (hu_of hr) (ze_var 0) (ze_int) (ze_op zo_add (ze_ix (hu_of hr) (ze_var 0) (ze_int)) (ze_int)))
    (zss_cons (zs_if (zt_cmp zo_ge (ze_var 2) (ze_op zo_pow (ze_int) (ze_int)) (nomark _)) (zss_cons (zs_put (hu_of hr) (ze_var 0) (ze_int) (ze_op zo_div (ze_var 2) (ze_var 1)))
    (zss_one (zs_ret (ze_op zo_mod (ze_callTy zc_int rfl T.b_int (by decide +kernel) (za_cons (ze_var 2) (za_nil))) (ze_var 1))))) (zss_nil))
    (zss_cons (zs_set (i := 3) sc_law_draw.nd rfl (Or.inl rfl) (ze_op zo_mod (ze_callTy zc_int rfl T.b_int (by decide +kernel) (za_cons (ze_op zo_add (ze_op zo_mul (ze_op zo_add (ze_var 2) (ze_int)) (ze_int)) (ze_op zo_mul (ze_ix (hu_of hr) (ze_var 0) (ze_int)) (ze_int))) (za_nil))) (ze_int)))
    (zss_cons (zs_set (i := 3) sc_law_draw.nd rfl (Or.inl rfl) (ze_op zo_mod (ze_callTy zc_int rfl T.b_int (by decide +kernel) (za_cons (ze_op zo_add (ze_op zo_add (ze_op zo_mul (ze_var 3) (ze_int)) (ze_op zo_div (ze_var 2) (ze_int))) (ze_ix (hu_of hr) (ze_var 0) (ze_int))) (za_nil))) (ze_int)))
    (zss_one (zs_ret (ze_op zo_mod (ze_op zo_div (ze_var 3) (ze_int)) (ze_var 1)))))))))))
theorem ok_law_one_of (T : Tx K mg ad fd) (ih : Ih P w K mg base ad fd n) : FnOk P w K mg base CX0 (n + 1) (ad .law_one_of) (fd .law_one_of) ["state", "items"] (spM K (fas ad) (runBody N_law_one_of.length (b_law_one_of (F n))) 2) :=
  fn_ok (T.fn .law_one_of) sc_law_one_of rfl fun cdv A outer s H hr =>
    zss_one (zs_ret (ze_ix (hu_of hr) (ze_var 1) (ze_call (ih .law_draw) hr rfl (T.fm .law_draw) (T.fn .law_draw).kp (T.bi .law_draw) (za_cons (ze_var 0) (za_cons (ze_callB zc_len rfl T.b_len PySem.boot_len (za_cons (ze_var 1) (za_nil))) (za_nil))) rfl (len_cons (len_cons (len_nil))))))
theorem ok_law_words (T : Tx K mg ad fd) (ih : Ih P w K mg base ad fd n) : FnOk P w K mg base CX0 (n + 1) (ad .law_words) (fd .law_words) ["state", "many"] (spM K (fas ad) (runBody N_law_words.length (b_law_words (F n))) 2) :=
  fn_ok (T.fn .law_words) sc_law_words rfl fun cdv A outer s H hr =>
    zss_cons (zs_set (i := 2) sc_law_words.nd rfl (Or.inr rfl) (ze_str))
    (zss_cons (zs_set (i := 3) sc_law_words.nd rfl (Or.inr rfl) (ze_call (ih .law_draw) hr rfl (T.fm .law_draw) (T.fn .law_draw).kp (T.bi .law_draw) (za_cons (ze_var 0) (za_cons (ze_int) (za_nil))) rfl (len_cons (len_cons (len_nil)))))
    (zss_cons (zs_set (i := 4) sc_law_words.nd rfl (Or.inr rfl) (ze_op zo_add (ze_int) (ze_op zo_mul (ze_int) (ze_call (ih .law_draw) hr rfl (T.fm .law_draw) (T.fn .law_draw).kp (T.bi .law_draw) (za_cons (ze_var 0) (za_cons (ze_int) (za_nil))) rfl (len_cons (len_cons (len_nil)))))))
    (zss_cons (zs_set (i := 5) sc_law_words.nd rfl (Or.inr rfl) (ze_sl (ze_str) zp_no (zp_so (ze_call (ih .law_draw) hr rfl (T.fm .law_draw) (T.fn .law_draw).kp (T.bi .law_draw) (za_cons (ze_var 0) (za_cons (ze_int) (za_nil))) rfl (len_cons (len_cons (len_nil)))))))
    (zss_cons (zs_if (zt_cmp (zo_eq hr.units) (ze_call (ih .law_draw) hr rfl (T.fm .law_draw) (T.fn .law_draw).kp (T.bi .law_draw) (za_cons (ze_var 0) (za_cons (ze_int) (za_nil))) rfl (len_cons (len_cons (len_nil)))) (ze_int) (nomark _)) (zss_one (zs_ret (zl_al (zl_lc (own := [("k", 6)]) rfl sc_law_words.nd (zi_range1 rfl T.b_range (za_cons (ze_var 1) (za_nil))) (blkOk_by (own := [("k", 6)]) (N := N_law_words) (sc := defScope s_law_words) (by decide +kernel)) (by decide) (fun _ _ _ _ _ => zg_name (i := 6) sc_law_words.nd rfl (Or.inl rfl)) (fun _ _ _ _ _ => zts_nil) (fun _ _ _ _ _ => ze_op zo_add (ze_var 5) (ze_ix (hu_of hr) (ze_var 2) (ze_op zo_mod (ze_callTy zc_int rfl T.b_int (by decide +kernel) (za_cons (ze_op zo_add (ze_var 3) (ze_op zo_mul (ze_var 6) (ze_var 4))) (za_nil))) (ze_int)))))))) (zss_nil))
    (zss_one (zs_ret (zl_al (zl_lc (own := [("k", 6)]) rfl sc_law_words.nd (zi_range1 rfl T.b_range (za_cons (ze_var 1) (za_nil))) (blkOk_by (own := [("k", 6)]) (N := N_law_words) (sc := defScope s_law_words) (by decide +kernel)) (by decide) (fun _ _ _ _ _ => zg_name (i := 6) sc_law_words.nd rfl (Or.inl rfl)) (fun _ _ _ _ _ => zts_nil) (fun _ _ _ _ _ => ze_op zo_add (ze_ix (hu_of hr) (ze_var 2) (ze_op zo_mod (ze_callTy zc_int rfl T.b_int (by decide +kernel) (za_cons (ze_op zo_add (ze_var 3) (ze_op zo_mul (ze_var 6) (ze_var 4))) (za_nil))) (ze_int))) (ze_var 5))))))))))
theorem ok_law_is_int (T : Tx K mg ad fd) (ih : Ih P w K mg base ad fd n) : FnOk P w K mg base CX0 (n + 1) (ad .law_is_int) (fd .law_is_int) ["x"] (spM K (fas ad) (runBody N_law_is_int.length (b_law_is_int (F n))) 1) :=
  fn_ok (T.fn .law_is_int) sc_law_is_int rfl fun cdv A outer s H hr =>
    zss_one (zs_ret (ze_and (ze_callB zc_isi rfl T.b_isinstance (by decide +kernel) (za_cons (ze_var 0) (za_cons (ze_ty rfl T.b_int boot_int) (za_nil)))) (ze_one (ze_not (ze_callB zc_isi rfl T.b_isinstance (by decide +kernel) (za_cons (ze_var 0) (za_cons (ze_ty rfl T.b_bool boot_bool) (za_nil))))))))
theorem ok_law_same (T : Tx K mg ad fd) (ih : Ih P w K mg base ad fd n) : FnOk P w K mg base CX0 (n + 1) (ad .law_same) (fd .law_same) ["x", "y"] (spM K (fas ad) (runBody N_law_same.length (b_law_same (F n))) 2) :=
  fn_ok (T.fn .law_same) sc_law_same rfl fun cdv A outer s H hr =>
    zss_cons (zs_if (zt_val (ze_callB zc_isi rfl T.b_isinstance (by decide +kernel) (za_cons (ze_var 1) (za_cons (ze_ty rfl T.b_tuple boot_tuple) (za_nil))))) (zss_cons (zs_if (PW.pt (zw_or (zt_not (zt_val (ze_callB zc_isi rfl T.b_isinstance (by decide +kernel) (za_cons (ze_var 0) (za_cons (ze_ty rfl T.b_tuple boot_tuple) (za_nil)))))) (zw_or1 (zt_cmp (zo_ne hr.units) (ze_callB zc_len rfl T.b_len PySem.boot_len (za_cons (ze_var 0) (za_nil))) (ze_callB zc_len rfl T.b_len PySem.boot_len (za_cons (ze_var 1) (za_nil))) (nomark _))))) (zss_one (zs_ret (ze_bl))) (zss_nil))
    (zss_one (zs_ret (zl_callB (zl_all rfl) rfl T.b_all (by decide +kernel) (zl_lc (own := [("k", 2)]) rfl sc_law_same.nd (zi_range1 rfl T.b_range (za_cons (ze_callB zc_len rfl T.b_len PySem.boot_len (za_cons (ze_var 1) (za_nil))) (za_nil))) (blkOk_by (own := [("k", 2)]) (N := N_law_same) (sc := defScope s_law_same) (by decide +kernel)) (by decide) (fun _ _ _ _ _ => zg_name (i := 2) sc_law_same.nd rfl (Or.inl rfl)) (fun _ _ _ _ _ => zts_nil) (fun _ _ _ _ _ => ze_call (ih .law_same) hr rfl (T.fm .law_same) (T.fn .law_same).kp (T.bi .law_same) (za_cons (ze_ix (hu_of hr) (ze_var 0) (ze_var 2)) (za_cons (ze_ix (hu_of hr) (ze_var 1) (ze_var 2)) (za_nil))) rfl (len_cons (len_cons (len_nil))))))))) (zss_nil))
    (zss_cons (zs_if (zt_val (ze_callB zc_isi rfl T.b_isinstance (by decide +kernel) (za_cons (ze_var 1) (za_cons (ze_ty rfl T.b_str boot_str) (za_nil))))) (zss_one (zs_ret (ze_and (ze_callB zc_isi rfl T.b_isinstance (by decide +kernel) (za_cons (ze_var 0) (za_cons (ze_ty rfl T.b_str boot_str) (za_nil)))) (ze_one (ze_cmp (zo_eq hr.units) (ze_var 0) (ze_var 1) (nomark _)))))) (zss_nil))
    (zss_one (zs_ret (ze_and (ze_call (ih .law_is_int) hr rfl (T.fm .law_is_int) (T.fn .law_is_int).kp (T.bi .law_is_int) (za_cons (ze_var 0) (za_nil)) rfl (len_cons (len_nil))) (ze_one (ze_cmp (zo_eq hr.units) (ze_var 0) (ze_var 1) (nomark _)))))))
theorem ok_law_path (T : Tx K mg ad fd) (ih : Ih P w K mg base ad fd n) : FnOk P w K mg base CX0 (n + 1) (ad .law_path) (fd .law_path) ["state"] (spM K (fas ad) (runBody N_law_path.length (b_law_path (F n))) 1) :=
  fn_ok (T.fn .law_path) sc_law_path rfl fun cdv A outer s H hr =>
    zss_cons (zs_set (i := 1) sc_law_path.nd rfl (Or.inl rfl) (ze_tup (za_cons (ze_call (ih .law_draw) hr rfl (T.fm .law_draw) (T.fn .law_draw).kp (T.bi .law_draw) (za_cons (ze_var 0) (za_cons (ze_int) (za_nil))) rfl (len_cons (len_cons (len_nil)))) (za_nil))))
    (zss_cons (zs_for PassesOwn.never rfl (zi_range1 rfl T.b_range (za_cons (ze_call (ih .law_draw) hr rfl (T.fm .law_draw) (T.fn .law_draw).kp (T.bi .law_draw) (za_cons (ze_var 0) (za_cons (ze_int) (za_nil))) rfl (len_cons (len_cons (len_nil)))) (za_nil))) (zg_name (i := 2) sc_law_path.nd rfl (Or.inl rfl)) (zss_one (zs_set (i := 1) sc_law_path.nd rfl (Or.inl rfl) (ze_op zo_add (ze_var 1) (ze_tup (za_cons (ze_op zo_add (ze_int) (ze_call (ih .law_draw) hr rfl (T.fm .law_draw) (T.fn .law_draw).kp (T.bi .law_draw) (za_cons (ze_var 0) (za_cons (ze_int) (za_nil))) rfl (len_cons (len_cons (len_nil))))) (za_cons (ze_call (ih .law_draw) hr rfl (T.fm .law_draw) (T.fn .law_draw).kp (T.bi .law_draw) (za_cons (ze_var 0) (za_cons (ze_int) (za_nil))) rfl (len_cons (len_cons (len_nil)))) (za_nil))))))))
    (zss_one (zs_ret (ze_var 1))))
theorem ok_law_fate (T : Tx K mg ad fd) (ih : Ih P w K mg base ad fd n) : FnOk P w K mg base CX0 (n + 1) (ad .law_fate) (fd .law_fate) ["state"] (spM K (fas ad) (runBody N_law_fate.length (b_law_fate (F n))) 1) :=
  fn_ok (T.fn .law_fate) sc_law_fate rfl fun cdv A outer s H hr =>
    zss_cons (zs_if (zt_cmp (zo_eq hr.units) (ze_call (ih .law_draw) hr rfl (T.fm .law_draw) (T.fn .law_draw).kp (T.bi .law_draw) (za_cons (ze_var 0) (za_cons (ze_int) (za_nil))) rfl (len_cons (len_cons (len_nil)))) (ze_int) (nomark _)) (zss_one (zs_ret (ze_tup (za_cons (ze_str) (za_nil))))) (zss_nil))
    (zss_one (zs_ret (ze_tup (za_cons (ze_str) (za_cons (zl_callTy (zl_tup) rfl T.b_tuple (by decide +kernel) (zl_lc (own := [("k", 1)]) rfl sc_law_fate.nd (zi_range1 rfl T.b_range (za_cons (ze_call (ih .law_draw) hr rfl (T.fm .law_draw) (T.fn .law_draw).kp (T.bi .law_draw) (za_cons (ze_var 0) (za_cons (ze_int) (za_nil))) rfl (len_cons (len_cons (len_nil)))) (za_nil))) (blkOk_by (own := [("k", 1)]) (N := N_law_fate) (sc := defScope s_law_fate) (by decide +kernel)) (by decide) (fun _ _ _ _ _ => zg_name (i := 1) sc_law_fate.nd rfl (Or.inl rfl)) (fun _ _ _ _ _ => zts_nil) (fun _ _ _ _ _ => ze_op zo_sub (ze_call (ih .law_draw) hr rfl (T.fm .law_draw) (T.fn .law_draw).kp (T.bi .law_draw) (za_cons (ze_var 0) (za_cons (ze_int) (za_nil))) rfl (len_cons (len_cons (len_nil)))) (ze_int)))) (za_nil))))))
theorem ok_law (T : Tx K mg ad fd) (ih : Ih P w K mg base ad fd n) : FnOk P w K mg base CX0 (n + 1) (ad .law) (fd .law) ["script"] (spM K (fas ad) (runBody N_law.length (b_law (F n))) 1) :=
  fn_ok (T.fn .law) sc_law rfl fun cdv A outer s H hr =>
    zss_cons (zs_set (i := 1) sc_law.nd rfl (Or.inl rfl) (ze_call (ih .law_start) hr rfl (T.fm .law_start) (T.fn .law_start).kp (T.bi .law_start) (za_cons (ze_var 0) (za_nil)) rfl (len_cons (len_nil))))
    (zss_cons (zs_set (i := 2) sc_law.nd rfl (Or.inl rfl) (ze_call (ih .law_words) hr rfl (T.fm .law_words) (T.fn .law_words).kp (T.bi .law_words) (za_cons (ze_var 1) (za_cons (ze_int) (za_nil))) rfl (len_cons (len_cons (len_nil)))))
    (zss_cons (zs_for PassesOwn.never rfl (zi_range1 rfl T.b_range (za_cons (ze_int) (za_nil))) (zg_name (i := 3) sc_law.nd rfl (Or.inl rfl)) (zss_cons (zs_set (i := 4) sc_law.nd rfl (Or.inl rfl) (ze_lst (za_nil)))
    (zss_cons (zs_for PassesOwn.never rfl (zi_range1 rfl T.b_range (za_cons (ze_call (ih .law_draw) hr rfl (T.fm .law_draw) (T.fn .law_draw).kp (T.bi .law_draw) (za_cons (ze_var 1) (za_cons (ze_int) (za_nil))) rfl (len_cons (len_cons (len_nil)))) (za_nil))) (zg_name (i := 5) sc_law.nd rfl (Or.inl rfl)) (zss_cons (zs_set (i := 7) sc_law.nd rfl (Or.inl rfl) (ze_tup (za_cons (ze_call (ih .law_one_of) hr rfl (T.fm .law_one_of) (T.fn .law_one_of).kp (T.bi .law_one_of) (za_cons (ze_var 1) (za_cons (ze_var 2) (za_nil))) rfl (len_cons (len_cons (len_nil)))) (za_cons (ze_call (ih .law_path) hr rfl (T.fm .law_path) (T.fn .law_path).kp (T.bi .law_path) (za_cons (ze_var 1) (za_nil)) rfl (len_cons (len_nil))) (za_cons (ze_ix (hu_of hr) (ze_lst (za_cons (ze_int) (za_cons (ze_int) (za_cons (ze_int) (za_cons (ze_int) (za_nil)))))) (ze_call (ih .law_draw) hr rfl (T.fm .law_draw) (T.fn .law_draw).kp (T.bi .law_draw) (za_cons (ze_var 1) (za_cons (ze_int) (za_nil))) rfl (len_cons (len_cons (len_nil))))) (za_nil))))))
    (zss_one (zs_expr (ze_meth PySem.F.slot_list_append PySem.F.type_list_append zm_append (ze_var 4) (za_cons (ze_tup (za_cons (ze_var 7) (za_cons (ze_call (ih .law_fate) hr rfl (T.fm .law_fate) (T.fn .law_fate).kp (T.bi .law_fate) (za_cons (ze_var 1) (za_nil)) rfl (len_cons (len_nil))) (za_nil)))) (za_nil)))))))
    (zss_cons (zs_set (i := 6) sc_law.nd rfl (Or.inl rfl) (zl_callTy (zl_tup) rfl T.b_tuple (by decide +kernel) (zl_lc (own := [("cut", 7), ("fate", 8)]) rfl sc_law.nd (zi_val (ze_var 4)) (blkOk_by (own := [("cut", 7), ("fate", 8)]) (N := N_law) (sc := defScope s_law) (by decide +kernel)) (by decide) (fun _ _ _ _ _ => zg_tup rfl (zg_cons (zg_name (i := 7) sc_law.nd rfl (Or.inl rfl)) (zg_cons (zg_name (i := 8) sc_law.nd rfl (Or.inl rfl)) (zg_nil)))) (fun _ _ _ _ _ => zts_one (zt_cmp (zo_eq hr.units) (ze_callB zc_len rfl T.b_len PySem.boot_len (za_cons (ze_var 8) (za_nil))) (ze_int) (nomark _))) (fun _ _ _ _ _ => ze_var 7))))
    (zss_one (zs_if (zt_not (zt_val (ze_call (ih .law_same) hr rfl (T.fm .law_same) (T.fn .law_same).kp (T.bi .law_same) (za_cons (ze_call (ih .open_cuts) hr rfl (T.fm .open_cuts) (T.fn .open_cuts).kp (T.bi .open_cuts) (za_cons (ze_tup (za_cons (ze_tup (za_nil)) (za_cons (ze_tup (za_cons (ze_str) (za_cons (ze_tup (za_nil)) (za_nil)))) (za_cons (ze_callTy zc_tuple rfl T.b_tuple (by decide +kernel) (za_cons (ze_var 4) (za_nil))) (za_nil))))) (za_nil)) rfl (len_cons (len_nil))) (za_cons (ze_var 6) (za_nil))) rfl (len_cons (len_cons (len_nil)))))) (zss_one (zs_ret (ze_bl))) (zss_nil)))))))
    (zss_one (zs_ret (ze_bl)))))
theorem ok_all (T : Tx K mg ad fd) : ∀ n, Ih P w K mg base ad fd n
  | 0 => fun f => ⟨fun vs H Q E h => by obtain ⟨_, _, _, _, _, h, _⟩ := h; exact h, fun A outer s H args us vs Q E _ _ _ _ h => by obtain ⟨_, _, _, _, _, _, _, _, h, _⟩ := h; cases h⟩
  | n + 1 => fun f => match f with
    | .open_cuts => ok_open_cuts T (ok_all T n)
    | .law_start => ok_law_start T (ok_all T n)
    | .law_draw => ok_law_draw T (ok_all T n)
    | .law_one_of => ok_law_one_of T (ok_all T n)
    | .law_words => ok_law_words T (ok_all T n)
    | .law_is_int => ok_law_is_int T (ok_all T n)
    | .law_same => ok_law_same T (ok_all T n)
    | .law_path => ok_law_path T (ok_all T n)
    | .law_fate => ok_law_fate T (ok_all T n)
    | .law => ok_law T (ok_all T n)
end
end Lw
namespace Lw
open PySem PySem.Spec PyProof.Rows L2 Z
/-! ### the end -/
theorem all_mk {P : Program} {w : World} {K : PySem.W.Frag} {h : Heap} {mg : Str → Option Value} {fa : Addr} (X : K.In h) (G : h.Ns mainGlobals mg) (hfa : mg "law" = some (.ref fa))
    {f_open_cuts : Addr}
    {od_open_cuts an_open_cuts : Option Addr}
    {sl_open_cuts : Array (Option Value)}
    {oc_open_cuts kV_open_cuts dc_open_cuts pm_open_cuts cd_open_cuts ct_open_cuts : Value}
    {f_law_start : Addr}
    {od_law_start an_law_start : Option Addr}
    {sl_law_start : Array (Option Value)}
    {oc_law_start kV_law_start dc_law_start pm_law_start cd_law_start ct_law_start : Value}
    {f_law_draw : Addr}
    {od_law_draw an_law_draw : Option Addr}
    {sl_law_draw : Array (Option Value)}
    {oc_law_draw kV_law_draw dc_law_draw pm_law_draw cd_law_draw ct_law_draw : Value}
    {f_law_one_of : Addr}
    {od_law_one_of an_law_one_of : Option Addr}
    {sl_law_one_of : Array (Option Value)}
    {oc_law_one_of kV_law_one_of dc_law_one_of pm_law_one_of cd_law_one_of ct_law_one_of : Value}
    {f_law_words : Addr}
    {od_law_words an_law_words : Option Addr}
    {sl_law_words : Array (Option Value)}
    {oc_law_words kV_law_words dc_law_words pm_law_words cd_law_words ct_law_words : Value}
    {f_law_is_int : Addr}
    {od_law_is_int an_law_is_int : Option Addr}
    {sl_law_is_int : Array (Option Value)}
    {oc_law_is_int kV_law_is_int dc_law_is_int pm_law_is_int cd_law_is_int ct_law_is_int : Value}
    {f_law_same : Addr}
    {od_law_same an_law_same : Option Addr}
    {sl_law_same : Array (Option Value)}
    {oc_law_same kV_law_same dc_law_same pm_law_same cd_law_same ct_law_same : Value}
    {f_law_path : Addr}
    {od_law_path an_law_path : Option Addr}
    {sl_law_path : Array (Option Value)}
    {oc_law_path kV_law_path dc_law_path pm_law_path cd_law_path ct_law_path : Value}
    {f_law_fate : Addr}
    {od_law_fate an_law_fate : Option Addr}
    {sl_law_fate : Array (Option Value)}
    {oc_law_fate kV_law_fate dc_law_fate pm_law_fate cd_law_fate ct_law_fate : Value}
    {f_law : Addr}
    {od_law an_law : Option Addr}
    {sl_law : Array (Option Value)}
    {oc_law kV_law dc_law pm_law cd_law ct_law : Value}
    {ca_OPEN : Addr}
    {cd_OPEN : Option Addr}
    {cs_OPEN : Array (Option Value)}
    {cn_OPEN : Nat}
    {tk0 : Tok}
    (a_open_cuts : PySem.W.nsIn K mainGlobals "open_cuts" = some (some (.ref f_open_cuts))) (l_open_cuts : K.lookup f_open_cuts = some ⟨oc_open_cuts, od_open_cuts, .func (PySem.W.fnOf "open_cuts" "open_cuts" (defArgs s_open_cuts) (defBody s_open_cuts) (defScope s_open_cuts) .none kV_open_cuts dc_open_cuts pm_open_cuts an_open_cuts cd_open_cuts ct_open_cuts), sl_open_cuts⟩) (c_open_cuts : PySem.W.codeIn K cd_open_cuts "open_cuts" = true) (k_open_cuts : PySem.W.keepIn K (.ref f_open_cuts) = true)
    (a_law_start : PySem.W.nsIn K mainGlobals "_law_start" = some (some (.ref f_law_start))) (l_law_start : K.lookup f_law_start = some ⟨oc_law_start, od_law_start, .func (PySem.W.fnOf "_law_start" "_law_start" (defArgs s_law_start) (defBody s_law_start) (defScope s_law_start) .none kV_law_start dc_law_start pm_law_start an_law_start cd_law_start ct_law_start), sl_law_start⟩) (c_law_start : PySem.W.codeIn K cd_law_start "_law_start" = true) (k_law_start : PySem.W.keepIn K (.ref f_law_start) = true)
    (a_law_draw : PySem.W.nsIn K mainGlobals "_law_draw" = some (some (.ref f_law_draw))) (l_law_draw : K.lookup f_law_draw = some ⟨oc_law_draw, od_law_draw, .func (PySem.W.fnOf "_law_draw" "_law_draw" (defArgs s_law_draw) (defBody s_law_draw) (defScope s_law_draw) .none kV_law_draw dc_law_draw pm_law_draw an_law_draw cd_law_draw ct_law_draw), sl_law_draw⟩) (c_law_draw : PySem.W.codeIn K cd_law_draw "_law_draw" = true) (k_law_draw : PySem.W.keepIn K (.ref f_law_draw) = true)
    (a_law_one_of : PySem.W.nsIn K mainGlobals "_law_one_of" = some (some (.ref f_law_one_of))) (l_law_one_of : K.lookup f_law_one_of = some ⟨oc_law_one_of, od_law_one_of, .func (PySem.W.fnOf "_law_one_of" "_law_one_of" (defArgs s_law_one_of) (defBody s_law_one_of) (defScope s_law_one_of) .none kV_law_one_of dc_law_one_of pm_law_one_of an_law_one_of cd_law_one_of ct_law_one_of), sl_law_one_of⟩) (c_law_one_of : PySem.W.codeIn K cd_law_one_of "_law_one_of" = true) (k_law_one_of : PySem.W.keepIn K (.ref f_law_one_of) = true)
    (a_law_words : PySem.W.nsIn K mainGlobals "_law_words" = some (some (.ref f_law_words))) (l_law_words : K.lookup f_law_words = some ⟨oc_law_words, od_law_words, .func (PySem.W.fnOf "_law_words" "_law_words" (defArgs s_law_words) (defBody s_law_words) (defScope s_law_words) .none kV_law_words dc_law_words pm_law_words an_law_words cd_law_words ct_law_words), sl_law_words⟩) (c_law_words : PySem.W.codeIn K cd_law_words "_law_words" = true) (k_law_words : PySem.W.keepIn K (.ref f_law_words) = true)
    (a_law_is_int : PySem.W.nsIn K mainGlobals "_law_is_int" = some (some (.ref f_law_is_int))) (l_law_is_int : K.lookup f_law_is_int = some ⟨oc_law_is_int, od_law_is_int, .func (PySem.W.fnOf "_law_is_int" "_law_is_int" (defArgs s_law_is_int) (defBody s_law_is_int) (defScope s_law_is_int) .none kV_law_is_int dc_law_is_int pm_law_is_int an_law_is_int cd_law_is_int ct_law_is_int), sl_law_is_int⟩) (c_law_is_int : PySem.W.codeIn K cd_law_is_int "_law_is_int" = true) (k_law_is_int : PySem.W.keepIn K (.ref f_law_is_int) = true)
    (a_law_same : PySem.W.nsIn K mainGlobals "_law_same" = some (some (.ref f_law_same))) (l_law_same : K.lookup f_law_same = some ⟨oc_law_same, od_law_same, .func (PySem.W.fnOf "_law_same" "_law_same" (defArgs s_law_same) (defBody s_law_same) (defScope s_law_same) .none kV_law_same dc_law_same pm_law_same an_law_same cd_law_same ct_law_same), sl_law_same⟩) (c_law_same : PySem.W.codeIn K cd_law_same "_law_same" = true) (k_law_same : PySem.W.keepIn K (.ref f_law_same) = true)
    (a_law_path : PySem.W.nsIn K mainGlobals "_law_path" = some (some (.ref f_law_path))) (l_law_path : K.lookup f_law_path = some ⟨oc_law_path, od_law_path, .func (PySem.W.fnOf "_law_path" "_law_path" (defArgs s_law_path) (defBody s_law_path) (defScope s_law_path) .none kV_law_path dc_law_path pm_law_path an_law_path cd_law_path ct_law_path), sl_law_path⟩) (c_law_path : PySem.W.codeIn K cd_law_path "_law_path" = true) (k_law_path : PySem.W.keepIn K (.ref f_law_path) = true)
    (a_law_fate : PySem.W.nsIn K mainGlobals "_law_fate" = some (some (.ref f_law_fate))) (l_law_fate : K.lookup f_law_fate = some ⟨oc_law_fate, od_law_fate, .func (PySem.W.fnOf "_law_fate" "_law_fate" (defArgs s_law_fate) (defBody s_law_fate) (defScope s_law_fate) .none kV_law_fate dc_law_fate pm_law_fate an_law_fate cd_law_fate ct_law_fate), sl_law_fate⟩) (c_law_fate : PySem.W.codeIn K cd_law_fate "_law_fate" = true) (k_law_fate : PySem.W.keepIn K (.ref f_law_fate) = true)
    (a_law : PySem.W.nsIn K mainGlobals "law" = some (some (.ref f_law))) (l_law : K.lookup f_law = some ⟨oc_law, od_law, .func (PySem.W.fnOf "law" "law" (defArgs s_law) (defBody s_law) (defScope s_law) .none kV_law dc_law pm_law an_law cd_law ct_law), sl_law⟩) (c_law : PySem.W.codeIn K cd_law "law" = true) (k_law : PySem.W.keepIn K (.ref f_law) = true)
    (z_abs : PySem.W.nsIn K mainGlobals "abs" = some none)
    (z_all : PySem.W.nsIn K mainGlobals "all" = some none)
    (z_bool : PySem.W.nsIn K mainGlobals "bool" = some none)
    (z_int : PySem.W.nsIn K mainGlobals "int" = some none)
    (z_isinstance : PySem.W.nsIn K mainGlobals "isinstance" = some none)
    (z_len : PySem.W.nsIn K mainGlobals "len" = some none)
    (z_list : PySem.W.nsIn K mainGlobals "list" = some none)
    (z_range : PySem.W.nsIn K mainGlobals "range" = some none)
    (z_str : PySem.W.nsIn K mainGlobals "str" = some none)
    (z_tuple : PySem.W.nsIn K mainGlobals "tuple" = some none)
    (a_OPEN : PySem.W.nsIn K mainGlobals "OPEN" = some (some (.ref ca_OPEN))) (t_OPEN : K.lookup ca_OPEN = some ⟨.type "tuple", cd_OPEN, .seq #[.str "open" tk0] cn_OPEN, cs_OPEN⟩)
    : ∃ fd : FuncData, (∀ (s : Shared) (v : Value), BindsTo s fd ⟨[v], []⟩ [("script", v)]) ∧ ∀ base : Heap, K.In base → base.Ns mainGlobals mg → FnOk P w K mg base CX0 100 fa fd ["script"] (fun vs H Q E => ∀ fa, spM K fa (F 100 .law) 1 vs H Q E) := by
  have e : f_law = fa := by
    have := (PySem.W.mg_of X G a_law).symm.trans hfa
    cases this
    rfl
  subst e
  let ad : Fn → Addr := fun f => match f with
    | .open_cuts => f_open_cuts
    | .law_start => f_law_start
    | .law_draw => f_law_draw
    | .law_one_of => f_law_one_of
    | .law_words => f_law_words
    | .law_is_int => f_law_is_int
    | .law_same => f_law_same
    | .law_path => f_law_path
    | .law_fate => f_law_fate
    | .law => f_law
  let fd : Fn → FuncData := fun f => match f with
    | .open_cuts => PySem.W.fnOf "open_cuts" "open_cuts" (defArgs s_open_cuts) (defBody s_open_cuts) (defScope s_open_cuts) .none kV_open_cuts dc_open_cuts pm_open_cuts an_open_cuts cd_open_cuts ct_open_cuts
    | .law_start => PySem.W.fnOf "_law_start" "_law_start" (defArgs s_law_start) (defBody s_law_start) (defScope s_law_start) .none kV_law_start dc_law_start pm_law_start an_law_start cd_law_start ct_law_start
    | .law_draw => PySem.W.fnOf "_law_draw" "_law_draw" (defArgs s_law_draw) (defBody s_law_draw) (defScope s_law_draw) .none kV_law_draw dc_law_draw pm_law_draw an_law_draw cd_law_draw ct_law_draw
    | .law_one_of => PySem.W.fnOf "_law_one_of" "_law_one_of" (defArgs s_law_one_of) (defBody s_law_one_of) (defScope s_law_one_of) .none kV_law_one_of dc_law_one_of pm_law_one_of an_law_one_of cd_law_one_of ct_law_one_of
    | .law_words => PySem.W.fnOf "_law_words" "_law_words" (defArgs s_law_words) (defBody s_law_words) (defScope s_law_words) .none kV_law_words dc_law_words pm_law_words an_law_words cd_law_words ct_law_words
    | .law_is_int => PySem.W.fnOf "_law_is_int" "_law_is_int" (defArgs s_law_is_int) (defBody s_law_is_int) (defScope s_law_is_int) .none kV_law_is_int dc_law_is_int pm_law_is_int an_law_is_int cd_law_is_int ct_law_is_int
    | .law_same => PySem.W.fnOf "_law_same" "_law_same" (defArgs s_law_same) (defBody s_law_same) (defScope s_law_same) .none kV_law_same dc_law_same pm_law_same an_law_same cd_law_same ct_law_same
    | .law_path => PySem.W.fnOf "_law_path" "_law_path" (defArgs s_law_path) (defBody s_law_path) (defScope s_law_path) .none kV_law_path dc_law_path pm_law_path an_law_path cd_law_path ct_law_path
    | .law_fate => PySem.W.fnOf "_law_fate" "_law_fate" (defArgs s_law_fate) (defBody s_law_fate) (defScope s_law_fate) .none kV_law_fate dc_law_fate pm_law_fate an_law_fate cd_law_fate ct_law_fate
    | .law => PySem.W.fnOf "law" "law" (defArgs s_law) (defBody s_law) (defScope s_law) .none kV_law dc_law pm_law an_law cd_law ct_law
  have fn : ∀ f : Fn, Fun K f.nm f.nm f.st (ad f) (fd f) := fun f => match f with
    | .open_cuts => fun_mk (st := s_open_cuts) l_open_cuts c_open_cuts k_open_cuts
    | .law_start => fun_mk (st := s_law_start) l_law_start c_law_start k_law_start
    | .law_draw => fun_mk (st := s_law_draw) l_law_draw c_law_draw k_law_draw
    | .law_one_of => fun_mk (st := s_law_one_of) l_law_one_of c_law_one_of k_law_one_of
    | .law_words => fun_mk (st := s_law_words) l_law_words c_law_words k_law_words
    | .law_is_int => fun_mk (st := s_law_is_int) l_law_is_int c_law_is_int k_law_is_int
    | .law_same => fun_mk (st := s_law_same) l_law_same c_law_same k_law_same
    | .law_path => fun_mk (st := s_law_path) l_law_path c_law_path k_law_path
    | .law_fate => fun_mk (st := s_law_fate) l_law_fate c_law_fate k_law_fate
    | .law => fun_mk (st := s_law) l_law c_law k_law
  have bi : ∀ f : Fn, Binds K (fd f) f.ps [] := fun f => match f with
    | .open_cuts => (fn .open_cuts).binds (ps := ["datum"]) fun _ _ _ _ _ _ us hl => match us, hl with | [_], _ => rfl
    | .law_start => (fn .law_start).binds (ps := ["script"]) fun _ _ _ _ _ _ us hl => match us, hl with | [_], _ => rfl
    | .law_draw => (fn .law_draw).binds (ps := ["state", "most"]) fun _ _ _ _ _ _ us hl => match us, hl with | [_, _], _ => rfl
    | .law_one_of => (fn .law_one_of).binds (ps := ["state", "items"]) fun _ _ _ _ _ _ us hl => match us, hl with | [_, _], _ => rfl
    | .law_words => (fn .law_words).binds (ps := ["state", "many"]) fun _ _ _ _ _ _ us hl => match us, hl with | [_, _], _ => rfl
    | .law_is_int => (fn .law_is_int).binds (ps := ["x"]) fun _ _ _ _ _ _ us hl => match us, hl with | [_], _ => rfl
    | .law_same => (fn .law_same).binds (ps := ["x", "y"]) fun _ _ _ _ _ _ us hl => match us, hl with | [_, _], _ => rfl
    | .law_path => (fn .law_path).binds (ps := ["state"]) fun _ _ _ _ _ _ us hl => match us, hl with | [_], _ => rfl
    | .law_fate => (fn .law_fate).binds (ps := ["state"]) fun _ _ _ _ _ _ us hl => match us, hl with | [_], _ => rfl
    | .law => (fn .law).binds (ps := ["script"]) fun _ _ _ _ _ _ us hl => match us, hl with | [_], _ => rfl
  have fm : ∀ f : Fn, mg f.nm = some (.ref (ad f)) := fun f => match f with
    | .open_cuts => PySem.W.mg_of X G a_open_cuts
    | .law_start => PySem.W.mg_of X G a_law_start
    | .law_draw => PySem.W.mg_of X G a_law_draw
    | .law_one_of => PySem.W.mg_of X G a_law_one_of
    | .law_words => PySem.W.mg_of X G a_law_words
    | .law_is_int => PySem.W.mg_of X G a_law_is_int
    | .law_same => PySem.W.mg_of X G a_law_same
    | .law_path => PySem.W.mg_of X G a_law_path
    | .law_fate => PySem.W.mg_of X G a_law_fate
    | .law => PySem.W.mg_of X G a_law
  have T : Tx K mg ad fd := ⟨fm, fn, bi, PySem.W.mg_none_of X G z_abs, PySem.W.mg_none_of X G z_all, PySem.W.mg_none_of X G z_bool, PySem.W.mg_none_of X G z_int, PySem.W.mg_none_of X G z_isinstance, PySem.W.mg_none_of X G z_len, PySem.W.mg_none_of X G z_list, PySem.W.mg_none_of X G z_range, PySem.W.mg_none_of X G z_str, PySem.W.mg_none_of X G z_tuple, ⟨.ref ca_OPEN, .ref ca_OPEN, PySem.W.mg_of X G a_OPEN, rfl, fun fa ρ H => .ctup (vs := [V.str "open"]) (fun H => .inr ⟨_, _, _, t_OPEN, rfl, rfl, by show 1 ≤ sizeLine; decide +kernel, .cons (⟨_, rfl⟩) (.nil)⟩) (.cons (.str _) (.nil))⟩⟩
  exact ⟨fd .law, fun s v => .of_eq rfl, fun base _ _ => (ok_all T 100 .law).imp fun vs H Q E h => h (fas ad)⟩
end Lw
namespace Lw
open PySem PySem.Spec PyProof.Rows L2 Z
theorem walk {l : PySem.W.OpenLaw} {q : Program} {loose : List Str} {XP : (Str → Option Value) → Heap → Prop} {YP : World → Heap → Prop} {d : DefRec} {K : Params → PySem.W.Frag} (hl : ∀ ns : List Int, ns.length ≤ 63 → ∃ st, F 100 .law [.clst (ns.map D.int)] [] = some (.bl true, st))
    (hn : l.most = some 63) (hdf : d.params.defaults = []) (hY : ∀ (w : World) (h : Heap), YP w h → (K w.params).In h)
    (G : ∀ (w : World) (mg : Str → Option Value) (fa : Addr) (h : Heap), (K w.params).In h → h.Ns mainGlobals mg → mg d.name = some (.ref fa) → ∃ fd : FuncData, (∀ (s : Shared) (u : Value), BindsTo s fd ⟨[u], []⟩ [("script", u)]) ∧
      ∀ base : Heap, (K w.params).In base → base.Ns mainGlobals mg → FnOk l.prog w (K w.params) mg base CX0 100 fa fd ["script"] (fun vs H Q E => ∀ fa, spM (K w.params) fa (F 100 .law) 1 vs H Q E)) :
    PySem.W.WalkO q loose XP YP l.row.toRowW d [] (fun f vs => PySem.call f vs) :=
  L2.walk_of (n := 63) (k := 100) (x := "script") (CX := fun _ => CX0) (sp := fun w => fun vs H Q E => ∀ fa, spM (K w.params) fa (F 100 .law) 1 vs H Q E) hn (by decide) hdf ⟨rfl, by decide, by decide⟩ hY G (fun w H a ns hl2 hO hS fa => by
    obtain ⟨st, hst⟩ := hl ns hl2
    refine ⟨[], [], _, _, st, rfl, ⟨rfl, List.nodup_nil, fun n a o h => by simp at h⟩, .cons (.clst (vs := ns.map V.int) ?_ (RpL.ints ns)) .nil, hst, fun v H2 ρ2 _ _ r => by cases r; rfl⟩
    rcases hS with (h | ⟨o, h⟩) | h
    · rcases hO a with z | ⟨o, xs, z⟩
      · rw [z] at h; cases h
      · rw [z] at h; cases h
    · exact .inl ⟨o, h⟩
    · exact .inr fun H => .inr h) fun _ _ _ _ _ z => z
end Lw
open PySem PySem.W PyProof.Rows in
set_option maxRecDepth 100000 in
set_option maxHeartbeats 0 in
theorem PySem.Challenge.cw_onlywhatmatters_k25_open_cuts_holds : PySem.Challenge.rw_onlywhatmatters_k25_open_cuts.Holds := by
  w_on; o_law; k_head; (case hw => w_witness2)
  k_fill
  refine Lw.walk (l := PySem.Challenge.rw_onlywhatmatters_k25_open_cuts) Lw.law_true rfl rfl (fun w h Y => PySem.W.kIn_of Y) ?G
  case G =>
    intro w mg fa h KX G hmg
    refine' Lw.all_mk KX G hmg ?a_open_cuts ?l_open_cuts ?c_open_cuts ?k_open_cuts ?a_law_start ?l_law_start ?c_law_start ?k_law_start ?a_law_draw ?l_law_draw ?c_law_draw ?k_law_draw ?a_law_one_of ?l_law_one_of ?c_law_one_of ?k_law_one_of ?a_law_words ?l_law_words ?c_law_words ?k_law_words ?a_law_is_int ?l_law_is_int ?c_law_is_int ?k_law_is_int ?a_law_same ?l_law_same ?c_law_same ?k_law_same ?a_law_path ?l_law_path ?c_law_path ?k_law_path ?a_law_fate ?l_law_fate ?c_law_fate ?k_law_fate ?a_law ?l_law ?c_law ?k_law ?z_abs ?z_all ?z_bool ?z_int ?z_isinstance ?z_len ?z_list ?z_range ?z_str ?z_tuple ?a_OPEN ?t_OPEN
    (case a_open_cuts => k_is)
    (case l_open_cuts => k_is)
    (case c_open_cuts => k_is)
    (case k_open_cuts => k_is)
    (case a_law_start => k_is)
    (case l_law_start => k_is)
    (case c_law_start => k_is)
    (case k_law_start => k_is)
    (case a_law_draw => k_is)
    (case l_law_draw => k_is)
    (case c_law_draw => k_is)
    (case k_law_draw => k_is)
    (case a_law_one_of => k_is)
    (case l_law_one_of => k_is)
    (case c_law_one_of => k_is)
    (case k_law_one_of => k_is)
    (case a_law_words => k_is)
    (case l_law_words => k_is)
    (case c_law_words => k_is)
    (case k_law_words => k_is)
    (case a_law_is_int => k_is)
    (case l_law_is_int => k_is)
    (case c_law_is_int => k_is)
    (case k_law_is_int => k_is)
    (case a_law_same => k_is)
    (case l_law_same => k_is)
    (case c_law_same => k_is)
    (case k_law_same => k_is)
    (case a_law_path => k_is)
    (case l_law_path => k_is)
    (case c_law_path => k_is)
    (case k_law_path => k_is)
    (case a_law_fate => k_is)
    (case l_law_fate => k_is)
    (case c_law_fate => k_is)
    (case k_law_fate => k_is)
    (case a_law => k_is)
    (case l_law => k_is)
    (case c_law => k_is)
    (case k_law => k_is)
    (case z_abs => k_is)
    (case z_all => k_is)
    (case z_bool => k_is)
    (case z_int => k_is)
    (case z_isinstance => k_is)
    (case z_len => k_is)
    (case z_list => k_is)
    (case z_range => k_is)
    (case z_str => k_is)
    (case z_tuple => k_is)
    (case a_OPEN => k_is)
    (case t_OPEN => k_is)

