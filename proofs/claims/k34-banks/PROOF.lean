import PyProof.Rows.All
import Wide.All
import OpenK.AllK
import Wide.FinOn
import HandS.ForMost
import HandS.CallSlots
import HandS.Wide
import HandS.Deep
import HandS.IsInst
import HandS.Conv
import HandS.Flow
import HandS.Style
import HandS.Exc
import HandS.ExcOwn
import HandS.WordsExc
import HandS.HeadHook1
import HandS.HotCalls
import HandS.TupLen
import HandS.More
import HandS.DictComp
import HandS.Small
import HandS.SortKw
import HandS.Rev
import HandS.RevTup
import HandS.Iter
import KE.DataMinKey
import HandS.Defaults
import HandS.HeadHook2
import HandS.Codes
import HandS.Ends
import HandS.HeadEnd
import HandS.ExcInit
import KE.KExcSuper
import KE.KSuper
import HandS.ExcField
import HandS.ExcIs
import PyProof.DictDisplay
import PyProof.EqKinds
import HandS.SortRule
import HandS.Property
import HandS.SlotsOwn
import HandS.ExcCtx
import HandS.Head0
import HandS.Head1
import HandS.Head2
import PySem.Challenge.RW_neverpenned_k34_banks
set_option Elab.async false
set_option linter.all false
set_option maxRecDepth 100000
/-! NP0: values, heaps by index, what they stand for, judgements. -/
namespace NP
open PySem PySem.Spec PyProof.Rows L2

inductive AV where
  | non | bl (b : Bool) | int (i : Int) | str (x : Str) | tup (xs : List AV) | ct (xs : List AV) | ref (n : Nat) | cl (xs : List AV) | rng (lo hi : Int)
  deriving Inhabited
inductive AO where
  | lst (xs : List AV) | dk (kvs : List (Key × AV)) | dt (kvs : List (List Key × AV)) | ins (C : Str) (fs : List (Str × AV)) | xd (fs : List (Str × AV))
  deriving Inhabited
abbrev AH := List AO
abbrev AEnv := List (Option AV)

/-! ### what never changes -/
def Imm : HO → Bool
  | .tup _ => true
  | .rng _ _ => true
  | .frz _ (.lst _) => true
  | .frz _ (.tup _) => true
  | .ext _ => true
  | _ => false
def Keep (H H' : Hp) : Prop := ∀ b u, Imm u = true → H b = some u → H' b = some u
theorem Keep.refl (H : Hp) : Keep H H := fun _ _ _ h => h
theorem Keep.trans {H H1 H2 : Hp} (a : Keep H H1) (b : Keep H1 H2) : Keep H H2 := fun c u i h => b c u i (a c u i h)
theorem Keep.new {H : Hp} {p : Addr} {o : HO} (h : H p = none) : Keep H (upd H p o) := fun a u _ e => by
  rw [upd_ne (ne_of_none e h)]; exact e
theorem Keep.write {H : Hp} {p : Addr} {o o' : HO} (h : H p = some o) (i : Imm o = false) : Keep H (upd H p o') := fun a u j e => by
  rw [upd_ne (ne_of e h (by rintro rfl; rw [i] at j; cases j))]; exact e
theorem rd_keepT {H H' : Hp} {a : Addr} {xs : List V} (k : Keep H H') (h : Rd H a (.tup xs)) : Rd H' a (.tup xs) := by
  rcases h with h | ⟨o, h⟩
  · exact .inl (k _ _ rfl h)
  · exact .inr ⟨o, k _ _ rfl h⟩
theorem sqT_keep {K : PySem.W.Frag} {H H' : Hp} {a : Addr} {xs : List V} (k : Keep H H') (h : SqT K H a xs) : SqT K H' a xs := by
  rcases h with h | h
  · exact .inl (rd_keepT k h)
  · exact .inr h
/-- a list that is only read -/
def FzL (K : PySem.W.Frag) (H : Hp) (a : Addr) (xs : List V) : Prop :=
  (∃ o, H a = some (.frz o (.lst xs))) ∨
    ∃ (o : Obj) (its : Array Value) (n : Nat), K.lookup a = some o ∧ o.cls = .type "list" ∧ o.dict = none ∧ o.data = .seq its n ∧ its.size ≤ sizeLine ∧ Vals xs its.toList
theorem FzL.keep {K : PySem.W.Frag} {H H' : Hp} {a : Addr} {xs : List V} (k : Keep H H') (h : FzL K H a xs) : FzL K H' a xs := by
  rcases h with ⟨o, h⟩ | h
  · exact .inl ⟨o, k _ _ rfl h⟩
  · exact .inr h
theorem FzL.sq {K : PySem.W.Frag} {H : Hp} {a : Addr} {xs : List V} (h : FzL K H a xs) : SqL K H a xs := by
  rcases h with ⟨o, h⟩ | h
  · exact .inl (.inr ⟨o, h⟩)
  · exact .inr h

/-- a tuple of the module's own top -/
def KtT (K : PySem.W.Frag) (a : Addr) (xs : List V) : Prop :=
  ∃ (o : Obj) (its : Array Value) (n : Nat), K.lookup a = some o ∧ o.cls = .type "tuple" ∧ o.data = .seq its n ∧ its.size ≤ sizeLine ∧ Vals xs its.toList
theorem KtT.sq {K : PySem.W.Frag} {H : Hp} {a : Addr} {xs : List V} (h : KtT K a xs) : SqT K H a xs := .inr h

/-! ### representation -/
structure Ext (ρ ρ' : List Addr) (H H' : Hp) : Prop where
  pre : ρ <+: ρ'
  keep : Keep H H'
theorem Ext.refl (ρ : List Addr) (H : Hp) : Ext ρ ρ H H := ⟨List.prefix_rfl, Keep.refl H⟩
theorem Ext.trans {ρ ρ1 ρ2 : List Addr} {H H1 H2 : Hp} (a : Ext ρ ρ1 H H1) (b : Ext ρ1 ρ2 H1 H2) : Ext ρ ρ2 H H2 := ⟨a.pre.trans b.pre, a.keep.trans b.keep⟩
theorem Ext.get {ρ ρ' : List Addr} {H H' : Hp} {n : Nat} {a : Addr} (e : Ext ρ ρ' H H') (h : ρ[n]? = some a) : ρ'[n]? = some a := by
  obtain ⟨t, rfl⟩ := e.pre
  rw [List.getElem?_append_left (List.getElem?_eq_some_iff.mp h).1]; exact h

mutual
inductive RepV (K : PySem.W.Frag) (ρ : List Addr) (H : Hp) : AV → V → Prop
  | non : RepV K ρ H .non .non
  | bl (b : Bool) : RepV K ρ H (.bl b) (.bl b)
  | int (i : Int) : RepV K ρ H (.int i) (.int i)
  | str (x : Str) : RepV K ρ H (.str x) (.str x)
  | tup {a : Addr} {xs : List AV} {vs : List V} : H a = some (.tup vs) → RepVs K ρ H xs vs → RepV K ρ H (.tup xs) (.ref a)
  | ct {a : Addr} {xs : List AV} {vs : List V} : KtT K a vs → RepVs K ρ H xs vs → RepV K ρ H (.ct xs) (.ref a)
  | ref {a : Addr} {n : Nat} : ρ[n]? = some a → RepV K ρ H (.ref n) (.ref a)
  | cl {a : Addr} {xs : List AV} {vs : List V} : FzL K H a vs → RepVs K ρ H xs vs → RepV K ρ H (.cl xs) (.ref a)
  | rng {a : Addr} {lo hi : Int} : H a = some (.rng lo hi) → RepV K ρ H (.rng lo hi) (.ref a)
inductive RepVs (K : PySem.W.Frag) (ρ : List Addr) (H : Hp) : List AV → List V → Prop
  | nil : RepVs K ρ H [] []
  | cons {x : AV} {xs : List AV} {v : V} {vs : List V} : RepV K ρ H x v → RepVs K ρ H xs vs → RepVs K ρ H (x :: xs) (v :: vs)
end
section
variable {K : PySem.W.Frag} {ρ ρ' : List Addr} {H H' : Hp}
mutual
theorem RepV.mono (e : Ext ρ ρ' H H') : ∀ {a : AV} {v : V}, RepV K ρ H a v → RepV K ρ' H' a v
  | _, _, .non => .non
  | _, _, .bl b => .bl b
  | _, _, .int i => .int i
  | _, _, .str x => .str x
  | _, _, .tup h t => .tup (e.keep _ _ rfl h) (RepVs.mono e t)
  | _, _, .ct h t => .ct h (RepVs.mono e t)
  | _, _, .ref h => .ref (e.get h)
  | _, _, .cl h t => .cl (h.keep e.keep) (RepVs.mono e t)
  | _, _, .rng h => .rng (e.keep _ _ rfl h)
theorem RepVs.mono (e : Ext ρ ρ' H H') : ∀ {a : List AV} {v : List V}, RepVs K ρ H a v → RepVs K ρ' H' a v
  | _, _, .nil => .nil
  | _, _, .cons h t => .cons (RepV.mono e h) (RepVs.mono e t)
end
theorem RepVs.length : ∀ {a : List AV} {v : List V}, RepVs K ρ H a v → a.length = v.length
  | _, _, .nil => rfl
  | _, _, .cons _ t => by rw [List.length_cons, List.length_cons, RepVs.length t]
theorem RepVs.get : ∀ {a : List AV} {v : List V} {i : Nat} {x : AV}, RepVs K ρ H a v → a[i]? = some x → ∃ u, v[i]? = some u ∧ RepV K ρ H x u
  | _, _, i, _, .nil, e => by simp at e
  | _, _, 0, _, .cons h _, e => by simp at e; subst e; exact ⟨_, rfl, h⟩
  | _, _, i + 1, _, .cons _ t, e => by
    obtain ⟨u, h1, h2⟩ := RepVs.get (i := i) t (by simpa using e)
    exact ⟨u, by simpa using h1, h2⟩
theorem RepVs.getR : ∀ {a : List AV} {v : List V} {i : Nat} {u : V}, RepVs K ρ H a v → v[i]? = some u → ∃ x, a[i]? = some x ∧ RepV K ρ H x u
  | _, _, i, _, .nil, e => by simp at e
  | _, _, 0, _, .cons h _, e => by simp at e; subst e; exact ⟨_, rfl, h⟩
  | _, _, i + 1, _, .cons _ t, e => by
    obtain ⟨u, h1, h2⟩ := RepVs.getR (i := i) t (by simpa using e)
    exact ⟨u, by simpa using h1, h2⟩
theorem RepVs.append : ∀ {a b : List AV} {v w : List V}, RepVs K ρ H a v → RepVs K ρ H b w → RepVs K ρ H (a ++ b) (v ++ w)
  | _, _, _, _, .nil, h => h
  | _, _, _, _, .cons h t, h' => .cons h (RepVs.append t h')
theorem RepVs.set {x : AV} {u : V} (hx : RepV K ρ H x u) : ∀ {a : List AV} {v : List V} (i : Nat), RepVs K ρ H a v → RepVs K ρ H (a.set i x) (v.set i u)
  | _, _, _, .nil => .nil
  | _, _, 0, .cons _ t => .cons hx t
  | _, _, i + 1, .cons h t => .cons h (RepVs.set hx i t)
theorem RepVs.take : ∀ {a : List AV} {v : List V} (n : Nat), RepVs K ρ H a v → RepVs K ρ H (a.take n) (v.take n)
  | _, _, 0, _ => .nil
  | _, _, _ + 1, .nil => .nil
  | _, _, n + 1, .cons h t => .cons h (RepVs.take n t)
theorem RepVs.drop : ∀ {a : List AV} {v : List V} (n : Nat), RepVs K ρ H a v → RepVs K ρ H (a.drop n) (v.drop n)
  | _, _, 0, h => h
  | _, _, _ + 1, .nil => .nil
  | _, _, n + 1, .cons _ t => RepVs.drop n t
theorem RepVs.ints : ∀ {ns : List Int}, RepVs K ρ H (ns.map AV.int) (ns.map V.int)
  | [] => .nil
  | n :: ns => .cons (.int n) RepVs.ints
theorem RepVs.reverse : ∀ {a : List AV} {v : List V}, RepVs K ρ H a v → RepVs K ρ H a.reverse v.reverse
  | _, _, .nil => .nil
  | _, _, .cons h t => by
    rw [List.reverse_cons, List.reverse_cons]
    exact (RepVs.reverse t).append (.cons h .nil)
theorem RepVs.dropLast : ∀ {a : List AV} {v : List V}, RepVs K ρ H a v → RepVs K ρ H a.dropLast v.dropLast
  | _, _, .nil => .nil
  | _, _, .cons h .nil => .nil
  | _ :: _ :: _, _ :: _ :: _, .cons h (.cons h' t) => .cons h (RepVs.dropLast (.cons h' t))
end

/-- the values of a table -/
def RepKV {κ : Type} (K : PySem.W.Frag) (ρ : List Addr) (H : Hp) : List (κ × AV) → List (κ × V) → Prop := Paired fun p q => p.1 = q.1 ∧ RepV K ρ H p.2 q.2
def RepO (K : PySem.W.Frag) (ρ : List Addr) (H : Hp) : AO → HO → Prop
  | .lst xs, .lst vs => RepVs K ρ H xs vs
  | .dk xs, .dK vs => RepKV K ρ H xs vs
  | .dt xs, .dT vs => RepKV K ρ H xs vs
  | .ins C fs, .ins C' _ vs => C' = He.ga K C ∧ RepKV K ρ H fs vs
  | .xd fs, .xd vs => RepKV K ρ H fs vs
  | _, _ => False
structure Rep (K : PySem.W.Frag) (ρ : List Addr) (Λ : AH) (H : Hp) : Prop where
  len : ρ.length = Λ.length
  nd : ρ.Nodup
  obj : ∀ (n : Nat) (a : Addr) (o : AO), ρ[n]? = some a → Λ[n]? = some o → ∃ u, H a = some u ∧ RepO K ρ H o u
section
variable {K : PySem.W.Frag} {ρ ρ' : List Addr} {Λ : AH} {H H' : Hp}
theorem RepKV.mono {κ : Type} (e : Ext ρ ρ' H H') {x : List (κ × AV)} {y : List (κ × V)} (h : RepKV K ρ H x y) : RepKV K ρ' H' x y := Paired.mapP h fun _ _ q => ⟨q.1, q.2.mono e⟩
theorem RepO.mono (e : Ext ρ ρ' H H') {o : AO} {u : HO} (h : RepO K ρ H o u) : RepO K ρ' H' o u := by
  cases o <;> cases u <;> first
    | exact RepVs.mono e h
    | exact RepKV.mono e h
    | exact ⟨h.1, RepKV.mono e h.2⟩
    | exact h
theorem RepO.mut {o : AO} {u : HO} (h : RepO K ρ H o u) : Imm u = false := by
  cases o <;> cases u <;> first | rfl | exact h.elim
theorem Rep.at (r : Rep K ρ Λ H) {n : Nat} {o : AO} (h : Λ[n]? = some o) : ∃ a u, ρ[n]? = some a ∧ H a = some u ∧ RepO K ρ H o u := by
  have hl : n < ρ.length := by rw [r.len]; exact (List.getElem?_eq_some_iff.mp h).1
  obtain ⟨u, h1, h2⟩ := r.obj n ρ[n] o (List.getElem?_eq_getElem hl) h
  exact ⟨ρ[n], u, List.getElem?_eq_getElem hl, h1, h2⟩
theorem Rep.at' (r : Rep K ρ Λ H) {n : Nat} {o : AO} {a : Addr} (h : Λ[n]? = some o) (ha : ρ[n]? = some a) : ∃ u, H a = some u ∧ RepO K ρ H o u := r.obj n a o ha h
theorem Rep.fresh (r : Rep K ρ Λ H) {p : Addr} (h : H p = none) : p ∉ ρ := fun hm => by
  obtain ⟨n, hn, e⟩ := List.getElem_of_mem hm
  have hl : n < Λ.length := by rw [← r.len]; exact hn
  obtain ⟨u, h1, _⟩ := r.obj n p Λ[n] (by rw [List.getElem?_eq_getElem hn, e]) (List.getElem?_eq_getElem hl)
  rw [h] at h1; cases h1
/-- a new untracked-by-us thing -/
theorem Rep.side (r : Rep K ρ Λ H) {p : Addr} {u : HO} (h : H p = none) : Rep K ρ Λ (upd H p u) ∧ Ext ρ ρ H (upd H p u) := by
  have e : Ext ρ ρ H (upd H p u) := ⟨List.prefix_rfl, Keep.new h⟩
  refine ⟨⟨r.len, r.nd, fun n a o ha ho => ?_⟩, e⟩
  obtain ⟨v, h1, h2⟩ := r.obj n a o ha ho
  exact ⟨v, by rw [upd_ne (ne_of_none h1 h)]; exact h1, h2.mono e⟩
theorem Rep.alloc (r : Rep K ρ Λ H) {p : Addr} {u : HO} {o : AO} (h : H p = none) (ho : RepO K ρ H o u) : Rep K (ρ ++ [p]) (Λ ++ [o]) (upd H p u) ∧ Ext ρ (ρ ++ [p]) H (upd H p u) ∧ (ρ ++ [p])[Λ.length]? = some p := by
  have e : Ext ρ (ρ ++ [p]) H (upd H p u) := ⟨List.prefix_append ρ [p], Keep.new h⟩
  have hp : (ρ ++ [p])[Λ.length]? = some p := by rw [← r.len]; simp
  refine ⟨⟨by simp [r.len], ?_, fun n a o' ha ho' => ?_⟩, e, hp⟩
  · rw [List.nodup_append]
    refine ⟨r.nd, by simp, fun a ha b hb => ?_⟩
    simp only [List.mem_singleton] at hb
    rintro rfl
    exact r.fresh h (hb ▸ ha)
  · by_cases hn : n < Λ.length
    · rw [List.getElem?_append_left (by rw [r.len]; exact hn)] at ha
      rw [List.getElem?_append_left hn] at ho'
      obtain ⟨v, h1, h2⟩ := r.obj n a o' ha ho'
      exact ⟨v, by rw [upd_ne (ne_of_none h1 h)]; exact h1, h2.mono e⟩
    · have hn' : n = Λ.length := by
        have := (List.getElem?_eq_some_iff.mp ho').1
        simp at this; omega
      subst hn'
      rw [hp] at ha
      rw [List.getElem?_append_right (Nat.le_refl _)] at ho'
      simp at ha ho'
      subst ha ho'
      exact ⟨u, upd_same, ho.mono e⟩
theorem Rep.write (r : Rep K ρ Λ H) {n : Nat} {p : Addr} {u : HO} {o o' : AO} (hp : ρ[n]? = some p) (ho : Λ[n]? = some o) (ho' : RepO K ρ H o' u) : Rep K ρ (Λ.set n o') (upd H p u) ∧ Ext ρ ρ H (upd H p u) := by
  obtain ⟨u0, h0, hr0⟩ := r.obj n p o hp ho
  have e : Ext ρ ρ H (upd H p u) := ⟨List.prefix_rfl, Keep.write h0 hr0.mut⟩
  refine ⟨⟨by rw [List.length_set]; exact r.len, r.nd, fun m a o1 ha h1 => ?_⟩, e⟩
  by_cases hm : m = n
  · subst hm
    rw [hp] at ha; cases ha
    rw [List.getElem?_set_self (List.getElem?_eq_some_iff.mp ho).1] at h1; cases h1
    exact ⟨u, upd_same, ho'.mono e⟩
  · rw [List.getElem?_set_ne (Ne.symm hm)] at h1
    obtain ⟨v, q1, q2⟩ := r.obj m a o1 ha h1
    refine ⟨v, ?_, q2.mono e⟩
    rw [upd_ne]
    · exact q1
    · rintro rfl
      obtain ⟨i1, e1⟩ := List.getElem?_eq_some_iff.mp ha
      obtain ⟨i2, e2⟩ := List.getElem?_eq_some_iff.mp hp
      exact hm ((List.getElem_inj r.nd).mp (e1.trans e2.symm))
end

/-! ### the frame -/
def RepD (ρ : List Addr) (m : Option Nat) (d : Option Addr) : Prop := match m with
  | none => d = none
  | some n => ∃ a, ρ[n]? = some a ∧ d = some a
theorem RepD.pre {ρ ρ' : List Addr} {m : Option Nat} {d : Option Addr} (h : RepD ρ m d) (e : ρ <+: ρ') : RepD ρ' m d := by
  cases m with
  | none => exact h
  | some n =>
    obtain ⟨a, h1, h2⟩ := h
    obtain ⟨t, rfl⟩ := e
    exact ⟨a, by rw [List.getElem?_append_left (List.getElem?_eq_some_iff.mp h1).1]; exact h1, h2⟩
/-- the exception that is handled: its object, its class's name, the slot of its name, its fields' place -/
structure HX where
  a : Addr
  oe : Obj
  c : Str
  slot : Option Nat
  m : Option Nat
def hxNe : Option HX → Nat → Bool
  | none, _ => true
  | some x, i => decide (x.slot ≠ some i)
structure RepE (K : PySem.W.Frag) (hx : Option HX) (ρ : List Addr) (H : Hp) (δ : AEnv) (σ : L2.St) : Prop where
  len : δ.length = σ.length
  val : ∀ (i : Nat) (x : AV), δ[i]? = some (some x) → ∃ v, σ[i]? = some (some v) ∧ RepV K ρ H x v
  exc : ∀ x i, hx = some x → x.slot = some i → σ[i]? = some (some (.ref x.a)) ∧ RepD ρ x.m x.oe.dict
section
variable {K : PySem.W.Frag} {hx : Option HX} {ρ ρ' : List Addr} {H H' : Hp} {δ : AEnv} {σ : L2.St}
theorem hxNe_ok {i : Nat} (hn : hxNe hx i = true) : ∀ x, hx = some x → x.slot ≠ some i := by
  rintro x rfl
  exact of_decide_eq_true hn
theorem RepE.mono (e : Ext ρ ρ' H H') (h : RepE K hx ρ H δ σ) : RepE K hx ρ' H' δ σ := ⟨h.len, fun i x hx => let ⟨v, h1, h2⟩ := h.val i x hx; ⟨v, h1, h2.mono e⟩, fun x i hx hs => let ⟨h1, h2⟩ := h.exc x i hx hs; ⟨h1, h2.pre e.pre⟩⟩
theorem RepE.set (h : RepE K hx ρ H δ σ) {i : Nat} {x : AV} {v : V} (hn : hxNe hx i = true) (ht : RepV K ρ H x v) : RepE K hx ρ H (δ.set i (some x)) (σ.set i (some v)) := by
  refine ⟨by rw [List.length_set, List.length_set]; exact h.len, fun j y hy => ?_, fun y k hy hk => ?_⟩
  · by_cases hj : j = i
    · subst hj
      have hl : j < δ.length := by have := (List.getElem?_eq_some_iff.mp hy).1; simpa using this
      rw [List.getElem?_set_self hl] at hy; cases hy
      exact ⟨v, by rw [List.getElem?_set_self (by rw [← h.len]; exact hl)], ht⟩
    · rw [List.getElem?_set_ne (Ne.symm hj)] at hy
      obtain ⟨w, h1, h2⟩ := h.val j y hy
      exact ⟨w, by rw [List.getElem?_set_ne (Ne.symm hj)]; exact h1, h2⟩
  · rw [List.getElem?_set_ne (fun z : i = k => hxNe_ok hn y hy (z ▸ hk))]
    exact h.exc y k hy hk
theorem RepE.unset (h : RepE K hx ρ H δ σ) {i : Nat} {o : Option V} (hn : hxNe hx i = true) : RepE K hx ρ H (δ.set i none) (σ.set i o) := by
  refine ⟨by rw [List.length_set, List.length_set]; exact h.len, fun j y hy => ?_, fun y k hy hk => ?_⟩
  · by_cases hj : j = i
    · subst hj
      have hl : j < δ.length := by have := (List.getElem?_eq_some_iff.mp hy).1; simpa using this
      rw [List.getElem?_set_self hl] at hy; cases hy
    · rw [List.getElem?_set_ne (Ne.symm hj)] at hy
      obtain ⟨w, h1, h2⟩ := h.val j y hy
      exact ⟨w, by rw [List.getElem?_set_ne (Ne.symm hj)]; exact h1, h2⟩
  · rw [List.getElem?_set_ne (fun z : i = k => hxNe_ok hn y hy (z ▸ hk))]
    exact h.exc y k hy hk
end
/-- the names of a comprehension are forgotten -/
def wipeA (δ : AEnv) : List Nat → AEnv
  | [] => δ
  | v :: vs => (wipeA δ vs).set v none
theorem RepE.wipe {K : PySem.W.Frag} {hx : Option HX} {ρ : List Addr} {H : Hp} {δ : AEnv} {σ : L2.St} (h : RepE K hx ρ H δ σ) (hc : hx = none) : ∀ vs, RepE K hx ρ H (wipeA δ vs) (L2.wipe σ vs)
  | [] => h
  | _ :: vs => (RepE.wipe h hc vs).unset (by rw [hc]; rfl)

/-! ### results -/
inductive R (α : Type) where
  | ok (a : α) (h : AH) | ex (c : Str) (m : Option Nat) (h : AH) | bad
def R.bind {α β : Type} (r : R α) (f : α → AH → R β) : R β := match r with
  | .ok a h => f a h
  | .ex c m h => .ex c m h
  | .bad => .bad
def liftR {α : Type} : Option (α × AH) → R α
  | some (a, h) => .ok a h
  | none => .bad
abbrev ME := AEnv → AH → R AV
abbrev MT := AEnv → AH → R Bool
abbrev MA := AEnv → AH → R (List AV)
/-- what is wanted of a result, at ρ, H -/
def Post {α β : Type} (K : PySem.W.Frag) (W : WX) (σ : L2.St) (T : List Addr → Hp → α → β → Prop) (ρ : List Addr) (H : Hp) (r : R α) (Q : β → Hp → Prop) : Prop := match r with
  | .ok a Λ' => ∀ ρ' u H', Ext ρ ρ' H H' → Rep K ρ' Λ' H' → T ρ' H' a u → Q u H'
  | .ex c m Λ' => ∀ ρ' H' d, Ext ρ ρ' H H' → Rep K ρ' Λ' H' → RepD ρ' m d → W (.ref (He.ga K c)) d σ H'
  | .bad => False
section
variable {α β γ ε : Type} {K : PySem.W.Frag} {W : WX} {σ : L2.St} {T : List Addr → Hp → α → β → Prop} {T' : List Addr → Hp → γ → ε → Prop} {ρ ρ' : List Addr} {H H' : Hp} {r : R α} {Q Q' : β → Hp → Prop}
theorem Post.step (e : Ext ρ ρ' H H') (h : Post K W σ T ρ H r Q) : Post K W σ T ρ' H' r Q := by
  cases r with
  | ok a Λ' => exact fun ρ2 u H2 e2 => h ρ2 u H2 (e.trans e2)
  | ex c m Λ' => exact fun ρ2 H2 d e2 => h ρ2 H2 d (e.trans e2)
  | bad => exact h
theorem Post.imp (h : Post K W σ T ρ H r Q) (k : ∀ u H', Q u H' → Q' u H') : Post K W σ T ρ H r Q' := by
  cases r with
  | ok a Λ' => exact fun ρ2 u H2 e2 r2 t => k _ _ (h ρ2 u H2 e2 r2 t)
  | ex c m Λ' => exact h
  | bad => exact h
theorem Post.bind {f : α → AH → R γ} {Q : ε → Hp → Prop} (h : Post K W σ T' ρ H (r.bind f) Q) :
    Post K W σ T ρ H r (fun u H1 => ∃ a Λ1 ρ1, Ext ρ ρ1 H H1 ∧ Rep K ρ1 Λ1 H1 ∧ T ρ1 H1 a u ∧ Post K W σ T' ρ1 H1 (f a Λ1) Q) := by
  cases r with
  | ok a Λ' => exact fun ρ2 u H2 e2 r2 t => ⟨a, Λ', ρ2, e2, r2, t, h.step e2⟩
  | ex c m Λ' => exact h
  | bad => exact h
theorem Post.ok {a : α} {u : β} {Λ : AH} (h : Post K W σ T ρ H (.ok a Λ) Q) (r : Rep K ρ Λ H) (t : T ρ H a u) : Q u H := h ρ u H (Ext.refl ρ H) r t
end
abbrev TV (K : PySem.W.Frag) : List Addr → Hp → AV → V → Prop := fun ρ H a v => RepV K ρ H a v
abbrev TVs (K : PySem.W.Frag) : List Addr → Hp → List AV → List V → Prop := fun ρ H a v => RepVs K ρ H a v
abbrev TB : List Addr → Hp → Bool → Bool → Prop := fun _ _ a b => a = b
/-- the reading of a function of ours -/
def tE (K : PySem.W.Frag) (hx : Option HX) (W : WX) (f : ME) : TE := fun σ H Q => ∃ ρ δ Λ, Rep K ρ Λ H ∧ RepE K hx ρ H δ σ ∧ Post K W σ (TV K) ρ H (f δ Λ) Q
def tT (K : PySem.W.Frag) (hx : Option HX) (W : WX) (f : MT) : TT := fun σ H Q => ∃ ρ δ Λ, Rep K ρ Λ H ∧ RepE K hx ρ H δ σ ∧ Post K W σ TB ρ H (f δ Λ) Q
def tA (K : PySem.W.Frag) (hx : Option HX) (W : WX) (f : MA) : TA := fun σ H Q => ∃ ρ δ Λ, Rep K ρ Λ H ∧ RepE K hx ρ H δ σ ∧ Post K W σ (TVs K) ρ H (f δ Λ) Q

/-! ### statements -/
inductive RS where
  | nx (δ : AEnv) (h : AH) | rt (v : AV) (h : AH) | bk (δ : AEnv) (h : AH) | ct (δ : AEnv) (h : AH) | ex (δ : AEnv) (c : Str) (m : Option Nat) (h : AH) | bad
abbrev MS := AEnv → AH → RS
def PostS (K : PySem.W.Frag) (hx : Option HX) (W : WX) (D : Ends) (ρ : List Addr) (H : Hp) (r : RS) : Prop := match r with
  | .nx δ Λ' => ∀ ρ' σ' H', Ext ρ ρ' H H' → Rep K ρ' Λ' H' → RepE K hx ρ' H' δ σ' → D.nx σ' H'
  | .rt v Λ' => ∀ ρ' u H', Ext ρ ρ' H H' → Rep K ρ' Λ' H' → RepV K ρ' H' v u → D.rt u H'
  | .bk δ Λ' => ∀ ρ' σ' H', Ext ρ ρ' H H' → Rep K ρ' Λ' H' → RepE K hx ρ' H' δ σ' → D.bk σ' H'
  | .ct δ Λ' => ∀ ρ' σ' H', Ext ρ ρ' H H' → Rep K ρ' Λ' H' → RepE K hx ρ' H' δ σ' → D.ct σ' H'
  | .ex δ c m Λ' => ∀ ρ' σ' H' d, Ext ρ ρ' H H' → Rep K ρ' Λ' H' → RepE K hx ρ' H' δ σ' → RepD ρ' m d → W (.ref (He.ga K c)) d σ' H'
  | .bad => False
section
variable {K : PySem.W.Frag} {hx : Option HX} {W : WX} {D D' : Ends} {ρ ρ' : List Addr} {H H' : Hp} {r : RS}
theorem PostS.step (e : Ext ρ ρ' H H') (h : PostS K hx W D ρ H r) : PostS K hx W D ρ' H' r := by
  cases r with
  | nx δ Λ' => exact fun ρ2 u H2 e2 => h ρ2 u H2 (e.trans e2)
  | rt v Λ' => exact fun ρ2 u H2 e2 => h ρ2 u H2 (e.trans e2)
  | bk δ Λ' => exact fun ρ2 u H2 e2 => h ρ2 u H2 (e.trans e2)
  | ct δ Λ' => exact fun ρ2 u H2 e2 => h ρ2 u H2 (e.trans e2)
  | ex δ c m Λ' => exact fun ρ2 u H2 d e2 => h ρ2 u H2 d (e.trans e2)
  | bad => exact h
end
def tS (K : PySem.W.Frag) (hx : Option HX) (W : WX) (f : MS) : TS := fun D σ H => ∃ ρ δ Λ, Rep K ρ Λ H ∧ RepE K hx ρ H δ σ ∧ PostS K hx W D ρ H (f δ Λ)

theorem takes0N {X : Cx} : L2N.Takes X (fun _ _ _ _ => False) := fun _ _ x => by
  obtain ⟨_, _, _, _, _, _, _, _, _, _, _, _, _, _, _, _, z⟩ := x
  exact z.elim
/-! ### where a body stands -/
structure GX where
  P : Program
  w : World
  K : PySem.W.Frag
  mg : Str → Option Value
  base : Heap
  N : List Str
  sc : Scope
  k : Nat
  blk : Bool
  hx : Option HX := none
theorem roomHu {k : Nat} {A : Around} (r : L2H.RoomH k A) : A.units + 64 < cLine := by have := r.un; omega
structure GX.Fit (G : GX) (X : Cx) : Prop where
  hP : X.prog = G.P
  hw : X.w = G.w
  hK : X.K = G.K
  hmg : X.mg = G.mg
  hbase : X.base = G.base
  hN : X.N = G.N
  hsc : X.env.scope = G.sc
  calm : G.hx = none → X.calm = true
  hd : G.hx = none → X.A.handled = none
  room : L2H.RoomH G.k X.A
  hot : ∀ x, G.hx = some x → L2H.Hot1 X.A (x.a, x.oe) ∧ (x.a, x.oe) ∈ X.pn ∧ ∀ i, x.slot = some i → x.oe.cls = .ref (He.ga G.K x.c)
  own : PassesOwn (model X.prog X.w) X.A X.env X.xe
  nd : X.N.Nodup
  fn : G.blk = false → ∀ x, X.env.scope.names.lookup x = some .cell → X.fn x = true
  try_ : G.blk = false → X.stack = X.env :: X.outer ∧ X.env.frame = some X.env.locals
def JE (G : GX) (e : Expr) (f : ME) : Prop := ∀ X, G.Fit X → ∀ W, L2N.Takes X W → PE X e (tE G.K G.hx W f)
def JT (G : GX) (e : Expr) (f : MT) : Prop := ∀ X, G.Fit X → ∀ W, L2N.Takes X W → PT X e (tT G.K G.hx W f)
def JW (G : GX) (e : Expr) (f : MT) : Prop := ∀ X, G.Fit X → ∀ W, L2N.Takes X W → PW X e (tT G.K G.hx W f)
def JA (G : GX) (es : List Expr) (f : MA) : Prop := ∀ X, G.Fit X → ∀ W, L2N.Takes X W → PA X es (tA G.K G.hx W f)
def J1 (G : GX) (st : Stmt) (f : MS) : Prop := ∀ X, G.Fit X → ∀ W, L2N.Takes X W → PS X st (tS G.K G.hx W f)
def JS (G : GX) (st : List Stmt) (f : MS) : Prop := ∀ X, G.Fit X → ∀ W, L2N.Takes X W → PSs X st (tS G.K G.hx W f)
section
variable {X : Cx}
theorem pe_imp {e : Expr} {t t' : TE} (h : PE X e t) (k : ∀ σ H Q, t' σ H Q → t σ H Q) : PE X e t' := ⟨fun pins s σ H Q I q => h.run pins s σ H Q I (k _ _ _ q)⟩
theorem pt_imp {e : Expr} {t t' : TT} (h : PT X e t) (k : ∀ σ H Q, t' σ H Q → t σ H Q) : PT X e t' := ⟨fun pins s σ H Q I q => h.run pins s σ H Q I (k _ _ _ q)⟩
theorem pw_imp {e : Expr} {t t' : TT} (h : PW X e t) (k : ∀ σ H Q, t' σ H Q → t σ H Q) : PW X e t' := ⟨fun wh pins s σ H Q I q => h.run wh pins s σ H Q I (k _ _ _ q)⟩
theorem pa_imp {e : List Expr} {t t' : TA} (h : PA X e t) (k : ∀ σ H Q, t' σ H Q → t σ H Q) : PA X e t' := ⟨fun pos pins s σ H Q I q => h.run pos pins s σ H Q I (k _ _ _ q)⟩
theorem ps_imp {e : Stmt} {t t' : TS} (h : PS X e t) (k : ∀ D σ H, t' D σ H → t D σ H) : PS X e t' := ⟨fun pins s σ H D I q => h.run pins s σ H D I (k _ _ _ q)⟩
theorem pss_imp {e : List Stmt} {t t' : TS} (h : PSs X e t) (k : ∀ D σ H, t' D σ H → t D σ H) : PSs X e t' := ⟨fun pins s σ H D I q => h.run pins s σ H D I (k _ _ _ q)⟩
theorem op_imp {f : Value → Value → Sem Value} {r r' : R2} (h : OpR X f r) (k : ∀ x y H Q, r' x y H Q → r x y H Q) : OpR X f r' := fun pins s σ H x y v u Q I rx ry q => h pins s σ H x y v u Q I rx ry (k _ _ _ _ q)
theorem un_imp {f : Value → Sem Value} {r r' : V → Hp → VK → Prop} (h : UnR X f r) (k : ∀ x H Q, r' x H Q → r x H Q) : UnR X f r' := fun pins s σ H x v Q I rx q => h pins s σ H x v Q I rx (k _ _ _ q)
theorem call_imp {f : Value} {r r' : List V → Hp → VK → Prop} (h : CallR X f r) (k : ∀ x H Q, r' x H Q → r x H Q) : CallR X f r' := fun pins s σ H x v Q I rx q => h pins s σ H x v Q I rx (k _ _ _ q)
theorem ix_imp {r r' : R2} (h : IxR X r) (k : ∀ x y H Q, r' x y H Q → r x y H Q) : IxR X r' := fun va sl pins s σ H x y v u Q I rx ry q hs => h va sl pins s σ H x y v u Q I rx ry (k _ _ _ _ q) hs
theorem mt_imp {id : String} {r r' : V → List V → Hp → VK → Prop} (h : MtR X id r) (k : ∀ x xs H Q, r' x xs H Q → r x xs H Q) : MtR X id r' := fun pins s σ H x xs v us Q I rx rs q => h pins s σ H x xs v us Q I rx rs (k _ _ _ _ q)
theorem call_or {f : Value} {r r' : List V → Hp → VK → Prop} (h : CallR X f r) (h' : CallR X f r') : CallR X f (fun x H Q => r x H Q ∨ r' x H Q) := fun pins s σ H x v Q I rx q => q.elim (h pins s σ H x v Q I rx) (h' pins s σ H x v Q I rx)
end
end NP

set_option Elab.async false
set_option linter.all false
set_option maxRecDepth 100000
set_option maxHeartbeats 1000000
namespace NP
open PySem PySem.Spec PyProof.Rows L2
open Classical in
noncomputable instance (priority := low) npDec (p : Prop) : Decidable p := Classical.propDecidable p

/-! ### operations on values -/
abbrev G1 := AV → AH → Option (AV × AH)
abbrev G2 := AV → AV → AH → Option (AV × AH)
abbrev GL := List AV → AH → Option (AV × AH)
def PostV (K : PySem.W.Frag) (ρ : List Addr) (H : Hp) (o : Option (AV × AH)) (Q : VK) : Prop := match o with
  | some (v, Λ') => ∀ ρ' u H', Ext ρ ρ' H H' → Rep K ρ' Λ' H' → RepV K ρ' H' v u → Q u H'
  | none => False
def r1 (K : PySem.W.Frag) (g : G1) : V → Hp → VK → Prop := fun x H Q => ∃ ρ Λ a, Rep K ρ Λ H ∧ RepV K ρ H a x ∧ PostV K ρ H (g a Λ) Q
def r2 (K : PySem.W.Frag) (g : G2) : R2 := fun x y H Q => ∃ ρ Λ a b, Rep K ρ Λ H ∧ RepV K ρ H a x ∧ RepV K ρ H b y ∧ PostV K ρ H (g a b Λ) Q
def rl (K : PySem.W.Frag) (g : GL) : List V → Hp → VK → Prop := fun xs H Q => ∃ ρ Λ as, Rep K ρ Λ H ∧ RepVs K ρ H as xs ∧ PostV K ρ H (g as Λ) Q
def rm (K : PySem.W.Frag) (g : AV → GL) : V → List V → Hp → VK → Prop := fun x xs H Q => ∃ ρ Λ a as, Rep K ρ Λ H ∧ RepV K ρ H a x ∧ RepVs K ρ H as xs ∧ PostV K ρ H (g a as Λ) Q
section
variable {K : PySem.W.Frag} {W : WX} {σ : L2.St} {ρ ρ' : List Addr} {H H' : Hp} {Q : VK} {o : Option (AV × AH)}
theorem post_lift : Post K W σ (TV K) ρ H (liftR o) Q → PostV K ρ H o Q := by
  cases o with
  | none => exact fun h => h
  | some p => exact fun h => h
theorem PostV.step (e : Ext ρ ρ' H H') (h : PostV K ρ H o Q) : PostV K ρ' H' o Q := by
  cases o with
  | none => exact h
  | some p => exact fun ρ2 u H2 e2 => h ρ2 u H2 (e.trans e2)
/-- a plain value, the heap as it is -/
theorem PostV.same {v : AV} {Λ : AH} {u : V} (h : PostV K ρ H (some (v, Λ)) Q) (r : Rep K ρ Λ H) (t : RepV K ρ H v u) : Q u H := h ρ u H (Ext.refl ρ H) r t
/-- a new object -/
theorem PostV.new {u : HO} {oo : AO} {Λ : AH} (h : PostV K ρ H (some (.ref Λ.length, Λ ++ [oo])) Q) (r : Rep K ρ Λ H) (ho : RepO K ρ H oo u) : ∀ p, H p = none → Q (.ref p) (upd H p u) := fun p hp => by
  obtain ⟨r', e, hx⟩ := r.alloc hp ho
  exact h _ _ _ e r' (.ref hx)
/-- a new tuple -/
theorem PostV.newT {xs : List AV} {vs : List V} {Λ : AH} (h : PostV K ρ H (some (.tup xs, Λ)) Q) (r : Rep K ρ Λ H) (t : RepVs K ρ H xs vs) : ∀ p, H p = none → Q (.ref p) (upd H p (.tup vs)) := fun p hp => by
  obtain ⟨r', e⟩ := r.side (u := .tup vs) hp
  exact h _ _ _ e r' (.tup upd_same (RepVs.mono e t))
end

/-! ### combinators -/
def dVar (i : Nat) : ME := fun δ Λ => match δ[i]? with
  | some (some v) => .ok v Λ
  | _ => .bad
def dC (v : AV) : ME := fun _ Λ => .ok v Λ
def dUn (g : G1) (fa : ME) : ME := fun δ Λ => (fa δ Λ).bind fun a Λ1 => liftR (g a Λ1)
def dBin (g : G2) (fa fb : ME) : ME := fun δ Λ => (fa δ Λ).bind fun a Λ1 => (fb δ Λ1).bind fun b Λ2 => liftR (g a b Λ2)
def blA : AV → AH → R Bool
  | .bl b, Λ => .ok b Λ
  | _, _ => .bad
def dTB (fa : ME) : MT := fun δ Λ => (fa δ Λ).bind blA
def truA : AV → AH → Option Bool
  | .non, _ => some false
  | .bl b, _ => some b
  | .int i, _ => some (i != 0)
  | .str x, _ => if x.length ≤ sizeLine then some ((x.length : Int) != 0) else none
  | .tup xs, _ => some (!xs.isEmpty)
  | .ct xs, _ => some (!xs.isEmpty)
  | .cl xs, _ => some (!xs.isEmpty)
  | .ref n, Λ => match Λ[n]? with
    | some (.lst xs) => some (!xs.isEmpty)
    | some (.dk kvs) => some (!kvs.isEmpty)
    | _ => none
  | _, _ => none
def truR (a : AV) (Λ : AH) : R Bool := match truA a Λ with
  | some b => .ok b Λ
  | none => .bad
def dTr (fa : ME) : MT := fun δ Λ => (fa δ Λ).bind truR
def dNotT (fa : MT) : MT := fun δ Λ => (fa δ Λ).bind fun b Λ1 => .ok (!b) Λ1
def dAndT (fa fb : MT) : MT := fun δ Λ => (fa δ Λ).bind fun b Λ1 => if b = true then fb δ Λ1 else .ok false Λ1
def dOrT (fa fb : MT) : MT := fun δ Λ => (fa δ Λ).bind fun b Λ1 => if b = true then .ok true Λ1 else fb δ Λ1
/-- and, or, not as values -/
def dAnd (fa fb : ME) : ME := fun δ Λ => (fa δ Λ).bind fun a Λ1 => (truR a Λ1).bind fun b Λ2 => if b = true then fb δ Λ2 else .ok a Λ2
def dOr (fa fb : ME) : ME := fun δ Λ => (fa δ Λ).bind fun a Λ1 => (truR a Λ1).bind fun b Λ2 => if b = true then .ok a Λ2 else fb δ Λ2
def dNot (fa : ME) : ME := fun δ Λ => (fa δ Λ).bind fun a Λ1 => (truR a Λ1).bind fun b Λ2 => .ok (.bl (!b)) Λ2
def dIf (ft : MT) (fa fb : ME) : ME := fun δ Λ => (ft δ Λ).bind fun b Λ1 => if b = true then fa δ Λ1 else fb δ Λ1
/-- a op b op' c -/
def dChain (g g' : G2) (fa fb fc : ME) : ME := fun δ Λ => (fa δ Λ).bind fun a Λ1 => (fb δ Λ1).bind fun b Λ2 => (liftR (g a b Λ2)).bind fun x Λ3 => (blA x Λ3).bind fun k Λ4 =>
  if k = true then (fc δ Λ4).bind fun c Λ5 => liftR (g' b c Λ5) else .ok (.bl false) Λ4
def dNil : MA := fun _ Λ => .ok [] Λ
def dCons (fa : ME) (fr : MA) : MA := fun δ Λ => (fa δ Λ).bind fun a Λ1 => (fr δ Λ1).bind fun as Λ2 => .ok (a :: as) Λ2
def tupR (as : List AV) (Λ : AH) : R AV := if as.length ≤ sizeLine then .ok (.tup as) Λ else .bad
def lstR (as : List AV) (Λ : AH) : R AV := if as.length ≤ sizeLine then .ok (.ref Λ.length) (Λ ++ [.lst as]) else .bad
def dTup (fa : MA) : ME := fun δ Λ => (fa δ Λ).bind tupR
def dLst (fa : MA) : ME := fun δ Λ => (fa δ Λ).bind lstR
def dPr (g : GL) (fa : MA) : ME := fun δ Λ => (fa δ Λ).bind fun as Λ1 => liftR (g as Λ1)
def dCall (m : List AV → AH → R AV) (fa : MA) : ME := fun δ Λ => (fa δ Λ).bind m

section
variable {G : GX} {a b c e : Expr} {es rest : List Expr} {fa fb fc : ME} {ft fu : MT} {fr : MA} {pos : Pos} {g g' : G2}

theorem je_imp {f f' : ME} (h : JE G e f) (k : f = f') : JE G e f' := k ▸ h
theorem je_var {i : Nat} {x : Str} (hN : G.N[i]? = some x) (hv : Vis G.sc x) (hd : (x == ("__debug__" : Str)) = false) (hc : (x == ("__classdict__" : Str)) = false) : JE G (.Name x pos) (dVar i) := fun X F W tk => by
  refine pe_imp (pe_var (i := i) (by rw [F.hN]; exact hN) (by rw [F.hsc]; exact hv) hd hc) fun σ H Q ⟨ρ, δ, Λ, r, v, p⟩ => ?_
  unfold dVar at p
  split at p
  · rename_i x hx
    obtain ⟨u, h1, h2⟩ := v.val i x hx
    exact ⟨u, h1, p.ok r h2⟩
  · exact p.elim
theorem je_int {i j} : JE G (.Constant (.int i) j pos) (dC (.int i)) := fun X F W tk => pe_imp pe_int fun σ H Q ⟨ρ, δ, Λ, r, v, p⟩ => p.ok r (.int i)
theorem je_bl {i j} : JE G (.Constant (.bool i) j pos) (dC (.bl i)) := fun X F W tk => pe_imp pe_bl fun σ H Q ⟨ρ, δ, Λ, r, v, p⟩ => p.ok r (.bl i)
theorem je_non {j} : JE G (.Constant .none j pos) (dC .non) := fun X F W tk => pe_imp pe_non fun σ H Q ⟨ρ, δ, Λ, r, v, p⟩ => p.ok r .non
theorem je_str {x j} : JE G (.Constant (.str x) j pos) (dC (.str x)) := fun X F W tk => pe_imp pe_str fun σ H Q ⟨ρ, δ, Λ, r, v, p⟩ => p.ok r (.str x)
theorem gl_of {X : Cx} (F : G.Fit X) {x : Str} (h : G.sc.names.lookup x = some .globalImplicit) : Gl X x := by
  show X.env.scope.names.lookup x = _
  rw [F.hsc]; exact h
/-- what a name of the module stands for -/
def GV (K : PySem.W.Frag) (mg : Str → Option Value) (x : Str) (v : AV) : Prop := ∃ u z, mg x = some u ∧ RelV z u ∧ ∀ ρ H, RepV K ρ H v z
theorem je_glob {x : Str} {v : AV} (hg : G.sc.names.lookup x = some .globalImplicit) (hv : GV G.K G.mg x v) (hd : (x == ("__debug__" : Str)) = false) : JE G (.Name x pos) (dC v) := fun X F W tk => by
  obtain ⟨u, z, h1, h2, h3⟩ := hv
  exact pe_imp (pe_glob (gl_of F hg) (by rw [F.hmg]; exact h1) h2 hd) fun σ H Q ⟨ρ, δ, Λ, r, v, p⟩ => p.ok r (h3 ρ H)

theorem je_bin {op : Operator} (ho : ∀ X, G.Fit X → OpR X (binaryOp op) (r2 G.K g)) (ha : JE G a fa) (hb : JE G b fb) : JE G (.BinOp a op b pos) (dBin g fa fb) := fun X F W tk => by
  refine pe_imp (pe_op (ho X F) (ha X F W tk) (hb X F W tk)) fun σ H Q ⟨ρ, δ, Λ, r, v, p⟩ => ?_
  refine ⟨ρ, δ, Λ, r, v, p.bind.imp fun x H1 ⟨a, Λ1, ρ1, e1, r1, t1, p1⟩ => ?_⟩
  refine ⟨ρ1, δ, Λ1, r1, v.mono e1, p1.bind.imp fun y H2 ⟨b, Λ2, ρ2, e2, r2, t2, p2⟩ => ?_⟩
  exact ⟨ρ2, Λ2, a, b, r2, t1.mono e2, t2, post_lift p2⟩
theorem je_un {op : UnaryOp} {g : G1} (ho : ∀ X, G.Fit X → UnR X (unaryOp op) (r1 G.K g)) (ha : JE G a fa) : JE G (.UnaryOp op a pos) (dUn g fa) := fun X F W tk => by
  refine pe_imp (pe_un (ho X F) (ha X F W tk)) fun σ H Q ⟨ρ, δ, Λ, r, v, p⟩ => ?_
  exact ⟨ρ, δ, Λ, r, v, p.bind.imp fun x H1 ⟨a, Λ1, ρ1, e1, r1, t1, p1⟩ => ⟨ρ1, Λ1, a, r1, t1, post_lift p1⟩⟩
theorem je_cmp {op : CmpOp} (ho : ∀ X, G.Fit X → OpR X (compareOp op) (r2 G.K g)) (ha : JE G a fa) (hb : JE G b fb) (hm : behindInMarks op b = false) : JE G (.Compare a [op] [b] pos) (dBin g fa fb) := fun X F W tk => by
  refine pe_imp (pe_cmpR (ho X F) (ha X F W tk) (hb X F W tk) hm) fun σ H Q ⟨ρ, δ, Λ, r, v, p⟩ => ?_
  refine ⟨ρ, δ, Λ, r, v, p.bind.imp fun x H1 ⟨a, Λ1, ρ1, e1, r1, t1, p1⟩ => ?_⟩
  refine ⟨ρ1, δ, Λ1, r1, v.mono e1, p1.bind.imp fun y H2 ⟨b, Λ2, ρ2, e2, r2, t2, p2⟩ => ?_⟩
  exact ⟨ρ2, Λ2, a, b, r2, t1.mono e2, t2, post_lift p2⟩
theorem blA_inv {K : PySem.W.Frag} {W : WX} {σ : L2.St} {ρ : List Addr} {H : Hp} {x : AV} {Λ : AH} {u : V} {Q : Bool → Hp → Prop} (r : Rep K ρ Λ H) (t : RepV K ρ H x u) (p : Post K W σ TB ρ H (blA x Λ) Q) : ∃ k, u = .bl k ∧ Q k H := by
  cases t <;> first
    | exact ⟨_, rfl, p.ok r rfl⟩
    | exact p.elim
theorem jt_cmp {op : CmpOp} (ho : ∀ X, G.Fit X → OpR X (compareOp op) (r2 G.K g)) (ha : JE G a fa) (hb : JE G b fb) (hm : behindInMarks op b = false) : JT G (.Compare a [op] [b] pos) (dTB (dBin g fa fb)) := fun X F W tk => by
  refine pt_imp (pt_cmpR (ho X F) (ha X F W tk) (hb X F W tk) hm) fun σ H Q ⟨ρ, δ, Λ, r, v, p⟩ => ?_
  unfold dTB dBin at p
  have p := p.bind (T := TV G.K)
  refine ⟨ρ, δ, Λ, r, v, p.bind.imp fun x H1 ⟨a, Λ1, ρ1, e1, r1, t1, p1⟩ => ?_⟩
  refine ⟨ρ1, δ, Λ1, r1, v.mono e1, p1.bind.imp fun y H2 ⟨b, Λ2, ρ2, e2, r2, t2, p2⟩ => ?_⟩
  refine ⟨ρ2, Λ2, a, b, r2, t1.mono e2, t2, ?_⟩
  have p3 := post_lift p2
  revert p3
  cases g a b Λ2 with
  | none => exact fun h => h
  | some q =>
    intro p3 ρ3 u H3 e3 r3 t3
    obtain ⟨x3, Λ3, ρ4, e4, r4, t4, p4⟩ := p3 ρ3 u H3 e3 r3 t3
    exact blA_inv r4 t4 p4
theorem tru_inv {K : PySem.W.Frag} {W : WX} {σ : L2.St} {ρ : List Addr} {H : Hp} {x : AV} {Λ : AH} {u : V} {Q : Bool → Hp → Prop} (r : Rep K ρ Λ H) (t : RepV K ρ H x u) (p : Post K W σ TB ρ H (truR x Λ) Q) : ∃ k, TruV K u H k ∧ Q k H := by
  unfold truR at p
  cases t with
  | non => exact ⟨_, rfl, p.ok r rfl⟩
  | bl b => exact ⟨_, rfl, p.ok r rfl⟩
  | int i => exact ⟨_, rfl, p.ok r rfl⟩
  | str x =>
    by_cases h : x.length ≤ sizeLine
    · simp only [truA, if_pos h] at p
      exact ⟨_, ⟨h, rfl⟩, p.ok r rfl⟩
    · simp only [truA, if_neg h] at p
      exact p.elim
  | @tup a xs vs h t =>
    refine ⟨!vs.isEmpty, .inr (.inl ⟨vs, SqT.of h, rfl⟩), ?_⟩
    have : vs.isEmpty = xs.isEmpty := by have := t.length; cases vs <;> cases xs <;> simp_all
    rw [this]; exact p.ok r rfl
  | @ct a xs vs h t =>
    refine ⟨!vs.isEmpty, .inr (.inl ⟨vs, h.sq, rfl⟩), ?_⟩
    have : vs.isEmpty = xs.isEmpty := by have := t.length; cases vs <;> cases xs <;> simp_all
    rw [this]; exact p.ok r rfl
  | @cl a xs vs h t =>
    refine ⟨!vs.isEmpty, .inl ⟨vs, h.sq, rfl⟩, ?_⟩
    have : vs.isEmpty = xs.isEmpty := by have := t.length; cases vs <;> cases xs <;> simp_all
    rw [this]; exact p.ok r rfl
  | @ref a n h =>
    unfold truA at p
    cases hn : Λ[n]? with
    | none => simp only [hn] at p; exact p.elim
    | some o =>
      obtain ⟨v, h1, h2⟩ := r.at' hn h
      cases o with
      | lst xs =>
        cases v with
        | lst vs =>
          simp only [hn] at p
          refine ⟨!vs.isEmpty, .inl ⟨vs, SqL.of h1, rfl⟩, ?_⟩
          have : vs.isEmpty = xs.isEmpty := by have := RepVs.length (show RepVs K ρ H xs vs from h2); cases vs <;> cases xs <;> simp_all
          rw [this]; exact p.ok r rfl
        | _ => exact h2.elim
      | dk xs =>
        cases v with
        | dK vs =>
          simp only [hn] at p
          refine ⟨!vs.isEmpty, .inr (.inr ⟨vs, h1, rfl⟩), ?_⟩
          have : vs.isEmpty = xs.isEmpty := by have := Paired.length (show RepKV K ρ H xs vs from h2); cases vs <;> cases xs <;> simp_all
          rw [this]; exact p.ok r rfl
        | _ => exact h2.elim
      | _ => simp only [hn] at p; exact p.elim
  | rng h => exact p.elim
theorem jt_tr (ha : JE G a fa) (he : ∀ (X : Cx) whole, isTrue a X.env whole = (do let v ← whole; standAt a.pos; holding [v] (truthy v))) : JT G a (dTr fa) := fun X F W tk => by
  refine pt_imp (pt_truth (ha X F W tk) (he X)) fun σ H Q ⟨ρ, δ, Λ, r, v, p⟩ => ?_
  refine ⟨ρ, δ, Λ, r, v, p.bind.imp fun x H1 ⟨a, Λ1, ρ1, e1, r1, t1, p1⟩ => ?_⟩
  rw [F.hK]
  exact tru_inv r1 t1 p1
theorem jt_not (ha : JT G a ft) : JT G (.UnaryOp .Not a pos) (dNotT ft) := fun X F W tk => by
  refine pt_imp (L2.pt_not (ha X F W tk)) fun σ H Q ⟨ρ, δ, Λ, r, v, p⟩ => ?_
  refine ⟨ρ, δ, Λ, r, v, p.bind.imp fun x H1 ⟨a, Λ1, ρ1, e1, r1, t1, p1⟩ => ?_⟩
  subst t1
  exact p1.ok r1 rfl
theorem jw_and1 (ha : JT G a ft) : JW G (.BoolOp .And [a] pos) ft := fun X F W tk => pw_and1 (ha X F W tk)
theorem jw_or1 (ha : JT G a ft) : JW G (.BoolOp .Or [a] pos) ft := fun X F W tk => pw_or1 (ha X F W tk)
theorem jw_and (ha : JT G a ft) (hb : JW G (.BoolOp .And (b :: rest) pos) fu) : JW G (.BoolOp .And (a :: b :: rest) pos) (dAndT ft fu) := fun X F W tk => by
  refine pw_imp (pw_and (ha X F W tk) (hb X F W tk)) fun σ H Q ⟨ρ, δ, Λ, r, v, p⟩ => ?_
  refine ⟨ρ, δ, Λ, r, v, p.bind.imp fun x H1 ⟨a, Λ1, ρ1, e1, r1, t1, p1⟩ => ?_⟩
  subst t1
  cases a with
  | true => exact ⟨ρ1, δ, Λ1, r1, v.mono e1, p1⟩
  | false => exact p1.ok r1 rfl
theorem jw_or (ha : JT G a ft) (hb : JW G (.BoolOp .Or (b :: rest) pos) fu) : JW G (.BoolOp .Or (a :: b :: rest) pos) (dOrT ft fu) := fun X F W tk => by
  refine pw_imp (pw_or (ha X F W tk) (hb X F W tk)) fun σ H Q ⟨ρ, δ, Λ, r, v, p⟩ => ?_
  refine ⟨ρ, δ, Λ, r, v, p.bind.imp fun x H1 ⟨a, Λ1, ρ1, e1, r1, t1, p1⟩ => ?_⟩
  subst t1
  cases a with
  | true => exact p1.ok r1 rfl
  | false => exact ⟨ρ1, δ, Λ1, r1, v.mono e1, p1⟩
theorem jt_w (h : JW G a ft) : JT G a ft := fun X F W tk => (h X F W tk).pt

theorem je_one {op} (h : JE G a fa) : JE G (.BoolOp op [a] pos) fa := fun X F W tk => pe_one (h X F W tk)
theorem je_and (ha : JE G a fa) (hb : JE G (.BoolOp .And (b :: rest) pos) fb) : JE G (.BoolOp .And (a :: b :: rest) pos) (dAnd fa fb) := fun X F W tk => by
  refine pe_imp (pe_andT (ha X F W tk) (hb X F W tk)) fun σ H Q ⟨ρ, δ, Λ, r, v, p⟩ => ?_
  refine ⟨ρ, δ, Λ, r, v, p.bind.imp fun x H1 ⟨a, Λ1, ρ1, e1, r1, t1, p1⟩ => ?_⟩
  obtain ⟨k, h1, b, Λ2, ρ2, e2, r2, t2, p2⟩ := tru_inv r1 t1 (p1.bind (T := TB))
  rw [F.hK]
  refine ⟨k, h1, ?_⟩
  subst t2
  cases b with
  | true => exact ⟨ρ2, δ, Λ2, r2, v.mono (e1.trans e2), p2⟩
  | false => exact p2.ok r2 (t1.mono e2)
theorem je_or (ha : JE G a fa) (hb : JE G (.BoolOp .Or (b :: rest) pos) fb) : JE G (.BoolOp .Or (a :: b :: rest) pos) (dOr fa fb) := fun X F W tk => by
  refine pe_imp (pe_orT (ha X F W tk) (hb X F W tk)) fun σ H Q ⟨ρ, δ, Λ, r, v, p⟩ => ?_
  refine ⟨ρ, δ, Λ, r, v, p.bind.imp fun x H1 ⟨a, Λ1, ρ1, e1, r1, t1, p1⟩ => ?_⟩
  obtain ⟨k, h1, b, Λ2, ρ2, e2, r2, t2, p2⟩ := tru_inv r1 t1 (p1.bind (T := TB))
  rw [F.hK]
  refine ⟨k, h1, ?_⟩
  subst t2
  cases b with
  | true => exact p2.ok r2 (t1.mono e2)
  | false => exact ⟨ρ2, δ, Λ2, r2, v.mono (e1.trans e2), p2⟩
theorem je_not (ha : JE G a fa) : JE G (.UnaryOp .Not a pos) (dNot fa) := fun X F W tk => by
  refine pe_imp (pe_notT (ha X F W tk)) fun σ H Q ⟨ρ, δ, Λ, r, v, p⟩ => ?_
  refine ⟨ρ, δ, Λ, r, v, p.bind.imp fun x H1 ⟨a, Λ1, ρ1, e1, r1, t1, p1⟩ => ?_⟩
  obtain ⟨k, h1, b, Λ2, ρ2, e2, r2, t2, p2⟩ := tru_inv r1 t1 (p1.bind (T := TB))
  rw [F.hK]
  subst t2
  exact ⟨_, h1, p2.ok r2 (.bl _)⟩
theorem je_if (hc : JT G c ft) (ha : JE G a fa) (hb : JE G b fb) : JE G (.IfExp c a b pos) (dIf ft fa fb) := fun X F W tk => by
  refine pe_imp (pe_ifExp (hc X F W tk) (ha X F W tk) (hb X F W tk)) fun σ H Q ⟨ρ, δ, Λ, r, v, p⟩ => ?_
  refine ⟨ρ, δ, Λ, r, v, p.bind.imp fun x H1 ⟨a, Λ1, ρ1, e1, r1, t1, p1⟩ => ?_⟩
  subst t1
  cases a with
  | true => exact ⟨ρ1, δ, Λ1, r1, v.mono e1, p1⟩
  | false => exact ⟨ρ1, δ, Λ1, r1, v.mono e1, p1⟩
theorem blV_inv {K : PySem.W.Frag} {W : WX} {σ : L2.St} {ρ : List Addr} {H : Hp} {x : AV} {Λ : AH} {u : V} {α : Type} {f : Bool → AH → R AV} {Q : VK} (r : Rep K ρ Λ H) (t : RepV K ρ H x u) (p : Post K W σ (TV K) ρ H ((blA x Λ).bind f) Q) : ∃ k, u = .bl k ∧ Post K W σ (TV K) ρ H (f k Λ) Q := by
  cases t <;> first
    | exact ⟨_, rfl, p⟩
    | exact p.elim
theorem je_chain {op op' : CmpOp} (ho : ∀ X, G.Fit X → OpR X (compareOp op) (r2 G.K g)) (ho' : ∀ X, G.Fit X → OpR X (compareOp op') (r2 G.K g')) (ha : JE G a fa) (hb : JE G b fb) (hc : JE G c fc)
    (hm : lastMarks [op, op'] [b, c] = false) : JE G (.Compare a [op, op'] [b, c] pos) (dChain g g' fa fb fc) := fun X F W tk => by
  refine pe_imp (pe_chain (ho X F) (ho' X F) (ha X F W tk) (hb X F W tk) (hc X F W tk) hm) fun σ H Q ⟨ρ, δ, Λ, r, v, p⟩ => ?_
  refine ⟨ρ, δ, Λ, r, v, p.bind.imp fun x H1 ⟨a, Λ1, ρ1, e1, r1, t1, p1⟩ => ?_⟩
  refine ⟨ρ1, δ, Λ1, r1, v.mono e1, p1.bind.imp fun y H2 ⟨b, Λ2, ρ2, e2, r2, t2, p2⟩ => ?_⟩
  refine ⟨ρ2, Λ2, a, b, r2, t1.mono e2, t2, ?_⟩
  have p3 := post_lift (p2.bind (T := TV G.K))
  revert p3
  cases g a b Λ2 with
  | none => exact fun h => h
  | some q =>
    intro p3 ρ3 u H3 e3 r3 t3
    obtain ⟨x3, Λ3, ρ4, e4, r4, t4, p4⟩ := p3 ρ3 u H3 e3 r3 t3
    obtain ⟨k, h1, p5⟩ := blV_inv (α := Unit) r4 t4 p4
    refine ⟨k, h1, ?_⟩
    cases k with
    | true =>
      refine ⟨ρ4, δ, Λ3, r4, v.mono ((e1.trans e2).trans e4), p5.bind.imp fun z H5 ⟨c, Λ5, ρ5, e5, r5, t5, p6⟩ => ?_⟩
      exact ⟨ρ5, Λ5, b, c, r5, t2.mono (e4.trans e5), t5, post_lift p6⟩
    | false => exact p5.ok r4 (.bl false)
theorem jt_chain {op op' : CmpOp} (ho : ∀ X, G.Fit X → OpR X (compareOp op) (r2 G.K g)) (ho' : ∀ X, G.Fit X → OpR X (compareOp op') (r2 G.K g')) (ha : JE G a fa) (hb : JE G b fb) (hc : JE G c fc)
    (hm : lastMarks [op, op'] [b, c] = false) : JT G (.Compare a [op, op'] [b, c] pos) (dTB (dChain g g' fa fb fc)) := fun X F W tk => by
  refine pt_imp (pt_chain (ho X F) (ho' X F) (ha X F W tk) (hb X F W tk) (hc X F W tk) hm) fun σ H Q ⟨ρ, δ, Λ, r, v, p⟩ => ?_
  unfold dTB dChain at p
  have p := p.bind (T := TV G.K)
  have fin : ∀ {ρ5 : List Addr} {H5 : Hp} {u : V}, (∃ a Λ1 ρ1, Ext ρ5 ρ1 H5 H5 ∧ Rep G.K ρ1 Λ1 H5 ∧ RepV G.K ρ1 H5 a u ∧ Post G.K W σ TB ρ1 H5 (blA a Λ1) Q) → ∃ k, u = .bl k ∧ Q k H5 := fun {ρ5 H5 u} ⟨a, Λ1, ρ1, _, r1, t1, p1⟩ => blA_inv r1 t1 p1
  refine ⟨ρ, δ, Λ, r, v, p.bind.imp fun x H1 ⟨a, Λ1, ρ1, e1, r1, t1, p1⟩ => ?_⟩
  refine ⟨ρ1, δ, Λ1, r1, v.mono e1, p1.bind.imp fun y H2 ⟨b, Λ2, ρ2, e2, r2, t2, p2⟩ => ?_⟩
  refine ⟨ρ2, Λ2, a, b, r2, t1.mono e2, t2, ?_⟩
  have p3 := post_lift (p2.bind (T := TV G.K))
  revert p3
  cases g a b Λ2 with
  | none => exact fun h => h
  | some q =>
    intro p3 ρ3 u H3 e3 r3 t3
    obtain ⟨x3, Λ3, ρ4, e4, r4, t4, p4⟩ := p3 ρ3 u H3 e3 r3 t3
    obtain ⟨k, h1, p5⟩ := blV_inv (α := Unit) r4 t4 p4
    refine ⟨k, h1, ?_⟩
    cases k with
    | true =>
      refine ⟨ρ4, δ, Λ3, r4, v.mono ((e1.trans e2).trans e4), p5.bind.imp fun z H5 ⟨c, Λ5, ρ5, e5, r5, t5, p6⟩ => ?_⟩
      refine ⟨ρ5, Λ5, b, c, r5, t2.mono (e4.trans e5), t5, ?_⟩
      have p7 := post_lift p6
      revert p7
      cases g' b c Λ5 with
      | none => exact fun h => h
      | some q' =>
        intro p7 ρ7 u7 H7 e7 r7 t7
        obtain ⟨a8, Λ8, ρ8, _, r8, t8, p8⟩ := p7 ρ7 u7 H7 e7 r7 t7
        exact blA_inv r8 t8 p8
    | false =>
      obtain ⟨a8, Λ8, ρ8, _, r8, t8, p8⟩ := p5.ok r4 (.bl false)
      exact blA_inv r8 t8 p8

/-! ### argument lists, displays -/
theorem ja_nil : JA G [] dNil := fun X F W tk => pa_imp pa_nil fun σ H Q ⟨ρ, δ, Λ, r, v, p⟩ => p.ok r .nil
theorem ja_cons (ha : JE G e fa) (hr : JA G es fr) (hs : ∀ env : Env, starEach (e :: es) env = (false, eval e env) :: starEach es env) : JA G (e :: es) (dCons fa fr) := fun X F W tk => by
  refine pa_imp (pa_cons (ha X F W tk) (hr X F W tk) (hs _)) fun σ H Q ⟨ρ, δ, Λ, r, v, p⟩ => ?_
  refine ⟨ρ, δ, Λ, r, v, p.bind.imp fun x H1 ⟨a, Λ1, ρ1, e1, r1, t1, p1⟩ => ?_⟩
  refine ⟨ρ1, δ, Λ1, r1, v.mono e1, p1.bind.imp fun y H2 ⟨b, Λ2, ρ2, e2, r2, t2, p2⟩ => ?_⟩
  exact p2.ok r2 (.cons (t1.mono e2) t2)
theorem je_tup {k : Nat} (h : JA G es fr) : JE G (.Tuple es k pos) (dTup fr) := fun X F W tk => by
  refine pe_imp (pe_tup (h X F W tk)) fun σ H Q ⟨ρ, δ, Λ, r, v, p⟩ => ?_
  refine ⟨ρ, δ, Λ, r, v, p.bind.imp fun xs H1 ⟨as, Λ1, ρ1, e1, r1, t1, p1⟩ => ?_⟩
  unfold tupR at p1
  by_cases hl : as.length ≤ sizeLine
  · rw [if_pos hl] at p1
    exact ⟨by rw [← t1.length]; exact hl, PostV.newT (Λ := Λ1) p1 r1 t1⟩
  · rw [if_neg hl] at p1
    exact p1.elim
theorem je_lst (h : JA G es fr) : JE G (.List es pos) (dLst fr) := fun X F W tk => by
  refine pe_imp (pe_lst (h X F W tk)) fun σ H Q ⟨ρ, δ, Λ, r, v, p⟩ => ?_
  refine ⟨ρ, δ, Λ, r, v, p.bind.imp fun xs H1 ⟨as, Λ1, ρ1, e1, r1, t1, p1⟩ => ?_⟩
  unfold lstR at p1
  by_cases hl : as.length ≤ sizeLine
  · rw [if_pos hl] at p1
    exact ⟨by rw [← t1.length]; exact hl, PostV.new (u := .lst xs) (oo := .lst as) p1 r1 t1⟩
  · rw [if_neg hl] at p1
    exact p1.elim
theorem je_ix (hi : ∀ X, G.Fit X → IxR X (r2 G.K g)) (ha : JE G a fa) (hb : JE G b fb) (hs : PlainIx b) : JE G (.Subscript a b pos) (dBin g fa fb) := fun X F W tk => by
  refine pe_imp (pe_ix (hi X F) (ha X F W tk) (hb X F W tk) hs) fun σ H Q ⟨ρ, δ, Λ, r, v, p⟩ => ?_
  refine ⟨ρ, δ, Λ, r, v, p.bind.imp fun x H1 ⟨a, Λ1, ρ1, e1, r1, t1, p1⟩ => ?_⟩
  refine ⟨ρ1, δ, Λ1, r1, v.mono e1, p1.bind.imp fun y H2 ⟨b, Λ2, ρ2, e2, r2, t2, p2⟩ => ?_⟩
  exact ⟨ρ2, Λ2, a, b, r2, t1.mono e2, t2, post_lift p2⟩
/-- a built-in function, a built-in class -/
theorem je_prB {x : Str} {id : String} {g : GL} {p : Pos} (hc : ∀ X, G.Fit X → CallR X (.builtin id) (rl G.K g)) (hg : G.sc.names.lookup x = some .globalImplicit) (hm : G.mg x = none) (hv : bootBuiltins x = some (.builtin id)) (ha : JA G (e :: es) fr)
    (hn : x ≠ "__name__") (hd : (x == ("__debug__" : Str)) = false) (he : ∀ env : Env, starEach (e :: es) env = (false, eval e env) :: starEach es env) (hpl : ∀ env : Env, (backTo pos (starEach es env)).any (·.1) = false) : JE G (.Call (.Name x p) (e :: es) [] pos) (dPr g fr) := fun X F W tk => by
  refine pe_imp (pe_callB (hc X F) (gl_of F hg) (by rw [F.hmg]; exact hm) hv (ha X F W tk) hn hd (he _) (hpl _)) fun σ H Q ⟨ρ, δ, Λ, r, v, p⟩ => ?_
  exact ⟨ρ, δ, Λ, r, v, p.bind.imp fun xs H1 ⟨as, Λ1, ρ1, e1, r1, t1, p1⟩ => ⟨ρ1, Λ1, as, r1, t1, post_lift p1⟩⟩
theorem je_prT {x : Str} {id : String} {g : GL} {p : Pos} (hc : ∀ X, G.Fit X → CallR X (.type id) (rl G.K g)) (hg : G.sc.names.lookup x = some .globalImplicit) (hm : G.mg x = none) (hv : bootBuiltins x = some (.type id)) (ha : JA G (e :: es) fr)
    (hn : x ≠ "__name__") (hd : (x == ("__debug__" : Str)) = false) (he : ∀ env : Env, starEach (e :: es) env = (false, eval e env) :: starEach es env) (hpl : ∀ env : Env, (backTo pos (starEach es env)).any (·.1) = false) : JE G (.Call (.Name x p) (e :: es) [] pos) (dPr g fr) := fun X F W tk => by
  refine pe_imp (pe_callTy (hc X F) (gl_of F hg) (by rw [F.hmg]; exact hm) hv (ha X F W tk) hn hd (he _) (hpl _)) fun σ H Q ⟨ρ, δ, Λ, r, v, p⟩ => ?_
  exact ⟨ρ, δ, Λ, r, v, p.bind.imp fun xs H1 ⟨as, Λ1, ρ1, e1, r1, t1, p1⟩ => ⟨ρ1, Λ1, as, r1, t1, post_lift p1⟩⟩

/-! ### own functions -/
/-- a function's promise by ours -/
def spF (K : PySem.W.Frag) (m : List AV → AH → R AV) : Sp := fun vs H Q E => ∃ ρ Λ as, Rep K ρ Λ H ∧ RepVs K ρ H as vs ∧ Post K (fun c d _ H' => E c d H') [] (TV K) ρ H (m as Λ) Q
structure FnAt (P : Program) (w : World) (K : PySem.W.Frag) (mg : Str → Option Value) (base : Heap) (k : Nat) (nm : Str) (das : List AV) (m : List AV → AH → R AV) : Prop where
  ex : ∃ (f : Addr) (fd : FuncData) (ps : List Str) (ds : List Value) (dvs : List V), mg nm = some (.ref f) ∧ PySem.W.keepIn K (.ref f) = true ∧ Binds K fd ps ds ∧ Vals dvs ds ∧ (∀ ρ H, RepVs K ρ H das dvs) ∧ FnOk P w K mg base (L2N.CX P w) k f fd ps (spF K m)
theorem call_post {K : PySem.W.Frag} {W : WX} {σ : L2.St} {ρ : List Addr} {H : Hp} {r : R AV} {Q : VK} (h : Post K W σ (TV K) ρ H r Q) : Post K (fun c d _ H' => W c d σ H') [] (TV K) ρ H r Q := by
  cases r <;> exact h
theorem je_call {x : Str} {p : Pos} {das : List AV} {m : List AV → AH → R AV} (hf : FnAt G.P G.w G.K G.mg G.base G.k x das m) (hg : G.sc.names.lookup x = some .globalImplicit) (ha : JA G (e :: es) fr)
    (hd : (x == ("__debug__" : Str)) = false) (he : ∀ env : Env, starEach (e :: es) env = (false, eval e env) :: starEach es env) (hpl : ∀ env : Env, (backTo pos (starEach es env)).any (·.1) = false) (hc : G.hx = none := by rfl) :
    JE G (.Call (.Name x p) (e :: es) [] pos) (dCall (fun as => m (as ++ das)) fr) := fun X F W tk => by
  obtain ⟨f, fd, ps, ds, dvs, h1, h2, h3, h4, h5, h6⟩ := hf.ex
  have frm : Room G.k X.A := ⟨F.hd hc, F.room.dp, F.room.un⟩
  have fP := F.hP; have fw := F.hw; have fK := F.hK; have fmg := F.hmg; have fb := F.hbase
  have h6' : FnOk X.prog X.w X.K X.mg X.base (L2N.CX X.prog X.w) G.k f fd ps (spF G.K m) := by rw [fP, fw, fK, fmg, fb]; exact h6
  refine pe_imp (pe_callSD (E := fun σ => WE W σ) h6' frm (gl_of F hg) (by rw [fmg]; exact h1) (by rw [fK]; exact h2) (by rw [fK]; exact h3) h4 (L2N.passAt tk) (ha X F W tk) hd (he _) (hpl _)) fun σ H Q ⟨ρ, δ, Λ, r, v, p⟩ => ?_
  exact ⟨ρ, δ, Λ, r, v, p.bind.imp fun xs H1 ⟨as, Λ1, ρ1, e1, r1, t1, p1⟩ => ⟨ρ1, Λ1, as ++ das, r1, t1.append (h5 _ _), call_post p1⟩⟩
theorem je_call0 {x : Str} {p : Pos} {das : List AV} {m : List AV → AH → R AV} (hf : FnAt G.P G.w G.K G.mg G.base G.k x das m) (hg : G.sc.names.lookup x = some .globalImplicit) (hd : (x == ("__debug__" : Str)) = false) (hc : G.hx = none := by rfl) :
    JE G (.Call (.Name x p) [] [] pos) (dCall (fun as => m (as ++ das)) dNil) := fun X F W tk => by
  obtain ⟨f, fd, ps, ds, dvs, h1, h2, h3, h4, h5, h6⟩ := hf.ex
  have frm : Room G.k X.A := ⟨F.hd hc, F.room.dp, F.room.un⟩
  have fP := F.hP; have fw := F.hw; have fK := F.hK; have fmg := F.hmg; have fb := F.hbase
  have h6' : FnOk X.prog X.w X.K X.mg X.base (L2N.CX X.prog X.w) G.k f fd ps (spF G.K m) := by rw [fP, fw, fK, fmg, fb]; exact h6
  refine ⟨fun pins s σ H Q I ⟨ρ, δ, Λ, r, v, p⟩ => ?_⟩
  refine wpAny_Call_Name_kw (ld_glob I (gl_of F hg) (by rw [fmg]; exact h1) ?_ hd)
  exact PySem.W.callWith_K0 I.kIn (by rw [fK]; exact h2) (run_fnSD (us := []) h6' frm (by rw [fK]; exact h3) h4 (L2N.passAt tk σ) I .nil ⟨ρ, Λ, das, r, h5 _ _, call_post p⟩)
end
end NP

set_option Elab.async false
set_option linter.all false
set_option maxRecDepth 100000
set_option maxHeartbeats 1000000
namespace NP
open PySem PySem.Spec PyProof.Rows L2

/-! ### data -/
def allO {α : Type} : List (Option α) → Option (List α)
  | [] => some []
  | some a :: r => (allO r).map (a :: ·)
  | none :: _ => none
def toD (Λ : AH) : Nat → AV → Option PyData
  | 0, _ => none
  | _ + 1, .non => some .none
  | _ + 1, .bl b => some (.bool b)
  | _ + 1, .int i => some (.int i)
  | _ + 1, .str x => if PyData.strOk x = true then some (.str x) else none
  | n + 1, .tup xs => (allO (xs.map (toD Λ n))).map .tuple
  | n + 1, .ct xs => (allO (xs.map (toD Λ n))).map .tuple
  | n + 1, .cl xs => (allO (xs.map (toD Λ n))).map .list
  | n + 1, .ref m => match Λ[m]? with
    | some (.lst xs) => (allO (xs.map (toD Λ n))).map .list
    | _ => none
  | _ + 1, .rng _ _ => none
theorem allO_cons {α : Type} {a : Option α} {r : List (Option α)} {ds : List α} (h : allO (a :: r) = some ds) : ∃ d ds', a = some d ∧ allO r = some ds' ∧ ds = d :: ds' := by
  cases a with
  | none => cases h
  | some a =>
    cases q : allO r with
    | none => simp [allO, q] at h
    | some ds' => simp [allO, q] at h; exact ⟨a, ds', rfl, rfl, h.symm⟩
section
variable {K : PySem.W.Frag} {ρ : List Addr} {H : Hp} {Λ : AH}
theorem dpAll_of {n : Nat} (ih : ∀ {a : AV} {u : V} {d : PyData}, RepV K ρ H a u → toD Λ n a = some d → Dp K H u d ∧ d.depth ≤ n ∧ d.canLay0 = true) :
    ∀ {xs : List AV} {vs : List V} {ds : List PyData}, RepVs K ρ H xs vs → allO (xs.map (toD Λ n)) = some ds → DpAll K H vs ds ∧ PyData.depthAll ds ≤ n ∧ PyData.canLayAll0 ds = true
  | _, _, _, .nil, h => by
    cases h
    exact ⟨.nil, Nat.zero_le _, by simp [PyData.canLayAll0]⟩
  | _, _, _, .cons h t, e => by
    obtain ⟨d, ds', h1, h2, rfl⟩ := allO_cons e
    obtain ⟨q1, q2, q3⟩ := ih h h1
    obtain ⟨w1, w2, w3⟩ := dpAll_of ih t h2
    refine ⟨.cons q1 w1, ?_, ?_⟩
    · simp only [PyData.depthAll]; omega
    · simp only [PyData.canLayAll0, q3, w3, Bool.and_self]
theorem dp_of (r : Rep K ρ Λ H) : ∀ {n : Nat} {a : AV} {u : V} {d : PyData}, RepV K ρ H a u → toD Λ n a = some d → Dp K H u d ∧ d.depth ≤ n ∧ d.canLay0 = true := by
  intro n
  induction n with
  | zero => intro a u d _ h; cases h
  | succ n ih =>
    intro a u d t h
    have seq : ∀ {xs : List AV} {vs : List V} {f : List PyData → PyData}, RepVs K ρ H xs vs → (allO (xs.map (toD Λ n))).map f = some d → ∃ ds, d = f ds ∧ DpAll K H vs ds ∧ PyData.depthAll ds ≤ n ∧ PyData.canLayAll0 ds = true := by
      intro xs vs f t' h'
      cases q : allO (xs.map (toD Λ n)) with
      | none => rw [q] at h'; cases h'
      | some ds =>
        rw [q] at h'
        exact ⟨ds, (Option.some.inj h').symm, dpAll_of ih t' q⟩
    cases t with
    | non => cases h; exact ⟨.non, by simp [PyData.depth], by simp [PyData.canLay0]⟩
    | bl b => cases h; exact ⟨.bl b, by simp [PyData.depth], by simp [PyData.canLay0]⟩
    | int i => cases h; exact ⟨.int i, by simp [PyData.depth], by simp [PyData.canLay0]⟩
    | str x =>
      simp only [toD] at h
      by_cases hx : PyData.strOk x = true
      · rw [if_pos hx] at h
        cases h
        exact ⟨.str x, by simp [PyData.depth], by simpa [PyData.canLay0] using hx⟩
      · rw [if_neg hx] at h; cases h
    | tup h1 t1 =>
      simp only [toD] at h
      obtain ⟨ds, rfl, d1, d2, d3⟩ := seq t1 h
      exact ⟨.tup (SqT.of h1) d1, by simp only [PyData.depth]; omega, by simp only [PyData.canLay0]; exact d3⟩
    | ct h1 t1 =>
      simp only [toD] at h
      obtain ⟨ds, rfl, d1, d2, d3⟩ := seq t1 h
      exact ⟨.tup h1.sq d1, by simp only [PyData.depth]; omega, by simp only [PyData.canLay0]; exact d3⟩
    | cl h1 t1 =>
      simp only [toD] at h
      obtain ⟨ds, rfl, d1, d2, d3⟩ := seq t1 h
      exact ⟨.lst h1.sq d1, by simp only [PyData.depth]; omega, by simp only [PyData.canLay0]; exact d3⟩
    | @ref a m h1 =>
      simp only [toD] at h
      cases hm : Λ[m]? with
      | none => rw [hm] at h; cases h
      | some o =>
        rw [hm] at h
        obtain ⟨v, q1, q2⟩ := r.at' hm h1
        cases o with
        | lst xs =>
          cases v with
          | lst vs =>
            obtain ⟨ds, rfl, d1, d2, d3⟩ := seq (show RepVs K ρ H xs vs from q2) h
            exact ⟨.lst (SqL.of q1) d1, by simp only [PyData.depth]; omega, by simp only [PyData.canLay0]; exact d3⟩
          | _ => exact q2.elim
        | _ => cases h
    | rng h1 => cases h
theorem shaped_of {n : Nat} {d : PyData} (hn : n ≤ 64) (h : d.depth ≤ n ∧ d.canLay0 = true) : SeqAt.shaped d = true := by
  show (d.canLay0 && decide (d.depth ≤ 64)) = true
  rw [h.2, Bool.true_and]
  exact decide_eq_true (by omega)
end

/-! ### the operations -/
def gI2 (f : Int → Int → AV) : G2 := fun a b Λ => match a, b with
  | .int i, .int j => some (f i j, Λ)
  | _, _ => none
def seqT : AV → Option (List AV)
  | .tup xs => some xs
  | .ct xs => some xs
  | _ => none
def gAdd : G2 := fun a b Λ => match a, b with
  | .int i, .int j => some (.int (i + j), Λ)
  | .int i, .bl j => some (.int (i + (if j then 1 else 0)), Λ)
  | .str x, .str y => if x.length + y.length ≤ sizeLine then some (.str (x ++ y), Λ) else none
  | .ref n, .ref m => match Λ[n]?, Λ[m]? with
    | some (.lst xs), some (.lst ys) => if xs.length + ys.length ≤ sizeLine then some (.ref Λ.length, Λ ++ [.lst (xs ++ ys)]) else none
    | _, _ => none
  | .tup xs, .tup ys => if xs ≠ [] ∧ xs.length + ys.length ≤ sizeLine then some (.tup (xs ++ ys), Λ) else none
  | _, _ => none
def gSub : G2 := gI2 fun i j => .int (i - j)
def mulOk (i j : Int) : Prop := CMul i j ∨ CMulW i j
noncomputable def gMul : G2 := fun a b Λ => match a, b with
  | .int i, .int j => if mulOk i j then some (.int (i * j), Λ) else none
  | .ref n, .int k => match Λ[n]? with
    | some (.lst xs) => if -(2 ^ 63) ≤ k ∧ k < 2 ^ 63 ∧ xs.length * k.toNat ≤ sizeLine then some (.ref Λ.length, Λ ++ [.lst (List.replicate k.toNat xs).flatten]) else none
    | _ => none
  | _, _ => none
def gFdiv : G2 := fun a b Λ => match a, b with
  | .int i, .int j => if 0 < j ∧ j.natAbs.log2 < 9000 then some (.int (i / j), Λ) else none
  | _, _ => none
def gMod : G2 := fun a b Λ => match a, b with
  | .int i, .int j => if 0 < j then some (.int (i % j), Λ) else none
  | _, _ => none
def gPow : G2 := fun a b Λ => match a, b with
  | .int i, .int j => if 0 ≤ j ∧ j ≤ 1000000 ∧ i.natAbs < 2 ^ 64 then some (.int (i ^ j.toNat), Λ) else none
  | _, _ => none
def gNeg : G1 := fun a Λ => match a with
  | .int i => some (.int (-i), Λ)
  | _ => none
def gLt : G2 := gI2 fun i j => .bl (decide (i < j))
def gLe : G2 := gI2 fun i j => .bl (decide (i ≤ j))
def gGt : G2 := gI2 fun i j => .bl (decide (j < i))
def gGe : G2 := gI2 fun i j => .bl (decide (j ≤ i))
def gEq : G2 := fun a b Λ => match toD Λ 12 a, toD Λ 12 b with
  | some d, some e => some (.bl (PyData.eqv d e), Λ)
  | _, _ => none
def gNe : G2 := fun a b Λ => match toD Λ 12 a, toD Λ 12 b with
  | some d, some e => some (.bl (!PyData.eqv d e), Λ)
  | _, _ => none
def isNonA : AV → Bool
  | .non => true
  | _ => false
/-- is None; is of two bools -/
def gIs : G2 := fun a b Λ => match b with
  | .non => some (.bl (isNonA a), Λ)
  | .bl q => match a with
    | .bl p => some (.bl (p == q), Λ)
    | _ => none
  | _ => none
def gIsNot : G2 := fun a b Λ => match b with
  | .non => some (.bl (!isNonA a), Λ)
  | .bl q => match a with
    | .bl p => some (.bl (!(p == q)), Λ)
    | _ => none
  | _ => none
/-- flat values -/
def flatA : AV → Bool
  | .non => true
  | .bl _ => true
  | .int _ => true
  | .str _ => true
  | _ => false
def eqA : AV → AV → Bool
  | .non, .non => true
  | .bl a, .bl b => a == b
  | .bl a, .int b => (if a then 1 else 0) == b
  | .int a, .bl b => a == (if b then 1 else 0)
  | .int a, .int b => a == b
  | .str a, .str b => a == b
  | _, _ => false
def keyA : AV → Option Key
  | .int i => some (.inl i)
  | .str x => some (.inr x)
  | _ => none
def keysA (xs : List AV) : Option (List Key) := allO (xs.map keyA)
def lookA {κ : Type} [DecidableEq κ] (kvs : List (κ × AV)) (k : κ) : Option AV := (kvs.find? fun kv => decide (kv.1 = k)).map (·.2)
/-- is it there -/
def inA (a b : AV) (Λ : AH) : Option Bool := match b with
  | .ref m => match Λ[m]? with
    | some (.lst xs) => match toD Λ 12 a, allO (xs.map (toD Λ 11)) with
      | some d, some ds => some (ds.any fun z => PyData.eqv z d)
      | _, _ => none
    | some (.dk kvs) => match keyA a with
      | some k => some (lookA kvs k).isSome
      | none => none
    | some (.dt kvs) => match a with
      | .tup xs => match keysA xs with
        | some k => some (lookA kvs k).isSome
        | none => none
      | _ => none
    | _ => none
  | .tup xs => if flatA a = true ∧ xs.all flatA = true then some (xs.any fun y => eqA y a) else none
  | .ct xs => if flatA a = true ∧ xs.all flatA = true then some (xs.any fun y => eqA y a) else none
  | _ => none
def gIn : G2 := fun a b Λ => (inA a b Λ).map fun k => (.bl k, Λ)
def gNotIn : G2 := fun a b Λ => (inA a b Λ).map fun k => (.bl (!k), Λ)
/-- a[b] -/
def atA (xs : List AV) (i : Int) : Option AV := atI xs i
def gIx : G2 := fun a b Λ => match a, b with
  | .tup xs, .int i => (atA xs i).map fun v => (v, Λ)
  | .ct xs, .int i => (atA xs i).map fun v => (v, Λ)
  | .cl xs, .int i => (atA xs i).map fun v => (v, Λ)
  | .ref n, .int i => match Λ[n]? with
    | some (.lst xs) => (atA xs i).map fun v => (v, Λ)
    | _ => none
  | .str z, .int i => if z.length ≤ sizeLine then (atI z.cps.toList i).map fun c => (.str ⟨#[c]⟩, Λ) else none
  | _, _ => none

section
variable {G : GX} {X : Cx}
theorem op_gI2 {f : Value → Value → Sem Value} {g : Int → Int → V} {g' : Int → Int → AV} (F : G.Fit X) (h : OpR X f (rI0 g)) (k : ∀ ρ H i j, RepV G.K ρ H (g' i j) (g i j)) : OpR X f (r2 G.K (gI2 g')) := op_imp h fun x y H Q ⟨ρ, Λ, a, b, r, ta, tb, p⟩ => by
  unfold gI2 at p
  split at p
  · cases ta; cases tb
    exact ⟨_, _, rfl, rfl, p.same r (k _ _ _ _)⟩
  · exact p.elim
theorem op_gSub (F : G.Fit X) : OpR X (binaryOp .Sub) (r2 G.K gSub) := op_gI2 F op_sub fun _ _ _ _ => .int _
theorem op_gLt (F : G.Fit X) : OpR X (compareOp .Lt) (r2 G.K gLt) := op_gI2 F op_lt fun _ _ _ _ => .bl _
theorem op_gLe (F : G.Fit X) : OpR X (compareOp .LtE) (r2 G.K gLe) := op_gI2 F op_le fun _ _ _ _ => .bl _
theorem op_gGt (F : G.Fit X) : OpR X (compareOp .Gt) (r2 G.K gGt) := op_gI2 F op_gt fun _ _ _ _ => .bl _
theorem op_gGe (F : G.Fit X) : OpR X (compareOp .GtE) (r2 G.K gGe) := op_gI2 F op_ge fun _ _ _ _ => .bl _
/-- a tracked list behind a reference -/
theorem lst_at {K : PySem.W.Frag} {ρ : List Addr} {H : Hp} {Λ : AH} {n : Nat} {a : Addr} {xs : List AV} (r : Rep K ρ Λ H) (h : ρ[n]? = some a) (e : Λ[n]? = some (.lst xs)) : ∃ vs, H a = some (.lst vs) ∧ RepVs K ρ H xs vs := by
  obtain ⟨v, q1, q2⟩ := r.at' e h
  cases v with
  | lst vs => exact ⟨vs, q1, q2⟩
  | _ => exact q2.elim
theorem dk_at {K : PySem.W.Frag} {ρ : List Addr} {H : Hp} {Λ : AH} {n : Nat} {a : Addr} {xs : List (Key × AV)} (r : Rep K ρ Λ H) (h : ρ[n]? = some a) (e : Λ[n]? = some (.dk xs)) : ∃ vs, H a = some (.dK vs) ∧ RepKV K ρ H xs vs := by
  obtain ⟨v, q1, q2⟩ := r.at' e h
  cases v with
  | dK vs => exact ⟨vs, q1, q2⟩
  | _ => exact q2.elim
theorem dt_at {K : PySem.W.Frag} {ρ : List Addr} {H : Hp} {Λ : AH} {n : Nat} {a : Addr} {xs : List (List Key × AV)} (r : Rep K ρ Λ H) (h : ρ[n]? = some a) (e : Λ[n]? = some (.dt xs)) : ∃ vs, H a = some (.dT vs) ∧ RepKV K ρ H xs vs := by
  obtain ⟨v, q1, q2⟩ := r.at' e h
  cases v with
  | dT vs => exact ⟨vs, q1, q2⟩
  | _ => exact q2.elim
theorem op_gAdd (F : G.Fit X) : OpR X (binaryOp .Add) (r2 G.K gAdd) := op_imp (OpR.or (OpR.or op_add op_add_ib) (OpR.or op_add_str (OpR.or op_cat op_catT))) fun x y H Q ⟨ρ, Λ, a, b, r, ta, tb, p⟩ => by
  unfold gAdd at p
  split at p
  · cases ta; cases tb
    exact .inl (.inl ⟨_, _, rfl, rfl, p.same r (.int _)⟩)
  · cases ta; cases tb
    exact .inl (.inr ⟨_, _, rfl, rfl, p.same r (.int _)⟩)
  · cases ta; cases tb
    split at p
    · exact .inr (.inl ⟨_, _, rfl, rfl, by assumption, p.same r (.str _)⟩)
    · exact p.elim
  · cases ta with
    | ref ha => cases tb with
      | ref hb =>
        split at p
        · rename_i xs ys e1 e2
          split at p
          · rename_i hl
            obtain ⟨vs, q1, t1⟩ := lst_at r ha e1
            obtain ⟨ws, q2, t2⟩ := lst_at r hb e2
            exact .inr (.inr (.inl ⟨_, _, vs, ws, rfl, rfl, q1, q2, by rw [← t1.length, ← t2.length]; exact hl, p.new r (t1.append t2)⟩))
          · exact p.elim
        · exact p.elim
  · cases ta with
    | tup ha t1 => cases tb with
      | tup hb t2 =>
        split at p
        · rename_i hl
          refine .inr (.inr (.inr ⟨_, _, _, _, rfl, rfl, SqT.of ha, SqT.of hb, ?_, by rw [← t1.length, ← t2.length]; exact hl.2, fun z => ?_, fun _ => p.newT r (t1.append t2)⟩))
          · rintro rfl
            exact hl.1 (List.eq_nil_of_length_eq_zero t1.length)
          · subst z
            have e0 := List.eq_nil_of_length_eq_zero t2.length
            subst e0
            refine p.same r ?_
            rw [List.append_nil]
            exact .tup ha t1
        · exact p.elim
  · exact p.elim
theorem op_gMul (F : G.Fit X) : OpR X (binaryOp .Mult) (r2 G.K gMul) := op_imp (OpR.or (OpR.or op_mul op_mulW) op_rep) fun x y H Q ⟨ρ, Λ, a, b, r, ta, tb, p⟩ => by
  unfold gMul at p
  split at p
  · cases ta; cases tb
    split at p
    · rename_i h
      rcases h with h | h
      · exact .inl (.inl ⟨_, _, rfl, rfl, h, p.same r (.int _)⟩)
      · exact .inl (.inr ⟨_, _, rfl, rfl, h, p.same r (.int _)⟩)
    · exact p.elim
  · cases ta with
    | ref ha =>
      cases tb
      split at p
      · rename_i xs e1
        split at p
        · rename_i hl
          obtain ⟨vs, q1, t1⟩ := lst_at r ha e1
          refine .inr ⟨_, _, vs, rfl, rfl, q1, hl.1, hl.2.1, by rw [← t1.length]; exact hl.2.2, p.new r ?_⟩
          show RepVs _ _ _ _ _
          generalize Int.toNat _ = m
          induction m with
          | zero => exact .nil
          | succ m ih =>
            rw [List.replicate_succ, List.replicate_succ, List.flatten_cons, List.flatten_cons]
            exact t1.append ih
        · exact p.elim
      · exact p.elim
  · exact p.elim
theorem op_gFdiv (F : G.Fit X) : OpR X (binaryOp .FloorDiv) (r2 G.K gFdiv) := op_imp op_fdivW fun x y H Q ⟨ρ, Λ, a, b, r, ta, tb, p⟩ => by
  unfold gFdiv at p
  split at p
  · cases ta; cases tb
    split at p
    · exact ⟨_, _, rfl, rfl, by assumption, p.same r (.int _)⟩
    · exact p.elim
  · exact p.elim
theorem op_gMod (F : G.Fit X) : OpR X (binaryOp .Mod) (r2 G.K gMod) := op_imp op_mod fun x y H Q ⟨ρ, Λ, a, b, r, ta, tb, p⟩ => by
  unfold gMod at p
  split at p
  · cases ta; cases tb
    split at p
    · exact ⟨_, _, rfl, rfl, by assumption, p.same r (.int _)⟩
    · exact p.elim
  · exact p.elim
theorem op_gPow (F : G.Fit X) : OpR X (binaryOp .Pow) (r2 G.K gPow) := op_imp op_pow fun x y H Q ⟨ρ, Λ, a, b, r, ta, tb, p⟩ => by
  unfold gPow at p
  split at p
  · cases ta; cases tb
    split at p
    · exact ⟨_, _, rfl, rfl, by assumption, p.same r (.int _)⟩
    · exact p.elim
  · exact p.elim
theorem un_gNeg (F : G.Fit X) : UnR X (unaryOp .USub) (r1 G.K gNeg) := un_imp un_neg fun x H Q ⟨ρ, Λ, a, r, ta, p⟩ => by
  unfold gNeg at p
  split at p
  · cases ta
    exact ⟨_, rfl, p.same r (.int _)⟩
  · exact p.elim
theorem op_gEq (F : G.Fit X) : OpR X (compareOp .Eq) (r2 G.K gEq) := op_imp (op_eqD (roomHu F.room)) fun x y H Q ⟨ρ, Λ, a, b, r, ta, tb, p⟩ => by
  unfold gEq at p
  split at p
  · rename_i d e h1 h2
    obtain ⟨q1, q2⟩ := dp_of r ta h1
    obtain ⟨w1, w2⟩ := dp_of r tb h2
    rw [← F.hK] at q1 w1
    exact ⟨d, e, q1, w1, shaped_of (by decide) q2, shaped_of (by decide) w2, p.same r (.bl _)⟩
  · exact p.elim
theorem op_gNe (F : G.Fit X) : OpR X (compareOp .NotEq) (r2 G.K gNe) := op_imp (op_neD (roomHu F.room)) fun x y H Q ⟨ρ, Λ, a, b, r, ta, tb, p⟩ => by
  unfold gNe at p
  split at p
  · rename_i d e h1 h2
    obtain ⟨q1, q2⟩ := dp_of r ta h1
    obtain ⟨w1, w2⟩ := dp_of r tb h2
    rw [← F.hK] at q1 w1
    exact ⟨d, e, q1, w1, shaped_of (by decide) q2, shaped_of (by decide) w2, p.same r (.bl _)⟩
  · exact p.elim
theorem isNon_rep {K : PySem.W.Frag} {ρ : List Addr} {H : Hp} {a : AV} {x : V} (t : RepV K ρ H a x) : isNonA a = decide (x = .non) := by
  cases t <;> simp [isNonA]
theorem op_gIs (F : G.Fit X) : OpR X (compareOp .Is) (r2 G.K gIs) := op_imp (OpR.or op_isN op_isBl) fun x y H Q ⟨ρ, Λ, a, b, r, ta, tb, p⟩ => by
  unfold gIs at p
  split at p
  · cases tb
    refine .inl ⟨rfl, ?_⟩
    rw [← isNon_rep ta]
    exact p.same r (.bl _)
  · split at p
    · cases tb; cases ta
      refine .inr ⟨_, _, rfl, rfl, p.same r ?_⟩
      rw [Bool.beq_eq_decide_eq]
      exact .bl _
    · exact p.elim
  · exact p.elim
theorem op_gIsNot (F : G.Fit X) : OpR X (compareOp .IsNot) (r2 G.K gIsNot) := op_imp (OpR.or op_notN op_notBl) fun x y H Q ⟨ρ, Λ, a, b, r, ta, tb, p⟩ => by
  unfold gIsNot at p
  split at p
  · cases tb
    refine .inl ⟨rfl, ?_⟩
    rw [← isNon_rep ta]
    exact p.same r (.bl _)
  · split at p
    · cases tb; cases ta
      refine .inr ⟨_, _, rfl, rfl, p.same r ?_⟩
      rw [Bool.beq_eq_decide_eq]
      exact .bl _
    · exact p.elim
  · exact p.elim

/-! ### in -/
def rDIn (n : Bool) : R2 := fun y x H Q => ∃ a o, x = .ref a ∧ DGet H a y o ∧ Q (.bl (if n then !o.isSome else o.isSome)) H
theorem op_dIn (hu : X.A.units + 1 < cLine) : OpR X (compareOp .In) (rDIn false) := by
  intro pins s σ H y x v u Q I ry rx h
  obtain ⟨a, o, rfl, g, q⟩ := h
  cases rx
  exact d_in hu I g ry fun s' I' => ⟨.bl o.isSome, H, I', rfl, q⟩
theorem op_dNotIn (hu : X.A.units + 1 < cLine) : OpR X (compareOp .NotIn) (rDIn true) := by
  intro pins s σ H y x v u Q I ry rx h
  obtain ⟨a, o, rfl, g, q⟩ := h
  cases rx
  exact d_notIn hu I g ry fun s' I' => ⟨.bl (!o.isSome), H, I', rfl, q⟩
theorem key_rep {K : PySem.W.Frag} {ρ : List Addr} {H : Hp} {a : AV} {x : V} {k : Key} (t : RepV K ρ H a x) (h : keyA a = some k) : x = kV k := by
  cases t <;> simp [keyA] at h <;> subst h <;> rfl
theorem keys_rep {K : PySem.W.Frag} {ρ : List Addr} {H : Hp} : ∀ {xs : List AV} {vs : List V} {ks : List Key}, RepVs K ρ H xs vs → keysA xs = some ks → vs = ks.map kV
  | _, _, _, .nil, h => by cases h; rfl
  | _, _, _, .cons h t, e => by
    obtain ⟨d, ds', h1, h2, rfl⟩ := allO_cons e
    rw [List.map_cons, ← key_rep h h1, ← keys_rep t h2]
theorem look_rep {κ : Type} [DecidableEq κ] {K : PySem.W.Frag} {ρ : List Addr} {H : Hp} {kvs : List (κ × AV)} {vs : List (κ × V)} (t : RepKV K ρ H kvs vs) (k : κ) :
    (lookA kvs k = none ∧ valV vs k = none) ∨ ∃ a u, lookA kvs k = some a ∧ valV vs k = some u ∧ RepV K ρ H a u := by
  induction t with
  | nil => exact .inl ⟨rfl, rfl⟩
  | @cons p q ps qs h t ih =>
    by_cases e : p.1 = k
    · refine .inr ⟨p.2, q.2, ?_, ?_, h.2⟩
      · simp [lookA, List.find?_cons, e]
      · exact valV_pos (by rw [← h.1]; exact e)
    · have e1 : lookA (p :: ps) k = lookA ps k := by simp [lookA, List.find?_cons, e]
      have e2 : valV (q :: qs) k = valV qs k := valV_neg (by rw [← h.1]; exact e)
      rw [e1, e2]
      exact ih
theorem isSome_rep {κ : Type} [DecidableEq κ] {K : PySem.W.Frag} {ρ : List Addr} {H : Hp} {kvs : List (κ × AV)} {vs : List (κ × V)} (t : RepKV K ρ H kvs vs) (k : κ) : (lookA kvs k).isSome = (valV vs k).isSome := by
  rcases look_rep t k with ⟨h1, h2⟩ | ⟨a, u, h1, h2, _⟩ <;> rw [h1, h2] <;> rfl
theorem flat_rep {K : PySem.W.Frag} {ρ : List Addr} {H : Hp} {a : AV} {x : V} (t : RepV K ρ H a x) : flatA a = flatV x := by cases t <;> rfl
theorem eq_rep {K : PySem.W.Frag} {ρ : List Addr} {H : Hp} {a b : AV} {x y : V} (t : RepV K ρ H a x) (t' : RepV K ρ H b y) (ha : flatA a = true) (hb : flatA b = true) : eqA a b = eqV x y := by
  cases t <;> cases t' <;> first | rfl | cases ha | cases hb
theorem flats_rep {K : PySem.W.Frag} {ρ : List Addr} {H : Hp} : ∀ {xs : List AV} {vs : List V}, RepVs K ρ H xs vs → xs.all flatA = vs.all flatV
  | _, _, .nil => rfl
  | _, _, .cons h t => by rw [List.all_cons, List.all_cons, flat_rep h, flats_rep t]
theorem anys_rep {K : PySem.W.Frag} {ρ : List Addr} {H : Hp} {a : AV} {x : V} (h : RepV K ρ H a x) (ha : flatA a = true) : ∀ {xs : List AV} {vs : List V}, RepVs K ρ H xs vs → xs.all flatA = true → (xs.any fun y => eqA y a) = inV x vs
  | _, _, .nil, _ => rfl
  | _, _, .cons h' t, e => by
    rw [List.all_cons, Bool.and_eq_true] at e
    have ih := anys_rep h ha t e.2
    show (eqA _ a || _) = (eqV _ x || _)
    rw [eq_rep h' h e.1 ha]
    exact congrArg _ ih
theorem rin_of (F : G.Fit X) {n : Bool} {x y : V} {H : Hp} {Q : VK} {ρ : List Addr} {Λ : AH} {a b : AV} (r : Rep G.K ρ Λ H) (ta : RepV G.K ρ H a x) (tb : RepV G.K ρ H b y) {k : Bool} (h : inA a b Λ = some k) (q : Q (.bl (if n then !k else k)) H) :
    (if n then rNotInD X.K else rInD X.K) x y H Q ∨ rDIn n x y H Q ∨ rIn X.K n x y H Q := by
  unfold inA at h
  split at h
  · rename_i m
    cases tb with
    | ref hb =>
      split at h
      · rename_i xs e1
        obtain ⟨vs, q1, t1⟩ := lst_at r hb e1
        split at h
        · rename_i d ds h1 h2
          cases h
          obtain ⟨d1, d2⟩ := dp_of r ta h1
          obtain ⟨w1, w2, w3⟩ := dpAll_of (dp_of r) t1 h2
          rw [← F.hK] at d1 w1
          have s1 := shaped_of (by decide) d2
          have s2 : SeqAt.shaped (.list ds) = true := shaped_of (n := 12) (by decide) ⟨by simp only [PyData.depth]; omega, by simp only [PyData.canLay0]; exact w3⟩
          refine .inl ?_
          cases n with
          | true => exact ⟨d, ds, d1, .lst (SqL.of q1) w1, s1, s2, q⟩
          | false => exact ⟨d, ds, d1, .lst (SqL.of q1) w1, s1, s2, q⟩
        · cases h
      · rename_i kvs e1
        obtain ⟨vs, q1, t1⟩ := dk_at r hb e1
        split at h
        · rename_i k' hk
          cases h
          cases key_rep ta hk
          refine .inr (.inl ⟨_, _, rfl, DGet.k (k := k') q1, ?_⟩)
          rw [← isSome_rep t1 k']
          exact q
        · cases h
      · rename_i kvs e1
        obtain ⟨vs, q1, t1⟩ := dt_at r hb e1
        split at h
        · rename_i xs
          split at h
          · rename_i ks hk
            cases h
            cases ta with
            | tup h2 t2 =>
              cases keys_rep t2 hk
              refine .inr (.inl ⟨_, _, rfl, DGet.t (k := ks) q1 h2, ?_⟩)
              rw [← isSome_rep t1 ks]
              exact q
          · cases h
        · cases h
      · cases h
  · split at h
    · rename_i xs hf
      cases h
      cases tb with
      | tup h2 t2 =>
        refine .inr (.inr ⟨_, _, rfl, .inr (SqT.of h2), by rw [← flat_rep ta]; exact hf.1, by rw [← flats_rep t2]; exact hf.2, ?_⟩)
        rw [← anys_rep ta hf.1 t2 hf.2]
        exact q
    · cases h
  · split at h
    · rename_i xs hf
      cases h
      cases tb with
      | ct h2 t2 =>
        refine .inr (.inr ⟨_, _, rfl, .inr (by rw [F.hK]; exact h2.sq), by rw [← flat_rep ta]; exact hf.1, by rw [← flats_rep t2]; exact hf.2, ?_⟩)
        rw [← anys_rep ta hf.1 t2 hf.2]
        exact q
    · cases h
  · cases h
theorem op_gIn (F : G.Fit X) : OpR X (compareOp .In) (r2 G.K gIn) := op_imp (OpR.or (op_inD (by have := F.room.un; omega)) (OpR.or (op_dIn (by have := F.room.un; omega)) op_in_seq)) fun x y H Q ⟨ρ, Λ, a, b, r, ta, tb, p⟩ => by
  unfold gIn at p
  cases h : inA a b Λ with
  | none => rw [h] at p; exact p.elim
  | some k =>
    rw [h] at p
    exact rin_of F (n := false) r ta tb h (p.same r (.bl _))
theorem op_gNotIn (F : G.Fit X) : OpR X (compareOp .NotIn) (r2 G.K gNotIn) := op_imp (OpR.or (op_notInD (by have := F.room.un; omega)) (OpR.or (op_dNotIn (by have := F.room.un; omega)) op_notIn_seq)) fun x y H Q ⟨ρ, Λ, a, b, r, ta, tb, p⟩ => by
  unfold gNotIn at p
  cases h : inA a b Λ with
  | none => rw [h] at p; exact p.elim
  | some k =>
    rw [h] at p
    exact rin_of F (n := true) r ta tb h (p.same r (.bl _))

/-! ### items -/
theorem at_rep {K : PySem.W.Frag} {ρ : List Addr} {H : Hp} {xs : List AV} {vs : List V} {i : Int} {v : AV} (t : RepVs K ρ H xs vs) (h : atA xs i = some v) : ∃ u, atI vs i = some u ∧ RepV K ρ H v u := by
  unfold atA atI at h
  unfold atI
  rw [← t.length]
  cases e : ixN xs.length i with
  | none => rw [e] at h; cases h
  | some j =>
    rw [e] at h
    exact t.get h
theorem ix_gIx (F : G.Fit X) : IxR X (r2 G.K gIx) := ix_imp ix_seq fun x y H Q ⟨ρ, Λ, a, b, r, ta, tb, p⟩ => by
  have go : ∀ {xs : List AV} {i : Int}, PostV G.K ρ H ((atA xs i).map fun v => (v, Λ)) Q → ∃ v, atA xs i = some v ∧ PostV G.K ρ H (some (v, Λ)) Q := by
    intro xs i p
    cases h : atA xs i with
    | none => rw [h] at p; exact p.elim
    | some v => rw [h] at p; exact ⟨v, rfl, p⟩
  unfold gIx at p
  split at p
  · obtain ⟨v, h, p⟩ := go p
    cases tb
    cases ta with
    | tup h1 t1 =>
      obtain ⟨u, h2, t2⟩ := at_rep t1 h
      exact .inr (.inl ⟨_, _, _, u, rfl, rfl, SqT.of h1, h2, p.same r t2⟩)
  · obtain ⟨v, h, p⟩ := go p
    cases tb
    cases ta with
    | ct h1 t1 =>
      obtain ⟨u, h2, t2⟩ := at_rep t1 h
      exact .inr (.inl ⟨_, _, _, u, rfl, rfl, by rw [F.hK]; exact h1.sq, h2, p.same r t2⟩)
  · obtain ⟨v, h, p⟩ := go p
    cases tb
    cases ta with
    | cl h1 t1 =>
      obtain ⟨u, h2, t2⟩ := at_rep t1 h
      exact .inl ⟨_, _, _, u, rfl, rfl, by rw [F.hK]; exact h1.sq, h2, p.same r t2⟩
  · cases tb
    cases ta with
    | ref ha =>
      split at p
      · rename_i xs e1
        obtain ⟨v, h, p⟩ := go p
        obtain ⟨vs, q1, t1⟩ := lst_at r ha e1
        obtain ⟨u, h2, t2⟩ := at_rep t1 h
        exact .inl ⟨_, _, _, u, rfl, rfl, SqL.of q1, h2, p.same r t2⟩
      · exact p.elim
  · cases tb
    cases ta
    split at p
    · rename_i hl
      have go2 : ∀ {o : Option Nat}, PostV G.K ρ H (o.map fun c => (AV.str ⟨#[c]⟩, Λ)) Q → ∃ c, o = some c ∧ PostV G.K ρ H (some (AV.str ⟨#[c]⟩, Λ)) Q := by
        intro o p
        cases o with
        | none => exact p.elim
        | some c => exact ⟨c, rfl, p⟩
      obtain ⟨c, h, p⟩ := go2 p
      exact .inr (.inr ⟨_, _, c, rfl, rfl, hl, h, p.same r (.str _)⟩)
    · exact p.elim
  · exact p.elim
end
end NP

set_option Elab.async false
set_option linter.all false
set_option maxRecDepth 100000
set_option maxHeartbeats 1000000
namespace NP
open PySem PySem.Spec PyProof.Rows L2

/-! ### built-ins -/
def intA : AV → Option Int
  | .int i => some i
  | _ => none
def blO : AV → Option Bool
  | .bl b => some b
  | _ => none
def kA : Key → AV
  | .inl i => .int i
  | .inr x => .str x
/-- what is read as a list -/
def lstA (a : AV) (Λ : AH) : Option (List AV) := match a with
  | .cl xs => some xs
  | .ref n => match Λ[n]? with
    | some (.lst xs) => some xs
    | _ => none
  | _ => none
def seqA (a : AV) (Λ : AH) : Option (List AV) := match a with
  | .tup xs => some xs
  | .ct xs => some xs
  | a => lstA a Λ
def lenA (a : AV) (Λ : AH) : Option Nat := match a with
  | .str z => if z.length ≤ sizeLine then some z.length else none
  | .ref n => match Λ[n]? with
    | some (.lst xs) => some xs.length
    | some (.dk xs) => some xs.length
    | some (.dt xs) => some xs.length
    | _ => none
  | a => (seqA a Λ).map List.length
def gLen : GL := fun as Λ => match as with
  | [a] => (lenA a Λ).map fun (n : Nat) => (.int (n : Int), Λ)
  | _ => none
def gAbs : GL := fun as Λ => match as with
  | [.int i] => some (.int (if i < 0 then -i else i), Λ)
  | _ => none
def gInt : GL := fun as Λ => match as with
  | [.int i] => some (.int i, Λ)
  | [.bl b] => some (.int (if b then 1 else 0), Λ)
  | _ => none
def gMax2 : GL := fun as Λ => match as with
  | [.int i, .int j] => some (.int (if j > i then j else i), Λ)
  | _ => none
def gMin2 : GL := fun as Λ => match as with
  | [.int i, .int j] => some (.int (if j < i then j else i), Λ)
  | _ => none
def maxI : List Int → Option Int
  | [] => none
  | x :: xs => some (xs.foldl (fun a b => if b > a then b else a) x)
def minI : List Int → Option Int
  | [] => none
  | x :: xs => some (xs.foldl (fun a b => if b < a then b else a) x)
def intsA (xs : List AV) : Option (List Int) := allO (xs.map intA)
def blsA (xs : List AV) : Option (List Bool) := allO (xs.map blO)
def gMaxL : GL := fun as Λ => match as with
  | [a] => (((lstA a Λ).bind intsA).bind maxI).map fun m => (.int m, Λ)
  | _ => none
def gMinL : GL := fun as Λ => match as with
  | [a] => (((lstA a Λ).bind intsA).bind minI).map fun m => (.int m, Λ)
  | _ => none
def gSum : GL := fun as Λ => match as with
  | [a] => ((lstA a Λ).bind intsA).map fun ns => (.int ns.sum, Λ)
  | _ => none
def gAny : GL := fun as Λ => match as with
  | [a] => ((lstA a Λ).bind blsA).map fun bs => (.bl (bs.any id), Λ)
  | _ => none
def gAll : GL := fun as Λ => match as with
  | [a] => ((lstA a Λ).bind blsA).map fun bs => (.bl (bs.all id), Λ)
  | _ => none
def gList : GL := fun as Λ => match as with
  | [.ref n] => match Λ[n]? with
    | some (.lst xs) => some (.ref Λ.length, Λ ++ [.lst xs])
    | some (.dk kvs) => some (.ref Λ.length, Λ ++ [.lst (kvs.map fun p => kA p.1)])
    | some (.dt kvs) => some (.ref Λ.length, Λ ++ [.lst (kvs.map fun p => .tup (p.1.map kA))])
    | _ => none
  | [a] => (seqA a Λ).map fun xs => (.ref Λ.length, Λ ++ [.lst xs])
  | _ => none
def gTuple : GL := fun as Λ => match as with
  | [.tup xs] => some (.tup xs, Λ)
  | [.ct xs] => some (.ct xs, Λ)
  | [a] => (lstA a Λ).map fun xs => (.tup xs, Λ)
  | _ => none

section
variable {K : PySem.W.Frag} {ρ : List Addr} {H : Hp} {Λ : AH}
theorem rep1 {a : AV} {vs : List V} (t : RepVs K ρ H [a] vs) : ∃ v, vs = [v] ∧ RepV K ρ H a v := by
  cases t with
  | cons h t => cases t; exact ⟨_, rfl, h⟩
theorem rep2 {a b : AV} {vs : List V} (t : RepVs K ρ H [a, b] vs) : ∃ v w, vs = [v, w] ∧ RepV K ρ H a v ∧ RepV K ρ H b w := by
  cases t with
  | cons h t => cases t with
    | cons h' t => cases t; exact ⟨_, _, rfl, h, h'⟩
theorem lstA_rep (r : Rep K ρ Λ H) {a : AV} {v : V} {xs : List AV} (t : RepV K ρ H a v) (h : lstA a Λ = some xs) : ∃ p vs, v = .ref p ∧ SqL K H p vs ∧ RepVs K ρ H xs vs := by
  cases t with
  | @cl p xs' vs h1 t1 => cases h; exact ⟨p, vs, rfl, h1.sq, t1⟩
  | @ref p n h1 =>
    unfold lstA at h
    simp only at h
    split at h
    · rename_i ys e
      cases h
      obtain ⟨vs, q1, t1⟩ := lst_at r h1 e
      exact ⟨p, vs, rfl, SqL.of q1, t1⟩
    · cases h
  | _ => cases h
theorem seqA_rep (r : Rep K ρ Λ H) {a : AV} {v : V} {xs : List AV} (t : RepV K ρ H a v) (h : seqA a Λ = some xs) : ∃ p vs, v = .ref p ∧ (SqL K H p vs ∨ SqT K H p vs) ∧ RepVs K ρ H xs vs := by
  unfold seqA at h
  split at h
  · cases h; cases t with
    | tup h1 t1 => exact ⟨_, _, rfl, .inr (SqT.of h1), t1⟩
  · cases h; cases t with
    | ct h1 t1 => exact ⟨_, _, rfl, .inr h1.sq, t1⟩
  · obtain ⟨p, vs, h1, h2, h3⟩ := lstA_rep r t h
    exact ⟨p, vs, h1, .inl h2, h3⟩
theorem ints_rep : ∀ {xs : List AV} {vs : List V} {ns : List Int}, RepVs K ρ H xs vs → intsA xs = some ns → vs = ns.map V.int
  | _, _, _, .nil, h => by cases h; rfl
  | _, _, _, .cons h t, e => by
    obtain ⟨d, ds', h1, h2, rfl⟩ := allO_cons e
    cases h <;> cases h1
    rw [List.map_cons, ← ints_rep t h2]
theorem bls_rep : ∀ {xs : List AV} {vs : List V} {ns : List Bool}, RepVs K ρ H xs vs → blsA xs = some ns → vs = ns.map V.bl
  | _, _, _, .nil, h => by cases h; rfl
  | _, _, _, .cons h t, e => by
    obtain ⟨d, ds', h1, h2, rfl⟩ := allO_cons e
    cases h <;> cases h1
    rw [List.map_cons, ← bls_rep t h2]
theorem kA_rep (k : Key) : RepV K ρ H (kA k) (kV k) := by
  cases k with
  | inl i => exact .int i
  | inr x => exact .str x
theorem kAs_rep : ∀ ks : List Key, RepVs K ρ H (ks.map kA) (ks.map kV)
  | [] => .nil
  | k :: ks => .cons (kA_rep k) (kAs_rep ks)
theorem keysK_rep : ∀ {xs : List (Key × AV)} {vs : List (Key × V)}, RepKV K ρ H xs vs → RepVs K ρ H (xs.map fun p => kA p.1) (vs.map fun p => kV p.1)
  | _, _, .nil => .nil
  | _, _, .cons h t => by
    rw [List.map_cons, List.map_cons, h.1]
    exact .cons (kA_rep _) (keysK_rep t)
theorem keysT_rep : ∀ {xs : List (List Key × AV)} {vs : List (List Key × V)} {bs : List Addr}, RepKV K ρ H xs vs → IsKeys H vs bs → RepVs K ρ H (xs.map fun p => .tup (p.1.map kA)) (bs.map V.ref)
  | _, _, _, .nil, .nil => .nil
  | _, _, _, .cons h t, .cons h' t' => by
    rw [List.map_cons, List.map_cons, h.1]
    exact .cons (.tup h' (kAs_rep _)) (keysT_rep t t')
theorem maxI_mem : ∀ (xs : List Int) (x : Int), (xs.foldl (fun a b => if b > a then b else a) x) ∈ x :: xs ∧ ∀ y ∈ x :: xs, y ≤ xs.foldl (fun a b => if b > a then b else a) x
  | [], x => ⟨by simp, fun y hy => by simp at hy; simp [hy]⟩
  | z :: xs, x => by
    rw [List.foldl_cons]
    obtain ⟨h1, h2⟩ := maxI_mem xs (if z > x then z else x)
    refine ⟨?_, fun y hy => ?_⟩
    · rcases List.mem_cons.mp h1 with e | e
      · rw [e]; split <;> simp
      · exact List.mem_cons_of_mem _ (List.mem_cons_of_mem _ e)
    · have h0 := h2 _ List.mem_cons_self
      rcases List.mem_cons.mp hy with rfl | hy
      · exact Int.le_trans (by split <;> omega) h0
      · rcases List.mem_cons.mp hy with rfl | hy
        · exact Int.le_trans (by split <;> omega) h0
        · exact h2 y (List.mem_cons_of_mem _ hy)
theorem minI_mem : ∀ (xs : List Int) (x : Int), (xs.foldl (fun a b => if b < a then b else a) x) ∈ x :: xs ∧ ∀ y ∈ x :: xs, xs.foldl (fun a b => if b < a then b else a) x ≤ y
  | [], x => ⟨by simp, fun y hy => by simp at hy; simp [hy]⟩
  | z :: xs, x => by
    rw [List.foldl_cons]
    obtain ⟨h1, h2⟩ := minI_mem xs (if z < x then z else x)
    refine ⟨?_, fun y hy => ?_⟩
    · rcases List.mem_cons.mp h1 with e | e
      · rw [e]; split <;> simp
      · exact List.mem_cons_of_mem _ (List.mem_cons_of_mem _ e)
    · have h0 := h2 _ List.mem_cons_self
      rcases List.mem_cons.mp hy with rfl | hy
      · exact Int.le_trans h0 (by split <;> omega)
      · rcases List.mem_cons.mp hy with rfl | hy
        · exact Int.le_trans h0 (by split <;> omega)
        · exact h2 y (List.mem_cons_of_mem _ hy)
end
section
variable {G : GX} {X : Cx}
theorem optP {K : PySem.W.Frag} {ρ : List Addr} {H : Hp} {Q : VK} {α : Type} {o : Option α} {f : α → AV × AH} (p : PostV K ρ H (o.map f) Q) : ∃ a, o = some a ∧ PostV K ρ H (some (f a)) Q := by
  cases o with
  | none => exact p.elim
  | some a => exact ⟨a, rfl, p⟩
theorem call_gLen (F : G.Fit X) : CallR X (.builtin "len") (rl G.K gLen) := call_imp (CallR.or (CallR.or call_len_seq call_len_str) (CallR.or call_lenD call_len_dT)) fun xs H Q ⟨ρ, Λ, as, r, t, p⟩ => by
  unfold gLen at p
  split at p
  · obtain ⟨n, h, p⟩ := optP p
    obtain ⟨v, hv0, t0⟩ := rep1 t
    subst hv0
    have t := t0
    unfold lenA at h
    split at h
    · split at h
      · cases h; cases t
        exact .inl (.inr ⟨_, rfl, by assumption, p.same r (.int _)⟩)
      · cases h
    · cases t with
      | ref ha =>
        split at h
        · rename_i e
          cases h
          obtain ⟨vs, q1, t1⟩ := lst_at r ha e
          refine .inl (.inl ⟨_, vs, rfl, .inl (SqL.of q1), ?_⟩)
          rw [← t1.length]; exact p.same r (.int _)
        · rename_i e
          cases h
          obtain ⟨vs, q1, t1⟩ := dk_at r ha e
          refine .inr (.inl ⟨_, vs, rfl, q1, ?_⟩)
          rw [← Paired.length t1]; exact p.same r (.int _)
        · rename_i e
          cases h
          obtain ⟨vs, q1, t1⟩ := dt_at r ha e
          refine .inr (.inr ⟨_, vs, rfl, q1, ?_⟩)
          rw [← Paired.length t1]; exact p.same r (.int _)
        · cases h
    · obtain ⟨ys, hs, rfl⟩ := Option.map_eq_some_iff.mp h
      · obtain ⟨q, vs, rfl, h2, t1⟩ := seqA_rep r t hs
        refine .inl (.inl ⟨q, vs, rfl, by rw [F.hK]; exact h2, ?_⟩)
        rw [← t1.length]; exact p.same r (.int _)
  · exact p.elim
theorem call_gAbs (F : G.Fit X) : CallR X (.builtin "abs") (rl G.K gAbs) := call_imp call_abs fun xs H Q ⟨ρ, Λ, as, r, t, p⟩ => by
  unfold gAbs at p
  split at p
  · obtain ⟨v, hv0, t0⟩ := rep1 t
    subst hv0
    have t := t0
    cases t
    exact ⟨_, rfl, p.same r (.int _)⟩
  · exact p.elim
theorem call_gInt (F : G.Fit X) : CallR X (.type "int") (rl G.K gInt) := call_imp call_int1 fun xs H Q ⟨ρ, Λ, as, r, t, p⟩ => by
  unfold gInt at p
  split at p
  · obtain ⟨v, hv0, t0⟩ := rep1 t
    subst hv0
    have t := t0
    cases t
    exact .inl ⟨_, rfl, p.same r (.int _)⟩
  · obtain ⟨v, hv0, t0⟩ := rep1 t
    subst hv0
    have t := t0
    cases t
    exact .inr ⟨_, rfl, p.same r (.int _)⟩
  · exact p.elim
theorem call_gMax2 (F : G.Fit X) (hc : G.hx = none := by rfl) : CallR X (.builtin "max") (rl G.K gMax2) := call_imp (call_max2 (F.calm hc)) fun xs H Q ⟨ρ, Λ, as, r, t, p⟩ => by
  unfold gMax2 at p
  split at p
  · obtain ⟨v, w, rfl, t1, t2⟩ := rep2 t
    cases t1; cases t2
    exact ⟨_, _, rfl, p.same r (.int _)⟩
  · exact p.elim
theorem call_gMin2 (F : G.Fit X) (hc : G.hx = none := by rfl) : CallR X (.builtin "min") (rl G.K gMin2) := call_imp (call_min2 (F.calm hc)) fun xs H Q ⟨ρ, Λ, as, r, t, p⟩ => by
  unfold gMin2 at p
  split at p
  · obtain ⟨v, w, rfl, t1, t2⟩ := rep2 t
    cases t1; cases t2
    exact ⟨_, _, rfl, p.same r (.int _)⟩
  · exact p.elim
theorem lints (F : G.Fit X) {ρ : List Addr} {H : Hp} {Λ : AH} (r : Rep G.K ρ Λ H) {a : AV} {v : V} {ns : List Int} (t : RepV G.K ρ H a v) (h : (lstA a Λ).bind intsA = some ns) : ∃ p, v = .ref p ∧ SqL X.K H p (ns.map V.int) := by
  cases q : lstA a Λ with
  | none => rw [q] at h; cases h
  | some xs =>
    rw [q] at h
    obtain ⟨p, vs, h1, h2, h3⟩ := lstA_rep r t q
    cases ints_rep h3 h
    exact ⟨p, h1, by rw [F.hK]; exact h2⟩
theorem lbls (F : G.Fit X) {ρ : List Addr} {H : Hp} {Λ : AH} (r : Rep G.K ρ Λ H) {a : AV} {v : V} {ns : List Bool} (t : RepV G.K ρ H a v) (h : (lstA a Λ).bind blsA = some ns) : ∃ p, v = .ref p ∧ SqL X.K H p (ns.map V.bl) := by
  cases q : lstA a Λ with
  | none => rw [q] at h; cases h
  | some xs =>
    rw [q] at h
    obtain ⟨p, vs, h1, h2, h3⟩ := lstA_rep r t q
    cases bls_rep h3 h
    exact ⟨p, h1, by rw [F.hK]; exact h2⟩
theorem call_gSum (F : G.Fit X) (hc : G.hx = none := by rfl) : CallR X (.builtin "sum") (rl G.K gSum) := call_imp (cr_sum (F.calm hc)) fun xs H Q ⟨ρ, Λ, as, r, t, p⟩ => by
  unfold gSum at p
  split at p
  · obtain ⟨ns, h, p⟩ := optP p
    obtain ⟨v, hv0, t0⟩ := rep1 t
    subst hv0
    have t := t0
    obtain ⟨q, rfl, h2⟩ := lints F r t h
    exact ⟨q, ns, rfl, h2, p.same r (.int _)⟩
  · exact p.elim
theorem call_gAny (F : G.Fit X) (hc : G.hx = none := by rfl) : CallR X (.builtin "any") (rl G.K gAny) := call_imp (cr_any (F.calm hc)) fun xs H Q ⟨ρ, Λ, as, r, t, p⟩ => by
  unfold gAny at p
  split at p
  · obtain ⟨ns, h, p⟩ := optP p
    obtain ⟨v, hv0, t0⟩ := rep1 t
    subst hv0
    have t := t0
    obtain ⟨q, rfl, h2⟩ := lbls F r t h
    exact ⟨q, ns, rfl, h2, p.same r (.bl _)⟩
  · exact p.elim
theorem call_gAll (F : G.Fit X) (hc : G.hx = none := by rfl) : CallR X (.builtin "all") (rl G.K gAll) := call_imp (cr_all (F.calm hc)) fun xs H Q ⟨ρ, Λ, as, r, t, p⟩ => by
  unfold gAll at p
  split at p
  · obtain ⟨ns, h, p⟩ := optP p
    obtain ⟨v, hv0, t0⟩ := rep1 t
    subst hv0
    have t := t0
    obtain ⟨q, rfl, h2⟩ := lbls F r t h
    exact ⟨q, ns, rfl, h2, p.same r (.bl _)⟩
  · exact p.elim
theorem call_gMaxL (F : G.Fit X) (hc : G.hx = none := by rfl) : CallR X (.builtin "max") (rl G.K gMaxL) := call_imp (cr_max (F.calm hc)) fun xs H Q ⟨ρ, Λ, as, r, t, p⟩ => by
  unfold gMaxL at p
  split at p
  · obtain ⟨m, h, p⟩ := optP p
    obtain ⟨v, hv0, t0⟩ := rep1 t
    subst hv0
    have t := t0
    obtain ⟨ns, q0, h⟩ := Option.bind_eq_some_iff.mp h
    · obtain ⟨q, rfl, h2⟩ := lints F r t q0
      cases ns with
      | nil => cases h
      | cons x xs =>
        cases h
        refine ⟨q, x :: xs, rfl, h2, by simp, fun m hm hm2 => ?_⟩
        obtain ⟨h3, h4⟩ := maxI_mem xs x
        have : m = xs.foldl (fun a b => if b > a then b else a) x := Int.le_antisymm (h4 m hm) (hm2 _ h3)
        rw [this]
        exact p.same r (.int _)
  · exact p.elim
theorem call_gMinL (F : G.Fit X) (hc : G.hx = none := by rfl) : CallR X (.builtin "min") (rl G.K gMinL) := call_imp (cr_min (F.calm hc)) fun xs H Q ⟨ρ, Λ, as, r, t, p⟩ => by
  unfold gMinL at p
  split at p
  · obtain ⟨m, h, p⟩ := optP p
    obtain ⟨v, hv0, t0⟩ := rep1 t
    subst hv0
    have t := t0
    obtain ⟨ns, q0, h⟩ := Option.bind_eq_some_iff.mp h
    · obtain ⟨q, rfl, h2⟩ := lints F r t q0
      cases ns with
      | nil => cases h
      | cons x xs =>
        cases h
        refine ⟨q, x :: xs, rfl, h2, by simp, fun m hm hm2 => ?_⟩
        obtain ⟨h3, h4⟩ := minI_mem xs x
        have : m = xs.foldl (fun a b => if b < a then b else a) x := Int.le_antisymm (hm2 _ h3) (h4 m hm)
        rw [this]
        exact p.same r (.int _)
  · exact p.elim
theorem call_gList (F : G.Fit X) (hc : G.hx = none := by rfl) : CallR X (.type "list") (rl G.K gList) := call_imp (CallR.or call_list_of (CallR.or (call_listD (F.calm hc)) (call_list_dT (F.calm hc)))) fun xs H Q ⟨ρ, Λ, as, r, t, p⟩ => by
  unfold gList at p
  split at p
  · obtain ⟨v, hv0, t0⟩ := rep1 t
    subst hv0
    have t := t0
    cases t with
    | ref ha =>
      split at p
      · rename_i e
        obtain ⟨vs, q1, t1⟩ := lst_at r ha e
        exact .inl ⟨_, vs, rfl, .inl (SqL.of q1), p.new (u := .lst vs) r t1⟩
      · rename_i e
        obtain ⟨vs, q1, t1⟩ := dk_at r ha e
        exact .inr (.inl ⟨_, vs, rfl, .inl q1, p.new (u := .lst (vs.map fun kv => kV kv.1)) r (show RepVs _ _ _ _ _ from keysK_rep t1)⟩)
      · rename_i e
        obtain ⟨vs, q1, t1⟩ := dt_at r ha e
        exact .inr (.inr ⟨_, vs, rfl, .inl q1, fun q bs hq hb => p.new (u := .lst (bs.map V.ref)) r (keysT_rep t1 hb) q hq⟩)
      · exact p.elim
  · obtain ⟨ys, h, p⟩ := optP p
    obtain ⟨v, hv0, t0⟩ := rep1 t
    subst hv0
    have t := t0
    obtain ⟨q, vs, rfl, h2, t1⟩ := seqA_rep r t h
    exact .inl ⟨q, vs, rfl, by rw [F.hK]; exact h2, p.new (u := .lst vs) r t1⟩
  · exact p.elim
theorem call_gTuple (F : G.Fit X) : CallR X (.type "tuple") (rl G.K gTuple) := call_imp call_tuple_of fun xs H Q ⟨ρ, Λ, as, r, t, p⟩ => by
  unfold gTuple at p
  split at p
  · obtain ⟨v, hv0, t0⟩ := rep1 t
    subst hv0
    have t := t0
    cases t with
    | tup h1 t1 => exact ⟨_, _, rfl, .inr ⟨SqT.of h1, p.same r (.tup h1 t1)⟩⟩
  · obtain ⟨v, hv0, t0⟩ := rep1 t
    subst hv0
    have t := t0
    cases t with
    | ct h1 t1 => exact ⟨_, _, rfl, .inr ⟨by rw [F.hK]; exact h1.sq, p.same r (.ct h1 t1)⟩⟩
  · obtain ⟨ys, h, p⟩ := optP p
    obtain ⟨v, hv0, t0⟩ := rep1 t
    subst hv0
    have t := t0
    obtain ⟨q, vs, rfl, h2, t1⟩ := lstA_rep r t h
    exact ⟨q, vs, rfl, .inl ⟨by rw [F.hK]; exact h2, p.newT r t1⟩⟩
  · exact p.elim
end

/-! ### slices -/
abbrev MO := AEnv → AH → R (Option Int)
abbrev TOp : List Addr → Hp → Option Int → Option Int → Prop := fun _ _ a b => a = b
def tOo (K : PySem.W.Frag) (hx : Option HX) (W : WX) (f : MO) : TO := fun σ H Q => ∃ ρ δ Λ, Rep K ρ Λ H ∧ RepE K hx ρ H δ σ ∧ Post K W σ TOp ρ H (f δ Λ) Q
def JO (G : GX) (e : Option Expr) (f : MO) : Prop := ∀ X, G.Fit X → ∀ W, L2N.Takes X W → PO X e (tOo G.K G.hx W f)
def dNoP : MO := fun _ Λ => .ok none Λ
def intO : AV → AH → R (Option Int)
  | .int i, Λ => .ok (some i) Λ
  | _, _ => .bad
def dPart (fa : ME) : MO := fun δ Λ => (fa δ Λ).bind intO
def cutA (xs : List AV) (lo hi : Option Int) : List AV := (xs.drop (HT.sIx xs.length 0 lo)).take (HT.sIx xs.length xs.length hi - HT.sIx xs.length 0 lo)
def slA (a : AV) (lo hi : Option Int) (Λ : AH) : R AV := match a with
  | .str z => if z.length ≤ sizeLine then .ok (.str (cutS z lo hi)) Λ else .bad
  | a => match lstA a Λ with
    | some xs => .ok (.ref Λ.length) (Λ ++ [.lst (cutA xs lo hi)])
    | none => .bad
def dSl (fa : ME) (fl fh : MO) : ME := fun δ Λ => (fa δ Λ).bind fun a Λ1 => (fl δ Λ1).bind fun l Λ2 => (fh δ Λ2).bind fun h Λ3 => slA a l h Λ3
section
variable {G : GX} {a e : Expr} {fa : ME} {lo hi : Option Expr} {fl fh : MO} {pos p2 : Pos}
theorem po_imp {X : Cx} {e : Option Expr} {t t' : TO} (h : PO X e t) (k : ∀ σ H Q, t' σ H Q → t σ H Q) : PO X e t' := ⟨fun pins s σ H Q I q => h.run pins s σ H Q I (k _ _ _ q)⟩
theorem jo_none : JO G none dNoP := fun X F W tk => po_imp po_none fun σ H Q ⟨ρ, δ, Λ, r, v, p⟩ => p.ok r rfl
theorem jo_some (h : JE G e fa) : JO G (some e) (dPart fa) := fun X F W tk => po_imp (po_some (h X F W tk)) fun σ H Q ⟨ρ, δ, Λ, r, v, p⟩ => by
  refine ⟨ρ, δ, Λ, r, v, p.bind.imp fun x H1 ⟨a, Λ1, ρ1, e1, r1, t1, p1⟩ => ?_⟩
  cases t1 <;> first
    | exact ⟨_, rfl, p1.ok r1 rfl⟩
    | exact p1.elim
theorem cut_rep {K : PySem.W.Frag} {ρ : List Addr} {H : Hp} {xs : List AV} {vs : List V} (t : RepVs K ρ H xs vs) (lo hi : Option Int) : RepVs K ρ H (cutA xs lo hi) (cutV vs lo hi) := by
  unfold cutA cutV
  rw [t.length]
  exact (t.drop _).take _
theorem je_sl (ha : JE G a fa) (hl : JO G lo fl) (hh : JO G hi fh) : JE G (.Subscript a (.Slice lo hi none p2) pos) (dSl fa fl fh) := fun X F W tk => by
  refine pe_imp (pe_slice (SlR.or sl_list sl_str) (ha X F W tk) (hl X F W tk) (hh X F W tk)) fun σ H Q ⟨ρ, δ, Λ, r, v, p⟩ => ?_
  refine ⟨ρ, δ, Λ, r, v, p.bind.imp fun x H1 ⟨a, Λ1, ρ1, e1, r1, t1, p1⟩ => ?_⟩
  refine ⟨ρ1, δ, Λ1, r1, v.mono e1, p1.bind.imp fun y H2 ⟨b, Λ2, ρ2, e2, r2, t2, p2⟩ => ?_⟩
  refine ⟨ρ2, δ, Λ2, r2, v.mono (e1.trans e2), p2.bind.imp fun z H3 ⟨c, Λ3, ρ3, e3, r3, t3, p3⟩ => ?_⟩
  subst t2 t3
  have t1 := t1.mono (e2.trans e3)
  unfold slA at p3
  split at p3
  · cases t1
    split at p3
    · exact .inr ⟨_, rfl, by assumption, p3.ok r3 (.str _)⟩
    · exact p3.elim
  · split at p3
    · rename_i h
      obtain ⟨q, vs, rfl, h2, t⟩ := lstA_rep r3 t1 h
      exact .inl ⟨q, vs, rfl, by rw [F.hK]; exact h2, PostV.new (u := .lst (cutV vs b c)) p3 r3 (cut_rep t b c)⟩
    · exact p3.elim
end

/-! ### methods of built-in types -/
def tyA (T : String) (a : AV) (Λ : AH) : Bool := match a with
  | .str _ => T == "str"
  | .cl _ => T == "list"
  | .ref n => match Λ[n]? with
    | some (.lst _) => T == "list"
    | some (.dk _) => T == "dict"
    | some (.dt _) => T == "dict"
    | _ => false
  | _ => false
def dMt (T : String) (g : AV → GL) (fo : ME) (fa : MA) : ME := fun δ Λ => (fo δ Λ).bind fun a Λ1 => if tyA T a Λ1 = true then (fa δ Λ1).bind fun as Λ2 => liftR (g a as Λ2) else .bad
section
variable {G : GX} {o e : Expr} {es : List Expr} {fo : ME} {fr : MA} {T id : String} {name : Str} {apos cpos : Pos} {g : AV → GL}
theorem tyA_rep {K : PySem.W.Frag} {ρ : List Addr} {H : Hp} {Λ : AH} (r : Rep K ρ Λ H) {a : AV} {v : V} (t : RepV K ρ H a v) (h : tyA T a Λ = true) : tyV K T v H := by
  unfold tyA at h
  split at h
  · cases t; exact beq_iff_eq.mp h
  · cases t with
    | cl h1 t1 => exact .inl ⟨beq_iff_eq.mp h, _, h1.sq⟩
  · cases t with
    | ref ha =>
      split at h
      · rename_i e1
        obtain ⟨vs, q1, _⟩ := lst_at r ha e1
        exact .inl ⟨beq_iff_eq.mp h, _, SqL.of q1⟩
      · rename_i e1
        obtain ⟨vs, q1, _⟩ := dk_at r ha e1
        exact .inr (.inr (.inl ⟨beq_iff_eq.mp h, .inl ⟨_, q1⟩⟩))
      · rename_i e1
        obtain ⟨vs, q1, _⟩ := dt_at r ha e1
        exact .inr (.inr (.inl ⟨beq_iff_eq.mp h, .inr ⟨_, q1⟩⟩))
      · cases h
  · cases h
theorem je_mt (pa : PlainAttrs T) (slot : Slot T name id) (hty : typeOf (.builtin id) = pure (.type "method_descriptor")) (hm : ∀ X, G.Fit X → MtR X id (rm G.K g)) (ho : JE G o fo) (ha : JA G (e :: es) fr)
    (hbase : ∀ env : Env, attributeBase o name env (eval o env) = eval o env)
    (hfew : ∀ env : Env, ((backTo cpos (starEach (e :: es) env)).all (fun x => !x.1) && (backToKw cpos (keywordEach [] env)).all (fun x => x.1.isSome)
      && decide ((e :: es).length + ([] : List Keyword).length + (if ([] : List Keyword).isEmpty then 0 else 1) < 30)) = true)
    (hline : (apos.endLine == cpos.line) = true) (hs : ∀ env : Env, starEach (e :: es) env = (false, eval e env) :: starEach es env) (hplain : ∀ env : Env, (backTo cpos (starEach es env)).any (·.1) = false) :
    JE G (.Call (.Attribute o name apos) (e :: es) [] cpos) (dMt T g fo fr) := fun X F W tk => by
  refine pe_imp (pe_bm pa slot hty (hm X F) (ho X F W tk) (ha X F W tk) (hbase _) (hfew _) hline (hs _) (hplain _)) fun σ H Q ⟨ρ, δ, Λ, r, v, p⟩ => ?_
  refine ⟨ρ, δ, Λ, r, v, p.bind.imp fun x H1 ⟨a, Λ1, ρ1, e1, r1, t1, p1⟩ => ?_⟩
  by_cases h : tyA T a Λ1 = true
  · rw [if_pos h] at p1
    refine ⟨by rw [F.hK]; exact tyA_rep r1 t1 h, ρ1, δ, Λ1, r1, v.mono e1, p1.bind.imp fun y H2 ⟨b, Λ2, ρ2, e2, r2, t2, p2⟩ => ?_⟩
    exact ⟨ρ2, Λ2, a, b, r2, t1.mono e2, t2, post_lift p2⟩
  · rw [if_neg h] at p1
    exact p1.elim
theorem je_mt0 (pa : PlainAttrs T) (slot : Slot T name id) (hty : typeOf (.builtin id) = pure (.type "method_descriptor")) (hm : ∀ X, G.Fit X → MtR X id (rm G.K g)) (ho : JE G o fo)
    (hbase : ∀ env : Env, attributeBase o name env (eval o env) = eval o env) (hline : (apos.endLine == cpos.line) = true) :
    JE G (.Call (.Attribute o name apos) [] [] cpos) (dMt T g fo dNil) := fun X F W tk => by
  refine pe_imp (pe_bm0 pa slot hty (hm X F) (ho X F W tk) (hbase _) hline) fun σ H Q ⟨ρ, δ, Λ, r, v, p⟩ => ?_
  refine ⟨ρ, δ, Λ, r, v, p.bind.imp fun x H1 ⟨a, Λ1, ρ1, e1, r1, t1, p1⟩ => ?_⟩
  by_cases h : tyA T a Λ1 = true
  · rw [if_pos h] at p1
    refine ⟨by rw [F.hK]; exact tyA_rep r1 t1 h, ?_⟩
    exact ⟨ρ1, Λ1, a, [], r1, t1, .nil, post_lift p1⟩
  · rw [if_neg h] at p1
    exact p1.elim
end
def gAppend : AV → GL := fun a as Λ => match a, as with
  | .ref n, [x] => match Λ[n]? with
    | some (.lst xs) => if xs.length < sizeLine then some (.non, Λ.set n (.lst (xs ++ [x]))) else none
    | _ => none
  | _, _ => none
def gExtend : AV → GL := fun a as Λ => match a, as with
  | .ref n, [.ref m] => match Λ[n]?, Λ[m]? with
    | some (.lst xs), some (.lst ys) => if xs.length + ys.length ≤ sizeLine then some (.non, Λ.set n (.lst (xs ++ ys))) else none
    | _, _ => none
  | _, _ => none
def gPop : AV → GL := fun a as Λ => match a, as with
  | .ref n, [] => match Λ[n]? with
    | some (.lst xs) => match xs[xs.length - 1]? with
      | some y => some (y, Λ.set n (.lst xs.dropLast))
      | none => none
    | _ => none
  | _, _ => none
def gPopAt : AV → GL := fun a as Λ => match a, as with
  | .ref n, [.int i] => match Λ[n]? with
    | some (.lst xs) => if -(2 ^ 63) ≤ i ∧ i < 2 ^ 63 then
        match seqIndex? i xs.length with
        | some k => match xs[k]? with
          | some y => some (y, Λ.set n (.lst (xs.eraseIdx k)))
          | none => none
        | none => none
      else none
    | _ => none
  | _, _ => none
def gReverse : AV → GL := fun a as Λ => match a, as with
  | .ref n, [] => match Λ[n]? with
    | some (.lst xs) => some (.non, Λ.set n (.lst xs.reverse))
    | _ => none
  | _, _ => none
section
variable {G : GX} {X : Cx}
theorem PostV.wr {K : PySem.W.Frag} {ρ : List Addr} {H : Hp} {Q : VK} {Λ : AH} {n : Nat} {p : Addr} {o o' : AO} {u : HO} {v : AV} {x : V} (h : PostV K ρ H (some (v, Λ.set n o')) Q) (r : Rep K ρ Λ H) (hp : ρ[n]? = some p) (ho : Λ[n]? = some o) (ho' : RepO K ρ H o' u) (t : RepV K ρ H v x) : Q x (upd H p u) := by
  obtain ⟨r', e⟩ := r.write hp ho ho'
  exact h _ _ _ e r' (t.mono e)
theorem mt_gAppend (F : G.Fit X) : MtR X "list.append" (rm G.K gAppend) := mt_imp mt_append fun x xs H Q ⟨ρ, Λ, a, as, r, t, ts, p⟩ => by
  unfold gAppend at p
  split at p
  · obtain ⟨v, rfl, tv⟩ := rep1 ts
    cases t with
    | ref ha =>
      split at p
      · rename_i e
        split at p
        · rename_i hl
          obtain ⟨vs, q1, t1⟩ := lst_at r ha e
          exact ⟨_, vs, v, rfl, rfl, q1, by rw [← t1.length]; exact hl, p.wr (u := .lst (vs ++ [v])) r ha e (t1.append (.cons tv .nil)) .non⟩
        · exact p.elim
      · exact p.elim
  · exact p.elim
theorem mt_gExtend (F : G.Fit X) : MtR X "list.extend" (rm G.K gExtend) := mt_imp mt_extend fun x xs H Q ⟨ρ, Λ, a, as, r, t, ts, p⟩ => by
  unfold gExtend at p
  split at p
  · obtain ⟨v, rfl, tv⟩ := rep1 ts
    cases t with
    | ref ha => cases tv with
      | ref hb =>
        split at p
        · rename_i e e2
          split at p
          · rename_i hl
            obtain ⟨vs, q1, t1⟩ := lst_at r ha e
            obtain ⟨ws, q2, t2⟩ := lst_at r hb e2
            exact ⟨_, _, vs, ws, rfl, rfl, q1, q2, by rw [← t1.length, ← t2.length]; exact hl, p.wr (u := .lst (vs ++ ws)) r ha e (t1.append t2) .non⟩
          · exact p.elim
        · exact p.elim
  · exact p.elim
theorem mt_gPop (F : G.Fit X) : MtR X "list.pop" (rm G.K gPop) := mt_imp mt_pop fun x xs H Q ⟨ρ, Λ, a, as, r, t, ts, p⟩ => by
  unfold gPop at p
  split at p
  · cases ts
    cases t with
    | ref ha =>
      split at p
      · rename_i e
        split at p
        · rename_i hy
          obtain ⟨vs, q1, t1⟩ := lst_at r ha e
          obtain ⟨u, h1, h2⟩ := t1.get hy
          exact ⟨_, vs, u, rfl, rfl, q1, by rw [← t1.length]; exact h1, p.wr (u := .lst vs.dropLast) r ha e t1.dropLast h2⟩
        · exact p.elim
      · exact p.elim
  · exact p.elim
theorem RepVs.eraseIdx {K : PySem.W.Frag} {ρ : List Addr} {H : Hp} : ∀ {a : List AV} {v : List V} (i : Nat), RepVs K ρ H a v → RepVs K ρ H (a.eraseIdx i) (v.eraseIdx i)
  | _, _, _, .nil => .nil
  | _, _, 0, .cons _ t => t
  | _, _, i + 1, .cons h t => .cons h (RepVs.eraseIdx i t)
theorem mt_gPopAt (F : G.Fit X) : MtR X "list.pop" (rm G.K gPopAt) := mt_imp mt_popAt fun x xs H Q ⟨ρ, Λ, a, as, r, t, ts, p⟩ => by
  unfold gPopAt at p
  split at p
  · obtain ⟨v, rfl, tv⟩ := rep1 ts
    cases tv
    cases t with
    | ref ha =>
      split at p
      · rename_i e
        split at p
        · rename_i hl
          split at p
          · rename_i hk
            split at p
            · rename_i hy
              obtain ⟨vs, q1, t1⟩ := lst_at r ha e
              obtain ⟨u, h1, h2⟩ := t1.get hy
              exact ⟨_, vs, _, _, u, rfl, rfl, q1, hl.1, hl.2, by rw [← t1.length]; exact hk, h1, p.wr (u := .lst (vs.eraseIdx _)) r ha e (t1.eraseIdx _) h2⟩
            · exact p.elim
          · exact p.elim
        · exact p.elim
      · exact p.elim
  · exact p.elim
theorem mt_gReverse (F : G.Fit X) : MtR X "list.reverse" (rm G.K gReverse) := mt_imp mt_reverse fun x xs H Q ⟨ρ, Λ, a, as, r, t, ts, p⟩ => by
  unfold gReverse at p
  split at p
  · cases ts
    cases t with
    | ref ha =>
      split at p
      · rename_i e
        obtain ⟨vs, q1, t1⟩ := lst_at r ha e
        exact ⟨_, vs, rfl, rfl, q1, p.wr (u := .lst vs.reverse) r ha e t1.reverse .non⟩
      · exact p.elim
  · exact p.elim
end
end NP

set_option Elab.async false
set_option linter.all false
set_option maxRecDepth 100000
set_option maxHeartbeats 1000000
namespace NP
open PySem PySem.Spec PyProof.Rows L2

/-! ### isinstance -/
abbrev TyN := Sum String Str
def tyVal (K : PySem.W.Frag) : TyN → Value
  | .inl s => .type s
  | .inr C => .ref (He.ga K C)
def tnA (a : AV) (Λ : AH) : Option TyN := match a with
  | .non => some (.inl "NoneType")
  | .bl _ => some (.inl "bool")
  | .int _ => some (.inl "int")
  | .str _ => some (.inl "str")
  | .tup _ => some (.inl "tuple")
  | .ct _ => some (.inl "tuple")
  | .cl _ => some (.inl "list")
  | .ref n => match Λ[n]? with
    | some (.lst _) => some (.inl "list")
    | some (.dk _) => some (.inl "dict")
    | some (.dt _) => some (.inl "dict")
    | some (.ins C _) => some (.inr C)
    | _ => none
  | .rng _ _ => none
def gIsi (T : TyN → Option Bool) : G1 := fun a Λ => ((tnA a Λ).bind T).map fun b => (.bl b, Λ)
/-- an own class whose instances isinstance knows -/
structure ClsI (K : PySem.W.Frag) (C : Str) : Prop where
  cl : Cls K (He.ga K C)
  ha : PySem.W.findIn K (.ref (He.ga K C)) "__class__" = some (some (.builtin "object.__class__"))
  hn : PySem.W.specialIn K (.builtin "object.__class__") "__get__" = some (some (.builtin "getset_descriptor.__get__"))
  ht : PySem.W.takesIn K (.builtin "object.__class__") = some true
  hm : PySem.W.mroIn K (He.ga K C) (.type "object") = some true
theorem ins_at {K : PySem.W.Frag} {ρ : List Addr} {H : Hp} {Λ : AH} {n : Nat} {a : Addr} {C : Str} {xs : List (Str × AV)} (r : Rep K ρ Λ H) (h : ρ[n]? = some a) (e : Λ[n]? = some (.ins C xs)) : ∃ dx vs, H a = some (.ins (He.ga K C) dx vs) ∧ RepKV K ρ H xs vs := by
  obtain ⟨v, q1, q2⟩ := r.at' e h
  cases v with
  | ins C' dx vs =>
    obtain ⟨rfl, q3⟩ := q2
    exact ⟨dx, vs, q1, q3⟩
  | _ => exact q2.elim
section
variable {G : GX} {e : Expr} {es : List Expr} {fa : ME} {pos p p2 : Pos} {T : TyN → Option Bool}
theorem tn_rep {K : PySem.W.Frag} {ρ : List Addr} {H : Hp} {Λ : AH} (r : Rep K ρ Λ H) {a : AV} {v : V} {t : TyN} (ta : RepV K ρ H a v) (h : tnA a Λ = some t) (hC : ∀ C, t = .inr C → ClsI K C) : TyX K H v (tyVal K t) := by
  cases ta with
  | non => cases h; exact .base .non
  | bl b => cases h; exact .base (.bl b)
  | int i => cases h; exact .base (.int i)
  | str x => cases h; exact .base (.str x)
  | tup h1 _ => cases h; exact .base (.tup h1)
  | ct h1 _ =>
    cases h
    obtain ⟨o, its, n, q1, q2, _⟩ := h1
    exact .kTuple q1 q2
  | cl h1 _ =>
    cases h
    rcases h1 with ⟨o, h1⟩ | ⟨o, its, n, q1, q2, _⟩
    · exact .base (.frz h1)
    · exact .kList q1 q2
  | @ref p n hp =>
    unfold tnA at h
    simp only at h
    split at h
    · rename_i e1
      cases h
      obtain ⟨vs, q1, _⟩ := lst_at r hp e1
      exact .base (.lst q1)
    · rename_i e1
      cases h
      obtain ⟨vs, q1, _⟩ := dk_at r hp e1
      exact .base (.dK q1)
    · rename_i e1
      cases h
      obtain ⟨vs, q1, _⟩ := dt_at r hp e1
      exact .base (.dT q1)
    · rename_i e1
      cases h
      obtain ⟨dx, vs, q1, _⟩ := ins_at r hp e1
      have c := hC _ rfl
      exact .base (.ins q1 c.cl c.ha c.hn c.ht c.hm)
    · cases h
  | rng _ => cases h
theorem isi_core {c : Expr} {u : Value} {c0 : V} (hT : ∀ t b, T t = some b → PySem.W.kitOne G.K (tyVal G.K t) u = some b ∧ ∀ C, t = .inr C → ClsI G.K C) (hu : ClsV c0 u) (ha : JE G e fa) (hc : ∀ X, G.Fit X → PE X c (tC c0))
    (hg : G.sc.names.lookup ("isinstance" : Str) = some .globalImplicit) (hm : G.mg ("isinstance" : Str) = none) (he1 : ∀ env : Env, starEach [e, c] env = (false, eval e env) :: starEach [c] env) (he2 : ∀ env : Env, starEach [c] env = (false, eval c env) :: starEach [] env)
    (hpl : ∀ env : Env, (backTo pos (starEach [c] env)).any (·.1) = false) : JE G (.Call (.Name "isinstance" p) [e, c] [] pos) (dUn (gIsi T) fa) := fun X F W tk => by
  refine pe_imp (pe_callB call_isi (gl_of F hg) (by rw [F.hmg]; exact hm) PyProof.Rows.boot_isinstance (pa_cons (ha X F W tk) (pa_cons (hc X F) pa_nil (he2 _)) (he1 _)) (by decide) (by decide) (he1 _) (hpl _)) fun σ H Q ⟨ρ, δ, Λ, r, v, p⟩ => ?_
  refine ⟨ρ, δ, Λ, r, v, p.bind.imp fun x H1 ⟨a, Λ1, ρ1, e1, r1, t1, p1⟩ => ?_⟩
  have p2 := post_lift p1
  unfold gIsi at p2
  obtain ⟨b, h, p3⟩ := optP p2
  obtain ⟨t, h1, h2⟩ := Option.bind_eq_some_iff.mp h
  obtain ⟨h3, h4⟩ := hT t b h2
  refine ⟨x, c0, tyVal G.K t, u, b, rfl, hu, ?_, by rw [F.hK]; exact h3, p3.same r1 (.bl b)⟩
  rw [F.hK]
  exact tn_rep r1 t1 h1 h4
theorem je_isiB {x : Str} {n : String} (hT : ∀ t b, T t = some b → PySem.W.kitOne G.K (tyVal G.K t) (.type n) = some b ∧ ∀ C, t = .inr C → ClsI G.K C) (ha : JE G e fa)
    (hg : G.sc.names.lookup ("isinstance" : Str) = some .globalImplicit) (hm : G.mg ("isinstance" : Str) = none) (hx : G.sc.names.lookup x = some .globalImplicit) (hxm : G.mg x = none) (hv : bootBuiltins x = some (.type n)) (hn : x ≠ "__name__") (hd : (x == ("__debug__" : Str)) = false)
    (he1 : ∀ env : Env, starEach [e, .Name x p2] env = (false, eval e env) :: starEach [.Name x p2] env) : JE G (.Call (.Name "isinstance" p) [e, .Name x p2] [] pos) (dUn (gIsi T) fa) :=
  isi_core hT (.ty n) ha (fun X F => pe_bltn (gl_of F hx) (by rw [F.hmg]; exact hxm) hv rfl hn hd) hg hm he1 (fun _ => rfl) (fun _ => rfl)
theorem je_isiO {x : Str} (hT : ∀ t b, T t = some b → PySem.W.kitOne G.K (tyVal G.K t) (.ref (He.ga G.K x)) = some b ∧ ∀ C, t = .inr C → ClsI G.K C) (ha : JE G e fa)
    (hg : G.sc.names.lookup ("isinstance" : Str) = some .globalImplicit) (hm : G.mg ("isinstance" : Str) = none) (hx : G.sc.names.lookup x = some .globalImplicit) (hxm : G.mg x = some (.ref (He.ga G.K x))) (hd : (x == ("__debug__" : Str)) = false)
    (he1 : ∀ env : Env, starEach [e, .Name x p2] env = (false, eval e env) :: starEach [.Name x p2] env) : JE G (.Call (.Name "isinstance" p) [e, .Name x p2] [] pos) (dUn (gIsi T) fa) :=
  isi_core hT (.own _) ha (fun X F => pe_glob (gl_of F hx) (by rw [F.hmg]; exact hxm) rfl hd) hg hm he1 (fun _ => rfl) (fun _ => rfl)
end

/-! ### statements -/
def sR {α : Type} (δ : AEnv) (r : R α) (k : α → AH → RS) : RS := match r with
  | .ok a h => k a h
  | .ex c m h => .ex δ c m h
  | .bad => .bad
def dNx : MS := fun δ Λ => .nx δ Λ
def dSeq (f g : MS) : MS := fun δ Λ => match f δ Λ with
  | .nx δ1 Λ1 => g δ1 Λ1
  | r => r
def dEx (fa : ME) : MS := fun δ Λ => sR δ (fa δ Λ) fun _ Λ1 => .nx δ Λ1
def dSet (i : Nat) (fa : ME) : MS := fun δ Λ => sR δ (fa δ Λ) fun v Λ1 => .nx (δ.set i (some v)) Λ1
def dRet (fa : ME) : MS := fun δ Λ => sR δ (fa δ Λ) fun v Λ1 => .rt v Λ1
def dRetN : MS := fun _ Λ => .rt .non Λ
def dIfS (ft : MT) (f g : MS) : MS := fun δ Λ => sR δ (ft δ Λ) fun b Λ1 => if b = true then f δ Λ1 else g δ Λ1
def dBrk : MS := fun δ Λ => .bk δ Λ
def dCnt : MS := fun δ Λ => .ct δ Λ
def dBad : MS := fun _ _ => .bad
/-- targets: a name, a tuple of names -/
inductive Tg where
  | nm (i : Nat) | tp (is : List Nat)
def setMany : List Nat → List AV → AEnv → AEnv
  | i :: is, v :: vs, δ => setMany is vs (δ.set i (some v))
  | _, _, δ => δ
def setT (T : Tg) (v : AV) (δ : AEnv) : Option AEnv := match T with
  | .nm i => some (δ.set i (some v))
  | .tp is => match seqT v with
    | some xs => if xs.length = is.length then some (setMany is xs δ) else none
    | none => none
def setR (T : Tg) (v : AV) (δ : AEnv) (Λ : AH) : RS := match setT T v δ with
  | some δ' => .nx δ' Λ
  | none => .bad
def dAsg (T : Tg) (fa : ME) : MS := fun δ Λ => sR δ (fa δ Λ) fun v Λ1 => setR T v δ Λ1
def gNames : List Nat → TGs
  | [] => gNil
  | i :: is => gCons (gName i) (gNames is)
def tgTG (K : PySem.W.Frag) : Tg → TG
  | .nm i => gName i
  | .tp is => gTup K is.length (gNames is)
def Tg.slots : Tg → List Nat
  | .nm i => [i]
  | .tp is => is
def JG (G : GX) (e : Expr) (T : Tg) : Prop := ∀ X, G.Fit X → PG X e (tgTG G.K T)
def JGs (G : GX) (es : List Expr) (is : List Nat) : Prop := ∀ X, G.Fit X → PGs X es (gNames is)
def LocG (G : GX) (x : Str) : Prop := G.sc.names.lookup x = some .local ∨ (G.blk = false ∧ G.sc.names.lookup x = some .cell)
theorem LocG.loc {G : GX} {X : Cx} (F : G.Fit X) {x : Str} (h : LocG G x) : Loc X.env.scope x := by
  rw [F.hsc]
  rcases h with h | h
  · exact .inl h
  · exact .inr h.2
theorem LocG.fn {G : GX} {X : Cx} (F : G.Fit X) {x : Str} (h : LocG G x) : X.fn x = true ∨ X.env.scope.names.lookup x = some .local := by
  rcases h with h | h
  · exact .inr (by rw [F.hsc]; exact h)
  · exact .inl (F.fn h.1 x (by rw [F.hsc]; exact h.2))
section
variable {G : GX} {e st : Expr} {es : List Expr} {fa : ME} {ft : MT} {s : Stmt} {ss : List Stmt} {f g : MS} {pos pos' : Pos} {T : Tg} {i : Nat} {x : Str} {is : List Nat} {k : Nat}
theorem jg_name (hi : G.N[i]? = some x) (hx : LocG G x) : JG G (.Name x pos) (.nm i) := fun X F => pg_name F.nd (by rw [F.hN]; exact hi) (hx.loc F) (hx.fn F)
theorem jgs_nil : JGs G [] [] := fun X F => pgs_nil
theorem jgs_cons (h1 : JG G e (.nm i)) (h2 : JGs G es is) (hs : ∀ env : Env, (assignEach (e :: es) env).map (·.2) = assign e env :: (assignEach es env).map (·.2)) : JGs G (e :: es) (i :: is) := fun X F => pgs_cons (h1 X F) (h2 X F) (hs _)
theorem jg_tup (h : JGs G es is) (hn : ∀ env : Env, (assignEach es env).length = is.length) (hst : ∀ env : Env, (assignEach es env).findIdx? (·.1) = none) (hc : G.hx = none := by rfl) : JG G (.Tuple es k pos) (.tp is) := fun X F => by
  have := pg_tup (pos := pos) (k := k) (F.calm hc) (h X F) (hn _) (hst _)
  rw [F.hK] at this
  exact this
theorem wipe_set {σ : L2.St} {i : Nat} {v : Option V} {vs : List Nat} (h : i ∈ vs) : L2.wipe (σ.set i v) vs = L2.wipe σ vs := by
  induction vs with
  | nil => cases h
  | cons w vs ih =>
    unfold L2.wipe
    rcases List.mem_cons.mp h with rfl | h
    · have : ∀ (l : List Nat), (L2.wipe (σ.set i v) l).set i none = (L2.wipe σ l).set i none := by
        intro l
        induction l with
        | nil => unfold L2.wipe; rw [List.set_set]
        | cons w l ih2 =>
          unfold L2.wipe
          by_cases hw : w = i
          · subst hw; rw [List.set_set, List.set_set, ih2]
          · rw [List.set_comm _ _ hw, ih2, List.set_comm _ _ (Ne.symm hw)]
      exact this vs
    · rw [ih h]
theorem names_run {K : PySem.W.Frag} {hx : Option HX} {ρ : List Addr} {H : Hp} {Q : L2.St → Hp → Prop} : ∀ {is : List Nat} {xs : List AV} {vs : List V} {δ : AEnv} {σ : L2.St}, (∀ i ∈ is, hxNe hx i = true) → RepE K hx ρ H δ σ → RepVs K ρ H xs vs → xs.length = is.length →
    (∀ σ', RepE K hx ρ H (setMany is xs δ) σ' → (∀ ws, (∀ i ∈ is, i ∈ ws) → L2.wipe σ' ws = L2.wipe σ ws) → Q σ' H) → gNames is vs σ H Q
  | [], _, _, δ, σ, _, v, .nil, _, q => ⟨rfl, q σ v fun _ _ => rfl⟩
  | i :: is, _, _, δ, σ, hn, v, .cons h t, hl, q => by
    refine ⟨_, _, rfl, ?_⟩
    show gNames is _ (σ.set i _) H Q
    refine names_run (fun j hj => hn j (List.mem_cons_of_mem _ hj)) (v.set (hn i List.mem_cons_self) h) t (by simpa using hl) fun σ' v' hw => q σ' v' fun ws hs => ?_
    rw [hw ws fun j hj => hs j (List.mem_cons_of_mem _ hj), wipe_set (hs i List.mem_cons_self)]
theorem tg_run {K : PySem.W.Frag} {hx : Option HX} {ρ : List Addr} {H : Hp} {Λ : AH} {Q : L2.St → Hp → Prop} {δ δ' : AEnv} {σ : L2.St} {a : AV} {v : V} (T : Tg) (r : Rep K ρ Λ H) (ve : RepE K hx ρ H δ σ) (t : RepV K ρ H a v) (h : setT T a δ = some δ') (hn : ∀ i ∈ T.slots, hxNe hx i = true)
    (q : ∀ σ', RepE K hx ρ H δ' σ' → (∀ ws, (∀ i ∈ T.slots, i ∈ ws) → L2.wipe σ' ws = L2.wipe σ ws) → Q σ' H) : tgTG K T v σ H Q := by
  cases T with
  | nm i =>
    cases h
    exact q _ (ve.set (hn i (by simp [Tg.slots])) t) fun ws hs => wipe_set (hs i (by simp [Tg.slots]))
  | tp is =>
    unfold setT at h
    simp only at h
    split at h
    · rename_i xs hx
      split at h
      · rename_i hl
        cases h
        have hh : ∃ p vs, v = .ref p ∧ SqT K H p vs ∧ RepVs K ρ H xs vs := by
          cases t <;> first
            | (cases hx; done)
            | (cases hx; rename_i h1 h2; exact ⟨_, _, rfl, SqT.of h1, h2⟩)
            | (cases hx; rename_i h1 h2; exact ⟨_, _, rfl, h1.sq, h2⟩)
        obtain ⟨p, vs, rfl, h1, h2⟩ := hh
        exact ⟨p, vs, rfl, h1, by rw [← h2.length]; exact hl, names_run (fun i hi => hn i (by simpa [Tg.slots] using hi)) ve h2 hl q⟩
      · cases h
    · cases h

theorem js_nil : JS G [] dNx := fun X F W tk => pss_imp pss_nil fun D σ H ⟨ρ, δ, Λ, r, v, p⟩ => p ρ σ H (Ext.refl ρ H) r v
theorem seq_post {K : PySem.W.Frag} {hx : Option HX} {W : WX} {D : Ends} {ρ : List Addr} {H : Hp} {f g : MS} {δ : AEnv} {Λ : AH} (p : PostS K hx W D ρ H (dSeq f g δ Λ)) : PostS K hx W { D with nx := tS K hx W g D } ρ H (f δ Λ) := by
  unfold dSeq at p
  cases h : f δ Λ with
  | nx δ1 Λ1 =>
    rw [h] at p
    exact fun ρ' σ' H' e r v => ⟨ρ', δ1, Λ1, r, v, PostS.step e p⟩
  | rt v Λ1 => rw [h] at p; exact p
  | bk δ1 Λ1 => rw [h] at p; exact p
  | ct δ1 Λ1 => rw [h] at p; exact p
  | ex δ1 c m Λ1 => rw [h] at p; exact p
  | bad => rw [h] at p; exact p
theorem js_cons (h1 : J1 G s f) (h2 : JS G ss g) : JS G (s :: ss) (dSeq f g) := fun X F W tk => pss_imp (pss_cons (h1 X F W tk) (h2 X F W tk)) fun D σ H ⟨ρ, δ, Λ, r, v, p⟩ => ⟨ρ, δ, Λ, r, v, seq_post p⟩
theorem js_one (h1 : J1 G s f) : JS G [s] f := fun X F W tk => pss_one (h1 X F W tk)
theorem sR_post {α β : Type} {K : PySem.W.Frag} {hx : Option HX} {W : WX} {D : Ends} {σ : L2.St} {T : List Addr → Hp → α → β → Prop} {ρ : List Addr} {H : Hp} {δ : AEnv} {r : R α} {k : α → AH → RS} (v : RepE K hx ρ H δ σ) (p : PostS K hx W D ρ H (sR δ r k)) :
    Post K W σ T ρ H r (fun u H1 => ∃ a Λ1 ρ1, Ext ρ ρ1 H H1 ∧ Rep K ρ1 Λ1 H1 ∧ T ρ1 H1 a u ∧ RepE K hx ρ1 H1 δ σ ∧ PostS K hx W D ρ1 H1 (k a Λ1)) := by
  cases r with
  | ok a Λ' => exact fun ρ2 u H2 e2 r2 t => ⟨a, Λ', ρ2, e2, r2, t, v.mono e2, PostS.step e2 p⟩
  | ex c m Λ' => exact fun ρ2 H2 d e2 r2 hd => p ρ2 σ H2 d e2 r2 (v.mono e2) hd
  | bad => exact p
theorem j1_pass : J1 G (.Pass pos) dNx := fun X F W tk => ps_imp ps_pass fun D σ H ⟨ρ, δ, Λ, r, v, p⟩ => p ρ σ H (Ext.refl ρ H) r v
theorem j1_brk : J1 G (.Break pos) dBrk := fun X F W tk => ps_imp ps_break fun D σ H ⟨ρ, δ, Λ, r, v, p⟩ => p ρ σ H (Ext.refl ρ H) r v
theorem j1_cnt : J1 G (.Continue pos) dCnt := fun X F W tk => ps_imp ps_continue fun D σ H ⟨ρ, δ, Λ, r, v, p⟩ => p ρ σ H (Ext.refl ρ H) r v
theorem j1_never {s : Stmt} : J1 G s dBad := fun X F W tk => ps_imp ps_never fun D σ H ⟨ρ, δ, Λ, r, v, p⟩ => p
theorem j1_expr (ha : JE G e fa) (hs : ∀ env : Env, swapsWith e none pos.line env = pure false) : J1 G (.Expr e pos) (dEx fa) := fun X F W tk => ps_imp (ps_expr (ha X F W tk) (hs _)) fun D σ H ⟨ρ, δ, Λ, r, v, p⟩ => by
  refine ⟨ρ, δ, Λ, r, v, (sR_post v p).imp fun u H1 ⟨a, Λ1, ρ1, e1, r1, t1, v1, p1⟩ => ?_⟩
  exact p1 ρ1 σ H1 (Ext.refl _ _) r1 v1
theorem j1_ret (ha : JE G e fa) : J1 G (.Return (some e) pos) (dRet fa) := fun X F W tk => ps_imp (ps_ret (ha X F W tk)) fun D σ H ⟨ρ, δ, Λ, r, v, p⟩ => by
  refine ⟨ρ, δ, Λ, r, v, (sR_post v p).imp fun u H1 ⟨a, Λ1, ρ1, e1, r1, t1, v1, p1⟩ => ?_⟩
  exact p1 ρ1 u H1 (Ext.refl _ _) r1 t1
theorem j1_retN : J1 G (.Return none pos) dRetN := fun X F W tk => ps_imp ps_retN fun D σ H ⟨ρ, δ, Λ, r, v, p⟩ => p ρ .non H (Ext.refl _ _) r .non
theorem j1_if {c : Expr} {a b : List Stmt} (hc : JT G c ft) (ha : JS G a f) (hb : JS G b g) : J1 G (.If c a b pos) (dIfS ft f g) := fun X F W tk => ps_imp (ps_if (hc X F W tk) (ha X F W tk) (hb X F W tk)) fun D σ H ⟨ρ, δ, Λ, r, v, p⟩ => by
  refine ⟨ρ, δ, Λ, r, v, (sR_post v p).imp fun u H1 ⟨a, Λ1, ρ1, e1, r1, t1, v1, p1⟩ => ?_⟩
  subst t1
  cases a with
  | true => exact ⟨ρ1, δ, Λ1, r1, v1, p1⟩
  | false => exact ⟨ρ1, δ, Λ1, r1, v1, p1⟩
theorem j1_set (hi : G.N[i]? = some x) (hx : LocG G x) (ha : JE G e fa) (hs : ∀ env : Env, swapsWith e (some (.Name x pos')) pos.line env = pure false) (hne : hxNe G.hx i = true := by rfl) : J1 G (.Assign [.Name x pos'] e pos) (dSet i fa) := fun X F W tk =>
  ps_imp (ps_set F.nd (by rw [F.hN]; exact hi) (hx.loc F) (ha X F W tk) (hs _) (hx.fn F)) fun D σ H ⟨ρ, δ, Λ, r, v, p⟩ => by
    refine ⟨ρ, δ, Λ, r, v, (sR_post v p).imp fun u H1 ⟨a, Λ1, ρ1, e1, r1, t1, v1, p1⟩ => ?_⟩
    exact p1 ρ1 _ H1 (Ext.refl _ _) r1 (v1.set hne t1)
theorem j1_asg {tg : Expr} (ha : JE G e fa) (hg : JG G tg T) (hs : ∀ env : Env, swapsWithSole [tg] e pos.line env = pure false) (hw : ∀ env : Env, swappedStores [tg] e env = pure none) (h1 : ∀ env : Env, (assignEach [tg] env).map (·.2) = [assign tg env]) (hne : ∀ i ∈ T.slots, hxNe G.hx i = true := by intro i _; rfl) :
    J1 G (.Assign [tg] e pos) (dAsg T fa) := fun X F W tk => ps_imp (ps_asg (ha X F W tk) (hg X F) (hs _) (hw _) (h1 _)) fun D σ H ⟨ρ, δ, Λ, r, v, p⟩ => by
  refine ⟨ρ, δ, Λ, r, v, (sR_post v p).imp fun u H1 ⟨a, Λ1, ρ1, e1, r1, t1, v1, p1⟩ => ?_⟩
  unfold setR at p1
  split at p1
  · rename_i δ' h
    exact tg_run T r1 v1 t1 h hne fun σ' v' _ => p1 ρ1 σ' H1 (Ext.refl _ _) r1 v'
  · exact p1.elim
end

/-! ### what a loop walks -/
inductive Src where
  | fix (xs : List AV) | lst (n : Nat) (xs : List AV)
def Src.items : Src → List AV
  | .fix xs => xs
  | .lst _ xs => xs
def Src.here : Src → AH → Prop
  | .fix _, _ => True
  | .lst n xs, Λ => Λ[n]? = some (.lst xs)
def SrcOk (K : PySem.W.Frag) (ρ0 : List Addr) (H0 : Hp) (src : Src) (J : It) : Prop := ∀ i ρ Λ H, Ext ρ0 ρ H0 H → Rep K ρ Λ H → src.here Λ →
  (i < src.items.length → J.go i H ∧ ∀ x H', J.yld i H x H' → H' = H ∧ ∃ a, src.items[i]? = some a ∧ RepV K ρ H a x) ∧ (i = src.items.length → J.stop i H)
theorem SrcOk.mono {K : PySem.W.Frag} {ρ ρ' : List Addr} {H H' : Hp} {src : Src} {J : It} (h : SrcOk K ρ H src J) (e : Ext ρ ρ' H H') : SrcOk K ρ' H' src J := fun i ρ2 Λ2 H2 e2 => h i ρ2 Λ2 H2 (e.trans e2)
abbrev MI := AEnv → AH → R Src
def PostI (K : PySem.W.Frag) (W : WX) (σ : L2.St) (ρ : List Addr) (H : Hp) (r : R Src) (Q : It → Hp → Prop) : Prop := match r with
  | .ok src Λ' => ∀ ρ' H' J, Ext ρ ρ' H H' → Rep K ρ' Λ' H' → SrcOk K ρ' H' src J → Q J H'
  | .ex c m Λ' => ∀ ρ' H' d, Ext ρ ρ' H H' → Rep K ρ' Λ' H' → RepD ρ' m d → W (.ref (He.ga K c)) d σ H'
  | .bad => False
def tI (K : PySem.W.Frag) (hx : Option HX) (W : WX) (f : MI) : TI := fun σ H R => ∃ ρ δ Λ, Rep K ρ Λ H ∧ RepE K hx ρ H δ σ ∧ PostI K W σ ρ H (f δ Λ) R
def JI (G : GX) (iter : Expr) (f : MI) : Prop := ∀ tg X, G.Fit X → ∀ W, L2N.Takes X W → PI X tg iter (tI G.K G.hx W f)
theorem pi_imp {X : Cx} {tg iter : Expr} {t t' : TI} (h : PI X tg iter t) (k : ∀ σ H R, t' σ H R → t σ H R) : PI X tg iter t' := ⟨fun pins s σ H R I q => h.run pins s σ H R I (k _ _ _ q)⟩
theorem pi_or {X : Cx} {tg iter : Expr} {t t' : TI} (h : PI X tg iter t) (h' : PI X tg iter t') : PI X tg iter (fun σ H R => t σ H R ∨ t' σ H R) := ⟨fun pins s σ H R I q => q.elim (h.run pins s σ H R I) (h'.run pins s σ H R I)⟩
def srcA (a : AV) (Λ : AH) : R Src := match a with
  | .tup xs => .ok (.fix xs) Λ
  | .ct xs => .ok (.fix xs) Λ
  | .cl xs => .ok (.fix xs) Λ
  | .ref n => match Λ[n]? with
    | some (.lst xs) => .ok (.lst n xs) Λ
    | _ => .bad
  | _ => .bad
/-- a list, a tuple -/
def dIt (fa : ME) : MI := fun δ Λ => (fa δ Λ).bind srcA
def rgA (lo : Int) (n : Nat) : List AV := (List.range n).map fun (i : Nat) => .int (lo + (i : Int))
def rgR1 (as : List AV) (Λ : AH) : R Src := match as with
  | [.int j] => if -(2 ^ 62) ≤ j ∧ j < 2 ^ 62 then .ok (.fix (rgA 0 j.toNat)) Λ else .bad
  | _ => .bad
def rgR2 (as : List AV) (Λ : AH) : R Src := match as with
  | [.int i, .int j] => if -(2 ^ 62) ≤ i ∧ i < 2 ^ 62 ∧ -(2 ^ 62) ≤ j ∧ j < 2 ^ 62 then .ok (.fix (rgA i (j - i).toNat)) Λ else .bad
  | _ => .bad
def dRg1 (fa : MA) : MI := fun δ Λ => (fa δ Λ).bind rgR1
def dRg2 (fa : MA) : MI := fun δ Λ => (fa δ Λ).bind rgR2
section
variable {G : GX} {a b e : Expr} {fa : ME} {fr : MA} {pos p : Pos}
theorem bind_postI {α β : Type} {K : PySem.W.Frag} {W : WX} {σ : L2.St} {T : List Addr → Hp → α → β → Prop} {ρ : List Addr} {H : Hp} {r : R α} {f : α → AH → R Src} {Q : It → Hp → Prop} (h : PostI K W σ ρ H (r.bind f) Q) :
    Post K W σ T ρ H r (fun u H1 => ∃ a Λ1 ρ1, Ext ρ ρ1 H H1 ∧ Rep K ρ1 Λ1 H1 ∧ T ρ1 H1 a u ∧ PostI K W σ ρ1 H1 (f a Λ1) Q) := by
  cases r with
  | ok a Λ' =>
    refine fun ρ2 u H2 e2 r2 t => ⟨a, Λ', ρ2, e2, r2, t, ?_⟩
    have h : PostI K W σ ρ H (f a Λ') Q := h
    revert h
    cases f a Λ' with
    | ok s Λ2 => exact fun h ρ3 H3 J e3 => h ρ3 H3 J (e2.trans e3)
    | ex c m Λ2 => exact fun h ρ3 H3 d e3 => h ρ3 H3 d (e2.trans e3)
    | bad => exact fun h => h
  | ex c m Λ' => exact h
  | bad => exact h
theorem srcTup {K : PySem.W.Frag} {ρ : List Addr} {H : Hp} {a : Addr} {xs : List AV} {vs : List V} (h : SqT K H a vs) (t : RepVs K ρ H xs vs) : SrcOk K ρ H (.fix xs) (Itt K a) := fun i ρ' Λ' H' e r _ => by
  have h' := sqT_keep e.keep h
  refine ⟨fun hi => ?_, fun hi => ⟨vs, h', by rw [← t.length]; exact Nat.le_of_eq hi.symm⟩⟩
  have hi' : i < vs.length := by rw [← t.length]; exact hi
  refine ⟨⟨vs, vs[i], h', List.getElem?_eq_getElem hi'⟩, fun x H2 y => ?_⟩
  obtain ⟨rfl, y⟩ := y
  obtain ⟨a, h1, h2⟩ := t.getR (y vs h')
  exact ⟨rfl, a, h1, h2.mono e⟩
theorem srcFz {K : PySem.W.Frag} {ρ : List Addr} {H : Hp} {a : Addr} {xs : List AV} {vs : List V} (h : FzL K H a vs) (t : RepVs K ρ H xs vs) : SrcOk K ρ H (.fix xs) (Itl K a) := fun i ρ' Λ' H' e r _ => by
  have h' := (h.keep e.keep).sq
  refine ⟨fun hi => ?_, fun hi => ⟨vs, h', by rw [← t.length]; exact Nat.le_of_eq hi.symm⟩⟩
  have hi' : i < vs.length := by rw [← t.length]; exact hi
  refine ⟨⟨vs, vs[i], h', List.getElem?_eq_getElem hi'⟩, fun x H2 y => ?_⟩
  obtain ⟨rfl, y⟩ := y
  obtain ⟨a, h1, h2⟩ := t.getR (y vs h')
  exact ⟨rfl, a, h1, h2.mono e⟩
theorem srcLst {K : PySem.W.Frag} {ρ : List Addr} {H : Hp} {a : Addr} {n : Nat} {xs : List AV} (ha : ρ[n]? = some a) : SrcOk K ρ H (.lst n xs) (Itl K a) := fun i ρ' Λ' H' e r hh => by
  obtain ⟨vs, q1, t⟩ := lst_at r (e.get ha) hh
  have h' : SqL K H' a vs := SqL.of q1
  refine ⟨fun hi => ?_, fun hi => ⟨vs, h', by rw [← t.length]; exact Nat.le_of_eq hi.symm⟩⟩
  have hi' : i < vs.length := by rw [← t.length]; exact hi
  refine ⟨⟨vs, vs[i], h', List.getElem?_eq_getElem hi'⟩, fun x H2 y => ?_⟩
  obtain ⟨rfl, y⟩ := y
  exact ⟨rfl, t.getR (y vs h')⟩
theorem srcRg {K : PySem.W.Frag} {ρ : List Addr} {H : Hp} {lo : Int} {n : Nat} : SrcOk K ρ H (.fix (rgA lo n)) (Itr lo n) := fun i ρ' Λ' H' e r _ => by
  have hl : (rgA lo n).length = n := by simp [rgA]
  refine ⟨fun hi => ⟨by rw [← hl]; exact hi, fun x H2 ⟨y1, y2⟩ => ⟨y1, .int (lo + (i : Int)), ?_, by rw [y2]; exact .int _⟩⟩, fun hi => by show n ≤ i; rw [hi]; exact Nat.le_of_eq hl.symm⟩
  have hi' : i < n := by rw [← hl]; exact hi
  simp [Src.items, rgA, hi']
theorem ji_seq (ha : JE G a fa) : JI G a (dIt fa) := fun tg X F W tk => by
  refine pi_imp (pi_or (pi_list (ha X F W tk)) (pi_tup (ha X F W tk))) fun σ H R ⟨ρ, δ, Λ, r, v, p⟩ => ?_
  have q := bind_postI (T := TV G.K) p
  unfold dIt at p
  cases h : fa δ Λ with
  | bad => rw [h] at p; exact p.elim
  | ex c m Λ' =>
    rw [h] at p
    exact .inl ⟨ρ, δ, Λ, r, v, by rw [h]; exact p⟩
  | ok x Λ1 =>
    rw [h] at p q
    have p : PostI G.K W σ ρ H (srcA x Λ1) R := p
    unfold srcA at p
    split at p
    · refine .inr ⟨ρ, δ, Λ, r, v, ?_⟩
      rw [h]
      intro ρ1 u H1 e1 r1 t1
      cases t1 with
      | tup h1 t1 => exact ⟨_, rfl, ⟨_, SqT.of h1⟩, p ρ1 H1 _ e1 r1 (by rw [F.hK]; exact srcTup (SqT.of h1) t1)⟩
    · refine .inr ⟨ρ, δ, Λ, r, v, ?_⟩
      rw [h]
      intro ρ1 u H1 e1 r1 t1
      cases t1 with
      | ct h1 t1 => exact ⟨_, rfl, ⟨_, by rw [F.hK]; exact h1.sq⟩, p ρ1 H1 _ e1 r1 (by rw [F.hK]; exact srcTup h1.sq t1)⟩
    · refine .inl ⟨ρ, δ, Λ, r, v, ?_⟩
      rw [h]
      intro ρ1 u H1 e1 r1 t1
      cases t1 with
      | cl h1 t1 => exact ⟨_, rfl, ⟨_, by rw [F.hK]; exact h1.sq⟩, p ρ1 H1 _ e1 r1 (by rw [F.hK]; exact srcFz h1 t1)⟩
    · split at p
      · rename_i hn
        refine .inl ⟨ρ, δ, Λ, r, v, ?_⟩
        rw [h]
        intro ρ1 u H1 e1 r1 t1
        cases t1 with
        | ref ha =>
          obtain ⟨vs, q1, t2⟩ := lst_at r1 ha hn
          exact ⟨_, rfl, ⟨_, SqL.of q1⟩, p ρ1 H1 _ e1 r1 (by rw [F.hK]; exact srcLst ha)⟩
      · exact p.elim
    · exact p.elim
theorem ji_rg1 (hg : G.sc.names.lookup ("range" : Str) = some .globalImplicit) (hm : G.mg ("range" : Str) = none) (ha : JA G [a] fr) (hs : ∀ env : Env, starEach [a] env = [(false, eval a env)]) : JI G (.Call (.Name "range" p) [a] [] pos) (dRg1 fr) := fun tg X F W tk => by
  refine pi_imp (pi_range1 (gl_of F hg) (by rw [F.hmg]; exact hm) (ha X F W tk) (hs _)) fun σ H R ⟨ρ, δ, Λ, r, v, q⟩ => ?_
  refine ⟨ρ, δ, Λ, r, v, (bind_postI (T := TVs G.K) q).imp fun u H1 ⟨as, Λ1, ρ1, e1, r1, t1, p1⟩ => ?_⟩
  unfold rgR1 at p1
  split at p1
  · split at p1
    · rename_i hb
      obtain ⟨w, rfl, t2⟩ := rep1 t1
      cases t2
      exact ⟨_, rfl, hb.1, hb.2, p1 ρ1 H1 _ (Ext.refl _ _) r1 srcRg⟩
    · exact p1.elim
  · exact p1.elim
theorem ji_rg2 (hg : G.sc.names.lookup ("range" : Str) = some .globalImplicit) (hm : G.mg ("range" : Str) = none) (ha : JA G [a, b] fr) (hs : ∀ env : Env, starEach [a, b] env = [(false, eval a env), (false, eval b env)]) (hs2 : ∀ env : Env, starEach [b] env = [(false, eval b env)]) : JI G (.Call (.Name "range" p) [a, b] [] pos) (dRg2 fr) := fun tg X F W tk => by
  refine pi_imp (pi_range2 (gl_of F hg) (by rw [F.hmg]; exact hm) (ha X F W tk) (hs _) (hs2 _)) fun σ H R ⟨ρ, δ, Λ, r, v, q⟩ => ?_
  refine ⟨ρ, δ, Λ, r, v, (bind_postI (T := TVs G.K) q).imp fun u H1 ⟨as, Λ1, ρ1, e1, r1, t1, p1⟩ => ?_⟩
  unfold rgR2 at p1
  split at p1
  · split at p1
    · rename_i hb
      obtain ⟨w, w', rfl, t2, t3⟩ := rep2 t1
      cases t2; cases t3
      exact ⟨_, _, rfl, hb, p1 ρ1 H1 _ (Ext.refl _ _) r1 srcRg⟩
    · exact p1.elim
  · exact p1.elim
end

/-! ### for -/
noncomputable def forL (here : AH → Prop) (T : Tg) (body : MS) : List AV → AEnv → AH → RS
  | [], δ, Λ => if here Λ then .nx δ Λ else .bad
  | x :: xs, δ, Λ => if here Λ then
      match setT T x δ with
      | some δ1 => match body δ1 Λ with
        | .nx δ2 Λ2 => forL here T body xs δ2 Λ2
        | .ct δ2 Λ2 => forL here T body xs δ2 Λ2
        | .bk δ2 Λ2 => .nx δ2 Λ2
        | r => r
      | none => .bad
    else .bad
noncomputable def dFor (fi : MI) (T : Tg) (body : MS) : MS := fun δ Λ => sR δ (fi δ Λ) fun src Λ1 => forL src.here T body src.items δ Λ1
section
variable {G : GX} {iter : Expr} {tg : Expr} {fi : MI} {f : MS} {T : Tg} {body : List Stmt} {pos : Pos} {c : Expr} {ft : MT}
theorem j1_for (hi : JI G iter fi) (hg : JG G tg T) (hb : JS G body f) (hs : ∀ (env : Env) x, foldedSetIterable iter env x = pure x) (hc : G.hx = none := by rfl) : J1 G (.For tg iter body [] pos) (dFor fi T f) := fun X F W tk => by
  refine ps_imp (ps_for F.own (F.calm hc) (hi tg X F W tk) (hg X F) (hb X F W tk) (hs _)) fun D σ H ⟨ρ, δ, Λ, r, v, p⟩ => ?_
  refine ⟨ρ, δ, Λ, r, v, ?_⟩
  unfold dFor at p
  cases h : fi δ Λ with
  | bad => rw [h] at p; exact p.elim
  | ex c m Λ' =>
    rw [h] at p
    exact fun ρ2 H2 d e2 r2 hd => p ρ2 σ H2 d e2 r2 (v.mono e2) hd
  | ok src Λ1 =>
    rw [h] at p
    intro ρ1 H1 J e1 r1 so
    have p : PostS G.K G.hx W D ρ H (forL src.here T f src.items δ Λ1) := p
    refine ⟨fun i m σ' H' => m = src.items.length - i ∧ i ≤ src.items.length ∧ ∃ ρ' δ' Λ', Ext ρ1 ρ' H1 H' ∧ Rep G.K ρ' Λ' H' ∧ RepE G.K G.hx ρ' H' δ' σ' ∧ PostS G.K G.hx W D ρ' H' (forL src.here T f (src.items.drop i) δ' Λ'), ⟨_, rfl, Nat.zero_le _, ρ1, δ, Λ1, Ext.refl _ _, r1, v.mono e1, PostS.step e1 p⟩, ?_⟩
    rintro i m σ' H' ⟨rfl, hle, ρ', δ', Λ', e', r', v', p'⟩
    by_cases hi : i < src.items.length
    · rw [List.drop_eq_getElem_cons hi] at p'
      unfold forL at p'
      split at p'
      · rename_i hh
        obtain ⟨go, yl⟩ := (so i ρ' Λ' H' e' r' hh).1 hi
        split at p'
        · rename_i δ1 hset
          refine .inr ⟨go, fun σ2 H2 => ∃ ρ' δ' Λ', Ext ρ1 ρ' H1 H2 ∧ Rep G.K ρ' Λ' H2 ∧ RepE G.K G.hx ρ' H2 δ' σ2 ∧ PostS G.K G.hx W D ρ' H2 (forL src.here T f (src.items.drop (i + 1)) δ' Λ'), fun σ2 H2 q => ⟨src.items.length - (i + 1), by omega, rfl, hi, q⟩, fun x H2 hy => ?_⟩
          obtain ⟨rfl, a, ha, ta⟩ := yl x H2 hy
          rw [List.getElem?_eq_getElem hi] at ha
          cases ha
          refine tg_run T r' v' ta hset (fun i _ => by rw [hc]; rfl) fun σ2 v2 _ => ⟨ρ', δ1, Λ', r', v2, ?_⟩
          revert p'
          cases f δ1 Λ' with
          | nx δ2 Λ2 => exact fun p' ρ2 σ3 H3 e3 r3 v3 => ⟨ρ2, δ2, Λ2, e'.trans e3, r3, v3, PostS.step e3 p'⟩
          | ct δ2 Λ2 => exact fun p' ρ2 σ3 H3 e3 r3 v3 => ⟨ρ2, δ2, Λ2, e'.trans e3, r3, v3, PostS.step e3 p'⟩
          | bk δ2 Λ2 => exact fun p' => p'
          | rt v2 Λ2 => exact fun p' => p'
          | ex δ2 c m Λ2 => exact fun p' => p'
          | bad => exact fun p' => p'
        · exact p'.elim
      · exact p'.elim
    · have hi' : i = src.items.length := by omega
      subst hi'
      rw [List.drop_length] at p'
      unfold forL at p'
      split at p'
      · rename_i hh
        exact .inl ⟨(so _ ρ' Λ' H' e' r' hh).2 rfl, p' ρ' σ' H' (Ext.refl _ _) r' v'⟩
      · exact p'.elim
end

/-! ### while, by a fuel -/
def whileF (ft : MT) (body : MS) : Nat → AEnv → AH → RS
  | 0, _, _ => .bad
  | n + 1, δ, Λ => sR δ (ft δ Λ) fun b Λ1 => if b = true then
      match body δ Λ1 with
      | .nx δ2 Λ2 => whileF ft body n δ2 Λ2
      | .ct δ2 Λ2 => whileF ft body n δ2 Λ2
      | .bk δ2 Λ2 => .nx δ2 Λ2
      | r => r
    else .nx δ Λ1
def dWhile (n : Nat) (ft : MT) (body : MS) : MS := fun δ Λ => whileF ft body n δ Λ
section
variable {G : GX} {f : MS} {body : List Stmt} {pos : Pos} {c : Expr} {ft : MT}
theorem j1_while (n : Nat) (hc : JT G c ft) (hb : JS G body f) : J1 G (.While c body [] pos) (dWhile n ft f) := fun X F W tk => by
  refine ps_imp (ps_while F.own (hc X F W tk) (hb X F W tk)) fun D σ H ⟨ρ, δ, Λ, r, v, p⟩ => ?_
  refine ⟨fun m σ' H' => ∃ ρ' δ' Λ', Rep G.K ρ' Λ' H' ∧ RepE G.K G.hx ρ' H' δ' σ' ∧ PostS G.K G.hx W D ρ' H' (whileF ft f m δ' Λ'), ⟨n, ρ, δ, Λ, r, v, p⟩, ?_⟩
  rintro m σ' H' ⟨ρ', δ', Λ', r', v', p'⟩
  cases m with
  | zero => exact p'.elim
  | succ m =>
    unfold whileF at p'
    refine ⟨ρ', δ', Λ', r', v', (sR_post v' p').imp fun u H1 ⟨a, Λ1, ρ1, e1, r1, t1, v1, p1⟩ => ?_⟩
    subst t1
    cases a with
    | false => exact p1 ρ1 σ' H1 (Ext.refl _ _) r1 v1
    | true =>
      refine ⟨fun σ2 H2 => ∃ ρ' δ' Λ', Rep G.K ρ' Λ' H2 ∧ RepE G.K G.hx ρ' H2 δ' σ2 ∧ PostS G.K G.hx W D ρ' H2 (whileF ft f m δ' Λ'), fun σ2 H2 q => ⟨m, Nat.lt_succ_self _, q⟩, ρ1, δ', Λ1, r1, v1, ?_⟩
      rw [if_pos rfl] at p1
      revert p1
      cases f δ' Λ1 with
      | nx δ2 Λ2 => exact fun p1 ρ2 σ3 H3 e3 r3 v3 => ⟨ρ2, δ2, Λ2, r3, v3, PostS.step e3 p1⟩
      | ct δ2 Λ2 => exact fun p1 ρ2 σ3 H3 e3 r3 v3 => ⟨ρ2, δ2, Λ2, r3, v3, PostS.step e3 p1⟩
      | bk δ2 Λ2 => exact fun p1 => p1
      | rt v2 Λ2 => exact fun p1 => p1
      | ex δ2 c m Λ2 => exact fun p1 => p1
      | bad => exact fun p1 => p1
end

/-! ### list comprehensions -/
noncomputable def lcL (n : Nat) (here : AH → Prop) (T : Tg) (ft : MT) (fe : ME) : List AV → AEnv → AH → Option AH
  | [], _, Λ => if here Λ then some Λ else none
  | x :: xs, δ, Λ => if here Λ then
      match setT T x δ with
      | some δ1 => match ft δ1 Λ with
        | .ok true Λ1 => match fe δ1 Λ1 with
          | .ok y Λ2 => match Λ2[n]? with
            | some (.lst acc) => if acc.length < sizeLine then lcL n here T ft fe xs δ (Λ2.set n (.lst (acc ++ [y]))) else none
            | _ => none
          | _ => none
        | .ok false Λ1 => lcL n here T ft fe xs δ Λ1
        | _ => none
      | none => none
    else none
noncomputable def lcR (vs : List Nat) (T : Tg) (ft : MT) (fe : ME) (δ : AEnv) (src : Src) (Λ : AH) : R AV := match lcL Λ.length src.here T ft fe src.items (wipeA δ vs) (Λ ++ [.lst []]) with
  | some Λ2 => .ok (.ref Λ.length) Λ2
  | none => .bad
noncomputable def dLc (vs : List Nat) (fi : MI) (T : Tg) (ft : MT) (fe : ME) : ME := fun δ Λ => (fi δ Λ).bind (lcR vs T ft fe δ)
def dYes : MT := fun _ Λ => .ok true Λ
/-- a block's own place -/
def GX.block (G : GX) (scope : Scope) : GX := { G with sc := relS scope G.sc, blk := true }
def JTs (G : GX) (ifs : List Expr) (f : MT) : Prop := ∀ X, G.Fit X → ∀ W, L2N.Takes X W → PTs X ifs (tT G.K G.hx W f)
theorem jts_nil {G : GX} : JTs G [] dYes := fun X F W tk => ⟨fun pins s σ H Q I ⟨ρ, δ, Λ, r, v, p⟩ => pts_nil.run pins s σ H Q I (p.ok r rfl)⟩
theorem jts_one {G : GX} {c : Expr} {f : MT} (h : JT G c f) : JTs G [c] f := fun X F W tk => pts_one (h X F W tk)
theorem GX.Fit.toBlk {G : GX} {X : Cx} (F : G.Fit X) (scope : Scope) (s : Shared) (H : Hp) (C : Addr) (cl : List (Str × Addr)) (fp : List Addr) (hc : G.hx = none := by rfl) : (G.block scope).Fit (X.blk s H scope (compEnvC scope cl C X.env) fp) where
  hP := F.hP
  hw := F.hw
  hK := F.hK
  hmg := F.hmg
  hbase := F.hbase
  hN := F.hN
  hsc := by
    show relabel scope X.env = relS scope G.sc
    rw [← F.hsc]
    rfl
  calm := fun _ => F.calm hc
  hd := fun _ => F.hd hc
  hot := fun x e => by rw [show (G.block scope).hx = G.hx from rfl, hc] at e; cases e
  room := F.room
  own := PassesOwn.never
  nd := F.nd
  fn := fun h => by cases h
  try_ := fun h => by cases h
theorem takesF {X : Cx} : L2N.Takes X (fun _ _ _ _ => False) := takes0N
end NP

set_option Elab.async false
set_option linter.all false
set_option maxRecDepth 100000
set_option maxHeartbeats 1000000
namespace NP
open PySem PySem.Spec PyProof.Rows L2
section
variable {G : GX} {iter elt tg : Expr} {ifs : List Expr} {fi : MI} {ft : MT} {fe : ME} {T : Tg} {scope : Scope} {own : List (Str × Nat)} {pos spos py : Pos}
theorem wipe_wipe {σ : L2.St} {vs : List Nat} : ∀ {ws : List Nat}, (∀ i ∈ ws, i ∈ vs) → L2.wipe (L2.wipe σ ws) vs = L2.wipe σ vs
  | [], _ => rfl
  | w :: ws, h => by
    show L2.wipe ((L2.wipe σ ws).set w none) vs = _
    rw [wipe_set (h w List.mem_cons_self), wipe_wipe fun i hi => h i (List.mem_cons_of_mem _ hi)]
abbrev W0 : WX := fun _ _ _ _ => False
theorem lc_read {W : WX} {σ : L2.St} {H : Hp} {Q : VK} (hc : G.hx = none) (hT : ∀ i ∈ T.slots, i ∈ own.map (·.2)) (h : tE G.K G.hx W (dLc (own.map (·.2)) fi T ft fe) σ H Q) :
    tLc (tI G.K G.hx W fi) (tgTG G.K T) (tT G.K G.hx W0 ft) (tE G.K G.hx W0 fe) (own.map (·.2)) σ H Q := by
  obtain ⟨ρ, δ, Λ, r, v, p⟩ := h
  refine ⟨ρ, δ, Λ, r, v, ?_⟩
  unfold dLc at p
  cases hf : fi δ Λ with
  | bad => rw [hf] at p; exact p.elim
  | ex c m Λ' => rw [hf] at p; exact p
  | ok src Λ1 =>
    rw [hf] at p
    have p : Post G.K W σ (TV G.K) ρ H (lcR (own.map (·.2)) T ft fe δ src Λ1) Q := p
    intro ρ1 H1 J e1 r1 so D hD
    unfold lcR at p
    split at p
    · rename_i Λf hl
      obtain ⟨rD, eD, hn⟩ := r1.alloc (u := .lst []) (o := .lst []) hD (show RepVs _ _ _ _ _ from .nil)
      have vw := (v.mono e1).wipe hc (own.map (·.2))
      refine ⟨fun i m H' => m = src.items.length - i ∧ i ≤ src.items.length ∧ ∃ ρ' Λ', Ext (ρ1 ++ [D]) ρ' (upd H1 D (.lst [])) H' ∧ Rep G.K ρ' Λ' H' ∧ lcL Λ1.length src.here T ft fe (src.items.drop i) (wipeA δ (own.map (·.2))) Λ' = some Λf,
        ⟨_, rfl, Nat.zero_le _, _, _, Ext.refl _ _, rD, hl⟩, ?_⟩
      rintro i m H' ⟨rfl, hle, ρ', Λ', e', r', q'⟩
      have hD' := e'.get hn
      have e1' := eD.trans e'
      by_cases hi : i < src.items.length
      · rw [List.drop_eq_getElem_cons hi] at q'
        unfold lcL at q'
        split at q'
        · rename_i hh
          obtain ⟨go, yl⟩ := (so i ρ' Λ' H' e1' r' hh).1 hi
          split at q'
          · rename_i δ1 hset
            refine .inr ⟨go, fun H2 => ∃ ρ' Λ', Ext (ρ1 ++ [D]) ρ' (upd H1 D (.lst [])) H2 ∧ Rep G.K ρ' Λ' H2 ∧ lcL Λ1.length src.here T ft fe (src.items.drop (i + 1)) (wipeA δ (own.map (·.2))) Λ' = some Λf, fun H2 q => ⟨src.items.length - (i + 1), by omega, rfl, hi, q⟩, fun x H2 hy => ?_⟩
            obtain ⟨rfl, a, ha, ta⟩ := yl x H2 hy
            rw [List.getElem?_eq_getElem hi] at ha
            cases ha
            refine tg_run T r' (vw.mono e1') ta hset (fun i _ => by rw [hc]; rfl) fun σ2 v2 hw => ⟨(hw _ hT).trans (wipe_wipe fun _ h => h), ρ', δ1, Λ', r', v2, ?_⟩
            revert q'
            cases hft : ft δ1 Λ' with
            | bad => intro q'; cases q'
            | ex c m Λ2 => intro q'; cases q'
            | ok b Λ2 =>
              cases b with
              | false =>
                intro q' ρ2 u H3 e3 r3 t3
                subst t3
                exact ⟨ρ2, Λ2, e'.trans e3, r3, q'⟩
              | true =>
                intro q' ρ2 u H3 e3 r3 t3
                subst t3
                refine ⟨ρ2, δ1, Λ2, r3, v2.mono e3, ?_⟩
                revert q'
                simp only
                cases hfe : fe δ1 Λ2 with
                | bad => intro q'; cases q'
                | ex c m Λ3 => intro q'; cases q'
                | ok y Λ3 =>
                  intro q' ρ4 u4 H4 e4 r4 t4
                  simp only at q'
                  split at q'
                  · rename_i acc hacc
                    split at q'
                    · rename_i hlen
                      have hD4 := e4.get (e3.get hD')
                      obtain ⟨vs, h1, h2⟩ := lst_at r4 hD4 hacc
                      obtain ⟨r5, e5⟩ := r4.write (u := .lst (vs ++ [u4])) (o' := .lst (acc ++ [y])) hD4 hacc (show RepVs _ _ _ _ _ from h2.append (.cons t4 .nil))
                      exact ⟨vs, h1, by rw [← h2.length]; exact hlen, ρ4, _, ((e'.trans e3).trans e4).trans e5, r5, q'⟩
                    · cases q'
                  · cases q'
          · cases q'
        · cases q'
      · have hi' : i = src.items.length := by omega
        subst hi'
        rw [List.drop_length] at q'
        unfold lcL at q'
        split at q'
        · rename_i hh
          cases q'
          exact .inl ⟨(so _ ρ' _ H' e1' r' hh).2 rfl, p ρ' (.ref D) H' (e1.trans e1') r' (.ref hD')⟩
        · cases q'
    · exact p.elim
theorem je_lc (hi : JI G iter fi) (ok : blkC G.N G.sc scope own = true) (hg : JG (G.block scope) tg T) (ht : JTs (G.block scope) ifs ft) (he : JE (G.block scope) elt fe) (hT : ∀ i ∈ T.slots, i ∈ own.map (·.2))
    (hs : ∀ (env : Env) x, foldedSetIterable iter env x = pure x) (hc : G.hx = none := by rfl) : JE G (.ListComp elt [⟨tg, iter, ifs, 0⟩] scope pos) (dLc (own.map (·.2)) fi T ft fe) := fun X F W tk =>
  pe_imp (pe_lc (F.calm hc) F.nd (hi tg X F W tk) (by rw [F.hN, F.hsc]; exact blkOk_by ok) (fun s H C cl fp => hg _ (F.toBlk scope s H C cl fp hc)) (fun s H C cl fp => ht _ (F.toBlk scope s H C cl fp hc) W0 takes0N) (fun s H C cl fp => he _ (F.toBlk scope s H C cl fp hc) W0 takes0N) (hs _))
    fun σ H Q h => lc_read hc hT h
theorem j1_setLc {i : Nat} {y : Str} (hy : G.N[i]? = some y) (hyl : G.sc.names.lookup y = some .local) (hl : (py.line == pos.line) = true) (hna : (scope.names.any fun (n, k) => n == y && (k == .local || k == .cell)) = false)
    (hi : JI G iter fi) (ok : blkC G.N G.sc scope own = true) (hg : JG (G.block scope) tg T) (ht : JTs (G.block scope) ifs ft) (he : JE (G.block scope) elt fe) (hT : ∀ i ∈ T.slots, i ∈ own.map (·.2))
    (hs : ∀ (env : Env) x, foldedSetIterable iter env x = pure x) (hk : G.sc.kind = .function) (hc : G.hx = none := by rfl) : J1 G (.Assign [.Name y py] (.ListComp elt [⟨tg, iter, ifs, 0⟩] scope pos) spos) (dSet i (dLc (own.map (·.2)) fi T ft fe)) := fun X F W tk =>
  ps_imp (ps_setLc (F.calm hc) F.nd (by rw [F.hN]; exact hy) (by rw [F.hsc]; exact hyl) (sw_true (by rw [F.hsc]; exact hk) (by rw [F.hsc]; exact hyl) hl hna) (hi tg X F W tk) (by rw [F.hN, F.hsc]; exact blkOk_by ok) (fun s H C cl fp => hg _ (F.toBlk scope s H C cl fp hc)) (fun s H C cl fp => ht _ (F.toBlk scope s H C cl fp hc) W0 takes0N) (fun s H C cl fp => he _ (F.toBlk scope s H C cl fp hc) W0 takes0N) (hs _))
    fun D σ H ⟨ρ, δ, Λ, r, v, p⟩ => by
      refine lc_read (W := W) hc hT ⟨ρ, δ, Λ, r, v, (sR_post v p).imp fun u H1 ⟨a, Λ1, ρ1, e1, r1, t1, v1, p1⟩ => ?_⟩
      exact p1 ρ1 _ H1 (Ext.refl _ _) r1 (v1.set (by rw [hc]; rfl) t1)
end
end NP

set_option Elab.async false
set_option linter.all false
set_option maxRecDepth 100000
set_option maxHeartbeats 1000000
namespace NP
open PySem PySem.Spec PyProof.Rows L2
/-! ### tables written -/
def putA {κ : Type} [DecidableEq κ] (kvs : List (κ × AV)) (k : κ) (v : AV) : List (κ × AV) :=
  if (lookA kvs k).isSome = true then kvs.map (fun p => if p.1 = k then (p.1, v) else p) else kvs ++ [(k, v)]
def dropA {κ : Type} [DecidableEq κ] (kvs : List (κ × AV)) (k : κ) : List (κ × AV) := kvs.filter fun p => decide (p.1 ≠ k)
section
variable {κ : Type} [DecidableEq κ] {K : PySem.W.Frag} {ρ : List Addr} {H : Hp} {xs : List (κ × AV)} {ys : List (κ × V)} {k : κ} {a : AV} {u : V}
theorem RepKV.put (t : RepKV K ρ H xs ys) (h : RepV K ρ H a u) : RepKV K ρ H (putA xs k a) (putK ys k u) := by
  unfold putA putK
  rw [isSome_rep t k, valV_any k ys]
  by_cases hs : (valV ys k).isSome = true
  · rw [if_pos hs, if_pos hs]
    clear hs
    induction t with
    | nil => exact .nil
    | @cons p q ps qs h1 t1 ih =>
      rw [List.map_cons, List.map_cons]
      refine .cons ?_ ih
      by_cases hk : p.1 = k
      · rw [if_pos hk, if_pos (h1.1.symm.trans hk)]
        exact ⟨h1.1, h⟩
      · rw [if_neg hk, if_neg fun z => hk (h1.1.trans z)]
        exact h1
  · rw [if_neg hs, if_neg hs]
    exact Paired.snoc t ⟨rfl, h⟩
theorem RepKV.drop (t : RepKV K ρ H xs ys) : RepKV K ρ H (dropA xs k) (dropK ys k) := by
  unfold dropA dropK
  induction t with
  | nil => exact .nil
  | @cons p q ps qs h1 t1 ih =>
    rw [List.filter_cons, List.filter_cons, ← h1.1]
    by_cases hk : p.1 = k
    · rw [if_neg (by simp [hk]), if_neg (by simp [hk])]
      exact ih
    · rw [if_pos (by simp [hk]), if_pos (by simp [hk])]
      exact .cons h1 ih
end
def setI (o i v : AV) (Λ : AH) : Option AH := match o with
  | .ref n => match Λ[n]? with
    | some (.lst xs) => match i with
      | .int k => (ixN xs.length k).map fun j => Λ.set n (.lst (xs.set j v))
      | _ => none
    | some (.dk kvs) => match keyA i with
      | some k => if kvs.length < sizeLine then some (Λ.set n (.dk (putA kvs k v))) else none
      | none => none
    | some (.dt kvs) => match i with
      | .tup ks => match keysA ks with
        | some k => if kvs.length < sizeLine then some (Λ.set n (.dt (putA kvs k v))) else none
        | none => none
      | _ => none
    | _ => none
  | _ => none
def setIR (o i v : AV) (δ : AEnv) (Λ : AH) : RS := match setI o i v Λ with
  | some Λ' => .nx δ Λ'
  | none => .bad
def dSetI (fo fi fv : ME) : MS := fun δ Λ => sR δ (fv δ Λ) fun v Λ1 => sR δ (fo δ Λ1) fun o Λ2 => sR δ (fi δ Λ2) fun i Λ3 => setIR o i v δ Λ3
def dDk : ME := fun _ Λ => .ok (.ref Λ.length) (Λ ++ [.dk []])
def dDt : ME := fun _ Λ => .ok (.ref Λ.length) (Λ ++ [.dt []])
theorem pset_or {X : Cx} {t t' : TSet} (h : PSet X t) (h' : PSet X t') : PSet X (fun o i v H Q => t o i v H Q ∨ t' o i v H Q) := fun pins s σ H o i v ov iv u Q I ro ri rv q => q.elim (h pins s σ H o i v ov iv u Q I ro ri rv) (h' pins s σ H o i v ov iv u Q I ro ri rv)
section
variable {G : GX} {e o i : Expr} {fo fi fv : ME} {pos pos' : Pos}
theorem setI_ok {K : PySem.W.Frag} {ρ : List Addr} {H : Hp} {Λ Λ' : AH} {a b c : AV} {x y z : V} {Q : Hp → Prop} (r : Rep K ρ Λ H) (ta : RepV K ρ H a x) (tb : RepV K ρ H b y) (tc : RepV K ρ H c z) (h : setI a b c Λ = some Λ') (q : ∀ H', Ext ρ ρ H H' → Rep K ρ Λ' H' → Q H') :
    rSetL x y z H Q ∨ rSetD x y z H Q := by
  unfold setI at h
  split at h
  · cases ta with
    | ref ha =>
      split at h
      · rename_i hx
        obtain ⟨vs, q1, t1⟩ := lst_at r ha hx
        split at h
        · cases tb
          obtain ⟨j, hj, rfl⟩ := Option.map_eq_some_iff.mp h
          obtain ⟨r', e'⟩ := r.write (u := .lst (vs.set j z)) (o' := .lst (List.set _ j c)) ha hx (t1.set tc j)
          exact .inl ⟨_, vs, _, j, rfl, rfl, q1, by rw [← t1.length]; exact hj, q _ e' r'⟩
        · cases h
      · rename_i hx
        obtain ⟨vs, q1, t1⟩ := dk_at r ha hx
        split at h
        · rename_i k hk
          split at h
          · rename_i hl
            cases h
            cases key_rep tb hk
            obtain ⟨r', e'⟩ := r.write (u := .dK (putK vs k z)) (o' := .dk (putA _ k c)) ha hx (RepKV.put t1 tc)
            exact .inr ⟨_, _, rfl, DPut.k q1 (by rw [← Paired.length t1]; exact hl), q _ e' r'⟩
          · cases h
        · cases h
      · rename_i hx
        obtain ⟨vs, q1, t1⟩ := dt_at r ha hx
        split at h
        · split at h
          · rename_i k hk
            split at h
            · rename_i hl
              cases h
              cases tb with
              | tup h2 t2 =>
                cases keys_rep t2 hk
                obtain ⟨r', e'⟩ := r.write (u := .dT (putK vs k z)) (o' := .dt (putA _ k c)) ha hx (RepKV.put t1 tc)
                exact .inr ⟨_, _, rfl, DPut.t q1 h2 (by rw [← Paired.length t1]; exact hl), q _ e' r'⟩
            · cases h
          · cases h
        · cases h
      · cases h
  · cases h
theorem j1_setI (hv : JE G e fv) (ho : JE G o fo) (hi : JE G i fi) (ha : ∀ (env : Env) v, assign (.Subscript o i pos') env v = (do
      let ov ← holding [v] (eval o env)
      let iv ← holding [v, ov] (eval i env)
      standAt pos'
      holding [v, ov, iv] (setItem ov iv v)
      release [v, ov, iv] [])) (hs : ∀ env : Env, swapsWithSole [.Subscript o i pos'] e pos.line env = pure false) (hw : ∀ env : Env, swappedStores [.Subscript o i pos'] e env = pure none) (h1 : ∀ env : Env, (assignEach [.Subscript o i pos'] env).map (·.2) = [assign (.Subscript o i pos') env]) :
    J1 G (.Assign [.Subscript o i pos'] e pos) (dSetI fo fi fv) := fun X F W tk => by
  refine ps_imp (ps_asg (hv X F W tk) (pg_sub (ho X F W tk) (hi X F W tk) (pset_or set_list (set_dict (by have := F.room.un; omega))) (ha _)) (hs _) (hw _) (h1 _)) fun D σ H ⟨ρ, δ, Λ, r, v, p⟩ => ?_
  refine ⟨ρ, δ, Λ, r, v, (sR_post v p).imp fun u H1 ⟨a, Λ1, ρ1, e1, r1, t1, v1, p1⟩ => ?_⟩
  refine ⟨ρ1, δ, Λ1, r1, v1, (sR_post v1 p1).imp fun u2 H2 ⟨a2, Λ2, ρ2, e2, r2, t2, v2, p2⟩ => ?_⟩
  refine ⟨ρ2, δ, Λ2, r2, v2, (sR_post v2 p2).imp fun u3 H3 ⟨a3, Λ3, ρ3, e3, r3, t3, v3, p3⟩ => ?_⟩
  unfold setIR at p3
  split at p3
  · rename_i Λ' h
    exact setI_ok r3 (t2.mono e3) t3 (t1.mono (e2.trans e3)) h fun H' e' r' => p3 ρ3 σ H' e' r' (v3.mono e')
  · exact p3.elim
theorem je_dk : JE G (.Dict [] [] pos) dDk := fun X F W tk => pe_imp pe_dnewK fun σ H Q ⟨ρ, δ, Λ, r, v, p⟩ => PostV.new (u := .dK []) (oo := .dk []) p r Paired.nil
theorem je_dt : JE G (.Dict [] [] pos) dDt := fun X F W tk => pe_imp pe_dnewT fun σ H Q ⟨ρ, δ, Λ, r, v, p⟩ => PostV.new (u := .dT []) (oo := .dt []) p r Paired.nil
end
/-! ### del d[k] of a table with plain keys -/
def delI (o i : AV) (δ : AEnv) (Λ : AH) : RS := match o with
  | .ref n => match Λ[n]? with
    | some (.dk kvs) => match keyA i with
      | some k => if (lookA kvs k).isSome = true then .nx δ (Λ.set n (.dk (dropA kvs k))) else .bad
      | none => .bad
    | _ => .bad
  | _ => .bad
def dDel (fo fi : ME) : MS := fun δ Λ => sR δ (fo δ Λ) fun o Λ2 => sR δ (fi δ Λ2) fun i Λ3 => delI o i δ Λ3
/-! ### dict comprehensions, plain keys -/
noncomputable def dcL (n : Nat) (here : AH → Prop) (T : Tg) (ft : MT) (fk fv : ME) : List AV → AEnv → AH → Option AH
  | [], _, Λ => if here Λ then some Λ else none
  | x :: xs, δ, Λ => if here Λ then
      match setT T x δ with
      | some δ1 => match ft δ1 Λ with
        | .ok true Λ1 => match fk δ1 Λ1 with
          | .ok y Λ2 => match fv δ1 Λ2 with
            | .ok z Λ3 => match keyA y, Λ3[n]? with
              | some k, some (.dk acc) => if acc.length < sizeLine then dcL n here T ft fk fv xs δ (Λ3.set n (.dk (putA acc k z))) else none
              | _, _ => none
            | _ => none
          | _ => none
        | .ok false Λ1 => dcL n here T ft fk fv xs δ Λ1
        | _ => none
      | none => none
    else none
noncomputable def dcR (vs : List Nat) (T : Tg) (ft : MT) (fk fv : ME) (δ : AEnv) (src : Src) (Λ : AH) : R AV := match dcL Λ.length src.here T ft fk fv src.items (wipeA δ vs) (Λ ++ [.dk []]) with
  | some Λ2 => .ok (.ref Λ.length) Λ2
  | none => .bad
noncomputable def dDc (vs : List Nat) (fi : MI) (T : Tg) (ft : MT) (fk fv : ME) : ME := fun δ Λ => (fi δ Λ).bind (dcR vs T ft fk fv δ)
section
variable {G : GX} {iter kx vx tg : Expr} {ifs : List Expr} {fi : MI} {ft : MT} {fk fv : ME} {T : Tg} {scope : Scope} {own : List (Str × Nat)} {pos spos py : Pos}
theorem dc_read {W : WX} {σ : L2.St} {H : Hp} {Q : VK} (hc : G.hx = none) (hT : ∀ i ∈ T.slots, i ∈ own.map (·.2)) (h : tE G.K G.hx W (dDc (own.map (·.2)) fi T ft fk fv) σ H Q) :
    tDc (tI G.K G.hx W fi) (tgTG G.K T) (tT G.K G.hx W0 ft) (tE G.K G.hx W0 fk) (tE G.K G.hx W0 fv) (own.map (·.2)) σ H Q := by
  obtain ⟨ρ, δ, Λ, r, v, p⟩ := h
  refine ⟨ρ, δ, Λ, r, v, ?_⟩
  unfold dDc at p
  cases hf : fi δ Λ with
  | bad => rw [hf] at p; exact p.elim
  | ex c m Λ' => rw [hf] at p; exact p
  | ok src Λ1 =>
    rw [hf] at p
    have p : Post G.K W σ (TV G.K) ρ H (dcR (own.map (·.2)) T ft fk fv δ src Λ1) Q := p
    intro ρ1 H1 J e1 r1 so D hD
    unfold dcR at p
    split at p
    · rename_i Λf hl
      obtain ⟨rD, eD, hn⟩ := r1.alloc (u := .dK []) (o := .dk []) hD (show RepKV _ _ _ _ _ from .nil)
      have vw := (v.mono e1).wipe hc (own.map (·.2))
      refine ⟨fun i m H' => m = src.items.length - i ∧ i ≤ src.items.length ∧ ∃ ρ' Λ', Ext (ρ1 ++ [D]) ρ' (upd H1 D (.dK [])) H' ∧ Rep G.K ρ' Λ' H' ∧ dcL Λ1.length src.here T ft fk fv (src.items.drop i) (wipeA δ (own.map (·.2))) Λ' = some Λf,
        ⟨_, rfl, Nat.zero_le _, _, _, Ext.refl _ _, rD, hl⟩, ?_⟩
      rintro i m H' ⟨rfl, hle, ρ', Λ', e', r', q'⟩
      have hD' := e'.get hn
      have e1' := eD.trans e'
      by_cases hi : i < src.items.length
      · rw [List.drop_eq_getElem_cons hi] at q'
        unfold dcL at q'
        split at q'
        · rename_i hh
          obtain ⟨go, yl⟩ := (so i ρ' Λ' H' e1' r' hh).1 hi
          split at q'
          · rename_i δ1 hset
            refine .inr ⟨go, fun H2 => ∃ ρ' Λ', Ext (ρ1 ++ [D]) ρ' (upd H1 D (.dK [])) H2 ∧ Rep G.K ρ' Λ' H2 ∧ dcL Λ1.length src.here T ft fk fv (src.items.drop (i + 1)) (wipeA δ (own.map (·.2))) Λ' = some Λf, fun H2 q => ⟨src.items.length - (i + 1), by omega, rfl, hi, q⟩, fun x H2 hy => ?_⟩
            obtain ⟨rfl, a, ha, ta⟩ := yl x H2 hy
            rw [List.getElem?_eq_getElem hi] at ha
            cases ha
            refine tg_run T r' (vw.mono e1') ta hset (fun i _ => by rw [hc]; rfl) fun σ2 v2 hw => ⟨(hw _ hT).trans (wipe_wipe fun _ h => h), ρ', δ1, Λ', r', v2, ?_⟩
            revert q'
            cases hft : ft δ1 Λ' with
            | bad => intro q'; cases q'
            | ex c m Λ2 => intro q'; cases q'
            | ok b Λ2 =>
              cases b with
              | false =>
                intro q' ρ2 u H3 e3 r3 t3
                subst t3
                exact ⟨ρ2, Λ2, e'.trans e3, r3, q'⟩
              | true =>
                intro q' ρ2 u H3 e3 r3 t3
                subst t3
                refine ⟨ρ2, δ1, Λ2, r3, v2.mono e3, ?_⟩
                revert q'
                simp only
                cases hfk : fk δ1 Λ2 with
                | bad => intro q'; cases q'
                | ex c m Λ3 => intro q'; cases q'
                | ok y Λ3 =>
                  intro q' ρ4 u4 H4 e4 r4 t4
                  refine ⟨ρ4, δ1, Λ3, r4, v2.mono (e3.trans e4), ?_⟩
                  revert q'
                  simp only
                  cases hfv : fv δ1 Λ3 with
                  | bad => intro q'; cases q'
                  | ex c m Λ4 => intro q'; cases q'
                  | ok z Λ4 =>
                    intro q' ρ5 u5 H5 e5 r5 t5
                    simp only at q'
                    split at q'
                    · rename_i k acc hk hacc
                      split at q'
                      · rename_i hlen
                        have hD5 := e5.get (e4.get (e3.get hD'))
                        obtain ⟨vs, h1, h2⟩ := dk_at r5 hD5 hacc
                        obtain ⟨r6, e6⟩ := r5.write (u := .dK (putK vs k u5)) (o' := .dk (putA acc k z)) hD5 hacc (RepKV.put h2 t5)
                        exact ⟨vs, k, key_rep t4 hk, h1, by rw [← Paired.length h2]; exact hlen, ρ5, _, (((e'.trans e3).trans e4).trans e5).trans e6, r6, q'⟩
                      · cases q'
                    · cases q'
          · cases q'
        · cases q'
      · have hi' : i = src.items.length := by omega
        subst hi'
        rw [List.drop_length] at q'
        unfold dcL at q'
        split at q'
        · rename_i hh
          cases q'
          exact .inl ⟨(so _ ρ' _ H' e1' r' hh).2 rfl, p ρ' (.ref D) H' (e1.trans e1') r' (.ref hD')⟩
        · cases q'
    · exact p.elim
theorem je_dc (hi : JI G iter fi) (ok : blkC G.N G.sc scope own = true) (hg : JG (G.block scope) tg T) (ht : JTs (G.block scope) ifs ft) (hk : JE (G.block scope) kx fk) (hv : JE (G.block scope) vx fv) (hT : ∀ i ∈ T.slots, i ∈ own.map (·.2))
    (hs : ∀ (env : Env) x, foldedSetIterable iter env x = pure x) (hc : G.hx = none := by rfl) : JE G (.DictComp kx vx [⟨tg, iter, ifs, 0⟩] scope pos) (dDc (own.map (·.2)) fi T ft fk fv) := fun X F W tk =>
  pe_imp (pe_dc (F.calm hc) F.nd (hi tg X F W tk) (by rw [F.hN, F.hsc]; exact blkOk_by ok) (fun s H C cl fp => hg _ (F.toBlk scope s H C cl fp hc)) (fun s H C cl fp => ht _ (F.toBlk scope s H C cl fp hc) W0 takes0N) (fun s H C cl fp => hk _ (F.toBlk scope s H C cl fp hc) W0 takes0N) (fun s H C cl fp => hv _ (F.toBlk scope s H C cl fp hc) W0 takes0N) (hs _))
    fun σ H Q h => dc_read hc hT h
end
end NP

set_option Elab.async false
set_option linter.all false
set_option maxRecDepth 100000
set_option maxHeartbeats 1000000
namespace NP
open PySem PySem.Spec PyProof.Rows L2
/-! ### list(reversed(xs)), xs a list -/
section
variable {prog : Program} {w : World} {A : Around} {E : Value → Shared → Prop} {s : Shared}
theorem ext_rv {J L D : Addr} {ys : Array Value} {out : Value} {c0 : Nat} {R : Result → Shared → Prop} (hd : A.handled = none) (hJ : s.heap.IsRevIter J L ((ys.size : Int) - 1)) (hL : s.heap.IsList L ys) (n1 : L ≠ J) (n2 : D ≠ J) (n3 : D ≠ L) (hz : ys.size ≤ sizeLine)
    (hD : s.heap.get? D = some { cls := .type "list", data := .seq #[] c0 })
    (fin : ∀ (h2 : Heap) (k2 : Nat) (got : Array Value) (c2 : Nat), (∀ b u, b ≠ J → b ≠ D → s.heap.get? b = some u → h2.get? b = some u) → h2.get? D = some { cls := .type "list", dict := none, data := .seq got c2, slots := #[] } →
      ItemsOf (fun i v => ys[ys.size - 1 - i]? = some v) got ys.size → R (.ok (.ret out)) { s with heap := h2, toks := k2 }) :
    wpAny (model prog w) A.in1 (Builtin.List.listExtendWith (.ref D) (.ref J) out) (fun f s2 => match f with | .done g => R (.ok g) s2 | .again c => c.quiet = true ∧ codeAny (model prog w) A c R s2) (fun e s2 => R (.error e) s2) s := by
  have WK := (Walks.listRev (prog := prog) (w := w) (A := A.in1) hd J L n1 ys).toS
  have nf : D ∉ [J, L] := by simp only [List.mem_cons, List.not_mem_nil, or_false, not_or]; exact ⟨n2, n3⟩
  have tJ : s.TypeIs (.ref J) "list_reverseiterator" := Heap.IsRevIter.typeIs hJ
  have same : Builtin.List.listSameRef (.ref D) (.ref J) = false := by simp [Builtin.List.listSameRef, n2]
  unfold Builtin.List.listExtendWith
  refine wpAny_bind (wpAny_typeOf tJ ?_)
  rw [if_neg (by rw [same]; decide)]
  refine wpAny_bind (wpAny_pyIter_revIter hJ ?_)
  refine wpAny_bind (wpAny_holding ?_)
  unfold Builtin.List.listLengthHint
  refine wpAny_bind (wpAny_specialOf tJ RT.nolen_lri ?_)
  show wpAny _ A.in1 (specialOf (Value.ref J) (Str.ofString "__length_hint__") >>= _) _ _ _
  refine wpAny_bind (wpAny_specialOf tJ RT.hint_lri ?_)
  generalize hq : ("list_reverseiterator.__length_hint__" : String) = q0
  wp_delta
  rw [show splitId q0 = some ("list_reverseiterator", "__length_hint__") from by subst hq; decide +kernel]
  subst hq
  refine wpAny_bind (wpAny_isInstance (b := true) tJ (by rw [isSubtype_type]; kernel_rfl) ?_)
  refine wpAny_pure ?_
  rw [if_neg (by decide)]
  have z0 : ((ys.size : Nat) : Int) - 1 - ((0 : Nat) : Int) = (ys.size : Int) - 1 := by omega
  refine wpAny_pure ⟨plainId_quiet F.plain_extend_loop _, codeAny_extend_loopS WK hz _ nf _ ys.size 0 _ _ _ rfl (Nat.zero_le _) ⟨Nat.zero_le _, by rw [z0]; exact hJ, hL⟩ hD (ItemsOf.nil _) fun s2 got c2 mv g2 it => ?_⟩
  rw [Moved.eq_with mv]
  refine fin _ _ got c2 (fun b u b1 b2 e => mv.heap b u (fun hm => ?_) e) g2 it
  rcases List.mem_cons.mp hm with q | q
  · exact b2 q
  · exact b1 (List.mem_singleton.mp q)
theorem list_rv {J L : Addr} {ys : Array Value} {Q : Value → Shared → Prop} (hd : A.handled = none) (hJ : s.heap.IsRevIter J L ((ys.size : Int) - 1)) (hL : s.heap.IsList L ys) (n1 : L ≠ J) (hz : ys.size ≤ sizeLine)
    (fin : ∀ (h2 : Heap) (k2 : Nat) (got : Array Value) (c2 : Nat), (∀ b u, b ≠ J → s.heap.get? b = some u → h2.get? b = some u) → h2.get? s.heap.objs.size = some { cls := .type "list", dict := none, data := .seq got c2, slots := #[] } →
      ItemsOf (fun i v => ys[ys.size - 1 - i]? = some v) got ys.size → Q (.ref s.heap.objs.size) { s with heap := h2, toks := k2 }) :
    wpAny (model prog w) A (call (.type "list") [.ref J]) Q E s := by
  obtain ⟨oJ, gJ, _⟩ := id hJ
  obtain ⟨oL, gL, _⟩ := id hL
  have lJ := Heap.lt_size gJ
  have lL := Heap.lt_size gL
  refine callType_codes (Q₁ := fun ob s1 => ob = .ref s.heap.objs.size ∧ s1 = { s with heap := s.heap.push { cls := .type "list", data := .seq #[] } }) F.called_list (F.typeCall_list_1 _) F.entry_list_init
    (code_list_new _ ⟨rfl, rfl⟩) fun ob s1 q1 => ?_
  obtain ⟨rfl, rfl⟩ := q1
  have gD : (s.heap.push { cls := .type "list", data := .seq #[] }).get? s.heap.objs.size = some { cls := .type "list", data := .seq #[] } := Heap.get?_push_size _ rfl
  refine ⟨⟨_, gD, rfl⟩, F.args_list_init_2 _ _, ?_⟩
  show wpAny _ A.in1.in1 (do let pr ← Builtin.List.listItems (.ref s.heap.objs.size); Builtin.List.listUpdate (.ref s.heap.objs.size) (fun _ => #[]); letGo pr.toList.reverse; Builtin.List.listExtendWith (.ref s.heap.objs.size) (.ref J) .none) _ _ _
  refine wpAny_bind ?_
  unfold Builtin.List.listItems
  refine wpAny_bind (wpAny_seqItems gD rfl (wpAny_pure ?_))
  show wpAny _ A.in1.in1 (updateSeq s.heap.objs.size (fun _ => #[]) >>= fun _ => letGo (#[] : Array Value).toList.reverse >>= fun _ => Builtin.List.listExtendWith (.ref s.heap.objs.size) (.ref J) .none) _ _ _
  refine wpAny_bind (wpAny_updateSeq gD rfl ?_)
  have gD2 := Heap.get?_update_self (Obj.mapSeq (fun _ => (#[] : Array Value))) gD rfl
  have oth : ∀ b u, b ≠ s.heap.objs.size → s.heap.get? b = some u → ((s.heap.push { cls := .type "list", data := .seq #[] }).update s.heap.objs.size (Obj.mapSeq (fun _ => (#[] : Array Value)))).get? b = some u :=
    fun b u hb e => (Heap.get?_update_other _ _ (Ne.symm hb)).trans (Heap.get?_push_of_some _ e)
  refine wpAny_bind (wpAny_letGo ?_)
  refine ext_rv (A := A.in1) (show A.in1.handled = none from hd) (hJ.at fun o e => oth J o (Nat.ne_of_lt lJ) e) (hL.at fun o e => oth L o (Nat.ne_of_lt lL) e) n1 (Nat.ne_of_gt lJ) (Nat.ne_of_gt lL) hz gD2 fun h2 k2 got c2 kp g2 it => ?_
  exact ⟨rfl, fin h2 k2 got c2 (fun b u hb e => kp b u hb (Nat.ne_of_lt (Heap.lt_size e)) (oth b u (Nat.ne_of_lt (Heap.lt_size e)) e)) g2 it⟩
end
section
variable {X : Cx}
def tLR (K : PySem.W.Frag) (te : TE) : TE := fun σ H Q => te σ H fun v H1 => ∃ (a : Addr) (xs : List V), v = .ref a ∧ SqL K H1 a xs ∧ ∀ q, H1 q = none → Q (.ref q) (upd H1 q (.lst xs.reverse))
theorem pe_lr {e : Expr} {te : TE} {p p2 pos pos2 : Pos} (hc : X.calm = true) (hg : Gl X "list") (hm : X.mg "list" = none) (hg2 : Gl X "reversed") (hm2 : X.mg "reversed" = none) (he : PE X e te)
    (hs : starEach [e] X.env = (false, eval e X.env) :: starEach [] X.env) (hs2 : starEach [.Call (.Name "reversed" p2) [e] [] pos2] X.env = (false, eval (.Call (.Name "reversed" p2) [e] [] pos2) X.env) :: starEach [] X.env) :
    PE X (.Call (.Name "list" p) [.Call (.Name "reversed" p2) [e] [] pos2] [] pos) (tLR X.K te) := by
  refine ⟨fun pins s σ H Q I q0 => ?_⟩
  refine Call_ (ld_blt I hg hm boot_list (PyProof.Rows.callWith_type1 (args_cons (Call_ (ld_blt I hg2 hm2 PyProof.Rows.boot_reversed (PyProof.Rows.callWith_type1 (args_cons (thn (he.run pins s σ H _ I q0) fun u s1 ⟨v, H1, I1, r1, q1⟩ => args_nil ?_) hs) hs rfl))) hs2) hs2 rfl))
  obtain ⟨a, xs, ev, sq, q⟩ := q1
  subst ev
  obtain rfl : u = Value.ref a := r1
  obtain ⟨its, rv, pl, hz⟩ := I1.list sq
  refine call_reversed_list pl.isList (args_nil ?_)
  have lst := pl.isList
  obtain ⟨ol, gol, _⟩ := id lst
  have up : ∀ b u, s1.heap.get? b = some u → (s1.heap.push (revObj a ((its.toArray.size : Int) - 1))).get? b = some u := fun b u e => Heap.get?_push_of_some _ e
  obtain ⟨f0, f1, f2, f3, f4, f5⟩ := I1.fpOk (H' := H1) (b := s1.heap.objs.size) (Nat.le_refl _) (I1.hok.fresh (Nat.le_refl _))
  refine list_rv (s := { s1 with heap := s1.heap.push (revObj a ((its.toArray.size : Int) - 1)) }) (I1.ok.hd hc) ⟨_, Heap.get?_push_size _ rfl, rfl, rfl⟩ (lst.push _) (Nat.ne_of_lt (Heap.lt_size gol)) (by rw [List.size_toArray, ← rv.length]; exact hz) fun h2 k2 got c2 kp g2 it => ?_
  have hsz : s1.heap.objs.size ≤ (s1.heap.push (revObj a ((its.toArray.size : Int) - 1))).objs.size := by rw [Heap.size_push]; exact Nat.le_succ _
  refine ⟨.ref (s1.heap.push (revObj a ((its.toArray.size : Int) - 1))).objs.size, upd H1 (s1.heap.push (revObj a ((its.toArray.size : Int) - 1))).objs.size (.lst xs.reverse), ?_, rfl, q _ (I1.hok.fresh hsz)⟩
  refine Inv.turnedNew (s := s1) (h' := h2) (t' := k2) (ch := [s1.heap.objs.size]) I1 (fun b o hb e => kp b o (fun z => hb (by rw [z]; exact List.mem_singleton.mpr rfl)) (up b o e)) (fun b hb => ?_) hsz ?_
  · cases List.mem_singleton.mp hb
    exact ⟨f0, f1, f2, f3, f4, f5⟩
  · exact (show ObjOk X.prog X.w _ _ _ (.lst xs.reverse) from ⟨by rw [List.length_reverse]; exact hz, got.toList, c2, RT.vals_rev rv it, by rw [Array.toArray_toList]; exact g2⟩)
end
section
variable {G : GX} {e : Expr} {fa : ME} {p p2 pos pos2 : Pos}
def gLR : G1 := fun a Λ => (lstA a Λ).map fun xs => (.ref Λ.length, Λ ++ [.lst xs.reverse])
theorem je_lr (hg : G.sc.names.lookup ("list" : Str) = some .globalImplicit) (hm : G.mg ("list" : Str) = none) (hg2 : G.sc.names.lookup ("reversed" : Str) = some .globalImplicit) (hm2 : G.mg ("reversed" : Str) = none) (ha : JE G e fa)
    (hs : ∀ env : Env, starEach [e] env = (false, eval e env) :: starEach [] env) (hs2 : ∀ env : Env, starEach [.Call (.Name "reversed" p2) [e] [] pos2] env = (false, eval (.Call (.Name "reversed" p2) [e] [] pos2) env) :: starEach [] env) (hc : G.hx = none := by rfl) :
    JE G (.Call (.Name "list" p) [.Call (.Name "reversed" p2) [e] [] pos2] [] pos) (dUn gLR fa) := fun X F W tk => by
  refine pe_imp (pe_lr (F.calm hc) (gl_of F hg) (by rw [F.hmg]; exact hm) (gl_of F hg2) (by rw [F.hmg]; exact hm2) (ha X F W tk) (hs _) (hs2 _)) fun σ H Q ⟨ρ, δ, Λ, r, v, q⟩ => ?_
  refine ⟨ρ, δ, Λ, r, v, q.bind.imp fun x H1 ⟨a, Λ1, ρ1, e1, r1, t1, p1⟩ => ?_⟩
  have p2 := post_lift p1
  unfold gLR at p2
  obtain ⟨xs, h, p3⟩ := optP p2
  obtain ⟨b, vs, rfl, h2, t2⟩ := lstA_rep r1 t1 h
  exact ⟨b, vs, rfl, by rw [F.hK]; exact h2, p3.new (u := .lst vs.reverse) (oo := .lst xs.reverse) r1 t2.reverse⟩
end
end NP

set_option Elab.async false
set_option linter.all false
set_option maxRecDepth 100000
set_option maxHeartbeats 1000000
namespace NP
open PySem PySem.Spec PyProof.Rows L2
/-! ### min(xs, key=len, default=d), xs a list of lists -/
def lensB (ls : List Nat) : Nat → Nat → Bool := fun i j => decide (ls.getD i 0 < ls.getD j 0)
def lensA (xs : List AV) (Λ : AH) : Option (List Nat) := allO (xs.map fun x => (lstA x Λ).map List.length)
def minLen (x d : AV) (Λ : AH) : R AV := match lstA x Λ with
  | some xs => match lensA xs Λ with
    | some ls => match xs with
      | [] => .ok d Λ
      | y :: ys => .ok ((y :: ys).getD (argBest (lensB ls) ys.length) .non) Λ
    | none => .bad
  | none => .bad
def dMinLen (fa fd : ME) : ME := fun δ Λ => (fa δ Λ).bind fun x Λ1 => (fd δ Λ1).bind fun d Λ2 => minLen x d Λ2
/-- items that are lists, by length -/
def LensV (K : PySem.W.Frag) (H : Hp) : List V → List Nat → Prop := Paired fun v n => ∃ a ws, v = .ref a ∧ SqL K H a ws ∧ ws.length = n
theorem lens_rep {K : PySem.W.Frag} {ρ : List Addr} {H : Hp} {Λ : AH} (r : Rep K ρ Λ H) : ∀ {xs : List AV} {vs : List V} {ls : List Nat}, RepVs K ρ H xs vs → lensA xs Λ = some ls → LensV K H vs ls
  | _, _, _, .nil, h => by cases h; exact .nil
  | _, _, _, .cons h t, e => by
    obtain ⟨n, ns, h1, h2, rfl⟩ := allO_cons e
    obtain ⟨ys, h3, rfl⟩ := Option.map_eq_some_iff.mp h1
    obtain ⟨a, ws, rfl, h4, h5⟩ := lstA_rep r h h3
    exact .cons ⟨a, ws, rfl, h4, h5.length.symm⟩ (lens_rep r t h2)
theorem LensV.at {K : PySem.W.Frag} {H : Hp} : ∀ {vs : List V} {ls : List Nat} {i : Nat} {v : V}, LensV K H vs ls → vs[i]? = some v → ∃ a ws, v = .ref a ∧ SqL K H a ws ∧ ws.length = ls.getD i 0
  | _, _, i, _, .nil, e => by simp at e
  | _, _, 0, _, .cons h _, e => by
    simp at e; subst e
    obtain ⟨a, ws, h1, h2, h3⟩ := h
    exact ⟨a, ws, h1, h2, by simp [h3]⟩
  | _, _, i + 1, _, .cons _ t, e => by
    obtain ⟨a, ws, h1, h2, h3⟩ := LensV.at (i := i) t (by simpa using e)
    exact ⟨a, ws, h1, h2, by simpa using h3⟩
section
variable {prog : Program} {w : World} {A : Around} {E : Value → Shared → Prop} {s : Shared}
abbrev sameG : Array GenState → Array GenState → Prop := fun a b => b = a
theorem min_len_raw {a : Addr} {its : Array Value} {ls : List Nat} {d : Value} {Q : Value → Shared → Prop} (hd : A.handled = none) (hL : s.heap.IsList a its) (hs : ∀ i v, its[i]? = some v → ∃ b ws, v = Value.ref b ∧ s.heap.IsList b ws ∧ ws.size = ls.getD i 0 ∧ ws.size ≤ sizeLine)
    (fin : ∀ h2 k2 r, (∀ b u, s.heap.get? b = some u → h2.get? b = some u) → (its.size = 0 → r = d) → (0 < its.size → its[argBest (lensB ls) (its.size - 1)]? = some r) → Q r { s with heap := h2, toks := k2 }) :
    wpAny (model prog w) A (call (.builtin "min") [.ref a] [(Str.ofString "key", .builtin "len"), (Str.ofString "default", d)]) Q E s := by
  obtain ⟨oL, gL, _⟩ := id hL
  have ne : a ≠ s.heap.objs.size := Nat.ne_of_lt (Heap.lt_size gL)
  refine call_min_walkKBD (wpAny_pyIter_list hL ?_)
  have up : ∀ b u, s.heap.get? b = some u → (s.heap.push { cls := .type "list_iterator", data := .fields #[.ref a, .int 0 0] }).get? b = some u := fun b u e => Heap.get?_push_of_some _ e
  refine ⟨s.heap.objs.size, [s.heap.objs.size, a], [s.heap.objs.size], sameG, its.size, (fun i v => its[i]? = some v), (fun i s1 => s1.heap.IsListIter s.heap.objs.size a i ∧ s1.heap.IsList a its), (fun s1 => Moved [] sameG s s1), (fun i k _ => ∃ t, k = .int (ls.getD i 0 : Nat) t), lensB ls, rfl,
    (Walks.list (prog := prog) (w := w) (A := A.in1) hd s.heap.objs.size a ne its).toS, ⟨⟨_, Heap.get?_push_size _ rfl, rfl, rfl⟩, hL.push _⟩, fun b hb => ?_, ?_, ⟨fun b u _ e => up b u e, rfl, rfl, rfl, Nat.le_refl _⟩, fun z s1 j => ?_, fun z v s1 pv j => ?_⟩
  · show b < (s.heap.push _).objs.size
    rw [Heap.size_push]
    rcases List.mem_cons.mp hb with rfl | hb
    · exact Nat.lt_succ_self _
    · rw [List.mem_singleton.mp hb]
      exact Nat.lt_succ_of_lt (Heap.lt_size gL)
  · have off : ∀ {b u}, s.heap.get? b = some u → b ∉ [(s.heap.push { cls := .type "list_iterator", data := .fields #[.ref a, .int 0 0] }).objs.size, s.heap.objs.size] := fun {b u} e hm => by
      have lb := Heap.lt_size e
      rw [Heap.size_push] at hm
      rcases List.mem_cons.mp hm with q | q
      · exact absurd lb (by rw [q]; exact Nat.not_lt.mpr (Nat.le_succ _))
      · exact absurd lb (by rw [List.mem_singleton.mp q]; exact Nat.lt_irrefl _)
    refine ⟨fun s1 s2 j mv => ⟨fun b u _ e => mv.heap b u (off e) (j.heap b u (by simp) e), mv.gens.trans j.gens, mv.drawn.trans j.drawn, mv.os.trans j.os, Nat.le_trans j.toks mv.toks⟩, fun i k s1 s2 q _ => q, ?_, ?_⟩
    · intro i v s1 o Q1 E1 _ pv j st gS q
      obtain ⟨b, ws, rfl, hb, hn, hz⟩ := hs i v pv
      have ln := line63
      refine Calls.call_len_list (hb.at fun o e => j.heap _ o (by simp) e) (by omega) ?_
      refine q _ _ ?_ st gS ⟨s1.toks + 1, by rw [hn]⟩ fun _ _ z => z
      exact ⟨j.heap, j.gens, j.drawn, j.os, by show s.toks ≤ s1.toks + 1 + 1; have := j.toks; omega⟩
    · rintro i j ki kj s1 Q1 E1 _ ⟨t, rfl⟩ ⟨t', rfl⟩ q
      refine HT.rcLt_int _ _ _ _ _ _ _ _ _ _ ?_
      have e : decide (((ls.getD i 0 : Nat) : Int) < ((ls.getD j 0 : Nat) : Int)) = lensB ls i j := by simp [lensB]
      rw [e]
      exact q
  · rw [Moved.eq_with j]
    exact fin _ _ d (fun b u e => j.heap b u (by simp) e) (fun _ => rfl) fun h => absurd h (by omega)
  · rw [Moved.eq_with j]
    exact fin _ _ v (fun b u e => j.heap b u (by simp) e) (fun h => absurd z (by omega)) fun _ => pv
end
section
variable {X : Cx}
theorem fin_min {pins : List (Addr × Obj)} {s : Shared} {σ : L2.St} {H : Hp} {Q : VK} {us : List Value} {x d : V} {u : Value} {b : Addr} {vs : List V} {ls : List Nat} (hc : X.calm = true) (I : Inv X pins σ H s) (r1 : Vals [x] us) (r2 : RelV d u) (ex : x = .ref b) (sq : SqL X.K H b vs) (lv : LensV X.K H vs ls)
    (q3 : vs = [] → Q d H) (q4 : ∀ u, vs ≠ [] → vs[argBest (lensB ls) (vs.length - 1)]? = some u → Q u H) :
    wpAny (model X.prog X.w) X.A (call (.builtin "min") us [(Str.ofString "key", .builtin "len"), (Str.ofString "default", u)]) (EP X pins σ Q) X.xe s := by
  subst ex
  obtain rfl := Vals.ref1 r1
  obtain ⟨its, rv, pl, hz⟩ := I.list sq
  have hl := rv.length
  refine min_len_raw (ls := ls) (I.ok.hd hc) pl.isList (fun i v hv => ?_) fun h2 k2 r kp q5 q6 => ?_
  · have hi : i < vs.length := by
      have := (Array.getElem?_eq_some_iff.mp hv).1
      rw [hl]; simpa using this
    obtain ⟨c, ws, h1, h2, h3⟩ := lv.at (List.getElem?_eq_getElem hi)
    obtain ⟨v', e1, e2⟩ := rv.get (List.getElem?_eq_getElem hi)
    rw [h1] at e2
    have : v = Value.ref c := by
      have e3 : its.toArray[i]? = its[i]? := by simp
      rw [e3, e1] at hv
      cases hv
      exact e2
    subst this
    obtain ⟨jts, rw', pl', hz'⟩ := I.list h2
    exact ⟨c, jts.toArray, rfl, pl'.isList, by rw [List.size_toArray, ← rw'.length, h3], by rw [List.size_toArray, ← rw'.length]; exact hz'⟩
  · have I' : Inv X pins σ H { s with heap := h2, toks := k2 } := I.kept (t' := k2) kp
    by_cases h0 : vs = []
    · subst h0
      have := q5 (by rw [List.size_toArray, ← hl]; rfl)
      subst this
      exact ⟨d, H, I', r2, q3 rfl⟩
    · have hp : 0 < vs.length := List.length_pos_iff.mpr h0
      have q7 := q6 (by rw [List.size_toArray, ← hl]; exact hp)
      rw [List.size_toArray, ← hl] at q7
      have q8 : its[argBest (lensB ls) (vs.length - 1)]? = some r := by simpa using q7
      have hb : argBest (lensB ls) (vs.length - 1) < vs.length := by
        have := (List.getElem?_eq_some_iff.mp q8).1
        exact Nat.lt_of_lt_of_eq this hl.symm
      obtain ⟨v', e1, e2⟩ := rv.get (List.getElem?_eq_getElem hb)
      rw [e1] at q8
      cases q8
      exact ⟨_, H, I', e2, q4 _ h0 (List.getElem?_eq_getElem hb)⟩
theorem pe_minLen {a e : Expr} {ta td : TE} {p p2 pk1 pk2 pos : Pos} (hc : X.calm = true) (hg : Gl X "min") (hm : X.mg "min" = none) (hg2 : Gl X "len") (hm2 : X.mg "len" = none) (ha : PE X a ta) (hd : PE X e td)
    (hst : starEach [a] X.env = (false, eval a X.env) :: starEach [] X.env) :
    PE X (.Call (.Name "min" p) [a] [⟨some "key", .Name "len" p2, pk1⟩, ⟨some "default", e, pk2⟩] pos)
      (fun σ H Q => ta σ H fun x H1 => td σ H1 fun d H2 => ∃ b vs ls, [x] = [V.ref b] ∧ SqL X.K H2 b vs ∧ LensV X.K H2 vs ls ∧ (vs = [] → Q d H2) ∧ ∀ u, vs ≠ [] → vs[argBest (lensB ls) (vs.length - 1)]? = some u → Q u H2) := by
  refine ⟨fun pins s σ H Q I q0 => ?_⟩
  refine wpAny_Call_Name_kw (ld_blt I hg hm boot_min ?_)
  have PA1 : PA X [a] _ := pa_cons ha pa_nil hst
  refine PyProof.Rows.callWith_kw (thn (PA1.run pos pins s σ H (fun xs H1 => td σ H1 fun d H2 => ∃ b vs ls, xs = [V.ref b] ∧ SqL X.K H2 b vs ∧ LensV X.K H2 vs ls ∧ (vs = [] → Q d H2) ∧ ∀ u, vs ≠ [] → vs[argBest (lensB ls) (vs.length - 1)]? = some u → Q u H2) I q0) fun us s1 ⟨xs, H1, I1, r1, q1⟩ => ?_) (by rw [hst] <;> rfl) (by rw [hst] <;> rfl)
  show wpAny _ _ (evalAll ((do let v ← eval (.Name "len" p2) X.env; standAt pos; pure v) :: (do let v ← eval e X.env; standAt pos; pure v) :: [])) _ _ s1
  refine wpAny_evalAll_cons (wpAny_bind (ld_blt I1 hg2 hm2 boot_len (wpAny_bind (wpAny_standAt (wpAny_pure ?_)))))
  refine wpAny_evalAll_cons (wpAny_bind (thn (hd.run pins s1 σ H1 _ I1 q1) fun u s2 ⟨d, H2, I2, r2, q2⟩ => wpAny_bind (wpAny_standAt (wpAny_pure ?_))))
  refine wpAny_evalAll_nil ?_
  obtain ⟨b, vs, ls, exs, sq, lv, q3, q4⟩ := q2
  subst exs
  exact fin_min hc I2 r1 r2 rfl sq lv q3 q4
end
section
variable {G : GX} {a e : Expr} {fa fd : ME} {p p2 pk1 pk2 pos : Pos}
theorem je_minLen (hg : G.sc.names.lookup ("min" : Str) = some .globalImplicit) (hm : G.mg ("min" : Str) = none) (hg2 : G.sc.names.lookup ("len" : Str) = some .globalImplicit) (hm2 : G.mg ("len" : Str) = none) (ha : JE G a fa) (hd : JE G e fd)
    (hst : ∀ env : Env, starEach [a] env = (false, eval a env) :: starEach [] env) (hc : G.hx = none := by rfl) : JE G (.Call (.Name "min" p) [a] [⟨some "key", .Name "len" p2, pk1⟩, ⟨some "default", e, pk2⟩] pos) (dMinLen fa fd) := fun X F W tk => by
  refine pe_imp (pe_minLen (F.calm hc) (gl_of F hg) (by rw [F.hmg]; exact hm) (gl_of F hg2) (by rw [F.hmg]; exact hm2) (ha X F W tk) (hd X F W tk) (hst _)) fun σ H Q ⟨ρ, δ, Λ, r, v, q⟩ => ?_
  refine ⟨ρ, δ, Λ, r, v, q.bind.imp fun x H1 ⟨x', Λ1, ρ1, e1, r1, t1, p1⟩ => ?_⟩
  refine ⟨ρ1, δ, Λ1, r1, v.mono e1, p1.bind.imp fun d H2 ⟨d', Λ2, ρ2, e2, r2, t2, p2⟩ => ?_⟩
  unfold minLen at p2
  split at p2
  · rename_i xs hx
    obtain ⟨b, vs, rfl, sq, tv⟩ := lstA_rep r2 (t1.mono e2) hx
    split at p2
    · rename_i ls hls
      refine ⟨b, vs, ls, rfl, by rw [F.hK]; exact sq, by rw [F.hK]; exact lens_rep r2 tv hls, fun z => ?_, fun u z hu => ?_⟩
      · subst z
        cases tv
        exact p2.ok r2 t2
      · cases tv with
        | nil => exact absurd rfl z
        | cons h t =>
          obtain ⟨y, hy, ty⟩ := RepVs.getR (.cons h t) hu
          rw [List.length_cons, Nat.add_sub_cancel, ← t.length] at hy
          have p3 : Post G.K W σ (TV G.K) ρ2 H2 (.ok ((_ :: _).getD (argBest (lensB ls) _) AV.non) Λ2) Q := p2
          rw [List.getD_eq_getElem?_getD, hy] at p3
          exact p3.ok r2 ty
    · exact p2.elim
  · exact p2.elim
end
end NP

set_option Elab.async false
set_option linter.all false
set_option maxRecDepth 100000
set_option maxHeartbeats 1000000
namespace NP
open PySem PySem.Spec PyProof.Rows L2
/-! ### constants of the module's top -/
mutual
def ctB (K : PySem.W.Frag) : AV → Value → Bool
  | .non, .none => true
  | .bl b, .bool c => b == c
  | .int i, .int j _ => decide (i = j)
  | .str x, .str y _ => decide (x = y)
  | .ct xs, .ref a => match K.lookup a with
    | some ⟨.type c, _, .seq its _, _⟩ => decide (c = "tuple") && (decide (its.size ≤ sizeLine) && ctsB K xs its.toList)
    | _ => false
  | _, _ => false
def ctsB (K : PySem.W.Frag) : List AV → List Value → Bool
  | [], [] => true
  | x :: xs, u :: us => ctB K x u && ctsB K xs us
  | _, _ => false
end
def KV1 (K : PySem.W.Frag) (v : AV) (u : Value) : Prop := ∃ z, RelV z u ∧ ∀ ρ H, RepV K ρ H v z
section
variable {K : PySem.W.Frag}
theorem and2 {a b : Bool} (h : (a && b) = true) : a = true ∧ b = true := Bool.and_eq_true_iff.mp h
mutual
theorem ctB_ok : ∀ {v : AV} {u : Value}, ctB K v u = true → KV1 K v u
  | .non, u, h => by cases u <;> first | exact ⟨.non, rfl, fun _ _ => .non⟩ | (simp [ctB] at h)
  | .bl b, u, h => by
    cases u <;> simp [ctB] at h
    subst h
    exact ⟨.bl b, rfl, fun _ _ => .bl b⟩
  | .int i, u, h => by
    cases u <;> simp [ctB] at h
    subst h
    exact ⟨.int i, ⟨_, rfl⟩, fun _ _ => .int i⟩
  | .str x, u, h => by
    cases u <;> simp [ctB] at h
    subst h
    exact ⟨.str x, ⟨_, rfl⟩, fun _ _ => .str x⟩
  | .ct xs, u, h => by
    cases u with
    | ref a =>
      rw [ctB] at h
      cases q : K.lookup a with
      | none => rw [q] at h; cases h
      | some o =>
        obtain ⟨oc, od, dt, osl⟩ := o
        rw [q] at h
        cases oc with
        | type c =>
          cases dt with
          | seq its n =>
            obtain ⟨h1, h2⟩ := and2 (show (decide (c = "tuple") && (decide (its.size ≤ sizeLine) && ctsB K xs its.toList)) = true from h)
            obtain ⟨h3, h4⟩ := and2 h2
            obtain ⟨zs, h5, h6⟩ := ctsB_ok h4
            exact ⟨.ref a, rfl, fun ρ H => .ct ⟨_, its, n, q, congrArg Value.type (of_decide_eq_true h1), rfl, of_decide_eq_true h3, h5⟩ (h6 ρ H)⟩
          | _ => cases h
        | _ => cases dt <;> cases h
    | _ => simp [ctB] at h
  | .tup _, u, h => by cases u <;> simp [ctB] at h
  | .ref _, u, h => by cases u <;> simp [ctB] at h
  | .cl _, u, h => by cases u <;> simp [ctB] at h
  | .rng _ _, u, h => by cases u <;> simp [ctB] at h
theorem ctsB_ok : ∀ {vs : List AV} {us : List Value}, ctsB K vs us = true → ∃ zs, Vals zs us ∧ ∀ ρ H, RepVs K ρ H vs zs
  | [], us, h => by cases us <;> first | exact ⟨[], .nil, fun _ _ => .nil⟩ | (simp [ctsB] at h)
  | v :: vs, us, h => by
    cases us with
    | nil => simp [ctsB] at h
    | cons u us =>
      rw [ctsB] at h
      obtain ⟨h1, h2⟩ := and2 h
      obtain ⟨z, h3, h4⟩ := ctB_ok h1
      obtain ⟨zs, h5, h6⟩ := ctsB_ok h2
      exact ⟨z :: zs, .cons h3 h5, fun ρ H => .cons (h4 ρ H) (h6 ρ H)⟩
end
end
def gvB (K : PySem.W.Frag) (x : Str) (v : AV) : Bool := match PySem.W.nsIn K mainGlobals x with
  | some (some u) => ctB K v u
  | _ => false
theorem gvB_ok {K : PySem.W.Frag} {h : Heap} {mg : Str → Option Value} (X : K.In h) (G : h.Ns mainGlobals mg) {x : Str} {v : AV} (c : gvB K x v = true) : GV K mg x v := by
  unfold gvB at c
  cases e : PySem.W.nsIn K mainGlobals x with
  | none => rw [e] at c; cases c
  | some o =>
    rw [e] at c
    cases o with
    | none => cases c
    | some u =>
      obtain ⟨z, h1, h2⟩ := ctB_ok c
      exact ⟨u, z, PySem.W.mg_of X G e, h1, h2⟩
/-! ### a written table with plain keys -/
def entB (K : PySem.W.Frag) (t : Int × AV) (e : DictEntry) : Bool := Value.isInt t.1 e.key && (decide (e.hash = hashInt t.1) && ctB K t.2 e.val)
def entsB (K : PySem.W.Frag) : List (Int × AV) → List DictEntry → Bool
  | [], [] => true
  | t :: ts, e :: es => entB K t e && entsB K ts es
  | _, _ => false
def nodI : List Int → Bool
  | [] => true
  | i :: is => !is.contains i && nodI is
theorem nodI_ok : ∀ {l : List Int}, nodI l = true → l.Nodup
  | [], _ => List.nodup_nil
  | i :: is, h => by
    obtain ⟨h1, h2⟩ := and2 h
    exact List.nodup_cons.mpr ⟨by simpa using h1, nodI_ok h2⟩
def kdB (K : PySem.W.Frag) (x : Str) (tab : List (Int × AV)) : Bool := match PySem.W.nsIn K mainGlobals x with
  | some (some (.ref a)) => (match K.lookup a with
    | some ⟨.type c, none, .dict es _, sl⟩ => decide (c = "dict") && (decide (sl = #[]) && (!(a == sysModules) && (nodI (tab.map (·.1)) && entsB K tab es.toList)))
    | _ => false)
  | _ => false
/-- the module's name x is such a table -/
structure KDic (K : PySem.W.Frag) (mg : Str → Option Value) (x : Str) (tab : List (Int × AV)) : Prop where
  ex : ∃ (a : Addr) (es : Array DictEntry) (n : Nat), mg x = some (.ref a) ∧ K.lookup a = some ⟨.type "dict", none, .dict es n, #[]⟩ ∧ (a == sysModules) = false ∧ nodI (tab.map (·.1)) = true ∧ entsB K tab es.toList = true
theorem kdB_ok {K : PySem.W.Frag} {h : Heap} {mg : Str → Option Value} (X : K.In h) (G : h.Ns mainGlobals mg) {x : Str} {tab : List (Int × AV)} (c : kdB K x tab = true) : KDic K mg x tab := by
  unfold kdB at c
  cases e : PySem.W.nsIn K mainGlobals x with
  | none => rw [e] at c; cases c
  | some o =>
    rw [e] at c
    cases o with
    | none => cases c
    | some u =>
      cases u with
      | ref a =>
        have c : (match K.lookup a with
          | some ⟨.type c, none, .dict es _, sl⟩ => decide (c = "dict") && (decide (sl = #[]) && (!(a == sysModules) && (nodI (tab.map (·.1)) && entsB K tab es.toList)))
          | _ => false) = true := c
        cases q : K.lookup a with
        | none => rw [q] at c; cases c
        | some o =>
          obtain ⟨oc, od, dt, osl⟩ := o
          rw [q] at c
          cases oc with
          | type t =>
            cases od with
            | none =>
              cases dt with
              | dict es n =>
                obtain ⟨h1, c⟩ := and2 (show (decide (t = "dict") && (decide (osl = #[]) && (!(a == sysModules) && (nodI (tab.map (·.1)) && entsB K tab es.toList)))) = true from c)
                obtain ⟨h2, c⟩ := and2 c
                obtain ⟨h3, c⟩ := and2 c
                obtain ⟨h4, h5⟩ := and2 c
                have h1 := of_decide_eq_true h1
                have h2 := of_decide_eq_true h2
                subst h1 h2
                exact ⟨a, es, n, PySem.W.mg_of X G e, q, by simpa using h3, h4, h5⟩
              | _ => cases c
            | some d => cases dt <;> cases c
          | _ => cases od <;> cases dt <;> cases c
      | _ => cases c
def keyT (tab : List (Int × AV)) : List (Key × AV) := tab.map fun t => (.inl t.1, t.2)
theorem ents_ok {P : Program} {w : World} {K : PySem.W.Frag} : ∀ {tab : List (Int × AV)} {es : List DictEntry}, entsB K tab es = true →
    ∃ vs : List (Key × Value), Pairs (mixKind P w) es vs ∧ Paired (fun t v => Sum.inl t.1 = v.1 ∧ KV1 K t.2 v.2) tab vs ∧ ∀ e ∈ es, ∃ k, (mixKind P w).is k e.key = true ∧ e.hash = (mixKind P w).hash k
  | [], [], _ => ⟨[], .nil, .nil, fun _ h => by simp at h⟩
  | t :: ts, e :: es, h => by
    rw [entsB] at h
    obtain ⟨h1, h2⟩ := and2 h
    obtain ⟨vs, a1, a2, a3⟩ := ents_ok (P := P) (w := w) h2
    obtain ⟨b1, b2⟩ := and2 (show (Value.isInt t.1 e.key && (decide (e.hash = hashInt t.1) && ctB K t.2 e.val)) = true from h1)
    obtain ⟨b3, b4⟩ := and2 b2
    refine ⟨(.inl t.1, e.val) :: vs, .cons b1 rfl a1, .cons ⟨rfl, ctB_ok b4⟩ a2, fun e' he => ?_⟩
    rcases List.mem_cons.mp he with rfl | he
    · exact ⟨.inl t.1, b1, of_decide_eq_true b3⟩
    · exact a3 e' he
  | [], _ :: _, h => by simp [entsB] at h
  | _ :: _, [], h => by simp [entsB] at h
theorem val_tab {K : PySem.W.Frag} {tab : List (Int × AV)} {vs : List (Key × Value)} (t : Paired (fun t v => Sum.inl t.1 = v.1 ∧ KV1 K t.2 v.2) tab vs) (k : Key) :
    (lookA (keyT tab) k = none ∧ valueAt vs k = none) ∨ ∃ a u, lookA (keyT tab) k = some a ∧ valueAt vs k = some u ∧ KV1 K a u := by
  induction t with
  | nil => exact .inl ⟨rfl, rfl⟩
  | @cons p q ps qs h t ih =>
    by_cases e : q.1 = k
    · exact .inr ⟨p.2, q.2, by simp [lookA, keyT, h.1, e], by simp [valueAt, e], h.2⟩
    · have e1 : lookA (keyT (p :: ps)) k = lookA (keyT ps) k := by simp [lookA, keyT, List.find?_cons, h.1, e]
      have e2 : valueAt (q :: qs) k = valueAt qs k := by simp [valueAt, List.find?_cons, e]
      rw [e1, e2]
      exact ih
theorem nod_tab {K : PySem.W.Frag} {tab : List (Int × AV)} {vs : List (Key × Value)} (t : Paired (fun t v => Sum.inl t.1 = v.1 ∧ KV1 K t.2 v.2) tab vs) (m : nodI (tab.map (·.1)) = true) : (vs.map (·.1)).Nodup := by
  have e0 : vs.map (·.1) = tab.map fun t => (Sum.inl t.1 : Key) := by
    clear m
    induction t with
    | nil => rfl
    | cons h t ih => rw [List.map_cons, List.map_cons, ih, h.1]
  rw [e0]
  have := nodI_ok m
  rw [show (tab.map fun t => (Sum.inl t.1 : Key)) = (tab.map (·.1)).map Sum.inl from by rw [List.map_map]; rfl]
  exact List.Pairwise.map _ (fun a b h z => h (Sum.inl.inj z)) this
def kGetR (tab : List (Int × AV)) (a d : AV) (Λ : AH) : R AV := match keyA a with
  | some k => .ok ((lookA (keyT tab) k).getD d) Λ
  | none => .bad
def dKGet (tab : List (Int × AV)) (fe ff : ME) : ME := fun δ Λ => (fe δ Λ).bind fun a Λ1 => (ff δ Λ1).bind fun d Λ2 => kGetR tab a d Λ2
section
variable {G : GX} {x : Str} {e f : Expr} {fe ff : ME} {p apos cpos : Pos} {tab : List (Int × AV)}
theorem je_kGet (hx : KDic G.K G.mg x tab) (hg : G.sc.names.lookup x = some .globalImplicit) (hd : (x == ("__debug__" : Str)) = false) (he : JE G e fe) (hf : JE G f ff) (hm : ∀ X : Cx, M2 X (.Name x p) "get" apos e f cpos) :
    JE G (.Call (.Attribute (.Name x p) "get" apos) [e, f] [] cpos) (dKGet tab fe ff) := fun X F W tk => by
  refine ⟨fun pins s σ H Q I ⟨ρ, δ, Λ, r, v, q⟩ => ?_⟩
  obtain ⟨a, es, n, m1, m2, m3, m4, m5⟩ := hx.ex
  have m := hm X
  have m2' : X.K.lookup a = some ⟨.type "dict", none, .dict es n, #[]⟩ := by rw [F.hK]; exact m2
  refine wpAny_Call_method m.base m.few m.line PySem.F.plainAttrs_dict PySem.F.slot_dict_get PySem.F.type_dict_get (ld_glob I (gl_of F hg) (by rw [F.hmg]; exact m1) ?_ hd)
  refine ⟨⟨_, I.kIn a _ m2', rfl⟩, fun b z => ?_, ?_⟩
  · cases z
    exact ⟨_, I.kIn a _ m2', rfl⟩
  rw [m.trees]
  refine Calls.callWith_builtin rfl (Calls.evalArgs_plain (Calls.spliced_cons (thn ((he X F W tk).run pins s σ H _ I ⟨ρ, δ, Λ, r, v, (show Post G.K W σ (TV G.K) ρ H ((fe δ Λ).bind _) Q from q).bind⟩) fun iv s2 ⟨y, H2, I2, ry, q2⟩ => ?_)))
  obtain ⟨y', Λ1, ρ1, e1, r1, t1, p1⟩ := q2
  refine Calls.spliced_cons (thn ((hf X F W tk).run pins s2 σ H2 _ I2 ⟨ρ1, δ, Λ1, r1, v.mono e1, p1.bind⟩) fun fv s3 ⟨z, H3, I3, rz, q3⟩ => Calls.spliced_nil ?_)
  obtain ⟨d', Λ2, ρ2, e2, r2, t2, p2⟩ := q3
  unfold kGetR at p2
  split at p2
  · rename_i k hk
    cases key_rep (t1.mono e2) hk
    obtain ⟨vs, a1, a2, a3⟩ := ents_ok (P := X.prog) (w := X.w) m5
    have nd : (vs.map (·.1)).Nodup := nod_tab a2 m4
    have dd : s3.heap.DictOf (mixKind X.prog X.w) a vs := ⟨_, es, n, I3.kIn a _ m2', ⟨rfl, rfl, rfl⟩, rfl, fun e he => a3 e (by simpa using he), a1, nd⟩
    refine call_meetsIn PySem.F.slot_dict_get dd.typeIs PySem.F.entry_dict_get (PySem.F.args_dict_get_3 _ _ _) (meets_dict_get_default (mixKind X.prog X.w) a (kV_is ry) m3 fv) ⟨_, dd.mapOf, ?_⟩
    rcases val_tab a2 k with ⟨b1, b2⟩ | ⟨av, u, b1, b2, b3⟩
    · rw [b2]
      rw [b1] at p2
      exact ⟨z, H3, I3.tok _, rz, p2.ok r2 t2⟩
    · rw [b2]
      rw [b1] at p2
      obtain ⟨zz, c1, c2⟩ := b3
      exact ⟨zz, H3, I3.tok _, c1, p2.ok r2 (c2 _ _)⟩
  · exact p2.elim
end
end NP

set_option Elab.async false
set_option linter.all false
set_option maxRecDepth 100000
set_option maxHeartbeats 1000000
namespace NP
open PySem PySem.Spec PyProof.Rows L2
/-! ### a def -/
def toR : RS → R AV
  | .nx _ Λ => .ok .non Λ
  | .rt v Λ => .ok v Λ
  | .ex _ c m Λ => .ex c m Λ
  | _ => .bad
def startA (n : Nat) (as : List AV) : AEnv := as.map some ++ List.replicate (n - as.length) none
def runF (ar n : Nat) (b : MS) (as : List AV) (Λ : AH) : R AV := if as.length = ar then toR (b (startA n as) Λ) else .bad
theorem start_rep {K : PySem.W.Frag} {ρ : List Addr} {H : Hp} {as : List AV} {vs : List V} {N : List Str} (t : RepVs K ρ H as vs) : RepE K none ρ H (startA N.length as) (L2.start N vs) := by
  have hl := t.length
  refine ⟨by simp [startA, L2.start, hl], fun i x hx => ?_, fun x i e => by cases e⟩
  unfold startA at hx
  unfold L2.start
  by_cases hi : i < as.length
  · rw [List.getElem?_append_left (by simpa using hi)] at hx
    rw [List.getElem?_append_left (by simpa [← hl] using hi)]
    have h1 : as[i]? = some x := by simpa using hx
    obtain ⟨u, h2, h3⟩ := t.get h1
    exact ⟨u, by simp [h2], h3⟩
  · rw [List.getElem?_append_right (by simpa using hi)] at hx
    have := List.mem_of_getElem? hx
    rw [List.mem_replicate] at this
    cases this.2
theorem spF_len {K : PySem.W.Frag} {ar n : Nat} {b : MS} {vs : List V} {H : Hp} {Q : VK} {E : XK} (h : spF K (runF ar n b) vs H Q E) : vs.length = ar := by
  obtain ⟨ρ, Λ, as, r, t, p⟩ := h
  unfold runF at p
  by_cases hl : as.length = ar
  · rw [← t.length, hl]
  · rw [if_neg hl] at p; exact p.elim
section
variable {P : Program} {w : World} {K : PySem.W.Frag} {mg : Str → Option Value} {base : Heap} {x qual : Str} {params : Arguments} {body : List Stmt} {scope : Scope} {dvs : List V} {kws : List (Str × V)} {f : Addr} {fd : FuncData} {N ps : List Str} {k : Nat} {b : MS}
theorem fn_np (F : FunD K x qual params body scope dvs kws f fd) (S : FnScope N ps scope) (hJ : JS ⟨P, w, K, mg, base, N, scope, k, false, none⟩ body b) : FnOk P w K mg base (L2N.CX P w) (k + 1) f fd ps (spF K (runF ps.length N.length b)) :=
  F.ok S (fun vs H Q E h => spF_len h) fun cdv A outer s H vs Q E hr h => by
    have fit : GX.Fit ⟨P, w, K, mg, base, N, scope, k, false, none⟩ (cxOf (L2N.CX P w) P w K mg base N qual scope f cdv A outer s H E) :=
      ⟨rfl, rfl, rfl, rfl, rfl, rfl, rfl, fun _ => rfl, fun _ => hr.hd, L2H.roomH_of hr, fun x e => (by cases e), passes_of rfl, S.nd, fun _ _ _ => rfl, fun _ => ⟨rfl, rfl⟩⟩
    refine ⟨_, hJ _ fit (fun cls d _ H' => E cls d H') (L2N.takes_of rfl rfl rfl rfl), ?_⟩
    obtain ⟨ρ, Λ, as, r, t, p⟩ := h
    refine ⟨ρ, startA N.length as, Λ, r, start_rep t, ?_⟩
    unfold runF at p
    by_cases hl : as.length = ps.length
    · rw [if_pos hl] at p
      revert p
      show Post K _ [] (TV K) ρ H (toR (b (startA N.length as) Λ)) Q → PostS K none _ _ ρ H (b (startA N.length as) Λ)
      cases b (startA N.length as) Λ with
      | nx δ Λ' => exact fun p ρ' σ' H' e r' v => p ρ' .non H' e r' .non
      | rt v Λ' => exact fun p ρ' u H' e r' v => p ρ' u H' e r' v
      | bk δ Λ' => exact fun p => p.elim
      | ct δ Λ' => exact fun p => p.elim
      | ex δ c m Λ' => exact fun p ρ' σ' H' d e r' v hd => p ρ' H' d e r' hd
      | bad => exact fun p => p
    · rw [if_neg hl] at p; exact p.elim
theorem fnAt (F : FunD K x qual params body scope [] kws f fd) (S : FnScope N ps scope) (hJ : JS ⟨P, w, K, mg, base, N, scope, k, false, none⟩ body b) (hm : mg x = some (.ref f)) (hb : Binds K fd ps []) {k' : Nat} (hk : k + 1 ≤ k') :
    FnAt P w K mg base k' x [] (runF ps.length N.length b) := ⟨f, fd, ps, [], [], hm, F.kp, hb, .nil, fun _ _ => .nil, (fn_np F S hJ).mono hk⟩
end
/-! ### the law's def at its script -/
theorem law_np {K : PySem.W.Frag} {m : List AV → AH → R AV} {H : Hp} {a : Addr} {ns : List Int} {Λ' : AH} (ho : Only H) (hs : SqL K H a (ns.map V.int)) (h : m [.cl (ns.map .int)] [] = .ok (.bl true) Λ') : spF K m [.ref a] H (fun v _ => v = .bl true) fun _ _ _ => False := by
  refine ⟨[], [], [.cl (ns.map .int)], ⟨rfl, List.nodup_nil, fun n a o h _ => by simp at h⟩, .cons (.cl ?_ RepVs.ints) .nil, ?_⟩
  · rcases hs with hs | hs
    · rcases hs with hs | ⟨o, hs⟩
      · rcases ho a with h0 | ⟨o, xs, h0⟩ <;> rw [h0] at hs <;> cases hs
      · exact .inl ⟨o, hs⟩
    · exact .inr hs
  · rw [h]
    intro ρ' u H' _ _ t
    cases t
    rfl
/-! ### the head's Hook: facts of ours beside the kit's -/
def obsN (ck : PySem.W.Frag → Bool) (fa : List He.Fa) (fn : List He.DefD) (K : PySem.W.Frag) : He.AlD := (ck K && (He.obsD fa fn K).1, (He.obsD fa fn K).2)
def obsNG (ck : PySem.W.Frag → Bool) (n : Nat) (fa : List He.Fa) (fn : List He.DefD) (g : Addr → Option Obj) : He.AlD := obsN ck fa fn (He.frG g (He.asD g n))
def hookN (ck : PySem.W.Frag → Bool) (n : Nat) (fa : List He.Fa) (fn : List He.DefD) : PySem.W.Hook where
  α := He.AlD
  obs := fun s => obsNG ck n fa fn s.heap.get?
  val := fun _ => He.valD fn
  says := fun _ h => ∃ K : PySem.W.Frag, K.In h ∧ ck K = true ∧ He.SaysD fa fn K
  of := fun _ s e => ⟨He.frG s.heap.get? (He.asD s.heap.get? n), He.frG_in, (and2 (congrArg (fun z : He.AlD => z.1) e)).1, Prod.ext (and2 (congrArg (fun z : He.AlD => z.1) e)).2 (show (obsN ck fa fn _).2 = (He.valD fn).2 from congrArg (fun z : He.AlD => z.2) e)⟩
  keeps := fun _ _ _ ⟨K, hK, c⟩ k => ⟨K, PySem.W.Frag.In.keeps hK k, c⟩
theorem obsNG_eq {ck : PySem.W.Frag → Bool} {n : Nat} {fa : List He.Fa} {fn : List He.DefD} {g : Addr → Option Obj} {s : Shared} (h : ∀ a, g a = s.heap.get? a) : obsNG ck n fa fn g = (hookN ck n fa fn).obs s := by
  have e : g = s.heap.get? := funext h
  rw [e] <;> rfl
end NP

set_option Elab.async false
set_option linter.all false
set_option maxRecDepth 100000
set_option maxHeartbeats 1000000
namespace NP
open PySem PySem.Spec PyProof.Rows L2
theorem sw_cellL {elt : Expr} {gs : List Comprehension} {scope : Scope} {pos py : Pos} {y : Str} {l : Nat} {env : Env} (hy : env.scope.names.lookup y = some .cell) : swapsWith (.ListComp elt gs scope pos) (some (.Name y py)) l env = pure false := by
  have ky : env.kindOf y = some .cell := hy
  unfold swapsWith
  simp only [ky, Expr.pos]
  have e : ((some NameKind.cell : Option NameKind) == some .local) = false := by decide
  rw [e, Bool.and_false, Bool.false_and, Bool.false_and]
theorem sw_cellD {kx vx : Expr} {gs : List Comprehension} {scope : Scope} {pos py : Pos} {y : Str} {l : Nat} {env : Env} (hy : env.scope.names.lookup y = some .cell) : swapsWith (.DictComp kx vx gs scope pos) (some (.Name y py)) l env = pure false := by
  have ky : env.kindOf y = some .cell := hy
  unfold swapsWith
  simp only [ky, Expr.pos]
  have e : ((some NameKind.cell : Option NameKind) == some .local) = false := by decide
  rw [e, Bool.and_false, Bool.false_and, Bool.false_and]
section
variable {G : GX} {kx vx elt : Expr} {gs : List Comprehension} {scope : Scope} {pos pos' spos : Pos} {x : Str} {i : Nat} {fa : ME}
theorem j1_setCL (hb : G.blk = false) (hi : G.N[i]? = some x) (hx : G.sc.names.lookup x = some .cell) (ha : JE G (.ListComp elt gs scope pos) fa) (hne : hxNe G.hx i = true := by rfl) : J1 G (.Assign [.Name x pos'] (.ListComp elt gs scope pos) spos) (dSet i fa) := fun X F W tk =>
  ps_imp (ps_set F.nd (by rw [F.hN]; exact hi) (.inr (by rw [F.hsc]; exact hx)) (ha X F W tk) (sw_cellL (by rw [F.hsc]; exact hx)) (.inl (F.fn hb x (by rw [F.hsc]; exact hx)))) fun D σ H ⟨ρ, δ, Λ, r, v, p⟩ => by
    refine ⟨ρ, δ, Λ, r, v, (sR_post v p).imp fun u H1 ⟨a, Λ1, ρ1, e1, r1, t1, v1, p1⟩ => ?_⟩
    exact p1 ρ1 _ H1 (Ext.refl _ _) r1 (v1.set hne t1)
theorem j1_setCD (hb : G.blk = false) (hi : G.N[i]? = some x) (hx : G.sc.names.lookup x = some .cell) (ha : JE G (.DictComp kx vx gs scope pos) fa) (hne : hxNe G.hx i = true := by rfl) : J1 G (.Assign [.Name x pos'] (.DictComp kx vx gs scope pos) spos) (dSet i fa) := fun X F W tk =>
  ps_imp (ps_set F.nd (by rw [F.hN]; exact hi) (.inr (by rw [F.hsc]; exact hx)) (ha X F W tk) (sw_cellD (by rw [F.hsc]; exact hx)) (.inl (F.fn hb x (by rw [F.hsc]; exact hx)))) fun D σ H ⟨ρ, δ, Λ, r, v, p⟩ => by
    refine ⟨ρ, δ, Λ, r, v, (sR_post v p).imp fun u H1 ⟨a, Λ1, ρ1, e1, r1, t1, v1, p1⟩ => ?_⟩
    exact p1 ρ1 _ H1 (Ext.refl _ _) r1 (v1.set hne t1)
end
/-! ### isinstance of plain classes -/
def tyNs : List String := ["NoneType", "bool", "int", "str", "tuple", "list", "dict"]
def isB (n : String) : TyN → Option Bool
  | .inl s => if s ∈ tyNs ∧ n ∈ tyNs then some (decide (s = n) || (decide (n = "int") && decide (s = "bool"))) else none
  | .inr _ => none
theorem kit_all (K : PySem.W.Frag) : ∀ s ∈ tyNs, ∀ n ∈ tyNs, PySem.W.kitOne K (.type s) (.type n) = some (decide (s = n) || (decide (n = "int") && decide (s = "bool"))) := by
  intro s hs n hn
  simp only [tyNs, List.mem_cons, List.not_mem_nil, or_false] at hs hn
  rcases hs with rfl | rfl | rfl | rfl | rfl | rfl | rfl <;> rcases hn with rfl | rfl | rfl | rfl | rfl | rfl | rfl <;> kernel_rfl
theorem isB_ok {K : PySem.W.Frag} {n : String} : ∀ t b, isB n t = some b → PySem.W.kitOne K (tyVal K t) (.type n) = some b ∧ ∀ C, t = .inr C → ClsI K C := by
  intro t b h
  cases t with
  | inl s =>
    unfold isB at h
    simp only at h
    split at h
    · rename_i hh
      cases h
      exact ⟨kit_all K s hh.1 n hh.2, fun C e => by cases e⟩
    · cases h
  | inr C => cases h
end NP
namespace NP
open PySem PySem.Spec PyProof.Rows L2
/-- the end of a law whose defs may raise -/
theorem walk_np {l : PySem.W.OpenLaw} {n k : Nat} {q : Program} {loose : List Str} {XP : (Str → Option Value) → Heap → Prop} {YP : World → Heap → Prop} {d : DefRec} {x : Str} {m : List AV → AH → R AV}
    (hn : l.most = some n) (hz : n ≤ sizeLine) (h0 : d.params.defaults = []) (hr : Room k callerA) (pure : ∀ ns : List Int, ns.length ≤ n → ∃ Λ', m [.cl (ns.map .int)] [] = .ok (.bl true) Λ')
    (F : ∀ (w : World) (mg : Str → Option Value) (fa : Addr) (h : Heap), YP w h → h.Ns mainGlobals mg → mg d.name = some (.ref fa) →
      ∃ (K : PySem.W.Frag) (fd : FuncData), K.In h ∧ (∀ (s : Shared) (u : Value), BindsTo s fd ⟨[u], []⟩ [(x, u)]) ∧ ∀ base : Heap, K.In base → base.Ns mainGlobals mg → FnOk l.prog w K mg base (L2N.CX l.prog w) k fa fd [x] (spF K m)) :
    PySem.W.WalkO q loose XP YP l.row.toRowW d [] (fun f vs => PySem.call f vs) := by
  refine Att.attach_call hn h0 fun w s₀ s₁ mg mb fa o pm cd doc a vs ns G Y ho hd hcd hmg hobj hints hlen hg => ?_
  obtain ⟨K, fd, KX, hb, hF⟩ := F w mg fa _ Y G.T.g hmg
  obtain ⟨Λ', e⟩ := pure ns hlen
  refine law_call KX G.T.g G.T.b G.T.builtins G.T.nolimit hg hobj hints (Nat.le_trans hlen hz) hr hF hb (fun H hO hS => law_np hO hS e) fun H u s' c => ?_
  obtain ⟨_, _, _, _, _, _, _, _, _, _, _, _, z⟩ := c
  exact z
end NP

set_option Elab.async false
set_option linter.all false
set_option maxRecDepth 100000
set_option maxHeartbeats 1000000
/-! NPX1: an own exception's __init__ that begins with super().__init__(text). -/
namespace NP
open PySem PySem.Spec PyProof.Rows L2
abbrev clsN : Str := "__class__"
/-- the frame of such an __init__ -/
abbrev envS (qual : Str) (scope : Scope) (L f : Addr) (cd : Value) (cc : Addr) : Env := PySem.W.ksEnv qual scope L f cd cc
def cxS (CX : CXT) (P : Program) (w : World) (K : PySem.W.Frag) (mg : Str → Option Value) (base : Heap) (N : List Str) (qual : Str) (scope : Scope) (f : Addr) (cd : Value) (cc : Addr) (A : Around) (outer : List Env) (s : Shared) (H : Hp) (E : XK) : Cx where
  prog := P
  w := w
  K := K
  mg := mg
  base := base
  A := A.deeper (envS qual scope s.heap.objs.size f cd cc)
  N := N
  s_0 := s
  H_0 := H
  env := envS qual scope s.heap.objs.size f cd cc
  outer := outer
  stack := envS qual scope s.heap.objs.size f cd cc :: outer
  ex := []
  calm := true
  fn := fun x => !(x == clsN)
  pn := []
  xe := fun e s' => wpAny (model P w) (A.deeper (envS qual scope s.heap.objs.size f cd cc)) (leaving (envS qual scope s.heap.objs.size f cd cc) e) (fun _ s'' => CX outer H s E e s'') (fun e' s'' => CX outer H s E e' s'') s'
/-- the scope: the parameters, no cell of its own, the one free name -/
structure SupScope (N ps : List Str) (sc : Scope) : Prop where
  kind : sc.kind = .function
  co : sc.isCoroutine = false
  gen : sc.isGenerator = false
  nd : N.Nodup
  pre : N.take ps.length = ps
  par : ∀ x ∈ ps, sc.names.lookup x = some .local
  nocell : ∀ y ∈ sc.names, y.2 ≠ .cell
  free : ∀ y ∈ sc.names, y.2 = .free → y.1 = clsN
  cls : sc.names.lookup clsN = some .free
  sup : sc.names.lookup ("super" : Str) = some .globalImplicit
section
variable {P : Program} {w : World} {K : PySem.W.Frag} {mg : Str → Option Value} {base : Heap}
theorem rev_look {ps : List Str} {us : List Value} {x : Str} {i : Nat} {u : Value} (nd : ps.Nodup) (hp : ps[i]? = some x) (hu : us[i]? = some u) : (ps.zip us).reverse.lookup x = some u := by
  have hm : (x, u) ∈ (ps.zip us).reverse := by
    rw [List.mem_reverse]
    have : (ps.zip us)[i]? = some (x, u) := by rw [List.getElem?_zip_eq_some]; exact ⟨hp, hu⟩
    exact List.mem_of_getElem? this
  have key : ∀ (l : List (Str × Value)), (l.map (·.1)).Nodup → (x, u) ∈ l → l.lookup x = some u := by
    intro l
    induction l with
    | nil => intro _ h; simp at h
    | cons q l ih =>
      intro hn hq
      rw [List.map_cons, List.nodup_cons] at hn
      rw [List.lookup_cons]
      rcases List.mem_cons.mp hq with rfl | hq
      · simp
      · have : ¬ x = q.1 := fun e => hn.1 (List.mem_map.mpr ⟨(x, u), hq, e⟩)
        have e2 : (x == q.1) = false := by simpa using this
        rw [e2]
        exact ih hn.2 hq
  refine key _ ?_ hm
  rw [List.map_reverse]
  unfold List.Nodup
  rw [List.pairwise_reverse]
  refine List.Pairwise.imp (R := fun a b => a ≠ b) (fun h => Ne.symm h) ?_
  show ((ps.zip us).map (·.1)).Nodup
  have : (ps.zip us).map (·.1) = ps.take us.length := by
    clear hm hu hp nd key
    induction ps generalizing us with
    | nil => cases us <;> rfl
    | cons p ps ih => cases us with
      | nil => rfl
      | cons v us => simp [ih]
  rw [this]
  exact nd.sublist (List.take_sublist _ _)
theorem inv_sup {CX : CXT} {N ps : List Str} {qual : Str} {scope : Scope} {f cc : Addr} {cd : Value} {A : Around} {outer : List Env} {s : Shared} {H : Hp} {E : XK} {us : List Value} {vs : List V} {h1 : Heap} {tk : Nat} {cl : Value} {cld : Option Addr} {cv : Option Value} {csl : Array (Option Value)}
    (S : SupScope N ps scope) (hd : A.handled = none) (e0 : Env0 P w K mg base A outer s H) (hl : vs.length = ps.length) (r : Vals vs us) (hcell : K.lookup cc = some ⟨cl, cld, .cell cv, csl⟩)
    (hns : h1.Ns s.heap.objs.size (fun x => (ps.zip us).reverse.lookup x)) (hk : ∀ b o, s.heap.get? b = some o → h1.get? b = some o) :
    Inv (cxS CX P w K mg base N qual scope f cd cc A outer s H E) [] (L2.start N vs) H { s with heap := h1, toks := tk } := by
  have hpl : ps.length ≤ N.length := by have := congrArg List.length S.pre; rw [List.length_take] at this; omega
  have hcb : base.get? cc = some ⟨cl, cld, .cell cv, csl⟩ := e0.mod.kin _ _ hcell
  have hlk : ∀ {x c}, (cxS CX P w K mg base N qual scope f cd cc A outer s H E).env.cells.lookup x = some c → x = clsN ∧ c = cc := fun {x c} h => by
    have h : ([(clsN, cc)] : List (Str × Addr)).lookup x = some c := h
    rw [List.lookup_cons] at h
    split at h
    · rename_i e
      cases h
      exact ⟨beq_iff_eq.mp e, rfl⟩
    · cases h
  have lkc : (cxS CX P w K mg base N qual scope f cd cc A outer s H E).env.cells.lookup clsN = some cc := by
    show ([(clsN, cc)] : List (Str × Addr)).lookup clsN = some cc
    rw [List.lookup_cons]; simp
  refine ⟨⟨e0.mod, S.kind, rfl, rfl, Nat.le_refl _, fun y z c h1 h2 => (hlk h1).1.trans (hlk h2).1.symm, fun y hy => ?_, fun y c hf h => ?_, fun _ => hd, Around.frames_deeper e0.frames, .inr ⟨rfl, rfl⟩, fun b z => absurd z (by show b ∉ ([] : List Addr); simp), e0.bs, e0.bsz,
      fun b _ _ => by show b ∉ ([] : List Addr); simp, fun b z => absurd z (by show b ∉ ([] : List Addr); simp), e0.funs, e0.frf⟩,
    rfl, e0.bare, Un.kept hk, ⟨_, hns, fun i y v h1 h2 h3 => ?_⟩, fun y c h => ?_, e0.hok.fresh (Nat.le_refl _), fun y c h => ?_, fun p hp => absurd (show p ∈ ([] : List (Addr × Obj)) from hp) (by simp), e0.hok.kept hk, ?_⟩
  · have hy : scope.names.lookup y = some .cell ∨ scope.names.lookup y = some .free := hy
    rcases hy with hy | hy
    · exact absurd rfl (S.nocell _ (PySem.mem_of_lookup hy))
    · have e := S.free _ (PySem.mem_of_lookup hy) rfl
      have e : y = clsN := e
      rw [e]
      exact ⟨cc, lkc⟩
  · have e := (hlk h).1
    rw [e] at hf
    exact absurd hf (by show ¬ (!(clsN == clsN)) = true; simp)
  · have hi : i < vs.length := by
      unfold L2.start at h2
      by_cases hi : i < vs.length
      · exact hi
      · rw [List.getElem?_append_right (by simpa using hi)] at h2
        have := List.mem_of_getElem? h2
        rw [List.mem_replicate] at this
        cases this.2
    have ha : vs[i]? = some v := by
      unfold L2.start at h2
      rw [List.getElem?_append_left (by simpa using hi), List.getElem?_map] at h2
      cases e : vs[i]? with
      | none => rw [e] at h2; cases h2
      | some a => rw [e] at h2; cases h2; rfl
    obtain ⟨u, hu, rv⟩ := r.get ha
    have hp : ps[i]? = some y := by
      rw [← S.pre, List.getElem?_take_of_lt (by omega)]; exact h1
    have ndP : ps.Nodup := by rw [← S.pre]; exact S.nd.sublist (List.take_sublist _ _)
    exact ⟨u, rv, .inl ⟨S.par y (List.mem_of_getElem? hp), rev_look ndP hp hu⟩⟩
  · obtain ⟨rfl, rfl⟩ := hlk h
    exact ⟨cv, _, hk _ _ (e0.bs _ _ hcb).1, rfl⟩
  · obtain ⟨rfl, rfl⟩ := hlk h
    exact (e0.bs _ _ hcb).2
  · unfold L2.start
    show _ = N.length
    rw [List.length_append, List.length_map, List.length_replicate]
    omega
/-- what the written part says of such an __init__ at fI, of the class at C -/
structure SupK (P : Program) (K : PySem.W.Frag) (C fI : Addr) (fd : FuncData) (name qual : Str) (params : Arguments) (body : List Stmt) (scope : Scope) (cc : Addr) (cdv : Value) : Prop where
  fn : ∃ dV kV doc pm an ct oc od osl, fd = PySem.W.ksFn name qual params body scope dV kV doc pm an cdv ct cc ∧ K.lookup fI = some ⟨oc, od, .func fd, osl⟩
  cod : PySem.W.codeIn K cdv qual = true
  head : ∃ ar : Arg, (params.posonlyargs ++ params.args).head? = some ar ∧ ar.arg = ("self" : Str)
  code : ∃ cda ccl cdd vs ccs file tf, cdv = .ref cda ∧ K.lookup cda = some ⟨ccl, cdd, .fields vs, ccs⟩ ∧ vs[2]? = some (.str file tf) ∧ ((P.main.file : Str) == file) = true
  cell : ∃ cl cld csl, K.lookup cc = some ⟨cl, cld, .cell (some (.ref C)), csl⟩
  cls : ∃ cd, PySem.W.clsIn K C = some cd
  self : PySem.W.mroIn K C (.ref C) = some true
  sup : PySem.W.nsIn K mainGlobals "super" = some none
  top : (P.main.scope.names.lookup ("super" : Str)).isSome = false
  any : PySem.W.nsIn K cStatics "thirdparty.any" = some none
  ini : PySem.W.ks_superIn K C C "__init__" = some (some (.builtin "ValueError.__init__"))
  ve : PySem.W.subIn K (.ref C) (.type "ValueError") = some true
/-- super().__init__(text), the first statement -/
theorem sup_first {CX : CXT} {N ps : List Str} {name qual : Str} {params : Arguments} {body : List Stmt} {scope : Scope} {fI cc C a : Addr} {cdv : Value} {fd : FuncData} {A : Around} {outer : List Env} {s s1 : Shared} {H : Hp} {E : XK} {σ : L2.St} {p0 p1 apos cpos epos tpos : Pos} {tx : Str} {j : Nat} {Q : Flow → Shared → Prop} {EE : Value → Shared → Prop}
    (SK : SupK P K C fI fd name qual params body scope cc cdv) (S : SupScope N ps scope) (i : Nat) (hi : N[i]? = some ("self" : Str)) (hself2 : ("self" : Str) ∈ ps) (hσ : σ[i]? = some (some (.ref a)))
    (I : Inv (cxS CX P w K mg base N qual scope fI cdv cc A outer s H E) [] σ H s1) (T : OexC K C) (ha : H a = some (exo a C none))
    {pl : Sem Bool} (he : ∀ env : Env, eval (.Call (.Attribute (.Call (.Name "super" p0) [] [] p1) "__init__" apos) [.Constant (.str tx) j tpos] [] cpos) env = (do
      let ov ← attributeBase (.Call (.Name "super" p0) [] [] p1) "__init__" env (eval (.Call (.Name "super" p0) [] [] p1) env)
      standAt apos.atName
      let (f, first) ← holding [ov] (getMethod ov "__init__" pl)
      callWith cpos f first (backTo cpos (starEach [.Constant (.str tx) j tpos] env)) []))
    (q : ∀ s2, Inv (cxS CX P w K mg base N qual scope fI cdv cc A outer s H E) [] σ H s2 → Q .next s2) :
    _root_.PySem.wpAt (model P w) (A.deeper (envS qual scope s.heap.objs.size fI cdv cc)) (.func body (envS qual scope s.heap.objs.size fI cdv cc))
      (exec (.Expr (.Call (.Attribute (.Call (.Name "super" p0) [] [] p1) "__init__" apos) [.Constant (.str tx) j tpos] [] cpos) epos) (envS qual scope s.heap.objs.size fI cdv cc)) Q EE s1 := by
  obtain ⟨dV, kV, doc, pm, an, ct, oc, od, osl, rfl, lf⟩ := SK.fn
  obtain ⟨ar, har, hself⟩ := SK.head
  obtain ⟨cda, ccl, cdd, fvs, ccs, file, tf, rfl, lcd, hfv, hfile⟩ := SK.code
  obtain ⟨cl, cld, csl, lcc⟩ := SK.cell
  obtain ⟨cd, lcls⟩ := SK.cls
  have X : K.In s1.heap := I.kIn
  refine ks_wpAt_Expr_any ?_ (by show (scope.kind == .module && _) = false; rw [S.kind]; rfl) rfl
  refine ks_wpAt_MethodCall ?_ (he _)
  obtain ⟨oD, hD1, hD2⟩ : ∃ oD, s1.heap.get? C = some oD ∧ oD.data = .cls cd := by
    unfold PySem.W.clsIn at lcls
    split at lcls
    · rename_i ho
      cases lcls
      exact ⟨_, X _ _ ho, rfl⟩
    · cases lcls
  refine ks_wpAt_super_base (env := envS qual scope s.heap.objs.size fI (.ref cda) cc) S.sup S.cls rfl rfl (X _ _ lf) rfl har rfl (X _ _ lcd) rfl hfv hfile SK.top ?_
  have hm : mg ("super" : Str) = none := PySem.W.mg_none_of I.ok.mod.kin I.ok.mod.glob SK.sup
  obtain ⟨mb, hb1, hb2⟩ := I.mod.blt
  refine PySem.W.ks_loadName_global S.kind S.sup (Calls.loadGlobal_builtin (env := envS qual scope s.heap.objs.size fI (.ref cda) cc) (I.mod.glob.keeps I.bk) hm (hb1.keeps I.bk) ((hb2 _ (by decide)).trans (by decide +kernel)) ⟨rfl, ?_⟩)
  refine wpAny_loadName_free S.kind S.cls rfl ⟨_, X _ _ lcc, rfl⟩ ?_
  obtain ⟨m, hns, hloc⟩ := I.loc
  have hks : scope.names.lookup ("self" : Str) = some .local := S.par _ hself2
  obtain ⟨u, ru, hlk⟩ := hloc i _ _ hi hσ (.inl hks)
  obtain rfl : u = Value.ref a := ru
  have hm2 : m ar.arg = some (.ref a) := by
    rw [hself]
    rcases hlk with ⟨_, h⟩ | ⟨h, _⟩
    · exact h
    · have h : scope.names.lookup ("self" : Str) = some .cell ∨ scope.names.lookup ("self" : Str) = some .free := h
      rw [hks] at h
      rcases h with h | h <;> cases h
  refine wpAny_loadName_local S.kind (by rw [hself]; exact hks) hns hm2 ?_
  obtain ⟨t1, hx⟩ := exo_at I.hok ha
  have hxC : a ≠ C := fun e => by
    rw [e, hD1] at hx
    have hx := Option.some.inj hx
    rw [hx] at hD2
    cases hD2
  obtain ⟨hp, g, d, tk, os⟩ := s1
  refine ks_wpAny_isType_cls hD1 hD2 ⟨rfl, ?_⟩
  refine ks_wpAny_call_super hD1 hD2 hx rfl (fun c e => by cases e) (PySem.W.looks_mroIn X SK.self) fun h2 hso k2 => ?_
  have I2 : Inv (cxS CX P w K mg base N qual scope fI (.ref cda) cc A outer s H E) [] σ H ⟨h2, g, d, tk, os⟩ := I.kept (t' := tk) k2
  have X2 : K.In h2 := I2.kIn
  have hx2 := k2 _ _ hx
  have hini := SK.ini
  unfold PySem.W.ks_superIn at hini
  rw [lcls] at hini
  have hI : PySem.W.Looks (model P w) h2 (isInstance (.ref a) (.type "ValueError")) true :=
    PySem.W.Looks.andThen (fun A Q E s k q => wpAny_typeOf_ref (k _ _ hx2) q) (PySem.W.looks_subIn X2 SK.ve)
  refine PySem.W.kxs_getMethod PySem.W.kxs_ValueError hso (PySem.W.looks_opaque X2 SK.any) (l₀ := cd.mro) (fun A Q E s k q => wpAny_bind ((PySem.W.looks_clsIn X2 lcls) A _ E s k (wpAny_pure q))) rfl X2 hini hI hxC rfl ?_
  have k3 : ∀ b o, h2.get? b = some o → (h2.push (PySem.W.kxs_mw "ValueError.__init__" a)).get? b = some o := fun b o e => Heap.get?_push_of_some _ e
  have I3 : Inv (cxS CX P w K mg base N qual scope fI (.ref cda) cc A outer s H E) [] σ H ⟨h2.push (PySem.W.kxs_mw "ValueError.__init__" a), g, d, tk + 1, os⟩ := I2.kept (t' := tk + 1) k3
  have hmw : (h2.push (PySem.W.kxs_mw "ValueError.__init__" a)).get? h2.objs.size = some (PySem.W.kxs_mw "ValueError.__init__" a) := Heap.get?_push_size _ rfl
  refine PySem.W.kxs_callWith (i := "ValueError.__init__") (x := a) rfl (Calls.evalArgs_plain (Calls.spliced_cons (Calls.Constant_str (k := j) (pos := tpos) (Calls.spliced_nil ⟨hmw, ?_⟩))))
  have I4 := I3.tok (tk + 1 + 1)
  have hx4 := exo_at I4.hok ha
  obtain ⟨t4, hx4⟩ := hx4
  obtain ⟨nm, qn, Nn, bs, bm, sn, sub, ab, col, dd, k0, k1, k2', k3', k5, hC, hbm⟩ := T.cls
  refine wpAny_call (codeAny_of_tree ?_)
  show wpAny _ (Around.in1 _) (callAny (.ref h2.objs.size) ⟨[.str tx (tk + 1)], []⟩) _ _ _
  simp only [callAny]
  refine wpAny_bind (wpAny_load hmw ?_)
  simp only [PySem.W.kxs_mw, show (Value.type "method-wrapper" == Value.type "method" || Value.type "method-wrapper" == Value.type "builtin_function_or_method" || Value.type "method-wrapper" == Value.type "method-wrapper") = true by decide, if_true]
  refine PySem.W.KFB.if_so (by decide) ?_
  refine wpAny_bind (PySem.W.check_bound_init F.excBase_ValueError.toExcCallFacts (I4.kIn _ _ hC) hx4 rfl ?_)
  refine wpAny_bind (wpAny_pure (wpAny_pure ?_))
  refine ⟨plainId_quiet F.excBase_ValueError.init.plain _, codeAny_builtin F.excBase_ValueError.initEntry ?_⟩
  refine PySem.W.exc_init_tree (cls := .ref C) (t0 := t4) (dv := none) (c2 := .none) (c3 := .none) (b4 := .bool false) hx4 (show 1 ≤ sizeLine by decide) fun h' kk ex et => ?_
  have J := I4.write (t' := tk + 1 + 1) (x := a) (e := a) (o := exo a C none) (by rw [ha]; exact True.intro) (.inl rfl) kk ⟨_, ex⟩ (exo_ok ex)
  have eu : upd H a (exo a C none) = H := by
    funext b
    by_cases hb : b = a
    · rw [hb, upd_same, ha]
    · rw [upd_ne hb]
  rw [eu] at J
  exact q _ J
/-- THE RULE: super().__init__(text), then the rest -/
theorem fn_sup {CX : CXT} {N ps : List Str} {k : Nat} {sp : Sp} {name qual : Str} {params : Arguments} {rest : List Stmt} {scope : Scope} {fI cc C : Addr} {cdv : Value} {fd : FuncData} {p0 p1 apos cpos epos tpos : Pos} {tx : Str} {j : Nat} {pl : Sem Bool}
    (SK : SupK P K C fI fd name qual params (.Expr (.Call (.Attribute (.Call (.Name "super" p0) [] [] p1) "__init__" apos) [.Constant (.str tx) j tpos] [] cpos) epos :: rest) scope cc cdv) (S : SupScope N (("self" : Str) :: ps) scope) (T : OexC K C)
    (he : ∀ env : Env, eval (.Call (.Attribute (.Call (.Name "super" p0) [] [] p1) "__init__" apos) [.Constant (.str tx) j tpos] [] cpos) env = (do
      let ov ← attributeBase (.Call (.Name "super" p0) [] [] p1) "__init__" env (eval (.Call (.Name "super" p0) [] [] p1) env)
      standAt apos.atName
      let (f, first) ← holding [ov] (getMethod ov "__init__" pl)
      callWith cpos f first (backTo cpos (starEach [.Constant (.str tx) j tpos] env)) []))
    (len : ∀ vs H Q E, sp vs H Q E → vs.length = ps.length + 1)
    (hbody : ∀ (A : Around) (outer : List Env) (s : Shared) (H : Hp) (vs : List V) (Q : VK) (E : XK), Room k (A.deeper (envS qual scope s.heap.objs.size fI cdv cc)) → sp vs H Q E →
      (∃ a, vs[0]? = some (.ref a) ∧ H a = some (exo a C none)) ∧ ∃ t, PSs (cxS CX P w K mg base N qual scope fI cdv cc A outer s H E) rest t ∧ t { nx := fun _ H' => Q .non H', rt := Q } (L2.start N vs) H) :
    FnOk P w K mg base CX (k + 1) fI fd (("self" : Str) :: ps) sp := by
  obtain ⟨dV, kV, doc, pm, an, ct, oc, od, osl, efd, lf⟩ := SK.fn
  refine ⟨fun vs H Q E h => by rw [len vs H Q E h]; rfl, fun A outer s H args us vs Q E hr e0 hb r hsp => ?_⟩
  have hl : vs.length = (("self" : Str) :: ps).length := by rw [len vs H Q E hsp]; rfl
  have KX : K.In s.heap := e0.mod.kin.keeps fun b o e => (e0.bs b o e).1
  have lim : s.heap.NoLimit := e0.mod.nolimit.keeps fun b o e => (e0.bs b o e).1
  have hloc : ∀ y ∈ (("self" : Str) :: ps).zip us, scope.names.lookup y.1 = some .local := fun ⟨n, v⟩ hy => S.par n (List.of_mem_zip hy).1
  obtain ⟨cl, cld, csl, lcc⟩ := SK.cell
  subst efd
  refine ks_codeAny_call_defAt (fd := PySem.W.ksFn name qual params (.Expr (.Call (.Attribute (.Call (.Name "super" p0) [] [] p1) "__init__" apos) [.Constant (.str tx) j tpos] [] cpos) epos :: rest) scope dV kV doc pm an cdv ct cc) hr.depth (KX _ _ lf) rfl lim (PySem.W.codeRec_of KX SK.cod) rfl hb S.nocell hloc (fun h0 hns hk => ?_) S.co S.gen S.kind
  have I : Inv (cxS CX P w K mg base N qual scope fI cdv cc A outer s H E) [] (L2.start N vs) H { s with heap := h0, toks := s.toks + ((("self" : Str) :: ps).zip us).length } := inv_sup S hr.hd e0 hl r lcc hns hk
  obtain ⟨⟨a, ha, hea⟩, t, ht, hq⟩ := hbody A outer s H vs Q E (hr.deeper _) hsp
  have hN0 : N[0]? = some ("self" : Str) := by
    have := S.pre
    cases N with
    | nil => cases this
    | cons n N =>
      rw [List.length_cons, List.take_succ_cons] at this
      have := (List.cons.inj this).1
      rw [this]; rfl
  have hσ0 : (L2.start N vs)[0]? = some (some (.ref a)) := by
    unfold L2.start
    cases vs with
    | nil => cases ha
    | cons v vs => cases ha; rfl
  refine ks_wpAt_execs_cons ?_
  refine sup_first SK S 0 hN0 (by simp) hσ0 I T hea he fun s2 J => ?_
  refine wpAt_of_wpAny ?_
  refine wpAny_mono (ht.run [] s2 (L2.start N vs) H _ J hq) (fun fl s' hs => ?_) fun e s' hs => hs
  have fin : ∀ {σ' : L2.St} {H' : Hp} {v : V} {u : Value}, Inv (cxS CX P w K mg base N qual scope fI cdv cc A outer s H E) [] σ' H' s' → RelV v u → Q v H' → CE outer P w H s Q u s' :=
    fun {σ' H' v u} J rv q => ⟨v, H', J.os, J.bare, J.base, J.hok, rv, q⟩
  cases fl with
  | ret u =>
    obtain ⟨v, σ', H', J, rv, q⟩ := hs
    exact fin J rv q
  | next =>
    obtain ⟨σ', H', J, q⟩ := hs
    exact fin (v := V.non) (u := Value.none) J rfl q
  | brk =>
    obtain ⟨_, _, _, q⟩ := hs
    exact False.elim q
  | cont =>
    obtain ⟨_, _, _, q⟩ := hs
    exact False.elim q
end
end NP

set_option Elab.async false
set_option linter.all false
set_option maxRecDepth 100000
set_option maxHeartbeats 1000000
/-! NPX2: `raise C(e)` of an own exception whose __init__ is `super().__init__(text); self.f = p`. -/
namespace NP
open PySem PySem.Spec PyProof.Rows L2
/-- C(e, ..), in L2N's terms -/
theorem pmk_oexN {X : Cx} {e : Expr} {es : List Expr} {ta : TA} {p pos : Pos} {CX : CXT} {x : Str} {C fI : Addr} {k : Nat} {fd : FuncData} {ps : List Str} {sp : Sp} (T : OexC X.K C) (iC : PySem.W.findIn X.K (.ref C) "__init__" = some (some (.ref fI))) (tI : PySem.W.typeIn X.K (.ref fI) = some (.type "function"))
    (F1 : FnOk X.prog X.w X.K X.mg X.base CX k fI fd ps sp) (hr : Room (k + 1) X.A) (hb : Binds X.K fd ps []) (hx : Passes CX X (fun _ _ _ => False)) (hg : Gl X x) (hm : X.mg x = some (.ref C)) (ha : PA X (e :: es) ta)
    (hdb : (x == ("__debug__" : Str)) = false := by decide) (he : starEach (e :: es) X.env = (false, eval e X.env) :: starEach es X.env := by rfl) (hpl : (backTo pos (starEach es X.env)).any (·.1) = false := by rfl) :
    L2N.PMk X (.Call (.Name x p) (e :: es) [] pos) (tMkO C sp [] ta) := by
  intro pins s σ H Q I h
  obtain ⟨nm, q, N, bs, bm, sn, sub, ab, col, dd, k0, k1, k2, k3, k5, hC, hbm⟩ := T.cls
  refine wpAny_Call_Name_kw (ld_glob I hg hm ?_ hdb)
  refine PySem.W.callWith_K (h₀ := X.base) I.ok.mod.kin T.kC (thn (ha.run pos pins s σ H _ I h) fun us s1 ⟨vs, H1, I1, r1, hz, q1⟩ => ⟨I1.kIn, ?_⟩) he hpl
  show wpAny _ _ (call (.ref C) us) _ _ _
  obtain ⟨hp, g, dr, tk, os⟩ := s1
  have hsz : hp.objs.size ≤ hp.objs.size + 1 := Nat.le_succ _
  have hn : H1 (hp.objs.size + 1) = none := I1.hok.fresh hsz
  have hq := q1 (hp.objs.size + 1) hn
  rw [List.append_nil] at hq
  have kk : ∀ b o, hp.get? b = some o → ((hp.push (PySem.W.kdv_tup us)).push (PySem.HandSPX.excO C hp.objs.size)).get? b = some o := fun b o e => Heap.get?_push_of_some _ (Heap.get?_push_of_some _ e)
  have hget : ((hp.push (PySem.W.kdv_tup us)).push (PySem.HandSPX.excO C hp.objs.size)).get? (hp.objs.size + 1) = some (PySem.HandSPX.excO C hp.objs.size) := by heap_get
  have I2 : Inv X pins σ (upd H1 (hp.objs.size + 1) (exo (hp.objs.size + 1) C none)) ⟨(hp.push (PySem.W.kdv_tup us)).push (PySem.HandSPX.excO C hp.objs.size), g, dr, tk, os⟩ :=
    I1.laid (t' := tk) (a := hp.objs.size + 1) (o := exo (hp.objs.size + 1) C none) (h' := (hp.push (PySem.W.kdv_tup us)).push (PySem.HandSPX.excO C hp.objs.size)) kk hsz (exo_ok hget)
  have r2 : Vals (V.ref (hp.objs.size + 1) :: vs) (Value.ref (hp.objs.size + 1) :: us) := .cons rfl r1
  have hl : (Value.ref (hp.objs.size + 1) :: us ++ []).length = ps.length := by
    have e := r2.length
    rw [F1.len _ _ _ _ hq] at e
    rw [List.append_nil]
    exact e.symm
  have hus : us.length ≤ sizeLine := by
    rw [← Paired.length r1, sizeLine_eq]
    omega
  have b2 := hb _ (Value.ref (hp.objs.size + 1) :: us) I2.kIn hl
  rw [List.append_nil] at b2
  refine wpAny_call (PySem.HandSPX.call_own F.excBase_ValueError (fun Y => PySem.HandSPX.refsVE_contains Y bm hbm) (I1.kIn _ _ hC) (PySem.W.looks_findIn I1.kIn iC) (fun self => PySem.W.bind_fn I1.kIn self tI) hus
    (codeAny_mono (F1.run _ X.stack _ _ ⟨Value.ref (hp.objs.size + 1) :: us, []⟩ (Value.ref (hp.objs.size + 1) :: us) _ _ (fun _ _ _ => False) (hr.make C us []) (I2.env0.make C us []) b2 r2 hq) fun r s' hq' => ?_))
  cases r with
  | error er => exact hx pins σ _ _ er s' I2 hq'
  | ok fl =>
    cases fl with
    | ret u =>
      obtain ⟨v, H2, os2, bare2, un2, hok2, rv, ev, d, fs, ea, ed, hd1, q2⟩ := hq'
      subst ev
      obtain ⟨h2, g2, d2, t2, os'⟩ := s'
      obtain ⟨t0, G, J, kG, ge, hoe, na⟩ := mk_end0 (d2 := d2) (t2 := t2) I1 hsz kk un2 hok2 os2 bare2 ea ed hd1
      refine ⟨rv, hp.objs.size + 1, _, _, ⟨G, g2, d2, t2, os'⟩, _, .ref C, some d, rfl, J, kG, ge, hoe, ⟨rfl, rfl, fun vs hv => ?_⟩, rfl, rfl, na, rfl, bare2, raises_own T.exC T.tyC, q2⟩
      cases hv
      rfl
    | next => exact False.elim hq'
    | brk => exact False.elim hq'
    | cont => exact False.elim hq'
/-- what such an __init__ does -/
def spA (C : Addr) (f : Str) : Sp := fun vs H Q _ => ∃ (a : Addr) (y : V), vs = [.ref a, y] ∧ H a = some (exo a C none) ∧ ∀ dx, H dx = none → dx ≠ a → Q .non (upd (upd H dx (exd dx [(f, y)])) a (exo a C (some dx)))
def dRaise (c f : Str) (fe : ME) : MS := fun δ Λ => sR δ (fe δ Λ) fun y Λ1 => .ex δ c (some Λ1.length) (Λ1 ++ [.xd [(f, y)]])
section
variable {P : Program} {w : World} {K : PySem.W.Frag} {mg : Str → Option Value} {base : Heap}
theorem spA_body {X : Cx} {C : Addr} {f p : Str} {a : Addr} {y : V} {σ : L2.St} {H : Hp} {D : Ends} {p1 p2 p3 p4 : Pos} (T : OexC X.K C) (hno : PySem.W.findIn X.K (.ref C) f = some none)
    (h0 : X.N[0]? = some ("self" : Str)) (h1 : X.N[1]? = some p) (v0 : Vis X.env.scope ("self" : Str)) (v1 : Vis X.env.scope p) (d1 : (p == ("__debug__" : Str)) = false) (c1 : (p == ("__classdict__" : Str)) = false)
    (s0 : σ[0]? = some (some (.ref a))) (s1 : σ[1]? = some (some y)) (ha : H a = some (exo a C none)) (q : ∀ dx, H dx = none → dx ≠ a → D.nx σ (upd (upd H dx (exd dx [(f, y)])) a (exo a C (some dx)))) :
    ∃ t, PSs X [.Assign [.Attribute (.Name "self" p1) f p2] (.Name p p3) p4] t ∧ t D σ H :=
  ⟨_, pss_one (ps_ost (pe_var (i := 0) h0 v0) (pe_var (i := 1) h1 v1 d1 c1) (by rfl)), ⟨y, s1, .ref a, s0, a, C, rfl, T, hno, .inl ⟨ha, q⟩⟩⟩
theorem fn_rA {k : Nat} {name qual : Str} {params : Arguments} {scope : Scope} {fI cc C : Addr} {cdv : Value} {fd : FuncData} {f p : Str} {p0 p1 apos cpos epos tpos q1 q2 q3 q4 : Pos} {tx : Str} {j : Nat} {pl : Sem Bool}
    (SK : SupK P K C fI fd name qual params [.Expr (.Call (.Attribute (.Call (.Name "super" p0) [] [] p1) "__init__" apos) [.Constant (.str tx) j tpos] [] cpos) epos, .Assign [.Attribute (.Name "self" q1) f q2] (.Name p q3) q4] scope cc cdv)
    (S : SupScope ["self", p] ["self", p] scope) (T : OexC K C) (hno : PySem.W.findIn K (.ref C) f = some none) (d1 : (p == ("__debug__" : Str)) = false) (c1 : (p == ("__classdict__" : Str)) = false)
    (he : ∀ env : Env, eval (.Call (.Attribute (.Call (.Name "super" p0) [] [] p1) "__init__" apos) [.Constant (.str tx) j tpos] [] cpos) env = (do
      let ov ← attributeBase (.Call (.Name "super" p0) [] [] p1) "__init__" env (eval (.Call (.Name "super" p0) [] [] p1) env)
      standAt apos.atName
      let (f, first) ← holding [ov] (getMethod ov "__init__" pl)
      callWith cpos f first (backTo cpos (starEach [.Constant (.str tx) j tpos] env)) [])) :
    FnOk P w K mg base (L2N.CX P w) (k + 1) fI fd ["self", p] (spA C f) :=
  fn_sup (ps := [p]) (N := ["self", p]) SK S T he (fun vs H Q E ⟨a, y, e, _⟩ => by rw [e]; rfl) fun A outer s H vs Q E hr h => by
    obtain ⟨a, y, rfl, ha, q⟩ := h
    refine ⟨⟨a, rfl, ha⟩, ?_⟩
    exact spA_body T hno rfl rfl (.inl (S.par _ (by simp))) (.inl (S.par _ (by simp))) d1 c1 rfl rfl ha fun dx h1 h2 => q dx h1 h2
end
section
variable {G : GX} {es : List Expr} {e : Expr} {fe : ME}
theorem j1_raiseA {c f p : Str} {x : Str} {k1 : Nat} {fI : Addr} {fd : FuncData} {xp pos rpos : Pos} (T : OexC G.K (He.ga G.K c)) (iC : PySem.W.findIn G.K (.ref (He.ga G.K c)) "__init__" = some (some (.ref fI))) (tI : PySem.W.typeIn G.K (.ref fI) = some (.type "function"))
    (F1 : FnOk G.P G.w G.K G.mg G.base (L2N.CX G.P G.w) k1 fI fd ["self", p] (spA (He.ga G.K c) f)) (hk : k1 + 1 ≤ G.k) (hb : Binds G.K fd ["self", p] []) (hg : G.sc.names.lookup x = some .globalImplicit) (hm : G.mg x = some (.ref (He.ga G.K c))) (ha : JE G e fe)
    (hdb : (x == ("__debug__" : Str)) = false) (he : ∀ env : Env, starEach [e] env = (false, eval e env) :: starEach [] env) (hc : G.hx = none := by rfl) :
    J1 G (.Raise (some (.Call (.Name x xp) [e] [] pos)) none rpos) (dRaise c f fe) := fun X F W tk => by
  have frm : Room (k1 + 1) X.A := Room.mono ⟨F.hd hc, F.room.dp, F.room.un⟩ hk
  have fP := F.hP; have fw := F.hw; have fK := F.hK; have fmg := F.hmg; have fb := F.hbase
  have F1' : FnOk X.prog X.w X.K X.mg X.base (L2N.CX X.prog X.w) k1 fI fd ["self", p] (spA (He.ga G.K c) f) := by rw [fP, fw, fK, fmg, fb]; exact F1
  refine ps_imp (L2N.ps_raise (F.calm hc) tk (pmk_oexN (by rw [fK]; exact T) (by rw [fK]; exact iC) (by rw [fK]; exact tI) F1' frm (by rw [fK]; exact hb) (L2N.passes_call tk fun _ _ _ _ z => False.elim z) (gl_of F hg) (by rw [fmg]; exact hm) (pa_cons (ha X F W tk) pa_nil (he _)) hdb (he _) (by rfl))) fun D σ H ⟨ρ, δ, Λ, r, v, q⟩ => ?_
  refine ⟨ρ, δ, Λ, r, v, (sR_post v q).imp fun y H1 ⟨a, Λ1, ρ1, e1, r1, t1, v1, p1⟩ => ?_⟩
  refine ⟨by simp, fun ax hax => ⟨ax, y, rfl, upd_same, fun dx hd hne => ⟨rfl, dx, [(f, y)], upd_same, ?_, ?_, ?_⟩⟩⟩
  · rw [upd_ne hne, upd_same]
  · rw [upd_ne hne] at hd; exact hd
  · have hd1 : H1 dx = none := by rw [upd_ne hne] at hd; exact hd
    have eq : upd (del (upd (upd (upd H1 ax (exo ax (He.ga G.K c) none)) dx (exd dx [(f, y)])) ax (exo ax (He.ga G.K c) (some dx))) ax) dx (.xd [(f, y)]) = upd H1 dx (.xd [(f, y)]) := by
      funext b
      by_cases h1 : b = dx
      · subst h1; rw [upd_same, upd_same]
      · rw [upd_ne h1, upd_ne h1]
        by_cases h2 : b = ax
        · subst h2; rw [del_same, hax]
        · rw [del_ne h2, upd_ne h2, upd_ne h1, upd_ne h2]
    rw [eq]
    obtain ⟨rD, eD, hn⟩ := r1.alloc (u := .xd [(f, y)]) (o := .xd [(f, a)]) hd1 (.cons ⟨rfl, t1⟩ .nil)
    exact p1 _ σ _ (some dx) eD rD (v1.mono eD) ⟨dx, hn, rfl⟩
end
end NP

set_option Elab.async false
set_option linter.all false
set_option maxRecDepth 100000
set_option maxHeartbeats 1000000
/-! NPX3: defs called while an exception is handled; try. -/
namespace NP
open PySem PySem.Spec PyProof.Rows L2
open L2H (RoomH Hot1 PinOk HotC FnH cxH inv_startH fn_ofH pe_callH)
section
variable {P : Program} {w : World} {K : PySem.W.Frag} {mg : Str → Option Value} {base : Heap} {CX : CXT} {k : Nat} {f : Addr} {fd : FuncData} {ps : List Str}
/-- a def's promise, at the exception that is handled -/
structure FnX (P : Program) (w : World) (K : PySem.W.Frag) (mg : Str → Option Value) (base : Heap) (CX : CXT) (k : Nat) (f : Addr) (fd : FuncData) (ps : List Str) (sp : Addr × Obj → Sp) : Prop where
  len : ∀ p vs H Q E, sp p vs H Q E → vs.length = ps.length
  run : ∀ (A : Around) (outer : List Env) (s : Shared) (H : Hp) (args : Args) (us : List Value) (vs : List V) (Q : VK) (E : XK) (p : Addr × Obj), RoomH k A → Hot1 A p → PinOk outer H s p → Env0 P w K mg base A outer s H → BindsTo s fd args (ps.zip us) → Vals vs us → sp p vs H Q E →
    codeAny (model P w) A (.call (.ref f) args) (CR CX outer P w H s Q E) s
theorem FnX.mono {sp : Addr × Obj → Sp} {k' : Nat} (F : FnX P w K mg base CX k f fd ps sp) (h : k ≤ k') : FnX P w K mg base CX k' f fd ps sp := ⟨F.len, fun A outer s H args us vs Q E p hr => F.run A outer s H args us vs Q E p (hr.mono h)⟩
theorem FnH.mono' {sp : Sp} {k' : Nat} (F : FnH P w K mg base CX k f fd ps sp) (h : k ≤ k') : FnH P w K mg base CX k' f fd ps sp := ⟨F.len, fun A outer s H args us vs Q E p hr => F.run A outer s H args us vs Q E p (hr.mono h)⟩
/-- at one exception, a promise is one of the kit's -/
theorem fn_ofX {x qual : Str} {params : Arguments} {body : List Stmt} {scope : Scope} {dvs : List V} {kws : List (Str × V)} {N : List Str} {sp : Addr × Obj → Sp} (F : FunD K x qual params body scope dvs kws f fd) (S : FnScope N ps scope)
    (len : ∀ p vs H Q E, sp p vs H Q E → vs.length = ps.length)
    (hbody : ∀ (cdv : Value) (A : Around) (outer : List Env) (s : Shared) (H : Hp) (vs : List V) (Q : VK) (E : XK) (p : Addr × Obj), Hot1 A p → RoomH k (A.deeper (envOfC qual scope s.heap.objs.size f cdv)) → sp p vs H Q E →
      ∃ t, PSs (cxH CX P w K mg base N qual scope f cdv A outer s H E p) body t ∧ t { nx := fun _ H' => Q .non H', rt := Q } (L2.start N vs) H) :
    FnX P w K mg base CX (k + 1) f fd ps sp := by
  obtain ⟨oc, od, dV, kV, doc, pm, an, cdv, ct, osl, rfl, lk, hcd, _, _⟩ := F.ex
  refine ⟨len, fun A outer s H args us vs Q E p hr hot hpin e0 hb r hsp => ?_⟩
  have hl := len _ _ _ _ _ hsp
  have KX : K.In s.heap := e0.mod.kin.keeps fun b o e => (e0.bs b o e).1
  have lim : s.heap.NoLimit := e0.mod.nolimit.keeps fun b o e => (e0.bs b o e).1
  have hkind : ∀ y ∈ ps.zip us, scope.names.lookup y.1 = some .local ∨ (scope.names.lookup y.1 = some .cell ∧ ((cellsFrom (s.heap.objs.size + 1) scope.names []).lookup y.1).isSome = true) := fun ⟨n, v⟩ hy => by
    rcases S.par n (List.of_mem_zip hy).1 with q | q
    · exact .inl q
    · exact .inr ⟨q, PySem.W.cellsFrom_some _ _ _ (.inl q)⟩
  refine codeAny_call_function hr.depth (KX _ _ lk) rfl S.co S.gen rfl (PySem.W.codeRec_of KX hcd) (hb _ _ _ _ ?_)
  refine wpAny_newFunctionEnv_cells S.kind hkind fun env he s1 x => ?_
  subst he
  refine ⟨lim.keeps x.toInCall.keep, codeAny_func ?_⟩
  obtain ⟨t, ht, hq⟩ := hbody cdv A outer s H vs Q E p hot (hr.deeper _) hsp
  have I : Inv (cxH CX P w K mg base N qual scope f cdv A outer s H E p) [] (L2.start N vs) H s1 := inv_startH S hpin e0 hl r x
  refine wpAny_mono (ht.run [] s1 (L2.start N vs) H _ I hq) (fun fl s' hs => ?_) fun e s' hs => hs
  have fin : ∀ {σ' : L2.St} {H' : Hp} {v : V} {u : Value}, Inv (cxH CX P w K mg base N qual scope f cdv A outer s H E p) [] σ' H' s' → RelV v u → Q v H' → CE outer P w H s Q u s' :=
    fun {σ' H' v u} J rv q => ⟨v, H', J.os, J.bare, J.base, J.hok, rv, q⟩
  cases fl with
  | ret u =>
    obtain ⟨v, σ', H', J, rv, q⟩ := hs
    exact fin J rv q
  | next =>
    obtain ⟨σ', H', J, q⟩ := hs
    exact fin (v := V.non) (u := Value.none) J rfl q
  | brk =>
    obtain ⟨_, _, _, q⟩ := hs
    exact False.elim q
  | cont =>
    obtain ⟨_, _, _, q⟩ := hs
    exact False.elim q
theorem run_fnX {X : Cx} {pins : List (Addr × Obj)} {σ : L2.St} {H : Hp} {s : Shared} {Q : VK} {us : List Value} {vs : List V} {E : L2.St → XK} {sp : Addr × Obj → Sp} {p : Addr × Obj} (F : FnX X.prog X.w X.K X.mg X.base CX k f fd ps sp) (hr : RoomH k X.A) (hot : Hot1 X.A p) (hp : p ∈ X.pn) (hb : Binds X.K fd ps []) (hx : PassesAt CX X σ (E σ))
    (I : Inv X pins σ H s) (r : Vals vs us) (h : sp p vs H Q (E σ)) : wpAny (model X.prog X.w) X.A (call (.ref f) us) (EP X pins σ Q) X.xe s := by
  have hl : us.length = ps.length := by rw [← r.length]; exact F.len _ _ _ _ _ h
  have b := hb s us I.kIn (by rw [List.append_nil]; exact hl)
  rw [List.append_nil] at b
  have P1 := I.pin p (List.mem_append_left _ hp)
  have hpin : PinOk X.stack H s p := ⟨P1.1, P1.2.1, fun hm => (List.mem_cons.mp (I.stkSub p.1 hm)).elim P1.2.2.1 P1.2.2.2.1, P1.2.2.2.2⟩
  refine wpAny_call (codeAny_mono (F.run X.A X.stack s H ⟨us, []⟩ us vs Q (E σ) p hr hot hpin I.env0 b r h) fun r s' hq => ?_)
  cases r with
  | error e => exact hx pins H s e s' I hq
  | ok fl =>
    cases fl with
    | ret u => exact I.after hq
    | next => exact False.elim hq
    | brk => exact False.elim hq
    | cont => exact False.elim hq
end
/-! ### a def whose one parameter is the exception -/
abbrev MX := Str → Option Nat → AH → R AV
/-- what it is given: the exception's class, its fields -/
def spX (K : PySem.W.Frag) (m : MX) : Addr × Obj → Sp := fun p vs H Q E => ∃ c n ρ Λ, vs = [.ref p.1] ∧ p.2.cls = .ref (He.ga K c) ∧ RepD ρ n p.2.dict ∧ Rep K ρ Λ H ∧ Post K (fun c d _ H' => E c d H') [] (TV K) ρ H (m c n Λ) Q
def runX (n : Nat) (b : Str → Option Nat → MS) : MX := fun c m Λ => toR (b c m (List.replicate n none) Λ)
structure FnAtX (P : Program) (w : World) (K : PySem.W.Frag) (mg : Str → Option Value) (base : Heap) (k : Nat) (nm : Str) (m : MX) : Prop where
  ex : ∃ (f : Addr) (fd : FuncData) (ps : List Str), mg nm = some (.ref f) ∧ PySem.W.keepIn K (.ref f) = true ∧ Binds K fd ps [] ∧ FnX P w K mg base (L2N.CX P w) k f fd ps (spX K m)
structure FnAtH (P : Program) (w : World) (K : PySem.W.Frag) (mg : Str → Option Value) (base : Heap) (k : Nat) (nm : Str) (m : List AV → AH → R AV) : Prop where
  ex : ∃ (f : Addr) (fd : FuncData) (ps : List Str), mg nm = some (.ref f) ∧ PySem.W.keepIn K (.ref f) = true ∧ Binds K fd ps [] ∧ FnH P w K mg base (L2N.CX P w) k f fd ps (spF K m)
theorem toR_post {K : PySem.W.Frag} {hx : Option HX} {ρ : List Addr} {H : Hp} {r : RS} {Q : VK} {E : XK} (p : Post K (fun c d _ H' => E c d H') [] (TV K) ρ H (toR r) Q) : PostS K hx (fun cls d _ H' => E cls d H') { nx := fun _ H' => Q .non H', rt := Q } ρ H r := by
  cases r with
  | nx δ Λ' => exact fun ρ' σ' H' e r' v => p ρ' .non H' e r' .non
  | rt v Λ' => exact fun ρ' u H' e r' v => p ρ' u H' e r' v
  | bk δ Λ' => exact p.elim
  | ct δ Λ' => exact p.elim
  | ex δ c m Λ' => exact fun ρ' σ' H' d e r' v hd => p ρ' H' d e r' hd
  | bad => exact p
section
variable {P : Program} {w : World} {K : PySem.W.Frag} {mg : Str → Option Value} {base : Heap} {x qual : Str} {params : Arguments} {body : List Stmt} {scope : Scope} {dvs : List V} {kws : List (Str × V)} {f : Addr} {fd : FuncData} {N ps : List Str} {k : Nat}
theorem fitH {A : Around} {outer : List Env} {s : Shared} {H : Hp} {E : XK} {p : Addr × Obj} {cdv : Value} (hr : RoomH k (A.deeper (envOfC qual scope s.heap.objs.size f cdv))) (hot : Hot1 A p) (S : FnScope N ps scope) (y : HX) (ha : y.a = p.1) (ho : y.oe = p.2) (hs : ∀ i, y.slot = some i → y.oe.cls = .ref (He.ga K y.c)) :
    GX.Fit ⟨P, w, K, mg, base, N, scope, k, false, some y⟩ (cxH (L2N.CX P w) P w K mg base N qual scope f cdv A outer s H E p) :=
  ⟨rfl, rfl, rfl, rfl, rfl, rfl, rfl, fun e => (by cases e), fun e => (by cases e), hr, fun z e => (by
    cases e
    refine ⟨⟨?_, ?_⟩, ?_, hs⟩
    · rw [ha]; exact hot.1
    · rw [ho]; exact hot.2
    · rw [ha, ho]; exact List.mem_singleton.mpr rfl), passes_of rfl, S.nd, fun _ _ _ => rfl, fun _ => ⟨rfl, rfl⟩⟩
theorem fn_npX {b : Str → Option Nat → MS} {q : Str} (F : FunD K x qual params body scope dvs kws f fd) (S : FnScope N [q] scope) (hJ : ∀ (a : Addr) (oe : Obj) (c : Str) (m : Option Nat), JS ⟨P, w, K, mg, base, N, scope, k, false, some ⟨a, oe, c, some 0, m⟩⟩ body (b c m)) :
    FnX P w K mg base (L2N.CX P w) (k + 1) f fd [q] (spX K (runX N.length b)) :=
  fn_ofX F S (fun p vs H Q E ⟨_, _, _, _, e, _⟩ => by rw [e]; rfl) fun cdv A outer s H vs Q E p hot hr h => by
    obtain ⟨c, n, ρ, Λ, rfl, hcl, hd, r, q⟩ := h
    refine ⟨_, hJ p.1 p.2 c n _ (fitH hr hot S ⟨p.1, p.2, c, some 0, n⟩ rfl rfl fun _ _ => hcl) (fun cls d _ H' => E cls d H') (L2N.takes_of rfl rfl rfl rfl), ?_⟩
    refine ⟨ρ, _, Λ, r, ⟨?_, fun i y e => ?_, fun y i e1 e2 => ?_⟩, toR_post q⟩
    · have hN : 0 < N.length := by
        have := congrArg List.length S.pre
        rw [List.length_take] at this
        simp at this; omega
      simp [L2.start]; omega
    · have := List.mem_of_getElem? e
      rw [List.mem_replicate] at this
      cases this.2
    · cases e1
      cases e2
      exact ⟨rfl, hd⟩
theorem fn_npH {b : MS} (F : FunD K x qual params body scope dvs kws f fd) (S : FnScope N ps scope) (hJ : ∀ (a : Addr) (oe : Obj), JS ⟨P, w, K, mg, base, N, scope, k, false, some ⟨a, oe, "", none, none⟩⟩ body b) :
    FnH P w K mg base (L2N.CX P w) (k + 1) f fd ps (spF K (runF ps.length N.length b)) := by
  obtain ⟨oc, od, dV, kV, doc, pm, an, cdv, ct, osl, rfl, lk, hcd, _, _⟩ := F.ex
  refine fn_ofH lk hcd S (fun vs H Q E h => spF_len h) fun A outer s H vs Q E p hot hr h => ?_
  refine ⟨_, hJ p.1 p.2 _ (fitH hr hot S ⟨p.1, p.2, "", none, none⟩ rfl rfl fun i e => by cases e) (fun cls d _ H' => E cls d H') (L2N.takes_of rfl rfl rfl rfl), ?_⟩
  obtain ⟨ρ, Λ, as, r, t, q⟩ := h
  have st := start_rep (N := N) t
  refine ⟨ρ, startA N.length as, Λ, r, ⟨st.len, st.val, fun y i e1 e2 => by cases e1; cases e2⟩, ?_⟩
  unfold runF at q
  by_cases hl : as.length = ps.length
  · rw [if_pos hl] at q
    exact toR_post q
  · rw [if_neg hl] at q; exact q.elim
end
end NP

set_option Elab.async false
set_option linter.all false
set_option maxRecDepth 100000
set_option maxHeartbeats 1000000
/-! NPX4: rules at a handled exception: calls, fields; try. -/
namespace NP
open PySem PySem.Spec PyProof.Rows L2
open L2H (RoomH Hot1 PinOk HotC FnH)
section
variable {G : GX} {e : Expr} {es : List Expr} {fr : MA} {pos : Pos}
theorem GX.Fit.hotC {X : Cx} (F : G.Fit X) {y : HX} (h : G.hx = some y) : HotC X := ⟨(y.a, y.oe), (F.hot y h).1, (F.hot y h).2.1⟩
/-- an own function of values, called while y is handled -/
theorem je_callH {x : Str} {p : Pos} {m : List AV → AH → R AV} {y : HX} (hh : G.hx = some y) (hf : FnAtH G.P G.w G.K G.mg G.base G.k x m) (hg : G.sc.names.lookup x = some .globalImplicit) (ha : JA G (e :: es) fr)
    (hd : (x == ("__debug__" : Str)) = false) (he : ∀ env : Env, starEach (e :: es) env = (false, eval e env) :: starEach es env) (hpl : ∀ env : Env, (backTo pos (starEach es env)).any (·.1) = false) :
    JE G (.Call (.Name x p) (e :: es) [] pos) (dCall m fr) := fun X F W tk => by
  obtain ⟨f, fd, ps, h1, h2, h3, h6⟩ := hf.ex
  have fP := F.hP; have fw := F.hw; have fK := F.hK; have fmg := F.hmg; have fb := F.hbase
  have h6' : FnH X.prog X.w X.K X.mg X.base (L2N.CX X.prog X.w) G.k f fd ps (spF G.K m) := by rw [fP, fw, fK, fmg, fb]; exact h6
  refine pe_imp (L2H.pe_callH (E := fun σ => WE W σ) h6' F.room (F.hotC hh) (gl_of F hg) (by rw [fmg]; exact h1) (by rw [fK]; exact h2) (by rw [fK]; exact h3) (L2N.passAt tk) (ha X F W tk) hd (he _) (hpl _)) fun σ H Q ⟨ρ, δ, Λ, r, v, p⟩ => ?_
  exact ⟨ρ, δ, Λ, r, v, p.bind.imp fun xs H1 ⟨as, Λ1, ρ1, e1, r1, t1, p1⟩ => ⟨ρ1, Λ1, as, r1, t1, call_post p1⟩⟩
/-- f(error) -/
theorem je_xcall {x n : Str} {p q : Pos} {m : MX} {y : HX} {i : Nat} (hh : G.hx = some y) (hs : y.slot = some i) (hN : G.N[i]? = some n) (hv : Vis G.sc n) (hf : FnAtX G.P G.w G.K G.mg G.base G.k x m) (hg : G.sc.names.lookup x = some .globalImplicit)
    (hd : (x == ("__debug__" : Str)) = false) (hdn : (n == ("__debug__" : Str)) = false) (hcn : (n == ("__classdict__" : Str)) = false) :
    JE G (.Call (.Name x p) [.Name n q] [] pos) (fun _ Λ => m y.c y.m Λ) := fun X F W tk => by
  obtain ⟨f, fd, ps, h1, h2, h3, h6⟩ := hf.ex
  have fP := F.hP; have fw := F.hw; have fK := F.hK; have fmg := F.hmg; have fb := F.hbase
  have h6' : FnX X.prog X.w X.K X.mg X.base (L2N.CX X.prog X.w) G.k f fd ps (spX G.K m) := by rw [fP, fw, fK, fmg, fb]; exact h6
  obtain ⟨ht, hm, hc⟩ := F.hot y hh
  refine ⟨fun pins s σ H Q I ⟨ρ, δ, Λ, r, v, pp⟩ => ?_⟩
  obtain ⟨hσ, hrd⟩ := v.exc y i hh hs
  refine wpAny_Call_Name_kw (ld_glob I (gl_of F hg) (by rw [fmg]; exact h1) ?_ hd)
  refine PySem.W.callWith_K (h₀ := X.base) I.ok.mod.kin (by rw [fK]; exact h2) (thn ((pa_cons (pe_var (i := i) (pos := q) (by rw [F.hN]; exact hN) (by rw [F.hsc]; exact hv) hdn hcn) pa_nil).run pos pins s σ H (fun vs H1 => vs = [.ref y.a] ∧ H1 = H) I ⟨.ref y.a, hσ, rfl, rfl⟩) fun us s1 ⟨vs, H1, I1, r1, ev, eH⟩ => ⟨I1.kIn, ?_⟩) (by rfl) (by rfl)
  subst ev
  subst eH
  exact run_fnX (E := fun σ => WE W σ) h6' F.room ht hm (by rw [fK]; exact h3) (L2N.passAt tk σ) I1 r1 ⟨y.c, y.m, ρ, Λ, rfl, hc i hs, hrd, r, call_post pp⟩
/-- error.f -/
def dXf (y : HX) (f : Str) : ME := fun _ Λ => match y.m with
  | some n => match Λ[n]? with
    | some (.xd fs) => match fs.lookup f with
      | some v => .ok v Λ
      | none => .bad
    | _ => .bad
  | none => .bad
theorem je_xf {n f : Str} {q : Pos} {y : HX} {i : Nat} (hh : G.hx = some y) (hs : y.slot = some i) (hN : G.N[i]? = some n) (hv : Vis G.sc n) (hdn : (n == ("__debug__" : Str)) = false) (hcn : (n == ("__classdict__" : Str)) = false)
    (T : XfC G.K (He.ga G.K y.c)) (hno : PySem.W.findIn G.K (.ref (He.ga G.K y.c)) f = some none) (hb : ∀ env : Env, attributeBase (.Name n q) f env (eval (.Name n q) env) = eval (.Name n q) env) :
    JE G (.Attribute (.Name n q) f pos) (dXf y f) := fun X F W tk => by
  obtain ⟨⟨hhd, vs, hdat, hv2⟩, hm, hc⟩ := F.hot y hh
  have fK := F.hK
  refine ⟨fun pins s σ H Q I ⟨ρ, δ, Λ, r, v, pp⟩ => ?_⟩
  obtain ⟨hσ, hrd⟩ := v.exc y i hh hs
  unfold dXf at pp
  split at pp
  · rename_i k hk
    rw [hk] at hrd
    obtain ⟨dd, hdd, hod⟩ := hrd
    split at pp
    · rename_i fs hfs
      split at pp
      · rename_i av hav
        obtain ⟨uo, hu, ho⟩ := r.at' hfs hdd
        cases uo with
        | xd vfs =>
          have hl : ∃ u, vfs.lookup f = some u ∧ RepV G.K ρ H av u := by
            have hw : RepKV G.K ρ H fs vfs := ho
            clear hfs hu pp ho
            unfold RepKV at hw
            induction hw with
            | nil => cases hav
            | @cons p q' ps qs h t ih =>
              obtain ⟨pk, pv⟩ := p
              obtain ⟨qk, qv⟩ := q'
              obtain ⟨h1, h2⟩ := h
              cases h1
              rw [List.lookup_cons] at hav ⊢
              cases hb : (f == pk) with
              | true => rw [hb] at hav; cases hav; exact ⟨_, rfl, h2⟩
              | false => rw [hb] at hav; exact ih hav
          obtain ⟨u, hl, ru⟩ := hl
          refine attr_of (hb _) (thn ((pe_var (i := i) (pos := q) (by rw [F.hN]; exact hN) (by rw [F.hsc]; exact hv) hdn hcn).run pins s σ H (fun x H1 => x = .ref y.a ∧ H1 = H) I ⟨.ref y.a, hσ, rfl, rfl⟩) fun uu s1 ⟨x, H1, I1, rx, ex, eH⟩ => ?_)
          subst ex
          subst eH
          obtain rfl : uu = Value.ref y.a := rx
          obtain ⟨ha, _⟩ := I1.pin (y.a, y.oe) (List.mem_append_left _ hm)
          have hx : ObjOk X.prog X.w H1 s1.heap dd (.xd vfs) := I1.hok dd _ hu
          obtain ⟨mA, hns, hr⟩ := hx
          obtain ⟨od, hod2, hlk⟩ := lookIn_ns hns
          obtain ⟨u2, hu2, ru2⟩ := RelO.some_of (v := u) (o := mA f) (by rw [← hl]; exact hr f)
          have J : PySem.W.InstAt s1.heap y.a y.oe (He.ga G.K y.c) (some od) := ⟨ha, hc i hs, by unfold PySem.W.notCls; rw [hdat] <;> rfl, by rw [hod]; exact hod2⟩
          rw [← fK] at T hno J
          exact HandSPX.exc_get I1.kIn J T.ga T.gg T.exC (PySem.W.findObj_own T.hdC hno rfl (by rw [hlk, hu2])) (handed_of ru2) ⟨u, H1, I1.tok _, ru2, pp.ok r (by rw [← fK] at ru; rw [fK] at ru; exact ru)⟩
        | _ => exact ho.elim
      · exact pp.elim
    · exact pp.elim
  · exact pp.elim
end
/-! ### try: body, except C as n: suite -/
def unS (i : Nat) : RS → RS
  | .nx δ Λ => .nx (δ.set i none) Λ
  | .rt v Λ => .rt v Λ
  | .bk δ Λ => .bk (δ.set i none) Λ
  | .ct δ Λ => .ct (δ.set i none) Λ
  | _ => .bad
def dTry (tab : Str → Option Bool) (i : Nat) (fb : MS) (fs : Str → Option Nat → MS) : MS := fun δ Λ => match fb δ Λ with
  | .ex δ' c m Λ' => match tab c with
    | some true => if i < δ'.length then unS i (fs c m (δ'.set i none) Λ') else .bad
    | some false => .ex δ' c m Λ'
    | none => .bad
  | r => r
section
variable {G : GX} {body suite : List Stmt} {b₀ : Stmt} {fb : MS} {fs : Str → Option Nat → MS} {x n : Str} {np pos pos' : Pos} {i : Nat} {tab : Str → Option Bool} {cv : Value}
theorem j1_tryAs (hblk : G.blk = false) (hi : G.N[i]? = some n) (hln : G.sc.names.lookup n = some .local) (hn : ∀ X, G.Fit X → Names X x cv) (htab : ∀ c b, tab c = some b → PySem.W.exmOne G.K (.ref (He.ga G.K c)) cv = some b)
    (hb : JS G body fb) (hJ : ∀ (a : Addr) (oe : Obj) (c : Str) (m : Option Nat), JS { G with hx := some ⟨a, oe, c, some i, m⟩ } (b₀ :: suite) (fs c m)) (hc : G.hx = none := by rfl) :
    J1 G (.Try body [.ExceptHandler (some (.Name x np)) (some n) (b₀ :: suite) pos'] [] [] pos) (dTry tab i fb fs) := fun X F W tk => by
  obtain ⟨hs, hf⟩ := F.try_ hblk
  refine ps_imp (L2N.ps_try_as (tb := fun W => tS G.K G.hx W fb) (i := i) (c := cv) (Wout := W)
    (ts := fun a cls d => fun D σ H => ∃ c m, cls = .ref (He.ga G.K c) ∧ ∀ oe, L2N.Zn cls d oe → tS G.K (some ⟨a, oe, c, some i, m⟩) W0 (fs c m) D σ H) hs hf F.nd (by rw [F.hN]; exact hi) (by show X.env.scope.names.lookup n = _; rw [F.hsc]; exact hln) (hn X F) tk
    (fun W' pn xe tk' po => hb (X.tr pn xe) ⟨F.hP, F.hw, F.hK, F.hmg, F.hbase, F.hN, F.hsc, F.calm, F.hd, F.room, fun z e => (by rw [hc] at e; cases e), po, F.nd, F.fn, F.try_⟩ W' tk')
    (fun a oe cls d pn hz hdat => ⟨fun pins s σ H D I ⟨c, m, ec, h⟩ => (hJ a oe c m (X.suite a ((a, oe) :: pn)) ⟨F.hP, F.hw, F.hK, F.hmg, F.hbase, F.hN, F.hsc, fun e => (by cases e), fun e => (by cases e), ⟨F.room.dp, F.room.un⟩, fun z e => (by
        cases e
        obtain ⟨vs, hvs⟩ := hdat
        exact ⟨⟨rfl, vs, hvs, hz.2.2 vs hvs⟩, List.mem_cons_self, fun _ _ => hz.1.trans ec⟩), PassesOwn.never, F.nd, F.fn, F.try_⟩ W0 takes0N).run pins s σ H D I (h oe hz)⟩)) fun D σ H ⟨ρ, δ, Λ, r, v, p⟩ => ?_
  refine ⟨ρ, δ, Λ, r, v, ?_⟩
  unfold dTry at p
  revert p
  cases fb δ Λ with
  | nx δ1 Λ1 => exact fun p => p
  | rt v1 Λ1 => exact fun p => p
  | bk δ1 Λ1 => exact fun p => p
  | ct δ1 Λ1 => exact fun p => p
  | bad => exact fun p => p
  | ex δ1 c m Λ1 =>
    intro p ρ1 σ1 H1 d e1 r1 v1 hd1
    dsimp only at p
    cases ht : tab c with
    | none => rw [ht] at p; exact p.elim
    | some b =>
      rw [ht] at p
      refine ⟨b, by rw [F.hK]; exact htab c b ht, ?_, ?_⟩
      · rintro rfl a ha
        by_cases hl : i < δ1.length
        · have p : PostS G.K G.hx W D ρ H (if i < δ1.length then unS i (fs c m (δ1.set i none) Λ1) else .bad) := p
          rw [if_pos hl] at p
          refine ⟨c, m, rfl, fun oe hz => ⟨ρ1, δ1.set i none, Λ1, r1, ⟨?_, fun j z hj => ?_, fun y k ey ek => ?_⟩, ?_⟩⟩
          · rw [List.length_set, List.length_set]; exact v1.len
          · by_cases hji : j = i
            · subst hji
              rw [List.getElem?_set_self hl] at hj; cases hj
            · rw [List.getElem?_set_ne (Ne.symm hji)] at hj
              obtain ⟨w, h1, h2⟩ := v1.val j z hj
              exact ⟨w, by rw [List.getElem?_set_ne (Ne.symm hji)]; exact h1, h2⟩
          · cases ey
            cases ek
            refine ⟨List.getElem?_set_self (by rw [← v1.len]; exact hl), ?_⟩
            show RepD ρ1 m oe.dict
            rw [hz.2.1]; exact hd1
          · have p := p.step e1
            have un : ∀ {y : HX} {ρ2 : List Addr} {H2 : Hp} {δ2 : AEnv} {σ2 : L2.St}, RepE G.K (some y) ρ2 H2 δ2 σ2 → RepE G.K G.hx ρ2 H2 (δ2.set i none) (σ2.set i none) := fun {y ρ2 H2 δ2 σ2} v2 =>
              RepE.unset ⟨v2.len, v2.val, fun z k e => (by rw [hc] at e; cases e)⟩ (by rw [hc]; rfl)
            revert p
            cases fs c m (δ1.set i none) Λ1 with
            | nx δ2 Λ2 => exact fun p ρ2 σ2 H2 e2 r2 v2 => p ρ2 _ H2 e2 r2 (un v2)
            | rt v2 Λ2 => exact fun p => p
            | bk δ2 Λ2 => exact fun p ρ2 σ2 H2 e2 r2 v2 => p ρ2 _ H2 e2 r2 (un v2)
            | ct δ2 Λ2 => exact fun p ρ2 σ2 H2 e2 r2 v2 => p ρ2 _ H2 e2 r2 (un v2)
            | bad => exact fun p => p.elim
            | ex δ2 c2 m2 Λ2 => exact fun p => p.elim
        · have p : PostS G.K G.hx W D ρ H (if i < δ1.length then unS i (fs c m (δ1.set i none) Λ1) else .bad) := p
          rw [if_neg hl] at p
          exact p.elim
      · rintro rfl
        exact p ρ1 σ1 H1 d e1 r1 v1 hd1
theorem names_own {C : Addr} (hg : G.sc.names.lookup x = some .globalImplicit) (hd : (x == ("__debug__" : Str)) = false) (hm : G.mg x = some (.ref C)) : ∀ X, G.Fit X → Names X x (.ref C) := fun X F => ⟨gl_of F hg, hd, .inl (by rw [F.hmg]; exact hm)⟩
end
end NP

set_option Elab.async false
set_option linter.all false
set_option maxRecDepth 100000
set_option maxHeartbeats 4000000
/-! NPX5: isinstance of a handled exception that bears fields. -/
namespace NP
section
open PySem PySem.Spec PySem.Calls PyProof.Rows PySem.W
variable {prog : Program} {w : World} {A : Around} {E : Value → Shared → Prop} {s : Shared} {K : Frag} {x D : Addr} {ox : Obj} {od : Option Obj}
theorem findObj_dataO {C : Addr} {name : Str} {a g : Value} (hc : (clsIn K C).isSome = true) (ha : findIn K (.ref C) name = some (some a)) (hg : specialIn K a "__get__" = some (some g)) (ht : takesIn K a = some true) : findObj K C od name = some (.bind g a) := by
  obtain ⟨cd, hc⟩ := Option.isSome_iff_exists.mp hc
  unfold findObj
  rw [hc, Option.bind_some, ha, Option.bind_some]
  simp [hg, ht]
theorem kin_classO {Q : Option Value → Shared → Prop} (C : L2.ExcC K D) (X : K.In s.heap) (I : InstAt s.heap x ox D od) (h : Q (some (.ref D)) { s with toks := s.toks + 1 }) : wpAny (model prog w) A (getAttr? (.ref x) "__class__") Q E s := by
  obtain ⟨hga, hgt, hsub, hdct, ha, hn, htk, hm⟩ := C
  have hf : findObj K D od "__class__" = some (.bind (.builtin "getset_descriptor.__get__") (.builtin "object.__class__")) := findObj_dataO (by obtain ⟨cd, hc, _⟩ := any_some hdct; rw [hc]; rfl) ha hn htk
  obtain ⟨hp, g, d, t, os⟩ := s
  have L0 := I.type (M := model prog w)
  have L1 := looks_findIn (M := model prog w) X hga
  have L2 := looks_findIn (M := model prog w) X hgt
  have L3 := looks_find (M := model prog w) X I hf
  have sub : Looks (model prog w) hp (isInstance (.ref x) (.type "BaseException")) true := L0.andThen (looks_subIn X hsub)
  have hx0 : (false && onTheHeap (Value.builtin "BaseException.__getattribute__")) = false := rfl
  have hx2 : (Value.builtin "BaseException.__getattribute__" == Value.builtin "object.__getattribute__") = false := by decide +kernel
  have hx1 : (onTheHeap (Value.ref D) && Value.builtin "BaseException.__getattribute__" == Value.builtin "object.__getattribute__") = false := by rw [hx2]; rfl
  unfold getAttr? getAttrBy? getAttrBy
  refine wpAny_bind (wpAny_mkText (wpAny_bind (wpAny_attempt (wpAny_holding (wpAny_bind (L0.at (wpAny_bind (L1.at ?_))))))))
  show wpAny _ _ (if (onTheHeap (Value.ref D) && Value.builtin "BaseException.__getattribute__" == Value.builtin "object.__getattribute__") = true then _ else _) _ _ _
  rw [hx1, if_neg Bool.false_ne_true]
  unfold getAttrByItsOwn hookBefore
  refine wpAny_bind ?_
  rw [if_pos (show onTheHeap (Value.ref D) = true from rfl)]
  refine L2.at ?_
  refine wpAny_bind (wpAny_attempt (wpAny_holding ?_))
  unfold callGetattribute
  rw [hx0, if_neg Bool.false_ne_true]
  unfold boundAndCalled
  rw [PySem.F.excAttr_ValueError.ga.bind (.ref x)]
  refine wpAny_bind (wpAny_pure ?_)
  show wpAny _ _ (call (.builtin "BaseException.__getattribute__") [.ref x, .str "__class__" t]) _ _ _
  refine wpAny_call (codeAny_call_builtin PySem.F.excAttr_ValueError.ga.plain PySem.F.entry_bexc_ga ?_)
  refine @check_slot (model prog w) _ _ ⟨hp, g, d, t + 1, os⟩ "BaseException.__getattribute__" "BaseException" "__getattribute__" (.ref x) [.str "__class__" t] [] _ (by decide +kernel) (by decide +kernel) sub (PySem.F.args_bexc_ga (.ref x) (.str "__class__" t)) ?_
  unfold Builtin.«object.__getattribute__»
  refine wpAny_bind (wpAny_of_eq (a := ((Value.ref x : Value), [Value.str "__class__" t])) (by first | rfl | (simp only [slotArgs]; rfl)) ?_)
  refine wpAny_bind (wpAny_pure (wpAny_bind (L0.at (wpAny_bind (L3.at ?_)))))
  show wpAny _ _ (holding [Value.builtin "object.__class__"] (call (.builtin "getset_descriptor.__get__") [.builtin "object.__class__", .ref x, .ref D]) >>= ret) _ _ _
  refine wpAny_bind (wpAny_holding (wpAny_call (class_get (s := ⟨hp, g, d, t + 1, os⟩) (ox := ox) (od := od) X I hm ?_)))
  refine wpAny_pure ?_
  show wpAny _ _ (handedOut (.ref D)) _ _ _
  rw [handedOut_of (v := .ref D) rfl]
  first
    | exact wpAny_pure (wpAny_pure h)
    | exact wpAny_pure h
    | exact wpAny_pure (wpAny_bind (wpAny_pure (wpAny_pure h)))
theorem kitx_excO (C : L2.ExcC K D) : KitX K (.ref x) (.ref D) (fun h => InstAt h x ox D od) where
  ty := fun _ _ _ I => I.type
  it := fun M h X _ => by
    obtain ⟨cdD, hcD, _⟩ := any_some C.hd
    unfold clsIn at hcD
    split at hcD
    · rename_i c' d' cd' sl' ho
      intro A' Q' E' s' k q
      unfold isType loadHead
      exact wpAny_bind (wpAny_loadPart (k _ _ (X _ _ ho)) (wpAny_pure q))
    · cases hcD
  ne := (handS_kitx_exc (x := x) (ox := ox) C.hg C.hk C.hs C.hd C.ha C.hn C.ht C.hm).ne
  ca := fun X I k => kin_classO C X I k
end
open PySem PySem.Spec PyProof.Rows L2
open L2H (RoomH Hot1 PinOk HotC FnH)
section
variable {G : GX}
/-- isinstance(error, T): T a name of a class -/
def dXis (y : HX) (tab : Str → Option Bool) : ME := fun _ Λ => match tab y.c with
  | some b => match y.m with
    | none => .ok (.bl b) Λ
    | some k => match Λ[k]? with
      | some (.xd _) => .ok (.bl b) Λ
      | _ => .bad
  | none => .bad
theorem xis_core {n t : Str} {p q1 q2 pos : Pos} {y : HX} {i : Nat} {u : Value} {c0 : V} {tab : Str → Option Bool} (hh : G.hx = some y) (hs : y.slot = some i) (hN : G.N[i]? = some n) (hv : Vis G.sc n) (hdn : (n == ("__debug__" : Str)) = false) (hcn : (n == ("__classdict__" : Str)) = false)
    (hg : G.sc.names.lookup ("isinstance" : Str) = some .globalImplicit) (hm : G.mg ("isinstance" : Str) = none) (hu : ClsV c0 u) (hcl : ∀ X, G.Fit X → PE X (.Name t q2) (tC c0)) (htab : ∀ c b, tab c = some b → ExcC G.K (He.ga G.K c) ∧ PySem.W.kitOne G.K (.ref (He.ga G.K c)) u = some b) :
    JE G (.Call (.Name "isinstance" p) [.Name n q1, .Name t q2] [] pos) (dXis y tab) := fun X F W tk => by
  obtain ⟨⟨hhd, vs, hdat, hv2⟩, hmm, hc⟩ := F.hot y hh
  have fK := F.hK
  refine ⟨fun pins s σ H Q I ⟨ρ, δ, Λ, r, v, pp⟩ => ?_⟩
  obtain ⟨hσ, hrd⟩ := v.exc y i hh hs
  unfold dXis at pp
  split at pp
  · rename_i b hb
    obtain ⟨C, hk⟩ := htab _ _ hb
    rw [← fK] at C hk
    have hb2 : ∃ od : Option Obj, ∀ s1, Inv X pins σ H s1 → (∃ od', PySem.W.InstAt s1.heap y.a y.oe (He.ga X.K y.c) od') ∧ Post G.K W σ (TV G.K) ρ H (.ok (.bl b) Λ) Q := by
      refine ⟨none, fun s1 I1 => ?_⟩
      obtain ⟨ha, _⟩ := I1.pin (y.a, y.oe) (List.mem_append_left _ hmm)
      split at pp
      · rename_i hk0
        rw [hk0] at hrd
        refine ⟨⟨none, ha, by rw [fK]; exact hc i hs, by unfold PySem.W.notCls; rw [hdat] <;> rfl, ?_⟩, pp⟩
        have hod : y.oe.dict = none := hrd
        rw [hod]; trivial
      · rename_i k hk0
        rw [hk0] at hrd
        obtain ⟨dd, hdd, hod⟩ := hrd
        split at pp
        · rename_i fs hfs
          obtain ⟨uo, hu, ho⟩ := r.at' hfs hdd
          cases uo with
          | xd vfs =>
            have hx : ObjOk X.prog X.w H s1.heap dd (.xd vfs) := I1.hok dd _ hu
            obtain ⟨mA, hns, hr⟩ := hx
            obtain ⟨od, hod2, hlk⟩ := lookIn_ns hns
            exact ⟨⟨some od, ha, by rw [fK]; exact hc i hs, by unfold PySem.W.notCls; rw [hdat] <;> rfl, by rw [hod]; exact hod2⟩, pp⟩
          | _ => exact ho.elim
        · exact pp.elim
    obtain ⟨_, hb2⟩ := hb2
    refine wpAny_Call_Name_kw (ld_blt I (gl_of F hg) (by rw [F.hmg]; exact hm) PyProof.Rows.boot_isinstance ?_ (by decide) (by decide))
    refine PyProof.Rows.callWith_builtin1 (thn ((pa_cons (pe_var (i := i) (pos := q1) (by rw [F.hN]; exact hN) (by rw [F.hsc]; exact hv) hdn hcn) (pa_cons (hcl X F) pa_nil)).run pos pins _ σ H (fun vs H1 => vs = [.ref y.a, c0] ∧ H1 = H) (I.tok _) ⟨.ref y.a, hσ, rfl, rfl⟩) fun us s1 ⟨vs, H1, I1, r1, ev, eH⟩ => ?_) (by rfl) (by rfl)
    subst ev
    subst eH
    obtain ⟨u1, u2, rfl, q3, q4⟩ := vals2 r1
    obtain rfl : u1 = Value.ref y.a := q3
    have e2 := hu.eq q4
    subst e2
    obtain ⟨⟨od, J⟩, pp⟩ := hb2 s1 I1
    refine PySem.W.kia_one (kitx_excO C) I1.kIn J hk (fun z => nomatch z) fun tk => ?_
    exact ⟨.bl b, H1, I1.tok _, rfl, pp.ok r (.bl b)⟩
  · exact pp.elim
theorem je_xisO {n t : Str} {p q1 q2 pos : Pos} {y : HX} {i : Nat} {tab : Str → Option Bool} (hh : G.hx = some y) (hs : y.slot = some i) (hN : G.N[i]? = some n) (hv : Vis G.sc n) (hdn : (n == ("__debug__" : Str)) = false) (hcn : (n == ("__classdict__" : Str)) = false)
    (hg : G.sc.names.lookup ("isinstance" : Str) = some .globalImplicit) (hm : G.mg ("isinstance" : Str) = none) (hx : G.sc.names.lookup t = some .globalImplicit) (hxm : G.mg t = some (.ref (He.ga G.K t))) (hd : (t == ("__debug__" : Str)) = false)
    (htab : ∀ c b, tab c = some b → ExcC G.K (He.ga G.K c) ∧ PySem.W.kitOne G.K (.ref (He.ga G.K c)) (.ref (He.ga G.K t)) = some b) :
    JE G (.Call (.Name "isinstance" p) [.Name n q1, .Name t q2] [] pos) (dXis y tab) :=
  xis_core hh hs hN hv hdn hcn hg hm (.own _) (fun X F => pe_glob (gl_of F hx) (by rw [F.hmg]; exact hxm) rfl hd) htab
theorem je_xisB {n t : Str} {T : String} {p q1 q2 pos : Pos} {y : HX} {i : Nat} {tab : Str → Option Bool} (hh : G.hx = some y) (hs : y.slot = some i) (hN : G.N[i]? = some n) (hv : Vis G.sc n) (hdn : (n == ("__debug__" : Str)) = false) (hcn : (n == ("__classdict__" : Str)) = false)
    (hg : G.sc.names.lookup ("isinstance" : Str) = some .globalImplicit) (hm : G.mg ("isinstance" : Str) = none) (hx : G.sc.names.lookup t = some .globalImplicit) (hxm : G.mg t = none) (hvt : bootBuiltins t = some (.type T)) (hnn : t ≠ "__name__") (hd : (t == ("__debug__" : Str)) = false)
    (htab : ∀ c b, tab c = some b → ExcC G.K (He.ga G.K c) ∧ PySem.W.kitOne G.K (.ref (He.ga G.K c)) (.type T) = some b) :
    JE G (.Call (.Name "isinstance" p) [.Name n q1, .Name t q2] [] pos) (dXis y tab) :=
  xis_core hh hs hN hv hdn hcn hg hm (.ty T) (fun X F => pe_bltn (gl_of F hx) (by rw [F.hmg]; exact hxm) hvt rfl hnn hd) htab
end
end NP

set_option Elab.async false
set_option linter.all false
set_option maxRecDepth 100000
set_option maxHeartbeats 4000000
/-! NPX6: the head's facts of own exceptions, as checks that run. -/
namespace NP
open PySem PySem.Spec PyProof.Rows L2 He
/-- an own exception class over ValueError -/
def oexO (K : PySem.W.Frag) (C : Addr) : Bool := match K.lookup C with
  | some ⟨.type "type", _, .cls cd, sl⟩ => (match cd.mro, sl.toList with
    | .ref C' :: bm, [_, _, _, _, some (.builtin n), _] => C' == C && n == "ValueError.__new__" && !cd.hasDel && cd.hasDict && PySem.HandSPX.refsVE bm
    | _, _ => false)
  | _ => false
theorem oexO_ok {K : PySem.W.Frag} {C : Addr} (q : oexO K C = true) : ∃ nm q N bs bm sn sub ab col dd k0 k1 k2 k3 k5, K.lookup C = some (excClassObj nm q C N bs bm true sn sub ab col dd k0 k1 k2 k3 k5 "ValueError.__new__") ∧ PySem.HandSPX.refsVE bm = true := by
  unfold oexO at q
  split at q
  · rename_i dd cd sl ho
    split at q
    · rename_i C' bm k0 k1 k2 k3 n k5 hm hs
      simp only [Bool.and_eq_true, beq_iff_eq, Bool.not_eq_true'] at q
      obtain ⟨⟨⟨⟨rfl, rfl⟩, hdel⟩, hd⟩, ht⟩ := q
      obtain ⟨nm, bs, mro, ns, qn, hdx, sn, sub, ab, col, del⟩ := cd
      dsimp only at hm hdel hd
      subst hm hdel hd
      have hsl : sl = #[k0, k1, k2, k3, some (.builtin "ValueError.__new__"), k5] := by
        obtain ⟨l⟩ := sl
        simp only at hs
        rw [hs]
      subst hsl
      exact ⟨nm, qn, ns, bs, bm, sn, sub, ab, col, dd, k0, k1, k2, k3, k5, ho, ht⟩
    · cases q
  · cases q
def oexB (K : PySem.W.Frag) (C : Addr) : Bool := oexO K C && (eqO (PySem.W.findIn K (.ref C) "__setattr__") (some (some (.builtin "object.__setattr__"))) && (decide (PySem.W.subIn K (.ref C) (.type "BaseException") = some true) && (decide (PySem.W.typeIn K (.ref C) = some (.type "type")) && PySem.W.keepIn K (.ref C))))
theorem oexB_ok {K : PySem.W.Frag} {C : Addr} (h : oexB K C = true) : OexC K C := by
  obtain ⟨h1, h⟩ := ba h
  obtain ⟨h2, h⟩ := ba h
  obtain ⟨h3, h⟩ := ba h
  obtain ⟨h4, h5⟩ := ba h
  exact ⟨oexO_ok h1, eqO_ok h2, of_decide_eq_true h3, of_decide_eq_true h4, h5⟩
/-- isinstance asks its instances rightly -/
def xcB (K : PySem.W.Frag) (C : Addr) : Bool := eqO (PySem.W.findIn K (.ref C) "__getattribute__") (some (some (.builtin "BaseException.__getattribute__"))) && (eqO (PySem.W.findIn K (.ref C) "__getattr__") (some none) && (decide (PySem.W.subIn K (.ref C) (.type "BaseException") = some true) && (PySem.W.hasDictIn K C &&
  (eqO (PySem.W.findIn K (.ref C) "__class__") (some (some (.builtin "object.__class__"))) && (eqO (PySem.W.specialIn K (.builtin "object.__class__") "__get__") (some (some (.builtin "getset_descriptor.__get__"))) && (decide (PySem.W.takesIn K (.builtin "object.__class__") = some true) && decide (PySem.W.mroIn K C (.type "object") = some true)))))))
theorem xcB_ok {K : PySem.W.Frag} {C : Addr} (h : xcB K C = true) : ExcC K C := by
  obtain ⟨h1, h⟩ := ba h
  obtain ⟨h2, h⟩ := ba h
  obtain ⟨h3, h⟩ := ba h
  obtain ⟨h4, h⟩ := ba h
  obtain ⟨h5, h⟩ := ba h
  obtain ⟨h6, h⟩ := ba h
  obtain ⟨h7, h8⟩ := ba h
  exact ⟨eqO_ok h1, eqO_ok h2, of_decide_eq_true h3, h4, eqO_ok h5, eqO_ok h6, of_decide_eq_true h7, of_decide_eq_true h8⟩
/-! ### its __init__ -/
abbrev SFn : Type := Option (Str × Str × Arguments × FuncBody × Scope × Addr × List Str × Addr)
def supW (K : PySem.W.Frag) (c : Str) : SFn := match K.lookup (ma K (ga K c) "__init__") with
  | some ⟨_, _, .func fd, _⟩ => some (fd.name, fd.qualname, fd.params, fd.body, fd.scope, fd.globals, fd.closure.map (·.1), fd.builtins)
  | _ => none
structure SupD where
  cls : Str
  name : Str
  qual : Str
  params : Arguments
  body : List Stmt
  scope : Scope
def SupD.val (d : SupD) : SFn := some (d.name, d.qual, d.params, .stmts d.body, d.scope, mainGlobals, [clsN], builtinsNs)
def fileB (K : PySem.W.Frag) (cd : Value) (file : Str) : Bool := match cd with
  | .ref a => (match K.lookup a with
    | some ⟨_, _, .fields vs, _⟩ => (match (vs[2]? : Option Value) with
      | some (.str z _) => file == z
      | _ => false)
    | _ => false)
  | _ => false
theorem fileB_ok {K : PySem.W.Frag} {cd : Value} {file : Str} (h : fileB K cd file = true) : ∃ cda ccl cdd vs ccs z tf, cd = .ref cda ∧ K.lookup cda = some ⟨ccl, cdd, .fields vs, ccs⟩ ∧ vs[2]? = some (.str z tf) ∧ (file == z) = true := by
  unfold fileB at h
  split at h
  · split at h
    · rename_i h1
      split at h
      · rename_i h2
        exact ⟨_, _, _, _, _, _, _, rfl, h1, h2, h⟩
      · cases h
    · cases h
  · cases h
def cellB (K : PySem.W.Frag) (C : Addr) (cl : List (Str × Addr)) : Bool := match cl with
  | [(_, cc)] => (match K.lookup cc with
    | some ⟨_, _, .cell (some (.ref D)), _⟩ => D == C
    | _ => false)
  | _ => false
theorem cellB_ok {K : PySem.W.Frag} {C : Addr} {cl : List (Str × Addr)} (h : cellB K C cl = true) : ∃ x cc a b c, cl = [(x, cc)] ∧ K.lookup cc = some ⟨a, b, .cell (some (.ref C)), c⟩ := by
  unfold cellB at h
  split at h
  · split at h
    · rename_i h1
      have e := beq_iff_eq.mp h
      subst e
      exact ⟨_, _, _, _, _, rfl, h1⟩
    · cases h
  · cases h
def initB (K : PySem.W.Frag) (file : Str) (d : SupD) : Bool := match K.lookup (ma K (ga K d.cls) "__init__") with
  | some ⟨_, _, .func fd, _⟩ => PySem.W.codeIn K fd.code d.qual && (fileB K fd.code file && (cellB K (ga K d.cls) fd.closure && decide (fd.defaults = .none)))
  | _ => false
def supB (K : PySem.W.Frag) (file : Str) (d : SupD) : Bool := initB K file d && (oexB K (ga K d.cls) && (xcB K (ga K d.cls) && (eqO (PySem.W.findIn K (.ref (ga K d.cls)) "__init__") (some (some (.ref (ma K (ga K d.cls) "__init__")))) && (decide (PySem.W.typeIn K (.ref (ma K (ga K d.cls) "__init__")) = some (.type "function")) &&
  ((PySem.W.clsIn K (ga K d.cls)).isSome && (decide (PySem.W.mroIn K (ga K d.cls) (.ref (ga K d.cls)) = some true) && (eqO (PySem.W.nsIn K mainGlobals "super") (some none) && (eqO (PySem.W.nsIn K cStatics "thirdparty.any") (some none) && (eqO (PySem.W.ks_superIn K (ga K d.cls) (ga K d.cls) "__init__") (some (some (.builtin "ValueError.__init__"))) &&
  decide (PySem.W.subIn K (.ref (ga K d.cls)) (.type "ValueError") = some true))))))))))
theorem sup_ok {P : Program} {K : PySem.W.Frag} {file : Str} {d : SupD} (hf : P.main.file = file) (ht : (P.main.scope.names.lookup ("super" : Str)).isSome = false) (hh : ∃ ar : Arg, (d.params.posonlyargs ++ d.params.args).head? = some ar ∧ ar.arg = ("self" : Str))
    (e : supW K d.cls = d.val) (h : supB K file d = true) :
    ∃ (fd : FuncData) (cc : Addr) (cdv : Value), SupK P K (ga K d.cls) (ma K (ga K d.cls) "__init__") fd d.name d.qual d.params d.body d.scope cc cdv ∧ OexC K (ga K d.cls) ∧ ExcC K (ga K d.cls) ∧ PySem.W.findIn K (.ref (ga K d.cls)) "__init__" = some (some (.ref (ma K (ga K d.cls) "__init__"))) ∧
      PySem.W.typeIn K (.ref (ma K (ga K d.cls) "__init__")) = some (.type "function") ∧ ∃ kV doc pm an ct, fd = PySem.W.ksFn d.name d.qual d.params d.body d.scope .none kV doc pm an cdv ct cc := by
  obtain ⟨h1, h⟩ := ba h
  obtain ⟨h2, h⟩ := ba h
  obtain ⟨h3, h⟩ := ba h
  obtain ⟨h4, h⟩ := ba h
  obtain ⟨h5, h⟩ := ba h
  obtain ⟨h6, h⟩ := ba h
  obtain ⟨h7, h⟩ := ba h
  obtain ⟨h8, h⟩ := ba h
  obtain ⟨h9, h⟩ := ba h
  obtain ⟨h10, h11⟩ := ba h
  unfold supW at e
  unfold initB at h1
  cases q : K.lookup (ma K (ga K d.cls) "__init__") with
  | none => rw [q] at h1; cases h1
  | some o =>
    obtain ⟨oc, od, dt, osl⟩ := o
    rw [q] at h1 e
    cases dt with
    | func fd =>
      obtain ⟨n1, n2, n3, n4, n5, n6, n7, n8, n9, n10, n11, n12, n13, n14, n15⟩ := fd
      have e2 : (some (n1, n2, n3, n4, n5, n6, n7.map (·.1), n15) : SFn) = some (d.name, d.qual, d.params, .stmts d.body, d.scope, mainGlobals, [clsN], builtinsNs) := e
      simp only [Option.some.injEq, Prod.mk.injEq] at e2
      obtain ⟨g1, g2, g3, g4, g5, g6, g7, g8⟩ := e2
      subst g1 g2 g3 g4 g5 g6 g8
      obtain ⟨k1, k⟩ := ba h1
      obtain ⟨k2, k3⟩ := ba k
      obtain ⟨k3, k4⟩ := ba k3
      have k4 : n8 = .none := of_decide_eq_true k4
      subst k4
      obtain ⟨x, cc, a, b, c, ex, hcl⟩ := cellB_ok k3
      have ex : n7 = [(x, cc)] := ex
      subst ex
      obtain rfl : x = clsN := by simpa using g7
      obtain ⟨cda, ccl, cdd, vs, ccs, z, tf, y1, y2, y3, y4⟩ := fileB_ok k2
      refine ⟨_, cc, n13, ⟨⟨.none, n9, n10, n11, n12, n14, oc, od, osl, rfl, q⟩, k1, hh, ⟨cda, ccl, cdd, vs, ccs, z, tf, y1, y2, y3, by rw [hf]; exact y4⟩, ⟨a, b, c, hcl⟩, Option.isSome_iff_exists.mp h6, of_decide_eq_true h7, eqO_ok h8, ht, eqO_ok h9, eqO_ok h10, of_decide_eq_true h11⟩, oexB_ok h2, xcB_ok h3, eqO_ok h4, of_decide_eq_true h5, n9, n10, n11, n12, n14, rfl⟩
    | _ => cases h1
/-! ### the Hook, with the classes' statics and the exceptions' inits -/
abbrev AlX : Type := He.AlD × List SFn
def obsX (ck : PySem.W.Frag → Bool) (fa : List He.Fa) (fn : List He.DefD) (cs : List Str) (K : PySem.W.Frag) : AlX := (obsN ck fa fn K, cs.map (supW K))
def frX (n : Nat) (g : Addr → Option Obj) : PySem.W.Frag := He.frG g (cStatics :: He.asD g n)
def obsXG (ck : PySem.W.Frag → Bool) (n : Nat) (fa : List He.Fa) (fn : List He.DefD) (cs : List Str) (g : Addr → Option Obj) : AlX := obsX ck fa fn cs (frX n g)
def hookX (ck : PySem.W.Frag → Bool) (n : Nat) (fa : List He.Fa) (fn : List He.DefD) (cs : List SupD) : PySem.W.Hook where
  α := AlX
  obs := fun s => obsXG ck n fa fn (cs.map (·.cls)) s.heap.get?
  val := fun _ => (He.valD fn, cs.map SupD.val)
  says := fun _ h => ∃ K : PySem.W.Frag, K.In h ∧ ck K = true ∧ He.SaysD fa fn K ∧ (cs.map (·.cls)).map (supW K) = cs.map SupD.val
  of := fun _ s e => by
    have e1 : obsN ck fa fn (frX n s.heap.get?) = He.valD fn := congrArg (fun z : AlX => z.1) e
    have e2 : (cs.map (·.cls)).map (supW (frX n s.heap.get?)) = cs.map SupD.val := congrArg (fun z : AlX => z.2) e
    have e3 := congrArg (fun z : He.AlD => z.1) e1
    have e4 := congrArg (fun z : He.AlD => z.2) e1
    exact ⟨frX n s.heap.get?, He.frG_in, (and2 e3).1, Prod.ext (and2 e3).2 e4, e2⟩
  keeps := fun _ _ _ ⟨K, hK, c⟩ k => ⟨K, PySem.W.Frag.In.keeps hK k, c⟩
theorem obsXG_eq {ck : PySem.W.Frag → Bool} {n : Nat} {fa : List He.Fa} {fn : List He.DefD} {cs : List SupD} {g : Addr → Option Obj} {s : Shared} (h : ∀ a, g a = s.heap.get? a) : obsXG ck n fa fn (cs.map (·.cls)) g = (hookX ck n fa fn cs).obs s := by
  have e : g = s.heap.get? := funext h
  rw [e] <;> rfl
end NP

set_option Elab.async false
set_option linter.all false
set_option maxRecDepth 100000
set_option maxHeartbeats 1000000
/-! NPX7: raise C(e), from the head's facts. -/
namespace NP
open PySem PySem.Spec PyProof.Rows L2 He
/-- C may be raised: its field is f -/
structure RaisesA (P : Program) (w : World) (K : PySem.W.Frag) (mg : Str → Option Value) (base : Heap) (k : Nat) (c f : Str) : Prop where
  ex : ∃ (fI : Addr) (fd : FuncData) (p : Str), OexC K (ga K c) ∧ PySem.W.findIn K (.ref (ga K c)) "__init__" = some (some (.ref fI)) ∧ PySem.W.typeIn K (.ref fI) = some (.type "function") ∧
    FnOk P w K mg base (L2N.CX P w) k fI fd ["self", p] (spA (ga K c) f) ∧ Binds K fd ["self", p] [] ∧ mg c = some (.ref (ga K c))
theorem RaisesA.mono {P : Program} {w : World} {K : PySem.W.Frag} {mg : Str → Option Value} {base : Heap} {k k' : Nat} {c f : Str} (h : RaisesA P w K mg base k c f) (hk : k ≤ k') : RaisesA P w K mg base k' c f := by
  obtain ⟨fI, fd, p, h1, h2, h3, h4, h5, h6⟩ := h.ex
  exact ⟨fI, fd, p, h1, h2, h3, h4.mono hk, h5, h6⟩
theorem j1_raiseR {G : GX} {e : Expr} {fe : ME} {c f : Str} {k1 : Nat} {xp pos rpos : Pos} (h : RaisesA G.P G.w G.K G.mg G.base k1 c f) (hk : k1 + 1 ≤ G.k) (hg : G.sc.names.lookup c = some .globalImplicit) (ha : JE G e fe)
    (hdb : (c == ("__debug__" : Str)) = false) (he : ∀ env : Env, starEach [e] env = (false, eval e env) :: starEach [] env) (hc : G.hx = none := by rfl) :
    J1 G (.Raise (some (.Call (.Name c xp) [e] [] pos)) none rpos) (dRaise c f fe) := by
  obtain ⟨fI, fd, p, h1, h2, h3, h4, h5, h6⟩ := h.ex
  exact j1_raiseA h1 h2 h3 h4 hk h5 hg h6 ha hdb he hc
theorem raisesA_of {P : Program} {w : World} {K : PySem.W.Frag} {mg : Str → Option Value} {base : Heap} {file : Str} {d : SupD} {f p tx : Str} {p0 p1 apos cpos epos tpos q1 q2 q3 q4 : Pos} {j : Nat} {pl : Sem Bool} (hf : P.main.file = file) (ht : (P.main.scope.names.lookup ("super" : Str)).isSome = false)
    (hh : ∃ ar : Arg, (d.params.posonlyargs ++ d.params.args).head? = some ar ∧ ar.arg = ("self" : Str)) (e : supW K d.cls = d.val) (h : supB K file d = true) (hno : PySem.W.findIn K (.ref (ga K d.cls)) f = some none) (hm : mg d.cls = some (.ref (ga K d.cls)))
    (hbody : d.body = [.Expr (.Call (.Attribute (.Call (.Name "super" p0) [] [] p1) "__init__" apos) [.Constant (.str tx) j tpos] [] cpos) epos, .Assign [.Attribute (.Name "self" q1) f q2] (.Name p q3) q4])
    (S : SupScope ["self", p] ["self", p] d.scope) (d1 : (p == ("__debug__" : Str)) = false) (c1 : (p == ("__classdict__" : Str)) = false)
    (he : ∀ env : Env, eval (.Call (.Attribute (.Call (.Name "super" p0) [] [] p1) "__init__" apos) [.Constant (.str tx) j tpos] [] cpos) env = (do
      let ov ← attributeBase (.Call (.Name "super" p0) [] [] p1) "__init__" env (eval (.Call (.Name "super" p0) [] [] p1) env)
      standAt apos.atName
      let (f, first) ← holding [ov] (getMethod ov "__init__" pl)
      callWith cpos f first (backTo cpos (starEach [.Constant (.str tx) j tpos] env)) []))
    (hb : ∀ (kV doc pm : Value) (an : Option Addr) (cdv ct : Value) (cc : Addr) (us : List Value), us.length = 2 → bindArgs (PySem.W.ksFn d.name d.qual d.params d.body d.scope .none kV doc pm an cdv ct cc) ⟨us, []⟩ = pure ((["self", p] : List Str).zip us)) :
    RaisesA P w K mg base 1 d.cls f := by
  obtain ⟨fd, cc, cdv, SK, oc, xc, iC, tI, kV, doc, pm, an, ct, efd⟩ := sup_ok hf ht hh e h
  rw [hbody] at SK
  refine ⟨_, fd, p, oc, iC, tI, fn_rA (k := 0) SK S oc hno d1 c1 he, ?_, hm⟩
  subst efd
  exact .all (hb kV doc pm an cdv ct cc)
end NP

set_option Elab.async false
set_option linter.all false
set_option maxRecDepth 100000
set_option maxHeartbeats 1000000
/-! NPX8: the rules at a handled exception, by tables of classes; the head's tables. -/
namespace NP
open PySem PySem.Spec PyProof.Rows L2 He
/-- isinstance(error, T) -/
def dXisC (c : Str) (m : Option Nat) (tab : List (Str × Bool)) : ME := fun _ Λ => match tab.lookup c with
  | some b => match m with
    | none => .ok (.bl b) Λ
    | some k => match Λ[k]? with
      | some (.xd _) => .ok (.bl b) Λ
      | _ => .bad
  | none => .bad
/-- error.f, of the classes cs -/
def dXfC (c : Str) (m : Option Nat) (cs : List Str) (f : Str) : ME := fun _ Λ => if c ∈ cs then
    match m with
    | some n => match Λ[n]? with
      | some (.xd fs) => match fs.lookup f with
        | some v => .ok v Λ
        | none => .bad
      | _ => .bad
    | none => .bad
  else .bad
theorem mem_lookup {α : Type} {c : Str} {b : α} : ∀ {l : List (Str × α)}, l.lookup c = some b → (c, b) ∈ l
  | (k, v) :: l, h => by
    rw [List.lookup_cons] at h
    cases e : (c == k) with
    | true => rw [e] at h; cases h; rw [beq_iff_eq.mp e]; exact List.mem_cons_self
    | false => rw [e] at h; exact List.mem_cons_of_mem _ (mem_lookup h)
/-- what the written part says of isinstance(error, T), of `except T` -/
def isiTab (K : PySem.W.Frag) (u : Value) (tab : List (Str × Bool)) : Bool := tab.all fun p => xcB K (ga K p.1) && decide (PySem.W.kitOne K (.ref (ga K p.1)) u = some p.2)
theorem isiTab_ok {K : PySem.W.Frag} {u : Value} {tab : List (Str × Bool)} (h : isiTab K u tab = true) : ∀ c b, tab.lookup c = some b → ExcC K (ga K c) ∧ PySem.W.kitOne K (.ref (ga K c)) u = some b := fun c b e => by
  obtain ⟨h1, h2⟩ := ba (List.all_eq_true.mp h _ (mem_lookup e))
  exact ⟨xcB_ok h1, of_decide_eq_true h2⟩
def exmTab (K : PySem.W.Frag) (u : Value) (tab : List (Str × Bool)) : Bool := tab.all fun p => decide (PySem.W.exmOne K (.ref (ga K p.1)) u = some p.2)
theorem exmTab_ok {K : PySem.W.Frag} {u : Value} {tab : List (Str × Bool)} (h : exmTab K u tab = true) : ∀ c b, tab.lookup c = some b → PySem.W.exmOne K (.ref (ga K c)) u = some b := fun c b e => of_decide_eq_true (List.all_eq_true.mp h _ (mem_lookup e))
def xfTab (K : PySem.W.Frag) (cs : List Str) (f : Str) : Bool := cs.all fun c => xfB K (ga K c) && eqO (PySem.W.findIn K (.ref (ga K c)) f) (some none)
theorem xfTab_ok {K : PySem.W.Frag} {cs : List Str} {f : Str} (h : xfTab K cs f = true) : ∀ c ∈ cs, XfC K (ga K c) ∧ PySem.W.findIn K (.ref (ga K c)) f = some none := fun c e => by
  obtain ⟨h1, h2⟩ := ba (List.all_eq_true.mp h _ e)
  exact ⟨xfB_ok h1, eqO_ok h2⟩
section
variable {P : Program} {w : World} {K : PySem.W.Frag} {mg : Str → Option Value} {base : Heap} {N : List Str} {sc : Scope} {k : Nat} {a : Addr} {oe : Obj} {c n t : Str} {i : Nat} {m : Option Nat} {p q1 q2 pos : Pos}
abbrev GXh (P : Program) (w : World) (K : PySem.W.Frag) (mg : Str → Option Value) (base : Heap) (N : List Str) (sc : Scope) (k : Nat) (a : Addr) (oe : Obj) (c : Str) (i : Nat) (m : Option Nat) : GX := ⟨P, w, K, mg, base, N, sc, k, false, some ⟨a, oe, c, some i, m⟩⟩
theorem je_xisOC {tab : List (Str × Bool)} (hN : N[i]? = some n) (hv : Vis sc n) (hdn : (n == ("__debug__" : Str)) = false) (hcn : (n == ("__classdict__" : Str)) = false) (hg : sc.names.lookup ("isinstance" : Str) = some .globalImplicit) (hm : mg ("isinstance" : Str) = none)
    (hx : sc.names.lookup t = some .globalImplicit) (hxm : mg t = some (.ref (ga K t))) (hd : (t == ("__debug__" : Str)) = false) (htab : isiTab K (.ref (ga K t)) tab = true) :
    JE (GXh P w K mg base N sc k a oe c i m) (.Call (.Name "isinstance" p) [.Name n q1, .Name t q2] [] pos) (dXisC c m tab) :=
  je_xisO (G := GXh P w K mg base N sc k a oe c i m) (y := ⟨a, oe, c, some i, m⟩) rfl rfl hN hv hdn hcn hg hm hx hxm hd (isiTab_ok htab)
theorem je_xisBC {T : String} {tab : List (Str × Bool)} (hN : N[i]? = some n) (hv : Vis sc n) (hdn : (n == ("__debug__" : Str)) = false) (hcn : (n == ("__classdict__" : Str)) = false) (hg : sc.names.lookup ("isinstance" : Str) = some .globalImplicit) (hm : mg ("isinstance" : Str) = none)
    (hx : sc.names.lookup t = some .globalImplicit) (hxm : mg t = none) (hvt : bootBuiltins t = some (.type T)) (hnn : t ≠ "__name__") (hd : (t == ("__debug__" : Str)) = false) (htab : isiTab K (.type T) tab = true) :
    JE (GXh P w K mg base N sc k a oe c i m) (.Call (.Name "isinstance" p) [.Name n q1, .Name t q2] [] pos) (dXisC c m tab) :=
  je_xisB (G := GXh P w K mg base N sc k a oe c i m) (y := ⟨a, oe, c, some i, m⟩) rfl rfl hN hv hdn hcn hg hm hx hxm hvt hnn hd (isiTab_ok htab)
theorem je_xfC {f : Str} {cs : List Str} (hN : N[i]? = some n) (hv : Vis sc n) (hdn : (n == ("__debug__" : Str)) = false) (hcn : (n == ("__classdict__" : Str)) = false) (htab : xfTab K cs f = true)
    (hb : ∀ env : Env, attributeBase (.Name n q1) f env (eval (.Name n q1) env) = eval (.Name n q1) env) : JE (GXh P w K mg base N sc k a oe c i m) (.Attribute (.Name n q1) f pos) (dXfC c m cs f) := by
  by_cases hc : c ∈ cs
  · obtain ⟨T, hno⟩ := xfTab_ok htab c hc
    have J := je_xf (G := GXh P w K mg base N sc k a oe c i m) (y := ⟨a, oe, c, some i, m⟩) (f := f) (pos := pos) (q := q1) rfl rfl hN hv hdn hcn T hno hb
    have e : dXfC c m cs f = dXf ⟨a, oe, c, some i, m⟩ f := by
      funext δ Λ
      unfold dXfC dXf
      rw [if_pos hc]
      all_goals rfl
    rw [e]; exact J
  · intro X F W tk
    refine ⟨fun pins s σ H Q I ⟨ρ, δ, Λ, r, v, pp⟩ => ?_⟩
    unfold dXfC at pp
    rw [if_neg hc] at pp
    exact pp.elim
theorem je_xcallC {x : Str} {mm : MX} (hN : N[i]? = some n) (hv : Vis sc n) (hf : FnAtX P w K mg base k x mm) (hg : sc.names.lookup x = some .globalImplicit)
    (hd : (x == ("__debug__" : Str)) = false) (hdn : (n == ("__debug__" : Str)) = false) (hcn : (n == ("__classdict__" : Str)) = false) :
    JE (GXh P w K mg base N sc k a oe c i m) (.Call (.Name x p) [.Name n q1] [] pos) (fun _ Λ => mm c m Λ) :=
  je_xcall (G := GXh P w K mg base N sc k a oe c i m) (y := ⟨a, oe, c, some i, m⟩) rfl rfl hN hv hf hg hd hdn hcn
end
/-- what is never reached -/
theorem je_bad {G : GX} {e : Expr} : JE G e (fun _ _ => .bad) := fun X F W tk => ⟨fun pins s σ H Q I ⟨ρ, δ, Λ, r, v, p⟩ => p.elim⟩
/-- a class's statement's j-th row -/
def clsMeth (s : Stmt) (j : Nat) : Stmt := match s with
  | .ClassDef _ _ _ body .. => body.getD j (.Pass ⟨0, 0, 0, 0⟩)
  | s => s
/-- a def of a handled exception, at the head -/
theorem fnAtX {P : Program} {w : World} {K : PySem.W.Frag} {mg : Str → Option Value} {base : Heap} {x qual : Str} {params : Arguments} {body : List Stmt} {scope : Scope} {kws : List (Str × V)} {f : Addr} {fd : FuncData} {N : List Str} {q : Str} {k k' : Nat} {b : Str → Option Nat → MS}
    (F : FunD K x qual params body scope [] kws f fd) (S : FnScope N [q] scope) (hJ : ∀ (a : Addr) (oe : Obj) (c : Str) (m : Option Nat), JS (GXh P w K mg base N scope k a oe c 0 m) body (b c m)) (hm : mg x = some (.ref f)) (hb : Binds K fd [q] []) (hk : k + 1 ≤ k') :
    FnAtX P w K mg base k' x (runX N.length b) := ⟨f, fd, [q], hm, F.kp, hb, (fn_npX F S hJ).mono hk⟩
theorem fnAtH {P : Program} {w : World} {K : PySem.W.Frag} {mg : Str → Option Value} {base : Heap} {x qual : Str} {params : Arguments} {body : List Stmt} {scope : Scope} {kws : List (Str × V)} {f : Addr} {fd : FuncData} {N ps : List Str} {k k' : Nat} {b : MS}
    (F : FunD K x qual params body scope [] kws f fd) (S : FnScope N ps scope) (hJ : ∀ (a : Addr) (oe : Obj), JS ⟨P, w, K, mg, base, N, scope, k, false, some ⟨a, oe, "", none, none⟩⟩ body b) (hm : mg x = some (.ref f)) (hb : Binds K fd ps []) (hk : k + 1 ≤ k') :
    FnAtH P w K mg base k' x (runF ps.length N.length b) := ⟨f, fd, ps, hm, F.kp, hb, FnH.mono' (fn_npH F S hJ) hk⟩
end NP

set_option Elab.async false
set_option linter.all false
set_option maxRecDepth 100000
set_option maxHeartbeats 1000000
/-! NPX9: a dict display with one text key; dicts compared. -/
namespace NP
open PySem PySem.Spec PyProof.Rows L2
def dsPut (n : Nat) (k : Key) (v : AV) (Λ : AH) : R AV := match Λ[n]? with
  | some (.dk []) => .ok (.ref n) (Λ.set n (.dk [(k, v)]))
  | _ => .bad
/-- {z: e} -/
def dDs1 (z : Str) (fe : ME) : ME := fun δ Λ => (fe δ (Λ ++ [.dk []])).bind fun v Λ1 => dsPut Λ.length (.inr z) v Λ1
section
variable {G : GX} {e : Expr} {fe : ME} {z : Str} {j : Nat} {kp pos : Pos}
theorem je_ds1 (he : JE G e fe) : JE G (.Dict [some (.Constant (.str z) j kp)] [e] pos) (dDs1 z fe) := fun X F W tk => by
  refine ⟨fun pins s σ H Q I ⟨ρ, δ, Λ, r, v, p⟩ => ?_⟩
  refine wpAny_Dict_pairs (knd := mixKind X.prog X.w) (pairs := [(eval (.Constant (.str z) j kp) X.env, do let x ← eval e X.env; standAt pos; pure x)]) (by rfl) (by simp) (by simp) ?_
  have hn : H s.heap.objs.size = none := I.hok.fresh (Nat.le_refl _)
  have I1 : Inv X pins σ (upd H s.heap.objs.size (.dK [])) { s with heap := s.heap.push { cls := .type "dict", data := .dict #[] } } := I.laid (a := s.heap.objs.size) (o := .dK []) (t' := s.toks) (fun _ _ q => Heap.get?_push_of_some _ q) (Nat.le_refl _) (dk_empty s.heap I.big)
  obtain ⟨rD, eD, hD⟩ := r.alloc (u := .dK []) (o := .dk []) hn (show RepKV _ _ _ _ _ from Paired.nil)
  unfold evalPairs
  refine wpAny_bind ?_
  refine wpAny_mono ((pe_str (X := X) (x := z) (j := j) (pos := kp)).run pins _ σ _ (fun x H1 => x = .str z ∧ H1 = upd H s.heap.objs.size (.dK [])) I1 ⟨rfl, rfl⟩) (fun kv s1 ⟨x, H1, I2, rk, ex, eH⟩ => ?_) fun _ _ q => q
  subst ex
  subst eH
  refine wpAny_bind (wpAny_holding (wpAny_bind ?_))
  have hp : Post G.K W σ (TV G.K) (ρ ++ [s.heap.objs.size]) (upd H s.heap.objs.size (.dK [])) (fe δ (Λ ++ [.dk []])) (fun u H1 => ∃ a Λ1 ρ1, Ext (ρ ++ [s.heap.objs.size]) ρ1 (upd H s.heap.objs.size (.dK [])) H1 ∧ Rep G.K ρ1 Λ1 H1 ∧ TV G.K ρ1 H1 a u ∧ Post G.K W σ (TV G.K) ρ1 H1 (dsPut Λ.length (.inr z) a Λ1) Q) := Post.bind (T := TV G.K) (Post.step eD (show Post G.K W σ (TV G.K) ρ H ((fe δ (Λ ++ [.dk []])).bind fun v Λ1 => dsPut Λ.length (.inr z) v Λ1) Q from p))
  have ht : tE G.K G.hx W fe σ (upd H s.heap.objs.size (.dK [])) _ := ⟨ρ ++ [s.heap.objs.size], δ, Λ ++ [.dk []], rD, v.mono eD, hp⟩
  refine wpAny_mono ((he X F W tk).run pins s1 σ _ _ I2 ht) (fun u s2 ⟨y, H2, I3, ry, av, Λ1, ρ1, e1, r1, t1, p1⟩ => ?_) fun _ _ q => q
  refine wpAny_bind (wpAny_standAt (wpAny_pure ?_))
  unfold evalPairs
  refine wpAny_bind (wpAny_holding (wpAny_pure (wpAny_pure ?_)))
  unfold dsPut at p1
  split at p1
  · rename_i h1
    have ha : ρ1[Λ.length]? = some s.heap.objs.size := e1.get hD
    obtain ⟨uo, hu, ho⟩ := r1.at' h1 ha
    cases uo with
    | dK vs =>
      have ho : RepKV G.K ρ1 H2 [] vs := ho
      cases ho
      obtain ⟨zz, hd, vs', rel, dd⟩ := dk_of I3.hok hu
      cases rel
      refine ⟨[(.inr z, u)], ⟨kV_is (k := .inr z) rk, rfl, trivial⟩, dd, fun h' dd' hs => ?_⟩
      have he' : ∃ q, h'.get? s.heap.objs.size = some q := let ⟨q, _, _, hq, _⟩ := dd'; ⟨q, hq⟩
      have J := d_write (ob := .dK [(.inr z, y)]) (t' := s2.toks + 1) I3 (by rw [hu]; exact True.intro) hs he' (dk_new (by rw [sizeLine_eq]; simp) hd (.cons ⟨rfl, ry⟩ .nil) dd')
      obtain ⟨r3, e3⟩ := r1.write (u := .dK [(.inr z, y)]) (o' := .dk [(.inr z, av)]) ha h1 (.cons ⟨rfl, t1⟩ .nil)
      exact ⟨.ref s.heap.objs.size, _, J, rfl, p1 ρ1 _ _ e3 r3 (.ref ha)⟩
    | _ => exact ho.elim
  · exact p1.elim
end
/-! ### dicts compared, where they are the same -/
def sameA : AV → AV → Bool
  | .non, .non => true
  | .bl a, .bl b => a == b
  | .int a, .int b => a == b
  | .str a, .str b => decide (a = b)
  | _, _ => false
theorem same_rep {K : PySem.W.Frag} {ρ : List Addr} {H : Hp} {a b : AV} {x y : V} (t : RepV K ρ H a x) (t' : RepV K ρ H b y) (h : sameA a b = true) : y = x ∧ flatB x = true := by
  cases t <;> cases t' <;> first
    | exact ⟨rfl, rfl⟩
    | (cases h; done)
    | (have h := eq_of_beq h; subst h; exact ⟨rfl, rfl⟩)
    | (have h := of_decide_eq_true h; subst h; exact ⟨rfl, rfl⟩)
def dkSame (ks ls : List (Key × AV)) : Bool := decide (ks.length = ls.length) && ks.all fun p => match lookA ls p.1 with
  | some v => sameA p.2 v
  | none => false
/-- two dicts that are the same -/
def dkEq (a b : AV) (Λ : AH) : Bool := match a, b with
  | .ref m, .ref n => match Λ[m]?, Λ[n]? with
    | some (.dk ks), some (.dk ls) => dkSame ks ls
    | _, _ => false
  | _, _ => false
theorem dkSame_rep {K : PySem.W.Frag} {ρ : List Addr} {H : Hp} {ks ls : List (Key × AV)} {vs ws : List (Key × V)} (t : RepKV K ρ H ks vs) (t' : RepKV K ρ H ls ws) (h : dkSame ks ls = true) : vs.length = ws.length ∧ ∀ p ∈ vs, valV ws p.1 = some p.2 ∧ flatB p.2 = true := by
  obtain ⟨h1, h2⟩ := Bool.and_eq_true_iff.mp h
  refine ⟨by rw [← Paired.length t, ← Paired.length t']; exact of_decide_eq_true h1, ?_⟩
  clear h h1
  unfold RepKV at t
  induction t with
  | nil => intro p hp; cases hp
  | @cons p q ps qs hq t ih =>
    rw [List.all_cons, Bool.and_eq_true] at h2
    intro z hz
    rcases List.mem_cons.mp hz with rfl | hz
    · have h3 := h2.1
      rcases look_rep t' p.1 with ⟨g1, g2⟩ | ⟨a, u, g1, g2, g3⟩
      · rw [g1] at h3; cases h3
      · rw [g1] at h3
        obtain ⟨e1, e2⟩ := same_rep hq.2 g3 h3
        rw [← hq.1, g2, e1]
        exact ⟨rfl, e2⟩
    · exact ih h2.2 z hz
def gEqX : G2 := fun a b Λ => if dkEq a b Λ = true then some (.bl true, Λ) else gEq a b Λ
def gNeX : G2 := fun a b Λ => if dkEq a b Λ = true then some (.bl false, Λ) else gNe a b Λ
section
variable {G : GX} {X : Cx}
theorem dkEq_rep {K : PySem.W.Frag} {ρ : List Addr} {Λ : AH} {H : Hp} {a b : AV} {x y : V} (r : Rep K ρ Λ H) (ta : RepV K ρ H a x) (tb : RepV K ρ H b y) (h : dkEq a b Λ = true) :
    ∃ p q ks ls, x = .ref p ∧ y = .ref q ∧ H p = some (.dK ks) ∧ H q = some (.dK ls) ∧ ks.length = ls.length ∧ ∀ z ∈ ks, valV ls z.1 = some z.2 ∧ flatB z.2 = true := by
  unfold dkEq at h
  split at h
  · split at h
    · rename_i h1 h2
      cases ta with
      | ref ha => cases tb with
        | ref hb =>
          obtain ⟨u, q1, q2⟩ := r.at' h1 ha
          obtain ⟨w, q3, q4⟩ := r.at' h2 hb
          cases u with
          | dK vs => cases w with
            | dK ws =>
              obtain ⟨e1, e2⟩ := dkSame_rep q2 q4 h
              exact ⟨_, _, vs, ws, rfl, rfl, q1, q3, e1, e2⟩
            | _ => exact q4.elim
          | _ => exact q2.elim
    · cases h
  · cases h
theorem op_gEqX (F : G.Fit X) : OpR X (compareOp .Eq) (r2 G.K gEqX) := op_imp (OpR.or (op_eq_dictA (by have := roomHu F.room; omega)) (op_gEq F)) fun x y H Q ⟨ρ, Λ, a, b, r, ta, tb, p⟩ => by
  unfold gEqX at p
  by_cases h : dkEq a b Λ = true
  · rw [if_pos h] at p
    obtain ⟨p', q', ks, ls, h1, h2, h3, h4, h5, h6⟩ := dkEq_rep r ta tb h
    exact .inl ⟨p', q', ks, ls, h1, h2, h3, h4, h5, h6, p.same r (.bl _)⟩
  · rw [if_neg h] at p
    exact .inr ⟨ρ, Λ, a, b, r, ta, tb, p⟩
theorem op_gNeX (F : G.Fit X) : OpR X (compareOp .NotEq) (r2 G.K gNeX) := op_imp (OpR.or (op_ne_dictA (by have := roomHu F.room; omega)) (op_gNe F)) fun x y H Q ⟨ρ, Λ, a, b, r, ta, tb, p⟩ => by
  unfold gNeX at p
  by_cases h : dkEq a b Λ = true
  · rw [if_pos h] at p
    obtain ⟨p', q', ks, ls, h1, h2, h3, h4, h5, h6⟩ := dkEq_rep r ta tb h
    exact .inl ⟨p', q', ks, ls, h1, h2, h3, h4, h5, h6, p.same r (.bl _)⟩
  · rw [if_neg h] at p
    exact .inr ⟨ρ, Λ, a, b, r, ta, tb, p⟩
end
end NP

set_option Elab.async false
set_option linter.all false
set_option maxRecDepth 100000
set_option maxHeartbeats 1000000
/-! NPX10: `raise C(e)` of an own exception whose __init__ keeps a copy: `super().__init__(text); self.f = copier(p)`,
    where copier(v) is `if isinstance(v, list): ..; if isinstance(v, dict): ..; return v`. -/
namespace NP
open PySem PySem.Spec PyProof.Rows L2 He
/-- what the copier hands back as it is -/
def flatFC : AV → Bool
  | .non => true
  | .bl _ => true
  | .int _ => true
  | .str _ => true
  | .tup _ => true
  | .ct _ => true
  | _ => false
/-- neither a list nor a dict -/
def NoLD (K : PySem.W.Frag) (H : Hp) (y : V) : Prop := ∃ tv, TyX K H y tv ∧ PySem.W.kitOne K tv (.type "list") = some false ∧ PySem.W.kitOne K tv (.type "dict") = some false
theorem noLD_of {K : PySem.W.Frag} {ρ : List Addr} {H : Hp} {a : AV} {y : V} {x : Addr} {u : HO} (t : RepV K ρ H a y) (h : flatFC a = true) (hx : H x = none) : NoLD K (upd H x u) y := by
  have ki : ∀ s ∈ tyNs, s ≠ "list" → s ≠ "dict" → PySem.W.kitOne K (.type s) (.type "list") = some false ∧ PySem.W.kitOne K (.type s) (.type "dict") = some false := fun s hs h1 h2 => by
    rw [kit_all K s hs "list" (by decide), kit_all K s hs "dict" (by decide)]
    simp [h1, h2]
  have n1 := ki "NoneType" (by decide) (by decide) (by decide)
  have n2 := ki "bool" (by decide) (by decide) (by decide)
  have n3 := ki "int" (by decide) (by decide) (by decide)
  have n4 := ki "str" (by decide) (by decide) (by decide)
  have n5 := ki "tuple" (by decide) (by decide) (by decide)
  cases t with
  | non => exact ⟨_, .base .non, n1⟩
  | bl b => exact ⟨_, .base (.bl b), n2⟩
  | int i => exact ⟨_, .base (.int i), n3⟩
  | str x => exact ⟨_, .base (.str x), n4⟩
  | @tup b xs vs h1 _ =>
    have hne : b ≠ x := fun e => by rw [e, hx] at h1; cases h1
    exact ⟨_, .base (.tup (by rw [upd_ne hne]; exact h1)), n5⟩
  | ct h1 _ =>
    obtain ⟨o, its, n, q1, q2, _⟩ := h1
    exact ⟨_, .kTuple q1 q2, n5⟩
  | ref _ => cases h
  | cl _ _ => cases h
  | rng _ => cases h
def spFC (K : PySem.W.Frag) : Sp := fun vs H Q _ => ∃ y, vs = [y] ∧ NoLD K H y ∧ Q y H
theorem pss_no {X : Cx} {st : List Stmt} : PSs X st (fun _ _ _ => False) := ⟨fun _ _ _ _ _ _ h => h.elim⟩
section
variable {P : Program} {w : World} {K : PySem.W.Frag} {mg : Str → Option Value} {base : Heap}
/-- the copier -/
theorem fn_fc {k : Nat} {x qual v : Str} {params : Arguments} {scope : Scope} {dvs : List V} {kws : List (Str × V)} {f : Addr} {fd : FuncData} {N : List Str} {p1 p2 p3 p4 p5 p6 p7 p8 p9 p10 p11 p12 : Pos} {s1 s2 : List Stmt}
    (F : FunD K x qual params [.If (.Call (.Name "isinstance" p1) [.Name v p2, .Name "list" p3] [] p4) s1 [] p5, .If (.Call (.Name "isinstance" p6) [.Name v p7, .Name "dict" p8] [] p9) s2 [] p10, .Return (some (.Name v p11)) p12] scope dvs kws f fd)
    (S : FnScope N [v] scope) (hv1 : (v == ("__debug__" : Str)) = false) (hv2 : (v == ("__classdict__" : Str)) = false) (g1 : scope.names.lookup ("isinstance" : Str) = some .globalImplicit) (m1 : mg ("isinstance" : Str) = none) (g2 : scope.names.lookup ("list" : Str) = some .globalImplicit) (m2 : mg ("list" : Str) = none) (g3 : scope.names.lookup ("dict" : Str) = some .globalImplicit) (m3 : mg ("dict" : Str) = none) :
    FnOk P w K mg base (L2N.CX P w) (k + 1) f fd [v] (spFC K) :=
  F.ok S (fun vs H Q E ⟨_, h, _⟩ => by rw [h]; rfl) fun cdv A outer s H vs Q E hr h => by
    obtain ⟨y, rfl, ⟨tv, ht, k1, k2⟩, q⟩ := h
    have fit : GX.Fit ⟨P, w, K, mg, base, N, scope, k, false, none⟩ (cxOf (L2N.CX P w) P w K mg base N qual scope f cdv A outer s H E) :=
      ⟨rfl, rfl, rfl, rfl, rfl, rfl, rfl, fun _ => rfl, fun _ => hr.hd, L2H.roomH_of hr, fun x e => (by cases e), passes_of rfl, S.nd, fun _ _ _ => rfl, fun _ => ⟨rfl, rfl⟩⟩
    have hN : N[0]? = some v := by
      have := S.pre
      cases N with
      | nil => cases this
      | cons n N => rw [List.length_singleton, List.take_succ_cons] at this; have := (List.cons.inj this).1; rw [this]; rfl
    have hV : Vis scope v := by
      rcases S.par v (by simp) with q | q
      · exact .inl q
      · exact .inr (.inl q)
    have pv : ∀ p, PE (cxOf (L2N.CX P w) P w K mg base N qual scope f cdv A outer s H E) (.Name v p) (tVar 0) := fun p => pe_var hN hV hv1 hv2
    have pi : ∀ {T : Str} {u : Value} {c0 : V} {q1 q2 q3 q4 : Pos}, scope.names.lookup T = some .globalImplicit → mg T = none → bootBuiltins T = some u → RelV c0 u → T ≠ "__name__" → (T == ("__debug__" : Str)) = false →
        PE (cxOf (L2N.CX P w) P w K mg base N qual scope f cdv A outer s H E) (.Call (.Name "isinstance" q1) [.Name v q2, .Name T q3] [] q4) (tCB (rIsi K) (tCons (tVar 0) (tCons (tC c0) tNil))) := fun hg hm hb hr hn hd =>
      pe_callB call_isi (gl_of fit g1) m1 PyProof.Rows.boot_isinstance (pa_cons (pv _) (pa_cons (pe_bltn (gl_of fit hg) hm hb hr hn hd) pa_nil))
    refine ⟨_, pss_cons (ps_if (pt_truth (pi g2 m2 (u := .type "list") (c0 := .ty "list") (by decide +kernel) rfl (by decide) (by decide)) fun _ => rfl) pss_no pss_nil) (pss_cons (ps_if (pt_truth (pi g3 m3 (u := .type "dict") (c0 := .ty "dict") (by decide +kernel) rfl (by decide) (by decide)) fun _ => rfl) pss_no pss_nil) (pss_one (ps_ret (pv _)))), ?_⟩
    have hs0 : (L2.start N [y])[0]? = some (some y) := rfl
    exact ⟨y, hs0, y, .ty "list", tv, .type "list", false, rfl, .ty _, ht, k1, false, rfl, y, hs0, y, .ty "dict", tv, .type "dict", false, rfl, .ty _, ht, k2, false, rfl, y, hs0, q⟩
/-- what an __init__ with the copier does -/
def spB (K : PySem.W.Frag) (C : Addr) (f : Str) : Sp := fun vs H Q _ => ∃ (a : Addr) (y : V), vs = [.ref a, y] ∧ H a = some (exo a C none) ∧ NoLD K H y ∧ ∀ dx, H dx = none → dx ≠ a → Q .non (upd (upd H dx (exd dx [(f, y)])) a (exo a C (some dx)))
/-- the copier, at the head -/
structure FnAtC (P : Program) (w : World) (K : PySem.W.Frag) (mg : Str → Option Value) (base : Heap) (k : Nat) (nm : Str) : Prop where
  ex : ∃ (f : Addr) (fd : FuncData) (v : Str), mg nm = some (.ref f) ∧ PySem.W.keepIn K (.ref f) = true ∧ Binds K fd [v] [] ∧ FnOk P w K mg base (L2N.CX P w) k f fd [v] (spFC K)
theorem passes_no {X : Cx} : Passes (L2N.CX X.prog X.w) X (fun _ _ _ => False) := fun _ _ _ _ _ _ _ ⟨_, _, _, _, _, _, _, _, _, _, _, _, z⟩ => z.elim
theorem fn_rB {k : Nat} {name qual cf : Str} {params : Arguments} {scope : Scope} {fI cc C : Addr} {cdv : Value} {fd : FuncData} {f p : Str} {p0 p1 apos cpos epos tpos q1 q2 q3 q4 q5 q6 : Pos} {tx : Str} {j : Nat} {pl : Sem Bool}
    (SK : SupK P K C fI fd name qual params [.Expr (.Call (.Attribute (.Call (.Name "super" p0) [] [] p1) "__init__" apos) [.Constant (.str tx) j tpos] [] cpos) epos, .Assign [.Attribute (.Name "self" q1) f q2] (.Call (.Name cf q5) [.Name p q3] [] q6) q4] scope cc cdv)
    (S : SupScope ["self", p] ["self", p] scope) (T : OexC K C) (hno : PySem.W.findIn K (.ref C) f = some none) (d1 : (p == ("__debug__" : Str)) = false) (c1 : (p == ("__classdict__" : Str)) = false) (d2 : (cf == ("__debug__" : Str)) = false)
    (hcf : FnAtC P w K mg base k cf) (g2 : scope.names.lookup cf = some .globalImplicit)
    (he : ∀ env : Env, eval (.Call (.Attribute (.Call (.Name "super" p0) [] [] p1) "__init__" apos) [.Constant (.str tx) j tpos] [] cpos) env = (do
      let ov ← attributeBase (.Call (.Name "super" p0) [] [] p1) "__init__" env (eval (.Call (.Name "super" p0) [] [] p1) env)
      standAt apos.atName
      let (f, first) ← holding [ov] (getMethod ov "__init__" pl)
      callWith cpos f first (backTo cpos (starEach [.Constant (.str tx) j tpos] env)) [])) :
    FnOk P w K mg base (L2N.CX P w) (k + 1) fI fd ["self", p] (spB K C f) :=
  fn_sup (ps := [p]) (N := ["self", p]) SK S T he (fun vs H Q E ⟨a, y, e, _⟩ => by rw [e]; rfl) fun A outer s H vs Q E hr h => by
    obtain ⟨a, y, rfl, ha, hy, q⟩ := h
    obtain ⟨fc, fcd, v, m1, m2, m3, m4⟩ := hcf.ex
    refine ⟨⟨a, rfl, ha⟩, ?_⟩
    refine ⟨_, pss_one (ps_ost (pe_var (i := 0) rfl (.inl (S.par _ (by simp)))) (pe_call (X := cxS (L2N.CX P w) P w K mg base ["self", p] qual scope fI cdv cc A outer s H E) (sp := spFC K) m4 hr g2 m1 m2 m3 .nil passes_no (pa_cons (pe_var (i := 1) rfl (.inl (S.par _ (by simp))) d1 c1) pa_nil) d2) (by rfl)), ?_⟩
    exact ⟨y, rfl, y, rfl, hy, .ref a, rfl, a, C, rfl, T, hno, .inl ⟨ha, fun dx h1 h2 => q dx h1 h2⟩⟩
/-- C may be raised: its field f keeps a copy -/
structure RaisesB (P : Program) (w : World) (K : PySem.W.Frag) (mg : Str → Option Value) (base : Heap) (k : Nat) (c f : Str) : Prop where
  ex : ∃ (fI : Addr) (fd : FuncData) (p : Str), OexC K (ga K c) ∧ PySem.W.findIn K (.ref (ga K c)) "__init__" = some (some (.ref fI)) ∧ PySem.W.typeIn K (.ref fI) = some (.type "function") ∧
    FnOk P w K mg base (L2N.CX P w) k fI fd ["self", p] (spB K (ga K c) f) ∧ Binds K fd ["self", p] [] ∧ mg c = some (.ref (ga K c))
theorem raisesB_of {file cf : Str} {d : SupD} {f p tx : Str} {p0 p1 apos cpos epos tpos q1 q2 q3 q4 q5 q6 : Pos} {j : Nat} {pl : Sem Bool} (hf : P.main.file = file) (ht : (P.main.scope.names.lookup ("super" : Str)).isSome = false)
    (hh : ∃ ar : Arg, (d.params.posonlyargs ++ d.params.args).head? = some ar ∧ ar.arg = ("self" : Str)) (e : supW K d.cls = d.val) (h : supB K file d = true) (hno : PySem.W.findIn K (.ref (ga K d.cls)) f = some none) (hm : mg d.cls = some (.ref (ga K d.cls)))
    (hbody : d.body = [.Expr (.Call (.Attribute (.Call (.Name "super" p0) [] [] p1) "__init__" apos) [.Constant (.str tx) j tpos] [] cpos) epos, .Assign [.Attribute (.Name "self" q1) f q2] (.Call (.Name cf q5) [.Name p q3] [] q6) q4])
    (S : SupScope ["self", p] ["self", p] d.scope) (d1 : (p == ("__debug__" : Str)) = false) (c1 : (p == ("__classdict__" : Str)) = false) (d2 : (cf == ("__debug__" : Str)) = false) (hcf : FnAtC P w K mg base 1 cf) (g2 : d.scope.names.lookup cf = some .globalImplicit)
    (he : ∀ env : Env, eval (.Call (.Attribute (.Call (.Name "super" p0) [] [] p1) "__init__" apos) [.Constant (.str tx) j tpos] [] cpos) env = (do
      let ov ← attributeBase (.Call (.Name "super" p0) [] [] p1) "__init__" env (eval (.Call (.Name "super" p0) [] [] p1) env)
      standAt apos.atName
      let (f, first) ← holding [ov] (getMethod ov "__init__" pl)
      callWith cpos f first (backTo cpos (starEach [.Constant (.str tx) j tpos] env)) []))
    (hb : ∀ (kV doc pm : Value) (an : Option Addr) (cdv ct : Value) (cc : Addr) (us : List Value), us.length = 2 → bindArgs (PySem.W.ksFn d.name d.qual d.params d.body d.scope .none kV doc pm an cdv ct cc) ⟨us, []⟩ = pure ((["self", p] : List Str).zip us)) :
    RaisesB P w K mg base 2 d.cls f := by
  obtain ⟨fd, cc, cdv, SK, oc, xc, iC, tI, kV, doc, pm, an, ct, efd⟩ := sup_ok hf ht hh e h
  rw [hbody] at SK
  refine ⟨_, fd, p, oc, iC, tI, fn_rB (k := 1) SK S oc hno d1 c1 d2 hcf g2 he, ?_, hm⟩
  subst efd
  exact .all (hb kV doc pm an cdv ct cc)
theorem fnAtC {k' : Nat} {x qual v : Str} {params : Arguments} {scope : Scope} {kws : List (Str × V)} {f : Addr} {fd : FuncData} {N : List Str} {p1 p2 p3 p4 p5 p6 p7 p8 p9 p10 p11 p12 : Pos} {s1 s2 : List Stmt} {body : List Stmt}
    (F : FunD K x qual params body scope [] kws f fd) (eb : body = [.If (.Call (.Name "isinstance" p1) [.Name v p2, .Name "list" p3] [] p4) s1 [] p5, .If (.Call (.Name "isinstance" p6) [.Name v p7, .Name "dict" p8] [] p9) s2 [] p10, .Return (some (.Name v p11)) p12])
    (S : FnScope N [v] scope) (hv1 : (v == ("__debug__" : Str)) = false) (hv2 : (v == ("__classdict__" : Str)) = false) (g1 : scope.names.lookup ("isinstance" : Str) = some .globalImplicit) (m1 : mg ("isinstance" : Str) = none) (g2 : scope.names.lookup ("list" : Str) = some .globalImplicit) (m2 : mg ("list" : Str) = none) (g3 : scope.names.lookup ("dict" : Str) = some .globalImplicit) (m3 : mg ("dict" : Str) = none)
    (hm : mg x = some (.ref f)) (hb : Binds K fd [v] []) (hk : 1 ≤ k') : FnAtC P w K mg base k' x := by
  subst eb
  exact ⟨f, fd, v, hm, F.kp, hb, (fn_fc (k := 0) F S hv1 hv2 g1 m1 g2 m2 g3 m3).mono hk⟩
end
/-- raise C(e), C's field a copy of a value that is no list and no dict -/
def dRaiseB (c f : Str) (fe : ME) : MS := fun δ Λ => sR δ (fe δ Λ) fun y Λ1 => if flatFC y = true then .ex δ c (some Λ1.length) (Λ1 ++ [.xd [(f, y)]]) else .bad
section
variable {G : GX} {es : List Expr} {e : Expr} {fe : ME}
theorem j1_raiseB {c f : Str} {k1 : Nat} {xp pos rpos : Pos} (h : RaisesB G.P G.w G.K G.mg G.base k1 c f) (hk : k1 + 1 ≤ G.k) (hg : G.sc.names.lookup c = some .globalImplicit) (ha : JE G e fe)
    (hdb : (c == ("__debug__" : Str)) = false) (he : ∀ env : Env, starEach [e] env = (false, eval e env) :: starEach [] env) (hc : G.hx = none := by rfl) :
    J1 G (.Raise (some (.Call (.Name c xp) [e] [] pos)) none rpos) (dRaiseB c f fe) := fun X F W tk => by
  obtain ⟨fI, fd, p, T, iC, tI, F1, hb, hm⟩ := h.ex
  have frm : Room (k1 + 1) X.A := Room.mono ⟨F.hd hc, F.room.dp, F.room.un⟩ hk
  have fP := F.hP; have fw := F.hw; have fK := F.hK; have fmg := F.hmg; have fb := F.hbase
  have F1' : FnOk X.prog X.w X.K X.mg X.base (L2N.CX X.prog X.w) k1 fI fd ["self", p] (spB G.K (He.ga G.K c) f) := by rw [fP, fw, fK, fmg, fb]; exact F1
  refine ps_imp (L2N.ps_raise (F.calm hc) tk (pmk_oexN (by rw [fK]; exact T) (by rw [fK]; exact iC) (by rw [fK]; exact tI) F1' frm (by rw [fK]; exact hb) (L2N.passes_call tk fun _ _ _ _ z => False.elim z) (gl_of F hg) (by rw [fmg]; exact hm) (pa_cons (ha X F W tk) pa_nil (he _)) hdb (he _) (by rfl))) fun D σ H ⟨ρ, δ, Λ, r, v, q⟩ => ?_
  refine ⟨ρ, δ, Λ, r, v, (sR_post v q).imp fun y H1 ⟨a, Λ1, ρ1, e1, r1, t1, v1, p1⟩ => ?_⟩
  by_cases hfl : flatFC a = true
  · rw [if_pos hfl] at p1
    refine ⟨by simp, fun ax hax => ⟨ax, y, rfl, upd_same, noLD_of t1 hfl hax, fun dx hd hne => ⟨rfl, dx, [(f, y)], upd_same, ?_, ?_, ?_⟩⟩⟩
    · rw [upd_ne hne, upd_same]
    · rw [upd_ne hne] at hd; exact hd
    · have hd1 : H1 dx = none := by rw [upd_ne hne] at hd; exact hd
      have eq : upd (del (upd (upd (upd H1 ax (exo ax (He.ga G.K c) none)) dx (exd dx [(f, y)])) ax (exo ax (He.ga G.K c) (some dx))) ax) dx (.xd [(f, y)]) = upd H1 dx (.xd [(f, y)]) := by
        funext b
        by_cases h1 : b = dx
        · subst h1; rw [upd_same, upd_same]
        · rw [upd_ne h1, upd_ne h1]
          by_cases h2 : b = ax
          · subst h2; rw [del_same, hax]
          · rw [del_ne h2, upd_ne h2, upd_ne h1, upd_ne h2]
      rw [eq]
      obtain ⟨rD, eD, hn⟩ := r1.alloc (u := .xd [(f, y)]) (o := .xd [(f, a)]) hd1 (.cons ⟨rfl, t1⟩ .nil)
      exact p1 _ σ _ (some dx) eD rD (v1.mono eD) ⟨dx, hn, rfl⟩
  · rw [if_neg hfl] at p1
    exact p1.elim
end
end NP

set_option Elab.async false
set_option linter.all false
set_option maxRecDepth 100000
set_option maxHeartbeats 1000000
/-! NPX12: a dict is no list. -/
namespace PySem
open PyProof.V PyProof.Rows PySem.Spec
theorem list_eq_declines_dict (l b : Addr) (items : Array Value) (n : Nat) (dd : Option Addr) (sl : Array (Option Value)) (o : Obj) (hc : o.cls = .type "dict") :
    Meets (Builtin.«list.__eq__» ⟨[.ref l, .ref b], []⟩) (fun _ R s => s.heap.get? l = some { cls := .type "list", dict := dd, data := .seq items n, slots := sl } ∧ s.heap.get? b = some o ∧ R (.ok (.ret .notImplemented)) s) :=
  .of_wp fun prog w A R s h => by
    obtain ⟨hp, g, d, tk, os⟩ := s
    obtain ⟨hl, hb, h⟩ := h
    obtain ⟨cls, dd2, data2, sl2⟩ := o
    simp only at hc
    subst hc
    have f1 := F.sub_dict_list
    wp_walk using wpAny_loadPart' hl, wpAny_loadPart' hb
    exact ⟨_, rfl, h⟩
end PySem
namespace PySem.W
open PySem PySem.Calls PyProof.Rows PyProof.V PySem.Spec
section
variable {prog : Program} {w : World} {K : Type} [DecidableEq K] {knd : KeyKind prog w K} {A : Around} {E : Value → Shared → Prop} {s : Shared}
theorem dict_eq_list {a b : Addr} {ka : List (K × Value)} {items : Array Value} {n : Nat} {Q : Value → Shared → Prop} (da : s.heap.DictOf knd a ka) (hb : s.heap.get? b = some { cls := .type "list", data := .seq items n })
    (hu : A.units < cLine) (h : Q (.bool false) s) : wpAny (model prog w) A (compareOp .Eq (.ref a) (.ref b)) Q E s := by
  have hT : s.TypeIs (.ref b) "list" := ⟨_, hb, rfl⟩
  obtain ⟨oa, es, ep, hoa, hex, _⟩ := id da
  have hab : a ≠ b := fun e => by
    subst e
    rw [hoa] at hb
    cases hb
    exact absurd hex.1 (by simp)
  have hl : ∀ Q' : Value → Shared → Prop, Q' .notImplemented s → wpAny (model prog w) A (call (.builtin "list.__eq__") [.ref b, .ref a]) Q' E s := fun Q' hq =>
    call_meets F.slot_list_eq_refl ⟨_, hb, rfl⟩ F.entry_list_eq (F.args_list_eq_2 _ _) (list_eq_declines_dict b a items n _ _ oa hex.1) ⟨hb, hoa, hq⟩
  have key : ∀ Q' : Value → Shared → Prop, Q' .notImplemented s → wpAny (model prog w) A (call (.builtin "dict.__eq__") [.ref a, .ref b]) Q' E s := fun Q' hq => by
    refine wpAny_call_entry PySem.F.slot_dict_eq da.typeIs PySem.F.entry_dict_eq ?_ (PySem.F.args_dict_eq_2 _ _)
    show wpAny _ _ (Builtin.Dict.dictSlotArgs "__eq__" ⟨[.ref a, .ref b], []⟩ >>= _) _ _ s
    refine wpAny_bind ?_
    unfold Builtin.Dict.dictSlotArgs
    refine wpAny_bind (wpAny_notOrdered_dict da.typeIs ?_)
    show wpAny _ _ (pure (Value.ref a, Value.ref b)) _ _ s
    refine wpAny_pure ?_
    refine wpAny_bind (wpAny_isInstance (T := "list") hT PySem.F.sub_list_dict ?_)
    simp only [Bool.not_false, if_true]
    exact wpAny_bind (wpAny_rule (wpAny_pure ⟨_, rfl, hq⟩))
  show wpAny _ _ (richCompare .Eq _ _) _ _ s
  exact SeqAt.rc_eq_decline_or (k := false) da.typeIs hT (by decide) F.sub_list_dict F.slot_dict_eq F.slot_list_eq_refl key hl (fun _ hq => wpAny_isSame_ref_other hab hoa hb (by rw [hex.1]; simp) hq) (.inr hu) h
end
end PySem.W
namespace NP
open PySem PySem.Spec PyProof.Rows L2
section
variable {X : Cx}
def rEqDl : R2 := fun x y H Q => ∃ a b ks ls, x = .ref a ∧ y = .ref b ∧ H a = some (.dK ks) ∧ H b = some (.lst ls) ∧ Q (.bl false) H
theorem op_eqDl (hu : X.A.in1.units + 64 < cLine) : OpR X (compareOp .Eq) rEqDl := by
  intro pins s σ H x y v u Q I rx ry h
  obtain ⟨a, b, ks, ls, rfl, rfl, ea, eb, q⟩ := h
  obtain rfl : v = Value.ref a := rx
  obtain rfl : u = Value.ref b := ry
  obtain ⟨_, ya, va, ra, da⟩ := (show ObjOk X.prog X.w H s.heap a (.dK ks) from I.hok a _ ea)
  obtain ⟨_, its, n, _, hb⟩ := (show ObjOk X.prog X.w H s.heap b (.lst ls) from I.hok b _ eb)
  exact PySem.W.dict_eq_list (knd := mixKind X.prog X.w) da hb (by show X.A.units < cLine; have : X.A.in1.units = X.A.units + 1 := rfl; omega) (fin_bl I q rfl)
end
end NP

set_option Elab.async false
set_option linter.all false
set_option maxRecDepth 100000
set_option maxHeartbeats 1000000
/-! NPX11: dicts compared, whatever plain data their values are. -/
namespace NP
open PySem PySem.Spec PyProof.Rows L2
/-- the values of a dict as data -/
def DKs (K : PySem.W.Frag) (H : Hp) : List (Key × V) → List (Key × PyData) → Prop := Paired fun p q => p.1 = q.1 ∧ Dp K H p.2 q.2 ∧ SeqAt.shaped q.2 = true
def lookP (ds : List (Key × PyData)) (k : Key) : Option PyData := (ds.find? fun p => decide (p.1 = k)).map (·.2)
def eqDk (es : List (Key × PyData)) : List (Key × PyData) → Bool
  | [] => true
  | p :: r => match lookP es p.1 with
    | some d => PyData.eqv p.2 d && eqDk es r
    | none => false
def eqDD (ds es : List (Key × PyData)) : Bool := ds.length == es.length && eqDk es ds
theorem look_dks {K : PySem.W.Frag} {H : Hp} {ls : List (Key × V)} {vb : List (Key × Value)} {es : List (Key × PyData)} (k : Key) (rb : KV ls vb) : DKs K H ls es →
    (valueAt vb k = none ∧ lookP es k = none) ∨ ∃ y u d, valueAt vb k = some y ∧ lookP es k = some d ∧ RelV u y ∧ Dp K H u d ∧ SeqAt.shaped d = true := by
  unfold KV at rb
  unfold DKs
  induction rb generalizing es with
  | nil => intro h; cases h; exact .inl ⟨rfl, rfl⟩
  | @cons p q ps qs hq t ih =>
    intro h
    cases h with
    | @cons _ e _ es' he t' =>
      obtain ⟨pk, pv⟩ := p
      obtain ⟨qk, qv⟩ := q
      obtain ⟨ek, ev⟩ := e
      obtain ⟨h1, h2⟩ := hq
      obtain ⟨h3, h4, h5⟩ := he
      cases h1
      cases h3
      by_cases hk : pk = k
      · exact .inr ⟨qv, pv, ev, by simp [valueAt, hk], by simp [lookP, hk], h2, h4, h5⟩
      · have e1 : valueAt ((pk, qv) :: qs) k = valueAt qs k := by simp [valueAt, hk]
        have e2 : lookP ((pk, ev) :: es') k = lookP es' k := by simp [lookP, hk]
        rw [e1, e2]
        exact ih t'
section
variable {X : Cx}
theorem hitsD {pins : List (Addr × Obj)} {σ : L2.St} {H : Hp} {s : Shared} {ls : List (Key × V)} {vb : List (Key × Value)} {es : List (Key × PyData)} (I : Inv X pins σ H s) (rb : KV ls vb) (hb : DKs X.K H ls es) (hu : X.A.in1.units + 64 < cLine) {ks : List (Key × V)} {va : List (Key × Value)} {ds : List (Key × PyData)} (ra : KV ks va) : DKs X.K H ks ds →
    PySem.W.KeqHits X.A.in1 s vb va (eqDk es ds) := by
  unfold KV at ra
  unfold DKs
  induction ra generalizing ds with
  | nil => intro h; cases h; exact .nil
  | @cons p q ps qs hq t ih =>
    intro h
    cases h with
    | @cons _ e _ es' he t' =>
      obtain ⟨pk, pv⟩ := p
      obtain ⟨qk, qv⟩ := q
      obtain ⟨ek, ev⟩ := e
      obtain ⟨h1, h2⟩ := hq
      obtain ⟨h3, h4, h5⟩ := he
      cases h1
      cases h3
      unfold eqDk
      rcases look_dks pk rb hb with ⟨n1, n2⟩ | ⟨y, u, d, n1, n2, n3, n4, n5⟩
      · simp only [n2]
        exact .miss n1
      · simp only [n2]
        obtain ⟨as, r1⟩ := Dp.reads I ev pv qv h4 h2
        obtain ⟨bs, r2⟩ := Dp.reads I d u y n4 n3
        exact .hit n1 (PySem.W.keq_at r1 r2 h5 n5 hu) (ih t')
def rEqDk (K : PySem.W.Frag) : R2 := fun x y H Q => ∃ a b ks ls ds es, x = .ref a ∧ y = .ref b ∧ H a = some (.dK ks) ∧ H b = some (.dK ls) ∧ DKs K H ks ds ∧ DKs K H ls es ∧ Q (.bl (eqDD ds es)) H
def rNeDk (K : PySem.W.Frag) : R2 := fun x y H Q => ∃ a b ks ls ds es, x = .ref a ∧ y = .ref b ∧ H a = some (.dK ks) ∧ H b = some (.dK ls) ∧ DKs K H ks ds ∧ DKs K H ls es ∧ Q (.bl (!eqDD ds es)) H
theorem op_eqDk (hu : X.A.in1.units + 64 < cLine) : OpR X (compareOp .Eq) (rEqDk X.K) := by
  intro pins s σ H x y v u Q I rx ry h
  obtain ⟨a, b, ks, ls, ds, es, rfl, rfl, ea, eb, h1, h2, q⟩ := h
  obtain rfl : v = Value.ref a := rx
  obtain rfl : u = Value.ref b := ry
  obtain ⟨_, ya, va, ra, da⟩ := (show ObjOk X.prog X.w H s.heap a (.dK ks) from I.hok a _ ea)
  obtain ⟨_, yb, vb, rb, db⟩ := (show ObjOk X.prog X.w H s.heap b (.dK ls) from I.hok b _ eb)
  have l1 : va.length = ds.length := by rw [← ra.length]; exact Paired.length h1
  have l2 : vb.length = es.length := by rw [← rb.length]; exact Paired.length h2
  exact PySem.W.keq_eq (knd := mixKind X.prog X.w) ya yb da db (by show X.A.units < cLine; have : X.A.in1.units = X.A.units + 1 := rfl; omega) (fun _ => hitsD I rb h2 hu ra h1) (fin_bl I q (by unfold eqDD; rw [l1, l2]))
theorem op_neDk (hu : X.A.in1.units + 64 < cLine) : OpR X (compareOp .NotEq) (rNeDk X.K) := by
  intro pins s σ H x y v u Q I rx ry h
  obtain ⟨a, b, ks, ls, ds, es, rfl, rfl, ea, eb, h1, h2, q⟩ := h
  obtain rfl : v = Value.ref a := rx
  obtain rfl : u = Value.ref b := ry
  obtain ⟨_, ya, va, ra, da⟩ := (show ObjOk X.prog X.w H s.heap a (.dK ks) from I.hok a _ ea)
  obtain ⟨_, yb, vb, rb, db⟩ := (show ObjOk X.prog X.w H s.heap b (.dK ls) from I.hok b _ eb)
  have l1 : va.length = ds.length := by rw [← ra.length]; exact Paired.length h1
  have l2 : vb.length = es.length := by rw [← rb.length]; exact Paired.length h2
  exact PySem.W.keq_ne (knd := mixKind X.prog X.w) ya yb da db (by show X.A.units < cLine; have : X.A.in1.units = X.A.units + 1 := rfl; omega) (fun _ => hitsD I rb h2 hu ra h1) (fin_bl I q (by unfold eqDD; rw [l1, l2]))
end
/-- a dict's values as data -/
def dkItems (Λ : AH) (ks : List (Key × AV)) : Option (List (Key × PyData)) := allO (ks.map fun p => (toD Λ 12 p.2).map fun d => (p.1, d))
def dkDs (Λ : AH) (a : AV) : Option (List (Key × PyData)) := match a with
  | .ref m => match Λ[m]? with
    | some (.dk ks) => dkItems Λ ks
    | _ => none
  | _ => none
theorem dkItems_rep {K : PySem.W.Frag} {ρ : List Addr} {Λ : AH} {H : Hp} (r : Rep K ρ Λ H) {ks : List (Key × AV)} {vs : List (Key × V)} (t : RepKV K ρ H ks vs) : ∀ {ds : List (Key × PyData)}, dkItems Λ ks = some ds → DKs K H vs ds := by
  unfold RepKV at t
  unfold dkItems DKs
  induction t with
  | nil => intro ds h; cases h; exact .nil
  | @cons p q ps qs hq t ih =>
    intro ds h
    rw [List.map_cons] at h
    obtain ⟨d, ds', h1, h2, rfl⟩ := allO_cons h
    cases e : toD Λ 12 p.2 with
    | none => rw [e] at h1; cases h1
    | some d0 =>
      rw [e] at h1
      cases h1
      obtain ⟨w1, w2⟩ := dp_of r hq.2 e
      exact .cons ⟨hq.1.symm, w1, shaped_of (by decide) w2⟩ (ih h2)
theorem dkDs_rep {K : PySem.W.Frag} {ρ : List Addr} {Λ : AH} {H : Hp} (r : Rep K ρ Λ H) {a : AV} {x : V} {ds : List (Key × PyData)} (t : RepV K ρ H a x) (h : dkDs Λ a = some ds) : ∃ p vs, x = .ref p ∧ H p = some (.dK vs) ∧ DKs K H vs ds := by
  unfold dkDs at h
  split at h
  · split at h
    · rename_i e
      cases t with
      | ref ha =>
        obtain ⟨u, q1, q2⟩ := r.at' e ha
        cases u with
        | dK vs => exact ⟨_, vs, rfl, q1, dkItems_rep r q2 h⟩
        | _ => exact q2.elim
    · cases h
  · cases h
/-- a list -/
def isLstA (Λ : AH) : AV → Bool
  | .ref m => match Λ[m]? with
    | some (.lst _) => true
    | _ => false
  | _ => false
def gEqY : G2 := fun a b Λ => match dkDs Λ a with
  | some ds => match dkDs Λ b with
    | some es => some (.bl (eqDD ds es), Λ)
    | none => if isLstA Λ b = true then some (.bl false, Λ) else gEq a b Λ
  | none => gEq a b Λ
def gNeY : G2 := fun a b Λ => match dkDs Λ a, dkDs Λ b with
  | some ds, some es => some (.bl (!eqDD ds es), Λ)
  | _, _ => gNe a b Λ
section
variable {G : GX} {X : Cx}
theorem op_gEqY (F : G.Fit X) : OpR X (compareOp .Eq) (r2 G.K gEqY) := op_imp (OpR.or (op_eqDk (by have h := F.room.un; have : X.A.in1.units = X.A.units + 1 := rfl; omega)) (OpR.or (op_eqDl (by have h := F.room.un; have : X.A.in1.units = X.A.units + 1 := rfl; omega)) (op_gEq F))) fun x y H Q ⟨ρ, Λ, a, b, r, ta, tb, p⟩ => by
  unfold gEqY at p
  split at p
  · rename_i ds h1
    obtain ⟨p1, vs, rfl, q1, q2⟩ := dkDs_rep r ta h1
    rw [← F.hK] at q2
    split at p
    · rename_i es h2
      obtain ⟨p2, ws, rfl, q3, q4⟩ := dkDs_rep r tb h2
      rw [← F.hK] at q4
      exact .inl ⟨p1, p2, vs, ws, ds, es, rfl, rfl, q1, q3, q2, q4, p.same r (.bl _)⟩
    · split at p
      · rename_i hl
        unfold isLstA at hl
        split at hl
        · split at hl
          · rename_i e
            cases tb with
            | ref hb =>
              obtain ⟨us, q3, _⟩ := lst_at r hb e
              exact .inr (.inl ⟨p1, _, vs, us, rfl, rfl, q1, q3, p.same r (.bl _)⟩)
          · cases hl
        · cases hl
      · exact .inr (.inr ⟨ρ, Λ, a, b, r, ta, tb, p⟩)
  · exact .inr (.inr ⟨ρ, Λ, a, b, r, ta, tb, p⟩)
theorem op_gNeY (F : G.Fit X) : OpR X (compareOp .NotEq) (r2 G.K gNeY) := op_imp (OpR.or (op_neDk (by have h := F.room.un; have : X.A.in1.units = X.A.units + 1 := rfl; omega)) (op_gNe F)) fun x y H Q ⟨ρ, Λ, a, b, r, ta, tb, p⟩ => by
  unfold gNeY at p
  split at p
  · rename_i ds es h1 h2
    obtain ⟨p1, vs, rfl, q1, q2⟩ := dkDs_rep r ta h1
    obtain ⟨p2, ws, rfl, q3, q4⟩ := dkDs_rep r tb h2
    rw [← F.hK] at q2 q4
    exact .inl ⟨p1, p2, vs, ws, ds, es, rfl, rfl, q1, q3, q2, q4, p.same r (.bl _)⟩
  · exact .inr ⟨ρ, Λ, a, b, r, ta, tb, p⟩
end
end NP

set_option Elab.async false
set_option linter.all false
set_option maxRecDepth 100000
set_option maxHeartbeats 1000000
/-! NPX13: dict comprehensions whose keys are tuples (or ints and texts): DPut says what is laid. -/
namespace NP
open PySem PySem.Spec PyProof.Rows L2
section
variable {X : Cx}
/-- a comprehension's d[y] = v -/
theorem put_dictSet {P0 : List (Addr × Obj)} {τ : L2.St} {H H' : Hp} {s : Shared} {E : Value → Shared → Prop} {D : Addr} {y v : V} {u r : Value} {Q : Unit → Shared → Prop} (hr : X.A.units < cLine) (I : Inv X P0 τ H s) (p : DPut H D y v H') (ry : RelV y u) (rv : RelV v r)
    (h : ∀ s', Inv X P0 τ H' s' → Q () s') : wpAny (model X.prog X.w) X.A (dictSet D u r) Q E s := by
  rcases p with ⟨kvs, k, e, rfl, l, rfl⟩ | ⟨kvs, k, b, e, rfl, eb, l, rfl⟩
  · exact d_dictSet I e l ry rv h
  · obtain rfl : u = Value.ref b := ry
    obtain ⟨z, hd, xs, rel, dd⟩ := dt_of I.hok e
    have z1 : xs.length ≤ sizeLine := (Paired.length rel) ▸ z
    have z2 : (putK kvs k v).length ≤ sizeLine := Nat.le_trans (length_putK kvs k v) l
    refine wpAny_dictSet_heap (hsz := z1) (show (tupleKind (mixKind X.prog X.w)).room X.A from hr) (key_of I.hok eb) dd fun h' dd' sb => h _ ?_
    obtain ⟨q, es, ep, g1, g2, g3, g4, _, g5⟩ := dd'
    have hb : b ≠ D := fun z => by rw [z, e] at eb; cases eb
    refine d_write I (by rw [e]; trivial) sb ⟨q, g1⟩ ⟨z2, hd, _, KT.keeps (rel.put k eb rv) (fun c ys ec => ?_), q, es, ep, g1, g2, g3, g4, g5⟩
    by_cases hcD : c = D
    · rw [hcD, e] at ec; cases ec
    · rw [upd_ne hcD]; exact ec
/-- a dict comprehension; o0: the dict it begins with -/
def tDcG (o0 : HO) (wi : TI) (g : TG) (tt : TT) (tk tv : TE) (vs : List Nat) : TE := fun τ H Q => wi τ H fun J H1 => ∀ D, H1 D = none → ∃ W : Nat → Nat → Hp → Prop, (∃ m, W 0 m (upd H1 D o0)) ∧
  ∀ i m H, W i m H → (J.stop i H ∧ Q (.ref D) H) ∨ (J.go i H ∧ ∃ N : Hp → Prop, (∀ H', N H' → ∃ m', m' < m ∧ W (i + 1) m' H') ∧
    ∀ x H', J.yld i H x H' → g x (wipe τ vs) H' fun τ2 H2 => wipe τ2 vs = wipe τ vs ∧ tt τ2 H2 fun b H3 => (b = true → tk τ2 H3 fun y H4 => tv τ2 H4 fun z H5 => ∃ H6, DPut H5 D y z H6 ∧ N H6) ∧ (b = false → N H3))
variable {kx vx tg iter : Expr} {ifs : List Expr} {scope : Scope} {own : List (Str × Nat)} {wi : TI} {g : TG} {tt : TT} {tk tv : TE} {o0 : HO}
/-- what each part of the block does, wherever its frame lies -/
structure Parts (X : Cx) (kx vx tg : Expr) (ifs : List Expr) (scope : Scope) (g : TG) (tt : TT) (tk tv : TE) : Prop where
  pg : ∀ (s : Shared) (H : Hp) (C : Addr) (cl : List (Str × Addr)) (fp : List Addr), PG (X.blk s H scope (compEnvC scope cl C X.env) fp) tg g
  pt : ∀ (s : Shared) (H : Hp) (C : Addr) (cl : List (Str × Addr)) (fp : List Addr), PTs (X.blk s H scope (compEnvC scope cl C X.env) fp) ifs tt
  pk : ∀ (s : Shared) (H : Hp) (C : Addr) (cl : List (Str × Addr)) (fp : List Addr), PE (X.blk s H scope (compEnvC scope cl C X.env) fp) kx tk
  pv : ∀ (s : Shared) (H : Hp) (C : Addr) (cl : List (Str × Addr)) (fp : List Addr), PE (X.blk s H scope (compEnvC scope cl C X.env) fp) vx tv
theorem dcg_core {P0 : List (Addr × Obj)} {s : Shared} {σ : L2.St} {H : Hp} {Q : VK} {pos pos' : Pos} {use : Option (Value → Sem Unit)} {Qf : Value → Shared → Prop} (h0 : o0 = .dK [] ∨ o0 = .dT []) (hu : X.A.units < cLine)
    (hc : X.calm = true) (hN : X.N.Nodup) (I : Inv X P0 σ H s) (hi : PI X tg iter wi) (ok : BlkOk X.N X.env.scope scope own) (B : Parts X kx vx tg ifs scope g tt tk tv) (hs : ∀ x, foldedSetIterable iter X.env x = pure x)
    (h : tDcG o0 wi g tt tk tv (own.map (·.2)) σ H Q)
    (hend : ∀ D C s' m H', Inv X P0 σ H' s' → Q (.ref D) H' → s'.heap.Ns C m → FpOk X P0 H' C → compPost (model X.prog X.w) X.A X.xe use Qf (.ref D) C (.ok .next) s') :
    wpAny (model X.prog X.w) X.A (comprehension (.DictComp kx vx [⟨tg, iter, ifs, 0⟩] scope pos) scope X.env pos' newDict false (eval iter X.env) use) Qf X.xe s := by
  refine wpAny_comprehension_free (use := use) rfl hs (closure_ok fun y hy e => I.ok.has _ (ok.free y hy e)) ok.kind (fun y hy e => by rw [ok.uniq y hy, e]) (thn (hi.run P0 s σ H _ I h) fun _ _ hx => thn hx fun itv s2 ⟨it, fp, tn, J, H2, ei, I2, T, st2, f2, q⟩ => ?_)
  subst ei
  refine wpAny_newObj_type (newEnv_comp ?_)
  obtain ⟨D, hD⟩ : ∃ D, D = s2.heap.objs.size := ⟨_, rfl⟩
  rw [← hD]
  obtain ⟨W, ⟨m0, w0⟩, turn⟩ := q D (I2.hok.fresh (Nat.le_of_eq hD.symm))
  obtain ⟨s3, e3⟩ : ∃ s3 : Shared, s3 = { s2 with heap := s2.heap.push { cls := .type "dict", data := .dict #[] } } := ⟨_, rfl⟩
  have grow : ∀ b o, s2.heap.get? b = some o → s3.heap.get? b = some o := fun b o e => by rw [e3]; exact Heap.get?_push_of_some _ e
  have I3 : Inv X P0 σ (upd H2 D o0) s3 := by
    have new : ObjOk X.prog X.w (upd H2 D o0) s3.heap D o0 := by
      rw [hD, e3]
      rcases h0 with rfl | rfl
      · exact dk_empty s2.heap I2.big
      · exact dt_empty s2.heap I2.big
    rw [e3] at new ⊢
    exact I2.laid (t' := s2.toks) (fun b o e => Heap.get?_push_of_some _ e) (Nat.le_of_eq hD.symm) new
  have low : ∀ b ∈ fp, FpOk X P0 (upd H2 D o0) b ∧ b < s3.heap.objs.size := fun b hb => by
    obtain ⟨o, e, _⟩ := T.obj _ _ st2 b hb
    have l1 := Heap.lt_size e
    have ne : b ≠ D := fun z => by rw [z, hD] at l1; exact Nat.lt_irrefl _ l1
    exact ⟨⟨(upd_ne ne).trans (f2 b hb).1, (f2 b hb).2⟩, Heap.lt_size (grow b o e)⟩
  obtain ⟨H3, eH3⟩ : ∃ H3, H3 = upd H2 D o0 := ⟨_, rfl⟩
  rw [← eH3] at I3 low w0
  have I4 := block_start I3 ok hN low
  obtain ⟨C, eC⟩ : ∃ C, C = s3.heap.objs.size := ⟨_, rfl⟩
  obtain ⟨cl, ecl⟩ : ∃ cl, cl = cellsFrom (C + 1) scope.names (cloFrom X.env.cells scope.names []) := ⟨_, rfl⟩
  rw [← eC, ← ecl] at I4
  have pg := B.pg s3 H3 C cl fp
  have pt := B.pt s3 H3 C cl fp
  have pk := B.pk s3 H3 C cl fp
  have pv := B.pv s3 H3 C cl fp
  have loc : (compEnvC scope cl C X.env).locals = C := rfl
  obtain ⟨ce, ece⟩ : ∃ ce, ce = compEnvC scope cl C X.env := ⟨_, rfl⟩
  rw [← ece] at I4 pg pt pk pv loc
  obtain ⟨s4, e4⟩ : ∃ s4 : Shared, s4 = { s3 with heap := pushCells (s3.heap.push { cls := .type "dict", data := .dict #[] }) scope.names } := ⟨_, rfl⟩
  rw [← e4] at I4
  have st4 : tn 0 s4.heap := T.keep _ _ _ st2 fun b _ o e => by rw [e4]; exact pushCells_keeps _ _ _ _ (Heap.get?_push_of_some _ (grow b o e))
  have none4 : ∀ b ∈ fp, H3 b = none := fun b hb => (low b hb).1.1
  have stat : ∀ {τ : L2.St} {H' : Hp} {s' : Shared}, Inv (X.blk s3 H3 scope ce fp) [] τ H' s' → (∀ b ∈ fp, H' b = none) → ∀ b ∈ fp, FpOk (X.blk s3 H3 scope ce fp) [] H' b := fun {τ H' s'} J hn b hb =>
    ⟨hn b hb, (J.ok.exf b hb).1, J.ok.exfs b hb, .inl hb, fun x c e => (J.ok.exf b hb).2 x c e, fun p hp => by cases hp⟩
  have loop : codeAny (model X.prog X.w) X.A (.compLoop (.DictComp kx vx [⟨tg, iter, ifs, 0⟩] scope pos) 0 (.ref it) (.ref D) ce) (compPost (model X.prog X.w) X.A X.xe use Qf (.ref D) C) s4 := by
    refine compLoop_anyD (fun n s' => ∃ i H', Inv (X.blk s3 H3 scope ce fp) [] (wipe σ (own.map (·.2))) H' s' ∧ tn i s'.heap ∧ (∀ b ∈ fp, H' b = none) ∧ W i n H') ?_ m0 ⟨0, H3, I4, st4, none4, w0⟩
    rintro n s5 ⟨i, H5, I5, st5, n5, w5⟩
    rcases turn i n H5 w5 with ⟨stop, qq⟩ | ⟨go, N, hdown, step⟩
    · refine thnF (T.done (X.blk s3 H3 scope ce fp) rfl rfl rfl hc i [] s5 _ H5 (fun _ _ => False) I5 (stat I5 n5) st5 stop) fun _ s6 ⟨hr, I6⟩ => ?_
      subst hr
      have fr : H5 C = none := by have z : H5 ce.locals = none := I6.free; rw [loc] at z; exact z
      obtain ⟨m, hm, _⟩ := I6.loc
      have hm : s6.heap.Ns ce.locals m := hm
      rw [loc] at hm
      have I7 := I3.call' (ch := fp) I6.os I6.base I6.hok I6.bare fun b hb => ⟨(low b hb).1.2.2.2.1, (low b hb).1.2.1, (low b hb).1.2.2.2.2.1, (low b hb).1.2.2.2.2.2⟩
      exact hend D C s6 m H5 I7 qq hm (I3.fpOk (Nat.le_of_eq eC.symm) fr)
    · refine thnF (T.item (X.blk s3 H3 scope ce fp) rfl rfl rfl hc i [] s5 _ H5 (fun _ _ => False) I5 (stat I5 n5) st5 go) fun _ s6 ⟨u, hr, h6⟩ => ?_
      subst hr
      refine thnF h6 fun _ s7 ⟨x, H7, I7, r7, y7, st7, n7⟩ => ?_
      have back : ∀ {τ : L2.St} {s' : Shared} {H' : Hp}, wipe τ (own.map (·.2)) = wipe σ (own.map (·.2)) → Inv (X.blk s3 H3 scope ce fp) ([] ++ pinsAt fp s7.heap) τ H' s' → N H' → ∃ m, m < n ∧ ∃ i H', Inv (X.blk s3 H3 scope ce fp) [] (wipe σ (own.map (·.2))) H' s' ∧ tn i s'.heap ∧ (∀ b ∈ fp, H' b = none) ∧ W i m H' := fun {τ s' H'} hw J hn => by
        obtain ⟨m', lt, w'⟩ := hdown H' hn
        have held : ∀ b ∈ fp, ∀ o, s7.heap.get? b = some o → s'.heap.get? b = some o ∧ H' b = none := fun b hb o e =>
          have z := J.pin (b, o) (List.mem_append_right _ (List.mem_append_right _ (mem_pinsAt hb e)))
          ⟨z.1, z.2.1⟩
        have len : (wipe σ (own.map (·.2))).length = τ.length := by rw [← hw, wipe_length]
        refine ⟨m', lt, i + 1, H', (J.unpinned (pins := [])).weak len (fun j v e => (wipe_some (by rw [hw]; exact e)).1), T.keep _ _ _ st7 fun b hb o e => (held b hb o e).1, fun b hb => ?_, w'⟩
        obtain ⟨o, e, _⟩ := T.obj _ _ st7 b hb
        exact (held b hb o e).2
      refine thnF (pg.run _ s7 _ H7 x u _ (I7.pinned (stat I7 n7) (T.obj _ _ st7)) r7 (step x H7 y7)) fun _ s8 ⟨τ8, H8, I8, hw8, q8⟩ => thnF (pt.run _ s8 τ8 H8 _ I8 q8) fun b s9 ⟨H9, I9, q9⟩ => ?_
      cases b with
      | false => exact back hw8 I9 (q9.2 rfl)
      | true =>
        refine thnF (pk.run _ s9 τ8 H9 _ I9 (q9.1 rfl)) fun _ s10 ⟨y, H10, I10, r10, q10⟩ => thnF (pv.run _ s10 τ8 H10 _ I10 q10) fun _ s11 ⟨z, H11, I11, r11, H12, hp, hn⟩ => ?_
        exact put_dictSet (X := X.blk s3 H3 scope ce fp) hu I11 hp r10 r11 fun s12 I12 => back hw8 I12 hn
  have fin := codeAny_compStart_dict loop (T.self X.A 0 _ _ _ st4 loop)
  subst ece ecl eC e4 e3
  exact fin
/-- as a value -/
theorem pe_dcg {pos : Pos} (h0 : o0 = .dK [] ∨ o0 = .dT []) (hu : X.A.units < cLine) (hc : X.calm = true) (hN : X.N.Nodup) (hi : PI X tg iter wi) (ok : BlkOk X.N X.env.scope scope own) (B : Parts X kx vx tg ifs scope g tt tk tv) (hs : ∀ x, foldedSetIterable iter X.env x = pure x) :
    PE X (.DictComp kx vx [⟨tg, iter, ifs, 0⟩] scope pos) (tDcG o0 wi g tt tk tv (own.map (·.2))) := ⟨fun P0 s σ H Q I h => by
  rw [arm_eval_DictComp]
  refine dcg_core h0 hu hc hN I hi ok B hs h fun D C s' m H' J q hn ⟨f0, f1, _, f3, f4, f5⟩ => ⟨m, hn, fun h'' sb => ?_⟩
  exact ⟨.ref D, H', J.turned (t' := s'.toks) (fun b o hb e => (sb.2 b hb).trans e) f0 f1 f3 f4 f5, rfl, q⟩⟩
theorem sw_dict {env : Env} {pos py : Pos} {y : Str} {l : Nat} {gs : List Comprehension} (hk : env.scope.kind = .function) (hy : env.scope.names.lookup y = some .local) (hl : (py.line == pos.line) = true) (hn : (scope.names.any fun (n, k) => n == y && (k == .local || k == .cell)) = false) :
    swapsWith (.DictComp kx vx gs scope pos) (some (.Name y py)) l env = pure true := by
  have h1 : env.kindOf y = some .local := hy
  have h2 : env.blockKind = .function := by unfold Env.blockKind; rw [hk]; rfl
  unfold swapsWith
  simp only [h2, h1, hn, Expr.pos, hl]
  rfl
/-- to a name -/
theorem ps_setDcg {i : Nat} {y : Str} {py pos spos : Pos} (h0 : o0 = .dK [] ∨ o0 = .dT []) (hu : X.A.units < cLine) (hc : X.calm = true) (hN : X.N.Nodup) (hy : X.N[i]? = some y) (hyl : X.env.scope.names.lookup y = some .local)
    (hsw : swapsWith (.DictComp kx vx [⟨tg, iter, ifs, 0⟩] scope pos) (some (.Name y py)) spos.line X.env = pure true) (hi : PI X tg iter wi) (ok : BlkOk X.N X.env.scope scope own) (B : Parts X kx vx tg ifs scope g tt tk tv) (hs : ∀ x, foldedSetIterable iter X.env x = pure x) :
    PS X (.Assign [.Name y py] (.DictComp kx vx [⟨tg, iter, ifs, 0⟩] scope pos) spos) (tAsg (tDcG o0 wi g tt tk tv (own.map (·.2))) (gName i)) := ⟨fun P0 s σ H D I h => by
  rw [exec_Assign_Name_used _ _ _ _ hsw]
  refine wpAny_bind (wpAny_standAt (wpAny_bind ?_))
  have h : tDcG o0 wi g tt tk tv (own.map (·.2)) σ H (fun x H1 => gName i x σ H1 D.nx) := h
  have core := dcg_core (pos := pos) (pos' := firstIterPos [⟨tg, iter, ifs, 0⟩] pos) (use := some (assign (.Name y py) X.env)) (Qf := fun _ s' => SP X P0 D .next s') h0 hu hc hN I hi ok B hs h fun L C s' m H' J q hn ⟨f0, f1, _, f3, f4, f5⟩ => by
    show wpAny _ _ (assign (.Name y py) X.env (.ref L)) _ _ _
    refine wpAny_assign_Name (store_ok2 (v := V.ref L) J hN hy (.inl hyl) rfl (fun s2 J2 ⟨a, sb, ha⟩ => ⟨m, hn.sameBut sb ?_, fun h3 sb3 => ?_⟩) (.inr hyl))
    · rcases ha with z | z
      · rw [z]; exact f1
      · exact fun e => f4 y a z e.symm
    · exact ⟨_, H', J2.turned (t' := s2.toks) (fun b o hb e => (sb3.2 b hb).trans e) f0 f1 f3 f4 f5, q⟩
  exact wpAny_bind (thn core fun _ s' hq => wpAny_pure (wpAny_pure hq))⟩
end
end NP

set_option Elab.async false
set_option linter.all false
set_option maxRecDepth 100000
set_option maxHeartbeats 1000000
/-! NPX14: dict comprehensions with tuple keys, over NP. -/
namespace NP
open PySem PySem.Spec PyProof.Rows L2
/-- o[y] = z for a dict with tuple keys -/
def putT (o : AO) (y z : AV) : Option AO := match o, y with
  | .dt acc, .tup xs => match keysA xs with
    | some k => if acc.length < sizeLine then some (.dt (putA acc k z)) else none
    | none => none
  | _, _ => none
noncomputable def dtL (n : Nat) (here : AH → Prop) (T : Tg) (ft : MT) (fk fv : ME) : List AV → AEnv → AH → Option AH
  | [], _, Λ => if here Λ then some Λ else none
  | x :: xs, δ, Λ => if here Λ then
      match setT T x δ with
      | some δ1 => match ft δ1 Λ with
        | .ok true Λ1 => match fk δ1 Λ1 with
          | .ok y Λ2 => match fv δ1 Λ2 with
            | .ok z Λ3 => match Λ3[n]? with
              | some o => match putT o y z with
                | some o' => dtL n here T ft fk fv xs δ (Λ3.set n o')
                | none => none
              | none => none
            | _ => none
          | _ => none
        | .ok false Λ1 => dtL n here T ft fk fv xs δ Λ1
        | _ => none
      | none => none
    else none
noncomputable def dtR (vs : List Nat) (T : Tg) (ft : MT) (fk fv : ME) (δ : AEnv) (src : Src) (Λ : AH) : R AV := match dtL Λ.length src.here T ft fk fv src.items (wipeA δ vs) (Λ ++ [.dt []]) with
  | some Λ2 => .ok (.ref Λ.length) Λ2
  | none => .bad
noncomputable def dDt2 (vs : List Nat) (fi : MI) (T : Tg) (ft : MT) (fk fv : ME) : ME := fun δ Λ => (fi δ Λ).bind (dtR vs T ft fk fv δ)
theorem putT_rep {K : PySem.W.Frag} {ρ : List Addr} {Λ : AH} {H : Hp} {n : Nat} {D : Addr} {o o' : AO} {y z : AV} {u w : V} (r : Rep K ρ Λ H) (hn : ρ[n]? = some D) (ho : Λ[n]? = some o) (ty : RepV K ρ H y u) (tz : RepV K ρ H z w) (h : putT o y z = some o') :
    ∃ H', DPut H D u w H' ∧ Rep K ρ (Λ.set n o') H' ∧ Ext ρ ρ H H' := by
  unfold putT at h
  split at h
  · rename_i acc xs
    split at h
    · rename_i k hk
      split at h
      · rename_i hl
        cases h
        obtain ⟨vs, q1, q2⟩ := dt_at r hn ho
        cases ty with
        | tup h1 h2 =>
          rw [keys_rep h2 hk] at h1
          obtain ⟨r6, e6⟩ := r.write (u := .dT (putK vs k w)) (o' := .dt (putA acc k z)) hn ho (RepKV.put q2 tz)
          exact ⟨_, .t q1 h1 (by rw [← Paired.length q2]; exact hl), r6, e6⟩
      · cases h
    · cases h
  · cases h
section
variable {G : GX} {iter kx vx tg : Expr} {ifs : List Expr} {fi : MI} {ft : MT} {fk fv : ME} {T : Tg} {scope : Scope} {own : List (Str × Nat)} {pos spos py : Pos}
theorem dt_read {W : WX} {σ : L2.St} {H : Hp} {Q : VK} (hc : G.hx = none) (hT : ∀ i ∈ T.slots, i ∈ own.map (·.2)) (h : tE G.K G.hx W (dDt2 (own.map (·.2)) fi T ft fk fv) σ H Q) :
    tDcG (.dT []) (tI G.K G.hx W fi) (tgTG G.K T) (tT G.K G.hx W0 ft) (tE G.K G.hx W0 fk) (tE G.K G.hx W0 fv) (own.map (·.2)) σ H Q := by
  obtain ⟨ρ, δ, Λ, r, v, p⟩ := h
  refine ⟨ρ, δ, Λ, r, v, ?_⟩
  unfold dDt2 at p
  cases hf : fi δ Λ with
  | bad => rw [hf] at p; exact p.elim
  | ex c m Λ' => rw [hf] at p; exact p
  | ok src Λ1 =>
    rw [hf] at p
    have p : Post G.K W σ (TV G.K) ρ H (dtR (own.map (·.2)) T ft fk fv δ src Λ1) Q := p
    intro ρ1 H1 J e1 r1 so D hD
    unfold dtR at p
    split at p
    · rename_i Λf hl
      obtain ⟨rD, eD, hn⟩ := r1.alloc (u := .dT []) (o := .dt []) hD (show RepKV _ _ _ _ _ from .nil)
      have vw := (v.mono e1).wipe hc (own.map (·.2))
      refine ⟨fun i m H' => m = src.items.length - i ∧ i ≤ src.items.length ∧ ∃ ρ' Λ', Ext (ρ1 ++ [D]) ρ' (upd H1 D (.dT [])) H' ∧ Rep G.K ρ' Λ' H' ∧ dtL Λ1.length src.here T ft fk fv (src.items.drop i) (wipeA δ (own.map (·.2))) Λ' = some Λf,
        ⟨_, rfl, Nat.zero_le _, _, _, Ext.refl _ _, rD, hl⟩, ?_⟩
      rintro i m H' ⟨rfl, hle, ρ', Λ', e', r', q'⟩
      have hD' := e'.get hn
      have e1' := eD.trans e'
      by_cases hi : i < src.items.length
      · rw [List.drop_eq_getElem_cons hi] at q'
        unfold dtL at q'
        split at q'
        · rename_i hh
          obtain ⟨go, yl⟩ := (so i ρ' Λ' H' e1' r' hh).1 hi
          split at q'
          · rename_i δ1 hset
            refine .inr ⟨go, fun H2 => ∃ ρ' Λ', Ext (ρ1 ++ [D]) ρ' (upd H1 D (.dT [])) H2 ∧ Rep G.K ρ' Λ' H2 ∧ dtL Λ1.length src.here T ft fk fv (src.items.drop (i + 1)) (wipeA δ (own.map (·.2))) Λ' = some Λf, fun H2 q => ⟨src.items.length - (i + 1), by omega, rfl, hi, q⟩, fun x H2 hy => ?_⟩
            obtain ⟨rfl, a, ha, ta⟩ := yl x H2 hy
            rw [List.getElem?_eq_getElem hi] at ha
            cases ha
            refine tg_run T r' (vw.mono e1') ta hset (fun i _ => by rw [hc]; rfl) fun σ2 v2 hw => ⟨(hw _ hT).trans (wipe_wipe fun _ h => h), ρ', δ1, Λ', r', v2, ?_⟩
            revert q'
            cases hft : ft δ1 Λ' with
            | bad => intro q'; cases q'
            | ex c m Λ2 => intro q'; cases q'
            | ok b Λ2 =>
              cases b with
              | false =>
                intro q' ρ2 u H3 e3 r3 t3
                subst t3
                exact ⟨(fun z => by cases z), fun _ => ⟨ρ2, Λ2, e'.trans e3, r3, q'⟩⟩
              | true =>
                intro q' ρ2 u H3 e3 r3 t3
                subst t3
                refine ⟨fun _ => ⟨ρ2, δ1, Λ2, r3, v2.mono e3, ?_⟩, fun z => by cases z⟩
                revert q'
                simp only
                cases hfk : fk δ1 Λ2 with
                | bad => intro q'; cases q'
                | ex c m Λ3 => intro q'; cases q'
                | ok y Λ3 =>
                  intro q' ρ4 u4 H4 e4 r4 t4
                  refine ⟨ρ4, δ1, Λ3, r4, v2.mono (e3.trans e4), ?_⟩
                  revert q'
                  simp only
                  cases hfv : fv δ1 Λ3 with
                  | bad => intro q'; cases q'
                  | ex c m Λ4 => intro q'; cases q'
                  | ok z Λ4 =>
                    intro q' ρ5 u5 H5 e5 r5 t5
                    simp only at q'
                    split at q'
                    · rename_i o ho
                      split at q'
                      · rename_i o' hput
                        obtain ⟨H6, dp, r6, e6⟩ := putT_rep r5 (e5.get (e4.get (e3.get hD'))) ho (t4.mono e5) t5 hput
                        exact ⟨H6, dp, ρ5, _, (((e'.trans e3).trans e4).trans e5).trans e6, r6, q'⟩
                      · cases q'
                    · cases q'
          · cases q'
        · cases q'
      · have hi' : i = src.items.length := by omega
        subst hi'
        rw [List.drop_length] at q'
        unfold dtL at q'
        split at q'
        · rename_i hh
          cases q'
          exact .inl ⟨(so _ ρ' _ H' e1' r' hh).2 rfl, p ρ' (.ref D) H' (e1.trans e1') r' (.ref hD')⟩
        · cases q'
    · exact p.elim
theorem parts_of {X : Cx} (F : G.Fit X) (hc : G.hx = none) (hg : JG (G.block scope) tg T) (ht : JTs (G.block scope) ifs ft) (hk : JE (G.block scope) kx fk) (hv : JE (G.block scope) vx fv) : Parts X kx vx tg ifs scope (tgTG G.K T) (tT G.K G.hx W0 ft) (tE G.K G.hx W0 fk) (tE G.K G.hx W0 fv) :=
  ⟨fun s H C cl fp => hg _ (F.toBlk scope s H C cl fp hc), fun s H C cl fp => ht _ (F.toBlk scope s H C cl fp hc) W0 takes0N, fun s H C cl fp => hk _ (F.toBlk scope s H C cl fp hc) W0 takes0N, fun s H C cl fp => hv _ (F.toBlk scope s H C cl fp hc) W0 takes0N⟩
theorem je_dt2 (hi : JI G iter fi) (ok : blkC G.N G.sc scope own = true) (hg : JG (G.block scope) tg T) (ht : JTs (G.block scope) ifs ft) (hk : JE (G.block scope) kx fk) (hv : JE (G.block scope) vx fv) (hT : ∀ i ∈ T.slots, i ∈ own.map (·.2))
    (hs : ∀ (env : Env) x, foldedSetIterable iter env x = pure x) (hc : G.hx = none := by rfl) : JE G (.DictComp kx vx [⟨tg, iter, ifs, 0⟩] scope pos) (dDt2 (own.map (·.2)) fi T ft fk fv) := fun X F W tk =>
  pe_imp (pe_dcg (.inr rfl) (by have := roomHu F.room; omega) (F.calm hc) F.nd (hi tg X F W tk) (by rw [F.hN, F.hsc]; exact blkOk_by ok) (parts_of F hc hg ht hk hv) (hs _)) fun σ H Q h => dt_read hc hT h
theorem j1_setDt2 {i : Nat} {y : Str} (hy : G.N[i]? = some y) (hyl : G.sc.names.lookup y = some .local) (hl : (py.line == pos.line) = true) (hna : (scope.names.any fun (n, k) => n == y && (k == .local || k == .cell)) = false)
    (hi : JI G iter fi) (ok : blkC G.N G.sc scope own = true) (hg : JG (G.block scope) tg T) (ht : JTs (G.block scope) ifs ft) (hk : JE (G.block scope) kx fk) (hv : JE (G.block scope) vx fv) (hT : ∀ i ∈ T.slots, i ∈ own.map (·.2))
    (hs : ∀ (env : Env) x, foldedSetIterable iter env x = pure x) (hkd : G.sc.kind = .function) (hc : G.hx = none := by rfl) : J1 G (.Assign [.Name y py] (.DictComp kx vx [⟨tg, iter, ifs, 0⟩] scope pos) spos) (dSet i (dDt2 (own.map (·.2)) fi T ft fk fv)) := fun X F W tk =>
  ps_imp (ps_setDcg (.inr rfl) (by have := roomHu F.room; omega) (F.calm hc) F.nd (by rw [F.hN]; exact hy) (by rw [F.hsc]; exact hyl) (sw_dict (by rw [F.hsc]; exact hkd) (by rw [F.hsc]; exact hyl) hl hna) (hi tg X F W tk) (by rw [F.hN, F.hsc]; exact blkOk_by ok) (parts_of F hc hg ht hk hv) (hs _))
    fun D σ H ⟨ρ, δ, Λ, r, v, p⟩ => by
      refine dt_read (W := W) hc hT ⟨ρ, δ, Λ, r, v, (sR_post v p).imp fun u H1 ⟨a, Λ1, ρ1, e1, r1, t1, v1, p1⟩ => ?_⟩
      exact p1 ρ1 _ H1 (Ext.refl _ _) r1 (v1.set (by rw [hc]; rfl) t1)
end
end NP

set_option Elab.async false
set_option linter.all false
set_option maxRecDepth 100000
set_option maxHeartbeats 1000000
/-! NPX15: x in a tuple of any data. -/
namespace NP
open PySem PySem.Spec PyProof.Rows L2
section
variable {X : Cx}
def rInTD (K : PySem.W.Frag) (neg : Bool) : R2 := fun x y H Q => ∃ d ds, Dp K H x d ∧ Dp K H y (.tuple ds) ∧ SeqAt.shaped d = true ∧ SeqAt.shaped (.tuple ds) = true ∧ Q (.bl (if neg = true then !ds.any fun z => PyData.eqv z d else ds.any fun z => PyData.eqv z d)) H
theorem op_inTD (hu : X.A.units + 65 < cLine) : OpR X (compareOp .In) (rInTD X.K false) := fun P0 s τ H x y v u Q I rx ry ⟨d, ds, hd, he, sd, se, q⟩ => by
  obtain ⟨as, r1⟩ := Dp.reads I d x v hd rx
  obtain ⟨bs, r2⟩ := Dp.reads I (.tuple ds) y u he ry
  exact SeqAt.in_tuple_reads r2 r1 (SeqAt.canLay_of_shaped se) (SeqAt.canLay_of_shaped sd) (room_in_shaped sd hu) ⟨.bl _, H, I, rfl, q⟩
theorem op_notInTD (hu : X.A.units + 65 < cLine) : OpR X (compareOp .NotIn) (rInTD X.K true) := fun P0 s τ H x y v u Q I rx ry ⟨d, ds, hd, he, sd, se, q⟩ => by
  obtain ⟨as, r1⟩ := Dp.reads I d x v hd rx
  obtain ⟨bs, r2⟩ := Dp.reads I (.tuple ds) y u he ry
  exact SeqAt.notIn_tuple_reads r2 r1 (SeqAt.canLay_of_shaped se) (SeqAt.canLay_of_shaped sd) (room_in_shaped sd hu) ⟨.bl _, H, I, rfl, q⟩
end
/-- the data of a tuple -/
def tupD (Λ : AH) : AV → Option (List PyData)
  | .tup xs => allO (xs.map (toD Λ 11))
  | .ct xs => allO (xs.map (toD Λ 11))
  | _ => none
def gInY : G2 := fun a b Λ => match tupD Λ b, toD Λ 12 a with
  | some ds, some d => some (.bl (ds.any fun z => PyData.eqv z d), Λ)
  | _, _ => gIn a b Λ
def gNotInY : G2 := fun a b Λ => match tupD Λ b, toD Λ 12 a with
  | some ds, some d => some (.bl (!ds.any fun z => PyData.eqv z d), Λ)
  | _, _ => gNotIn a b Λ
theorem tupD_toD {Λ : AH} {b : AV} {ds : List PyData} (h : tupD Λ b = some ds) : toD Λ 12 b = some (.tuple ds) := by
  unfold tupD at h
  split at h
  · rw [toD, h]; rfl
  · rw [toD, h]; rfl
  · cases h
section
variable {G : GX} {X : Cx}
theorem op_gInY (F : G.Fit X) : OpR X (compareOp .In) (r2 G.K gInY) := op_imp (OpR.or (op_inTD (by have := F.room.un; omega)) (op_gIn F)) fun x y H Q ⟨ρ, Λ, a, b, r, ta, tb, p⟩ => by
  unfold gInY at p
  split at p
  · rename_i ds d h1 h2
    obtain ⟨q1, q2⟩ := dp_of r tb (tupD_toD h1)
    obtain ⟨w1, w2⟩ := dp_of r ta h2
    rw [← F.hK] at q1 w1
    exact .inl ⟨d, ds, w1, q1, shaped_of (by decide) w2, shaped_of (by decide) q2, p.same r (.bl _)⟩
  · exact .inr ⟨ρ, Λ, a, b, r, ta, tb, p⟩
theorem op_gNotInY (F : G.Fit X) : OpR X (compareOp .NotIn) (r2 G.K gNotInY) := op_imp (OpR.or (op_notInTD (by have := F.room.un; omega)) (op_gNotIn F)) fun x y H Q ⟨ρ, Λ, a, b, r, ta, tb, p⟩ => by
  unfold gNotInY at p
  split at p
  · rename_i ds d h1 h2
    obtain ⟨q1, q2⟩ := dp_of r tb (tupD_toD h1)
    obtain ⟨w1, w2⟩ := dp_of r ta h2
    rw [← F.hK] at q1 w1
    exact .inl ⟨d, ds, w1, q1, shaped_of (by decide) w2, shaped_of (by decide) q2, p.same r (.bl _)⟩
  · exact .inr ⟨ρ, Λ, a, b, r, ta, tb, p⟩
end
theorem FnAtH.app {P : Program} {w : World} {K : PySem.W.Frag} {mg : Str → Option Value} {base : Heap} {k : Nat} {x : Str} {m : List AV → AH → R AV} (h : FnAtH P w K mg base k x m) : FnAtH P w K mg base k x (fun as => m (as ++ [])) := by
  have e : (fun as => m (as ++ [])) = m := by funext as; rw [List.append_nil]
  rw [e]; exact h
end NP

set_option Elab.async false
set_option linter.all false
set_option maxRecDepth 100000
set_option maxHeartbeats 1000000
/-! NPX16: list(range(a, b)); sorted of pairs of ints. -/
namespace NP
open PySem PySem.Spec PyProof.Rows L2
def lrgR (x y : AV) (Λ : AH) : R AV := match x, y with
  | .int i, .int j => if -(2 ^ 62) ≤ i ∧ i < 2 ^ 62 ∧ -(2 ^ 62) ≤ j ∧ j < 2 ^ 62 ∧ (j - i).toNat ≤ 2 ^ 24 then .ok (.ref Λ.length) (Λ ++ [.lst (rgA i (j - i).toNat)]) else .bad
  | _, _ => .bad
def dLrg (fa fb : ME) : ME := fun δ Λ => (fa δ Λ).bind fun x Λ1 => (fb δ Λ1).bind fun y Λ2 => lrgR x y Λ2
theorem rgV_rep {K : PySem.W.Frag} {ρ : List Addr} {H : Hp} {i j : Int} : RepVs K ρ H (rgA i (j - i).toNat) (rgV i j) := by
  unfold rgA rgV
  generalize (j - i).toNat = n
  induction List.range n with
  | nil => exact .nil
  | cons k ks ih => exact .cons (.int _) ih
section
variable {G : GX} {a b : Expr} {fa fb : ME} {p p2 pos pos2 : Pos}
theorem je_lrg (hl : G.sc.names.lookup ("list" : Str) = some .globalImplicit) (ml : G.mg ("list" : Str) = none) (hg : G.sc.names.lookup ("range" : Str) = some .globalImplicit) (mg : G.mg ("range" : Str) = none) (ha : JE G a fa) (hb : JE G b fb)
    (h1 : ∀ env : Env, starEach [a, b] env = (false, eval a env) :: starEach [b] env) (h2 : ∀ env : Env, starEach [b] env = (false, eval b env) :: starEach [] env) (h3 : ∀ env : Env, (backTo pos2 (starEach [b] env)).any (·.1) = false)
    (h4 : ∀ env : Env, starEach [Expr.Call (.Name "range" p2) [a, b] [] pos2] env = (false, eval (Expr.Call (.Name "range" p2) [a, b] [] pos2) env) :: starEach [] env) (hc : G.hx = none := by rfl) :
    JE G (.Call (.Name "list" p) [.Call (.Name "range" p2) [a, b] [] pos2] [] pos) (dLrg fa fb) := fun X F W tk => by
  refine pe_imp (pe_listRg (F.calm hc) (gl_of F hl) (by rw [F.hmg]; exact ml) (prg_2 (gl_of F hg) (by rw [F.hmg]; exact mg) (ha X F W tk) (hb X F W tk) (h1 _) (h2 _) (h3 _)) (h4 _)) fun σ H Q ⟨ρ, δ, Λ, r, v, q⟩ => ?_
  unfold dLrg at q
  refine ⟨ρ, δ, Λ, r, v, q.bind.imp fun x H1 ⟨a1, Λ1, ρ1, e1, r1, t1, p1⟩ => ⟨ρ1, δ, Λ1, r1, v.mono e1, p1.bind.imp fun y H2 ⟨b1, Λ2, ρ2, e2, r2, t2, p2⟩ => ?_⟩⟩
  unfold lrgR at p2
  split at p2
  · split at p2
    · rename_i hb
      have t1' := t1.mono e2
      cases t1'
      cases t2
      refine ⟨_, _, rfl, rfl, ⟨hb.1, hb.2.1, hb.2.2.1, hb.2.2.2.1, hb.2.2.2.2⟩, fun q hq => ?_⟩
      obtain ⟨r', e', hx⟩ := r2.alloc (u := .lst (rgV _ _)) (o := .lst (rgA _ _)) hq rgV_rep
      exact p2 _ _ _ e' r' (.ref hx)
    · exact p2.elim
  · exact p2.elim
end
/-! ### sorted(xs), xs a list of pairs of ints -/
def pairA : AV → Option (Int × Int)
  | .tup [.int i, .int j] => some (i, j)
  | _ => none
def pairsA (xs : List AV) : Option (List (Int × Int)) := allO (xs.map pairA)
def leP (a b : Int × Int) : Bool := !SrtO.lexB b a
def sortP (l : List (Int × Int)) : List (Int × Int) := l.mergeSort leP
theorem leP_iff {a b : Int × Int} : leP a b = true ↔ a.1 < b.1 ∨ (a.1 = b.1 ∧ a.2 ≤ b.2) := by
  unfold leP
  rw [Bool.not_eq_true', SrtO.lexB_no]
  omega
theorem leP_tr (a b c : Int × Int) (h1 : leP a b = true) (h2 : leP b c = true) : leP a c = true := by
  rw [leP_iff] at *
  omega
theorem leP_tot (a b : Int × Int) : (leP a b || leP b a) = true := by
  rw [Bool.or_eq_true, leP_iff, leP_iff]
  omega
theorem leP_anti {a b : Int × Int} (h1 : leP a b = true) (h2 : leP b a = true) : a = b := by
  rw [leP_iff] at *
  obtain ⟨a1, a2⟩ := a
  obtain ⟨b1, b2⟩ := b
  simp only [Prod.mk.injEq] at *
  omega
theorem sorted_uniq : ∀ {l m : List (Int × Int)}, l.Pairwise (fun a b => leP a b = true) → m.Pairwise (fun a b => leP a b = true) → l.Perm m → l = m
  | [], m, _, _, p => by rw [List.nil_perm.mp p]
  | a :: l, [], _, _, p => by cases List.perm_nil.mp p
  | a :: l, b :: m, h1, h2, p => by
    have ha : a ∈ b :: m := p.subset List.mem_cons_self
    have hb : b ∈ a :: l := p.symm.subset List.mem_cons_self
    have e : a = b := by
      rcases List.mem_cons.mp ha with e | ha
      · exact e
      · rcases List.mem_cons.mp hb with e | hb
        · exact e.symm
        · exact leP_anti ((List.pairwise_cons.mp h1).1 b hb) ((List.pairwise_cons.mp h2).1 a ha)
    subst e
    rw [sorted_uniq (List.pairwise_cons.mp h1).2 (List.pairwise_cons.mp h2).2 ((List.perm_cons a).mp p)]
theorem sortP_sorted (l : List (Int × Int)) : (sortP l).Pairwise fun a b => leP a b = true := List.pairwise_mergeSort leP_tr leP_tot l
theorem sortP_perm (l : List (Int × Int)) : (sortP l).Perm l := List.mergeSort_perm l leP
theorem sortP_eq {l m : List (Int × Int)} (h1 : m.Pairwise fun a b => leP a b = true) (h2 : m.Perm l) : sortP l = m := sorted_uniq (sortP_sorted l) h1 ((sortP_perm l).trans h2.symm)
def gSortedP : GL := fun as Λ => match as with
  | [.ref n] => match Λ[n]? with
    | some (.lst xs) => match pairsA xs with
      | some ps => some (.ref Λ.length, Λ ++ [.lst ((sortP ps).map fun p => .tup [.int p.1, .int p.2])])
      | none => none
    | _ => none
  | _ => none
/-- the pair at a tuple -/
def pairAt (H : Hp) : V → Int × Int
  | .ref t => match H t with
    | some (.tup [.int i, .int j]) => (i, j)
    | _ => (0, 0)
  | _ => (0, 0)
theorem pairs_rep {K : PySem.W.Frag} {ρ : List Addr} {H : Hp} : ∀ {xs : List AV} {vs : List V} {ps : List (Int × Int)}, RepVs K ρ H xs vs → pairsA xs = some ps →
    vs.map (pairAt H) = ps ∧ ∀ v ∈ vs, ∃ t, v = .ref t ∧ H t = some (.tup [.int (pairAt H v).1, .int (pairAt H v).2])
  | [], [], ps, .nil, h => by cases h; exact ⟨rfl, by simp⟩
  | x :: xs, v :: vs, ps, .cons hv t, h => by
    unfold pairsA at h
    rw [List.map_cons] at h
    obtain ⟨d, ds, h1, h2, rfl⟩ := allO_cons h
    obtain ⟨q1, q2⟩ := pairs_rep t (show pairsA xs = some ds from h2)
    have key : pairAt H v = d ∧ ∃ t, v = .ref t ∧ H t = some (.tup [.int d.1, .int d.2]) := by
      unfold pairA at h1
      split at h1
      · cases h1
        cases hv with
        | tup e t' =>
          cases t' with
          | cons a1 t2 => cases t2 with
            | cons a2 t3 =>
              cases t3
              cases a1
              cases a2
              exact ⟨by unfold pairAt; simp only [e], _, rfl, e⟩
      · cases h1
    refine ⟨by rw [List.map_cons, key.1, q1], fun u hu => ?_⟩
    rcases List.mem_cons.mp hu with rfl | hu
    · rw [key.1]; exact key.2
    · exact q2 u hu
theorem reps_pairs {K : PySem.W.Frag} {ρ : List Addr} {H : Hp} : ∀ {vs : List V}, (∀ v ∈ vs, ∃ t, v = .ref t ∧ H t = some (.tup [.int (pairAt H v).1, .int (pairAt H v).2])) → RepVs K ρ H ((vs.map (pairAt H)).map fun p => .tup [.int p.1, .int p.2]) vs
  | [], _ => .nil
  | v :: vs, h => by
    obtain ⟨t, e, ht⟩ := h v List.mem_cons_self
    refine .cons ?_ (reps_pairs fun u hu => h u (List.mem_cons_of_mem _ hu))
    rw [e] at ht ⊢
    exact .tup ht (.cons (.int _) (.cons (.int _) .nil))
section
variable {G : GX} {X : Cx}
theorem call_gSortedP (F : G.Fit X) : CallR X (.builtin "sorted") (rl G.K gSortedP) := call_imp cr_sortedPO fun xs H Q ⟨ρ, Λ, as, r, t, p⟩ => by
  unfold gSortedP at p
  split at p
  · obtain ⟨v, hv0, t0⟩ := rep1 t
    subst hv0
    cases t0 with
    | ref ha =>
      split at p
      · rename_i ys e
        split at p
        · rename_i ps hps
          obtain ⟨vs, q1, t1⟩ := lst_at r ha e
          obtain ⟨w1, w2⟩ := pairs_rep t1 hps
          refine ⟨_, vs, pairAt H, rfl, SqL.of q1, w2, fun zs pz hs hst hp => ?_⟩
          have hperm := hst.perm
          have hz : ∀ v ∈ zs, ∃ t, v = .ref t ∧ H t = some (.tup [.int (pairAt H v).1, .int (pairAt H v).2]) := fun v hv => w2 v (hperm.subset hv)
          have hsort : (zs.map (pairAt H)).Pairwise fun a b => leP a b = true := by
            rw [List.pairwise_map]
            refine List.Pairwise.imp (fun {a b} h => ?_) hs
            unfold leP
            have h : SrtO.lexB (pairAt H b) (pairAt H a) = false := h
            rw [h]; rfl
          have hp2 : (zs.map (pairAt H)).Perm ps := by rw [← w1]; exact hperm.map _
          have e2 := sortP_eq hsort hp2
          rw [e2] at p
          exact p.new (u := .lst zs) r (reps_pairs hz) pz hp
        · exact p.elim
      · exact p.elim
  · exact p.elim
end
end NP

set_option Elab.async false
set_option linter.all false
set_option maxRecDepth 100000
set_option maxHeartbeats 1000000
/-! NPX17: range objects as values; comprehensions with two loops. -/
namespace NP
open PySem PySem.Spec PyProof.Rows L2
/-! ### a range object -/
def gRange : GL := fun as Λ => match as with
  | [.int i, .int j] => some (.rng i j, Λ)
  | _ => none
section
variable {G : GX} {X : Cx}
theorem call_gRange (F : G.Fit X) : CallR X (.type "range") (rl G.K gRange) := call_imp cr_range2 fun xs H Q ⟨ρ, Λ, as, r, t, p⟩ => by
  unfold gRange at p
  split at p
  · obtain ⟨u, v, rfl, t2, t3⟩ := rep2 t
    cases t2; cases t3
    refine ⟨_, _, rfl, fun a ha => ?_⟩
    obtain ⟨r', e⟩ := r.side (u := .rng _ _) ha
    exact p _ _ _ e r' (.rng upd_same)
  · exact p.elim
end
section
variable {X : Cx} {tg : Expr}
def iRngV (te : TE) : TI := fun σ H R => te σ H fun x H1 => ∃ a lo hi, x = .ref a ∧ H1 a = some (.rng lo hi) ∧ (-(2 ^ 62) ≤ lo ∧ lo < 2 ^ 62 ∧ -(2 ^ 62) ≤ hi ∧ hi < 2 ^ 62) ∧ R (Itr lo (hi - lo).toNat) H1
theorem pi_rngV {l : Expr} {tl : TE} (hl : PE X l tl) : PI X tg l (iRngV tl) := by
  refine ⟨fun pins s σ H R I h => ?_⟩
  refine thn (hl.run pins s σ H _ I h) fun v s1 ⟨x, H1, I1, r1, q1⟩ => ?_
  obtain ⟨a, lo, hi, e, ha, ⟨b1, b2, b3, b4⟩, q⟩ := q1
  subst e
  cases r1
  obtain ⟨t, u, v, hr⟩ := (show ∃ t u v, s1.heap.get? a = some { cls := .type "range", data := .fields #[.int lo t, .int hi u, .int 1 v] } from I1.hok a _ ha)
  refine wpAny_pyIter_range hr (small_one b1 b2 b3 b4) ?_
  refine ⟨s1.heap.objs.size, [s1.heap.objs.size], _, _, H1, rfl, I1.kept (t' := s1.toks) fun b o e => Heap.get?_push_of_some _ e, turn_range _ lo (hi - lo).toNat, ?_, fun b hb => ?_, q⟩
  · have e1 : lo + ((0 : Nat) : Int) * 1 = lo := by simp
    have e2 : (((hi - lo).toNat : Nat) : Int) - ((0 : Nat) : Int) = Builtin.Range.rangeSize lo hi 1 := by rw [rangeSize_one]; split <;> omega
    show IsRangeIter _ _ (lo + ((0 : Nat) : Int) * 1) ((((hi - lo).toNat : Nat) : Int) - ((0 : Nat) : Int)) 1
    rw [e1, e2]
    exact Heap.get?_push_size _ rfl
  · have e : b = s1.heap.objs.size := by simpa using hb
    subst e
    exact I1.fpOk (Nat.le_refl _) (I1.hok.fresh (Nat.le_refl _))
end
/-- a value that is a range -/
def rngSrc (a : AV) (Λ : AH) : R Src := match a with
  | .rng i j => if -(2 ^ 62) ≤ i ∧ i < 2 ^ 62 ∧ -(2 ^ 62) ≤ j ∧ j < 2 ^ 62 then .ok (.fix (rgA i (j - i).toNat)) Λ else .bad
  | _ => .bad
def dItR (fa : ME) : MI := fun δ Λ => (fa δ Λ).bind rngSrc
theorem ji_rngV {G : GX} {a : Expr} {fa : ME} (ha : JE G a fa) : JI G a (dItR fa) := fun tg X F W tk => by
  refine pi_imp (pi_rngV (ha X F W tk)) fun σ H R ⟨ρ, δ, Λ, r, v, q⟩ => ?_
  refine ⟨ρ, δ, Λ, r, v, (bind_postI (T := TV G.K) q).imp fun u H1 ⟨x, Λ1, ρ1, e1, r1, t1, p1⟩ => ?_⟩
  unfold rngSrc at p1
  split at p1
  · split at p1
    · rename_i hb
      cases t1 with
      | rng h1 => exact ⟨_, _, _, rfl, h1, hb, p1 ρ1 H1 _ (Ext.refl _ _) r1 srcRg⟩
    · exact p1.elim
  · exact p1.elim
/-! ### two loops -/
noncomputable def lcL2 (n : Nat) (here : AH → Prop) (T : Tg) (ft : MT) (fi1 : MI) (vs1 : List Nat) (T1 : Tg) (ft1 : MT) (fe : ME) : List AV → AEnv → AH → Option AH
  | [], _, Λ => if here Λ then some Λ else none
  | x :: xs, δ, Λ => if here Λ then
      match setT T x δ with
      | some δ1 => match ft δ1 Λ with
        | .ok true Λ1 => match fi1 δ1 Λ1 with
          | .ok src1 Λ2 => match lcL n src1.here T1 ft1 fe src1.items (wipeA δ1 vs1) Λ2 with
            | some Λ3 => lcL2 n here T ft fi1 vs1 T1 ft1 fe xs δ Λ3
            | none => none
          | _ => none
        | .ok false Λ1 => lcL2 n here T ft fi1 vs1 T1 ft1 fe xs δ Λ1
        | _ => none
      | none => none
    else none
noncomputable def lcR2 (vs : List Nat) (T : Tg) (ft : MT) (fi1 : MI) (vs1 : List Nat) (T1 : Tg) (ft1 : MT) (fe : ME) (δ : AEnv) (src : Src) (Λ : AH) : R AV := match lcL2 Λ.length src.here T ft fi1 vs1 T1 ft1 fe src.items (wipeA δ vs) (Λ ++ [.lst []]) with
  | some Λ2 => .ok (.ref Λ.length) Λ2
  | none => .bad
noncomputable def dLc2 (vs : List Nat) (fi : MI) (T : Tg) (ft : MT) (fi1 : MI) (vs1 : List Nat) (T1 : Tg) (ft1 : MT) (fe : ME) : ME := fun δ Λ => (fi δ Λ).bind (lcR2 vs T ft fi1 vs1 T1 ft1 fe δ)
section
variable {G : GX} {iter elt tg iter1 tg1 : Expr} {ifs ifs1 : List Expr} {fi fi1 : MI} {ft ft1 : MT} {fe : ME} {T T1 : Tg} {scope : Scope} {own : List (Str × Nat)} {vs1 : List Nat} {pos spos py : Pos}
theorem lc2_read {W : WX} {σ : L2.St} {H : Hp} {Q : VK} (hc : G.hx = none) (hT : ∀ i ∈ T.slots, i ∈ own.map (·.2)) (hT1 : ∀ i ∈ T1.slots, i ∈ vs1) (h : tE G.K G.hx W (dLc2 (own.map (·.2)) fi T ft fi1 vs1 T1 ft1 fe) σ H Q) :
    tLc2 (tI G.K G.hx W fi) (tgTG G.K T) (tT G.K G.hx W0 ft) (tI G.K G.hx W0 fi1) (tgTG G.K T1) (tT G.K G.hx W0 ft1) (tE G.K G.hx W0 fe) (own.map (·.2)) vs1 σ H Q := by
  obtain ⟨ρ, δ, Λ, r, v, p⟩ := h
  refine ⟨ρ, δ, Λ, r, v, ?_⟩
  unfold dLc2 at p
  cases hf : fi δ Λ with
  | bad => rw [hf] at p; exact p.elim
  | ex c m Λ' => rw [hf] at p; exact p
  | ok src Λ1 =>
    rw [hf] at p
    have p : Post G.K W σ (TV G.K) ρ H (lcR2 (own.map (·.2)) T ft fi1 vs1 T1 ft1 fe δ src Λ1) Q := p
    intro ρ1 H1 J e1 r1 so D hD
    unfold lcR2 at p
    split at p
    · rename_i Λf hl
      obtain ⟨rD, eD, hn⟩ := r1.alloc (u := .lst []) (o := .lst []) hD (show RepVs _ _ _ _ _ from .nil)
      have vw := (v.mono e1).wipe hc (own.map (·.2))
      refine ⟨fun i m H' => m = src.items.length - i ∧ i ≤ src.items.length ∧ ∃ ρ' Λ', Ext (ρ1 ++ [D]) ρ' (upd H1 D (.lst [])) H' ∧ Rep G.K ρ' Λ' H' ∧ lcL2 Λ1.length src.here T ft fi1 vs1 T1 ft1 fe (src.items.drop i) (wipeA δ (own.map (·.2))) Λ' = some Λf,
        ⟨_, rfl, Nat.zero_le _, _, _, Ext.refl _ _, rD, hl⟩, ?_⟩
      rintro i m H' ⟨rfl, hle, ρ', Λ', e', r', q'⟩
      have hD' := e'.get hn
      have e1' := eD.trans e'
      by_cases hi : i < src.items.length
      · rw [List.drop_eq_getElem_cons hi] at q'
        unfold lcL2 at q'
        split at q'
        · rename_i hh
          obtain ⟨go, yl⟩ := (so i ρ' Λ' H' e1' r' hh).1 hi
          split at q'
          · rename_i δ1 hset
            refine .inr ⟨go, fun H2 => ∃ ρ' Λ', Ext (ρ1 ++ [D]) ρ' (upd H1 D (.lst [])) H2 ∧ Rep G.K ρ' Λ' H2 ∧ lcL2 Λ1.length src.here T ft fi1 vs1 T1 ft1 fe (src.items.drop (i + 1)) (wipeA δ (own.map (·.2))) Λ' = some Λf, fun H2 q => ⟨src.items.length - (i + 1), by omega, rfl, hi, q⟩, fun x H2 hy => ?_⟩
            obtain ⟨rfl, a, ha, ta⟩ := yl x H2 hy
            rw [List.getElem?_eq_getElem hi] at ha
            cases ha
            refine tg_run T r' (vw.mono e1') ta hset (fun i _ => by rw [hc]; rfl) fun σ2 v2 hw => ⟨(hw _ hT).trans (wipe_wipe fun _ h => h), ρ', δ1, Λ', r', v2, ?_⟩
            revert q'
            cases hft : ft δ1 Λ' with
            | bad => intro q'; cases q'
            | ex c m Λ2 => intro q'; cases q'
            | ok b Λ2 =>
              cases b with
              | false =>
                intro q' ρ2 u H3 e3 r3 t3
                subst t3
                exact ⟨ρ2, Λ2, e'.trans e3, r3, q'⟩
              | true =>
                intro q' ρ2 u H3 e3 r3 t3
                subst t3
                refine ⟨ρ2, δ1, Λ2, r3, v2.mono e3, ?_⟩
                revert q'
                simp only
                cases hfi1 : fi1 δ1 Λ2 with
                | bad => intro q'; cases q'
                | ex c m Λ3 => intro q'; cases q'
                | ok src1 Λ3 =>
                  intro q' ρ4 H4 J1 e4 r4 so1
                  simp only at q'
                  split at q'
                  · rename_i Λ5 hin
                    have vw1 := (v2.mono (e3.trans e4)).wipe hc vs1
                    have eb := (e'.trans e3).trans e4
                    refine ⟨fun j k H' => k = src1.items.length - j ∧ j ≤ src1.items.length ∧ ∃ ρ' Λ', Ext ρ4 ρ' H4 H' ∧ Rep G.K ρ' Λ' H' ∧ lcL Λ1.length src1.here T1 ft1 fe (src1.items.drop j) (wipeA δ1 vs1) Λ' = some Λ5,
                      ⟨_, rfl, Nat.zero_le _, _, _, Ext.refl _ _, r4, hin⟩, ?_⟩
                    rintro j k H' ⟨rfl, hle1, ρ6, Λ6, e6, r6, q6⟩
                    have hD6 := (eb.trans e6).get hn
                    by_cases hj : j < src1.items.length
                    · rw [List.drop_eq_getElem_cons hj] at q6
                      unfold lcL at q6
                      split at q6
                      · rename_i hh1
                        obtain ⟨go1, yl1⟩ := (so1 j ρ6 Λ6 H' e6 r6 hh1).1 hj
                        split at q6
                        · rename_i δ2 hset1
                          refine .inr ⟨go1, fun H2 => ∃ ρ' Λ', Ext ρ4 ρ' H4 H2 ∧ Rep G.K ρ' Λ' H2 ∧ lcL Λ1.length src1.here T1 ft1 fe (src1.items.drop (j + 1)) (wipeA δ1 vs1) Λ' = some Λ5, fun H2 q => ⟨src1.items.length - (j + 1), by omega, rfl, hj, q⟩, fun x H2 hy => ?_⟩
                          obtain ⟨rfl, a, ha, ta⟩ := yl1 x H2 hy
                          rw [List.getElem?_eq_getElem hj] at ha
                          cases ha
                          refine tg_run T1 r6 (vw1.mono e6) ta hset1 (fun i _ => by rw [hc]; rfl) fun σ3 v3 hw => ⟨(hw _ hT1).trans (wipe_wipe fun _ h => h), ρ6, δ2, Λ6, r6, v3, ?_⟩
                          revert q6
                          cases hft1 : ft1 δ2 Λ6 with
                          | bad => intro q'; cases q'
                          | ex c m Λ2 => intro q'; cases q'
                          | ok b Λ7 =>
                            cases b with
                            | false =>
                              intro q6 ρ7 u H7 e7 r7 t7
                              subst t7
                              exact ⟨ρ7, Λ7, e6.trans e7, r7, q6⟩
                            | true =>
                              intro q6 ρ7 u H7 e7 r7 t7
                              subst t7
                              refine ⟨ρ7, δ2, Λ7, r7, v3.mono e7, ?_⟩
                              revert q6
                              simp only
                              cases hfe : fe δ2 Λ7 with
                              | bad => intro q'; cases q'
                              | ex c m Λ3 => intro q'; cases q'
                              | ok y Λ8 =>
                                intro q6 ρ8 u8 H8 e8 r8 t8
                                simp only at q6
                                split at q6
                                · rename_i acc hacc
                                  split at q6
                                  · rename_i hlen
                                    have hD8 := e8.get (e7.get hD6)
                                    obtain ⟨vs, h1, h2⟩ := lst_at r8 hD8 hacc
                                    obtain ⟨r9, e9⟩ := r8.write (u := .lst (vs ++ [u8])) (o' := .lst (acc ++ [y])) hD8 hacc (show RepVs _ _ _ _ _ from h2.append (.cons t8 .nil))
                                    exact ⟨vs, h1, by rw [← h2.length]; exact hlen, ρ8, _, ((e6.trans e7).trans e8).trans e9, r9, q6⟩
                                  · cases q6
                                · cases q6
                        · cases q6
                      · cases q6
                    · have hj' : j = src1.items.length := by omega
                      subst hj'
                      rw [List.drop_length] at q6
                      unfold lcL at q6
                      split at q6
                      · rename_i hh1
                        cases q6
                        exact .inl ⟨(so1 _ ρ6 _ H' e6 r6 hh1).2 rfl, ρ6, _, eb.trans e6, r6, q'⟩
                      · cases q6
                  · cases q'
          · cases q'
        · cases q'
      · have hi' : i = src.items.length := by omega
        subst hi'
        rw [List.drop_length] at q'
        unfold lcL2 at q'
        split at q'
        · rename_i hh
          cases q'
          exact .inl ⟨(so _ ρ' _ H' e1' r' hh).2 rfl, p ρ' (.ref D) H' (e1.trans e1') r' (.ref hD')⟩
        · cases q'
    · exact p.elim
theorem je_lc2 (hi : JI G iter fi) (ok : blkC G.N G.sc scope own = true) (hg : JG (G.block scope) tg T) (ht : JTs (G.block scope) ifs ft) (hi1 : JI (G.block scope) iter1 fi1) (hg1 : JG (G.block scope) tg1 T1) (ht1 : JTs (G.block scope) ifs1 ft1) (he : JE (G.block scope) elt fe)
    (hv : ∀ i ∈ vs1, i ∈ own.map (·.2)) (hT : ∀ i ∈ T.slots, i ∈ own.map (·.2)) (hT1 : ∀ i ∈ T1.slots, i ∈ vs1) (hs : ∀ (env : Env) x, foldedSetIterable iter env x = pure x) (hs1 : ∀ (env : Env) x, foldedSetIterable iter1 env x = pure x) (hc : G.hx = none := by rfl) :
    JE G (.ListComp elt [⟨tg, iter, ifs, 0⟩, ⟨tg1, iter1, ifs1, 0⟩] scope pos) (dLc2 (own.map (·.2)) fi T ft fi1 vs1 T1 ft1 fe) := fun X F W tk =>
  pe_imp (pe_lc2 (F.calm hc) F.nd (hi tg X F W tk) (by rw [F.hN, F.hsc]; exact blkOk_by ok) hv (fun s H C cl fp => hg _ (F.toBlk scope s H C cl fp hc)) (fun s H C cl fp => ht _ (F.toBlk scope s H C cl fp hc) W0 takes0N) (fun s H C cl fp => hi1 tg1 _ (F.toBlk scope s H C cl fp hc) W0 takes0N) (fun s H C cl fp => hg1 _ (F.toBlk scope s H C cl fp hc)) (fun s H C cl fp => ht1 _ (F.toBlk scope s H C cl fp hc) W0 takes0N) (fun s H C cl fp => he _ (F.toBlk scope s H C cl fp hc) W0 takes0N) (hs _) (fun env => hs1 env))
    fun σ H Q h => lc2_read hc hT hT1 h
end
end NP

set_option Elab.async false
set_option linter.all false
set_option maxRecDepth 100000
set_option maxHeartbeats 4000000
/-! NPX18: isinstance of a handled exception, a tuple of own classes. -/
namespace NP
open PySem PySem.Spec PyProof.Rows L2 He
inductive ClsN (G : GX) : List Expr → List Str → Prop
  | nil : ClsN G [] []
  | cons {t : Str} {q : Pos} {es : List Expr} {ts : List Str} : G.sc.names.lookup t = some .globalImplicit → G.mg t = some (.ref (ga G.K t)) → (t == ("__debug__" : Str)) = false → ClsN G es ts → ClsN G (.Name t q :: es) (t :: ts)
abbrev clsVs (K : PySem.W.Frag) (ts : List Str) : List V := ts.map fun t => V.ref (ga K t)
abbrev clsUs (K : PySem.W.Frag) (ts : List Str) : List Value := ts.map fun t => Value.ref (ga K t)
theorem clsN_pa {G : GX} {es : List Expr} {ts : List Str} (h : ClsN G es ts) {X : Cx} (F : G.Fit X) : ∃ ta : TA, PA X es ta ∧ ∀ σ H (Q : List V → Hp → Prop), Q (clsVs G.K ts) H → ta σ H Q := by
  induction h with
  | nil => exact ⟨_, pa_nil, fun σ H Q q => q⟩
  | @cons t q es ts h1 h2 h3 _ ih =>
    obtain ⟨ta, w1, w2⟩ := ih
    exact ⟨_, pa_cons (pe_glob (v := V.ref (ga G.K t)) (gl_of F h1) (by rw [F.hmg]; exact h2) rfl h3) w1, fun σ H Q q => w2 _ _ _ q⟩
theorem clsP {K : PySem.W.Frag} : ∀ {ts : List Str}, Paired ClsV (clsVs K ts) (clsUs K ts)
  | [] => .nil
  | t :: ts => .cons (.own _) clsP
theorem sz_leB {n : Nat} (h : n ≤ 1000) : n ≤ sizeLine := Nat.le_trans h (by decide)
section
variable {G : GX}
theorem je_xisT {n : Str} {es : List Expr} {ts : List Str} {kx : Nat} {p q1 q2 pos : Pos} {y : HX} {i : Nat} {tab : Str → Option Bool} (hh : G.hx = some y) (hs : y.slot = some i) (hN : G.N[i]? = some n) (hv : Vis G.sc n) (hdn : (n == ("__debug__" : Str)) = false) (hcn : (n == ("__classdict__" : Str)) = false)
    (hg : G.sc.names.lookup ("isinstance" : Str) = some .globalImplicit) (hm : G.mg ("isinstance" : Str) = none) (hcl : ClsN G es ts) (hlen : ts.length ≤ 1000) (htab : ∀ c b, tab c = some b → ExcC G.K (He.ga G.K c) ∧ PySem.W.kitAny G.K (.ref (He.ga G.K c)) (clsUs G.K ts) = some b) :
    JE G (.Call (.Name "isinstance" p) [.Name n q1, .Tuple es kx q2] [] pos) (dXis y tab) := fun X F W tk => by
  obtain ⟨⟨hhd, vs, hdat, hv2⟩, hmm, hc⟩ := F.hot y hh
  have fK := F.hK
  obtain ⟨ta, wa, wb⟩ := clsN_pa hcl F
  refine ⟨fun pins s σ H Q I ⟨ρ, δ, Λ, r, v, pp⟩ => ?_⟩
  obtain ⟨hσ, hrd⟩ := v.exc y i hh hs
  unfold dXis at pp
  split at pp
  · rename_i b hb
    obtain ⟨C, hk⟩ := htab _ _ hb
    rw [← fK] at C hk
    have hb2 : ∀ s1 H1, (∀ d u, H d = some u → H1 d = some u) → Inv X pins σ H1 s1 → (∃ od', PySem.W.InstAt s1.heap y.a y.oe (He.ga X.K y.c) od') ∧ Post G.K W σ (TV G.K) ρ H (.ok (.bl b) Λ) Q := by
      intro s1 H1 hkeep I1
      obtain ⟨ha, _⟩ := I1.pin (y.a, y.oe) (List.mem_append_left _ hmm)
      split at pp
      · rename_i hk0
        rw [hk0] at hrd
        refine ⟨⟨none, ha, by rw [fK]; exact hc i hs, by unfold PySem.W.notCls; rw [hdat] <;> rfl, ?_⟩, pp⟩
        have hod : y.oe.dict = none := hrd
        rw [hod]; trivial
      · rename_i k hk0
        rw [hk0] at hrd
        obtain ⟨dd, hdd, hod⟩ := hrd
        split at pp
        · rename_i fs hfs
          obtain ⟨uo, hu, ho⟩ := r.at' hfs hdd
          cases uo with
          | xd vfs =>
            have hx : ObjOk X.prog X.w H1 s1.heap dd (.xd vfs) := I1.hok dd _ (hkeep _ _ hu)
            obtain ⟨mA, hns, hr⟩ := hx
            obtain ⟨od, hod2, hlk⟩ := lookIn_ns hns
            exact ⟨⟨some od, ha, by rw [fK]; exact hc i hs, by unfold PySem.W.notCls; rw [hdat] <;> rfl, by rw [hod]; exact hod2⟩, pp⟩
          | _ => exact ho.elim
        · exact pp.elim
    refine wpAny_Call_Name_kw (ld_blt I (gl_of F hg) (by rw [F.hmg]; exact hm) PyProof.Rows.boot_isinstance ?_ (by decide) (by decide))
    refine PyProof.Rows.callWith_builtin1 (thn ((pa_cons (pe_var (i := i) (pos := q1) (by rw [F.hN]; exact hN) (by rw [F.hsc]; exact hv) hdn hcn) (pa_cons (pe_tup (pos := q2) (x1 := kx) wa) pa_nil)).run pos pins _ σ H (fun vs H1 => ∃ tp, H tp = none ∧ vs = [.ref y.a, .ref tp] ∧ H1 = upd H tp (.tup (clsVs X.K ts))) (I.tok _) ⟨.ref y.a, hσ, wb _ _ _ ⟨?_, fun tp htp => ?_⟩⟩) fun us s1 ⟨vs, H1, I1, r1, tp, ht, ev, eH⟩ => ?_) (by rfl) (by rfl)
    · exact sz_leB (by rw [List.length_map]; exact hlen)
    · exact ⟨tp, htp, rfl, by rw [fK]⟩
    subst ev
    subst eH
    obtain ⟨u1, u2, rfl, q3, q4⟩ := vals2 r1
    obtain rfl : u1 = Value.ref y.a := q3
    cases (show u2 = Value.ref tp from q4)
    have hkeep : ∀ d u, H d = some u → (upd H tp (.tup (clsVs X.K ts))) d = some u := fun d u e => by rw [upd_ne (ne_of_none e ht)]; exact e
    obtain ⟨⟨od, J⟩, pp⟩ := hb2 s1 _ hkeep I1
    obtain ⟨_, its, rv, o, h1, h2, nn, h3⟩ := (show ObjOk X.prog X.w (upd H tp (.tup (clsVs X.K ts))) s1.heap tp (.tup (clsVs X.K ts)) from I1.hok tp _ upd_same)
    have e3 := ClsV.all clsP rv
    subst e3
    obtain ⟨oc, od2, dt, sl⟩ := o
    simp only at h2 h3
    subst h2 h3
    obtain ⟨r', ee⟩ := r.side (u := .tup (clsVs X.K ts)) ht
    refine PySem.W.kia_tup (kitx_excO C) I1.kIn J h1 hk (fun z => nomatch z) fun tk => ?_
    exact ⟨.bl b, _, I1.tok _, rfl, pp ρ _ _ ee r' (.bl b)⟩
  · exact pp.elim
end
/-- the written part says of isinstance(error, (T1, ..)) -/
def isiTabT (K : PySem.W.Frag) (ts : List Str) (tab : List (Str × Bool)) : Bool := tab.all fun p => xcB K (ga K p.1) && decide (PySem.W.kitAny K (.ref (ga K p.1)) (clsUs K ts) = some p.2)
theorem isiTabT_ok {K : PySem.W.Frag} {ts : List Str} {tab : List (Str × Bool)} (h : isiTabT K ts tab = true) : ∀ c b, tab.lookup c = some b → ExcC K (ga K c) ∧ PySem.W.kitAny K (.ref (ga K c)) (clsUs K ts) = some b := fun c b e => by
  obtain ⟨h1, h2⟩ := ba (List.all_eq_true.mp h _ (mem_lookup e))
  exact ⟨xcB_ok h1, of_decide_eq_true h2⟩
section
variable {P : Program} {w : World} {K : PySem.W.Frag} {mg : Str → Option Value} {base : Heap} {N : List Str} {sc : Scope} {k : Nat} {a : Addr} {oe : Obj} {c n : Str} {i : Nat} {m : Option Nat} {p q1 q2 pos : Pos} {es : List Expr} {ts : List Str} {kx : Nat}
theorem je_xisTC {tab : List (Str × Bool)} (hN : N[i]? = some n) (hv : Vis sc n) (hdn : (n == ("__debug__" : Str)) = false) (hcn : (n == ("__classdict__" : Str)) = false) (hg : sc.names.lookup ("isinstance" : Str) = some .globalImplicit) (hm : mg ("isinstance" : Str) = none)
    (hcl : ClsN (GXh P w K mg base N sc k a oe c i m) es ts) (hlen : ts.length ≤ 1000) (htab : isiTabT K ts tab = true) :
    JE (GXh P w K mg base N sc k a oe c i m) (.Call (.Name "isinstance" p) [.Name n q1, .Tuple es kx q2] [] pos) (dXisC c m tab) :=
  je_xisT (G := GXh P w K mg base N sc k a oe c i m) (y := ⟨a, oe, c, some i, m⟩) rfl rfl hN hv hdn hcn hg hm hcl hlen (isiTabT_ok htab)
end
end NP

set_option Elab.async false
set_option linter.all false
set_option maxRecDepth 100000
set_option maxHeartbeats 2000000
/-! NPX19: own classes: new instances, fields, properties, methods, operators, `in`, ==. -/
namespace NP
open PySem PySem.Spec PyProof.Rows L2
abbrev MF := List AV → AH → R AV
/-! ### what they do -/
def insA (a : AV) (Λ : AH) : Option (Nat × Str) := match a with
  | .ref n => match Λ[n]? with
    | some (.ins c _) => some (n, c)
    | _ => none
  | _ => none
/-- C(..) -/
def mkR (c : Str) (m : MF) (as : List AV) (Λ : AH) : R AV := match m (.ref Λ.length :: as) (Λ ++ [.ins c []]) with
  | .ok .non Λ' => .ok (.ref Λ.length) Λ'
  | .ex c' d Λ' => .ex c' d Λ'
  | _ => .bad
def noX {α : Type} : R α → R α
  | .ok v Λ => .ok v Λ
  | _ => .bad
/-- e.f: a field, or a property, as its class says -/
def attR (f : Str) (tab : List (Str × Option MF)) (x : AV) (Λ : AH) : R AV := match x with
  | .ref n => match Λ[n]? with
    | some (.ins c fs) => match tab.lookup c with
      | some none => match fs.lookup f with
        | some v => .ok v Λ
        | none => .bad
      | some (some m) => noX (m [.ref n] Λ)
      | none => .bad
    | _ => .bad
  | _ => .bad
def dAtt (f : Str) (tab : List (Str × Option MF)) (fe : ME) : ME := fun δ Λ => (fe δ Λ).bind (attR f tab)
/-- o.m(..) -/
def methR (nm : Str) (tab : List (Str × List AV × MF)) (x : AV) (Λ : AH) (k : (List AV × MF) → R AV) : R AV := match x with
  | .ref n => match Λ[n]? with
    | some (.ins c fs) => match tab.lookup c with
      | some q => if fs.lookup nm = none then k q else .bad
      | none => .bad
    | _ => .bad
  | _ => .bad
def dMeth (nm : Str) (tab : List (Str × List AV × MF)) (fo : ME) (fr : MA) : ME := fun δ Λ => (fo δ Λ).bind fun x Λ1 => methR nm tab x Λ1 fun q => (fr δ Λ1).bind fun as Λ2 => q.2 (x :: (as ++ q.1)) Λ2
/-- a op b -/
def okRt (c : Str) (b : AV) (Λ : AH) : Bool := match insA b Λ with
  | some (_, c') => c' == c
  | none => false
def opO (g : G2) (tab : List (Str × MF)) (a b : AV) (Λ : AH) : R AV := match insA a Λ with
  | some (_, c) => match tab.lookup c with
    | some m => if okRt c b Λ then m [a, b] Λ else .bad
    | none => .bad
  | none => liftR (g a b Λ)
def dOpO (g : G2) (tab : List (Str × MF)) (fa fb : ME) : ME := fun δ Λ => (fa δ Λ).bind fun a Λ1 => (fb δ Λ1).bind fun b Λ2 => opO g tab a b Λ2
/-- x in o -/
def inO (g : G2) (neg : Bool) (tab : List (Str × MF)) (a b : AV) (Λ : AH) : R AV := match insA b Λ with
  | some (_, c) => match tab.lookup c with
    | some m => (m [b, a] Λ).bind fun v Λ' => match v with
      | .bl t => .ok (.bl (t != neg)) Λ'
      | _ => .bad
    | none => .bad
  | none => liftR (g a b Λ)
def dInO (g : G2) (neg : Bool) (tab : List (Str × MF)) (fa fb : ME) : ME := fun δ Λ => (fa δ Λ).bind fun a Λ1 => (fb δ Λ1).bind fun b Λ2 => inO g neg tab a b Λ2
/-- what stands to the right of an own == -/
def tnE (a : AV) (Λ : AH) : Option TyN := match a with
  | .non => some (.inl "NoneType")
  | .bl _ => some (.inl "bool")
  | .int _ => some (.inl "int")
  | .str _ => some (.inl "str")
  | .tup _ => some (.inl "tuple")
  | .ct _ => some (.inl "tuple")
  | .ref n => match Λ[n]? with
    | some (.lst _) => some (.inl "list")
    | some (.ins C _) => some (.inr C)
    | _ => none
  | _ => none
/-- a == b, a of an own class with its own __eq__ -/
def eqO' (g : G2) (tab : List (Str × MF × List TyN)) (a b : AV) (Λ : AH) : R AV := match insA a Λ with
  | some (_, c) => match tab.lookup c with
    | some (m, ts) => match tnE b Λ with
      | some t => if (ts.any fun u => decide (u = t)) = true then m [a, b] Λ else .bad
      | none => .bad
    | none => .bad
  | none => liftR (g a b Λ)
def dEqO (g : G2) (tab : List (Str × MF × List TyN)) (fa fb : ME) : ME := fun δ Λ => (fa δ Λ).bind fun a Λ1 => (fb δ Λ1).bind fun b Λ2 => eqO' g tab a b Λ2
def putFl (f : Str) (v : AV) : List (Str × AV) → List (Str × AV)
  | [] => [(f, v)]
  | q :: qs => if q.1 = f then (f, v) :: qs else q :: putFl f v qs
/-- o.f = e -/
def setFR (cs : List Str) (f : Str) (δ : AEnv) (v x : AV) (Λ : AH) : RS := match x with
  | .ref n => match Λ[n]? with
    | some (.ins c fs) => if cs.contains c ∧ fs.length < 1000 then .nx δ (Λ.set n (.ins c (putFl f v fs))) else .bad
    | _ => .bad
  | _ => .bad
def dSetF (cs : List Str) (f : Str) (fo fe : ME) : MS := fun δ Λ => sR δ (fe δ Λ) fun v Λ1 => sR δ (fo δ Λ1) fun x Λ2 => setFR cs f δ v x Λ2
/-- x op= e -/
def dAugO (i : Nat) (g : G2) (tab : List (Str × MF)) (fe : ME) : MS := fun δ Λ => match δ[i]? with
  | some (some x) => sR δ (fe δ Λ) fun y Λ1 => sR δ (opO g tab x y Λ1) fun z Λ2 => .nx (δ.set i (some z)) Λ2
  | _ => .bad
/-! ### what of a class is known -/
/-- its method nm does m -/
structure MetA (P : Program) (w : World) (K : PySem.W.Frag) (mg : Str → Option Value) (base : Heap) (k : Nat) (c nm : Str) (das : List AV) (m : MF) : Prop where
  cl : Cls K (He.ga K c)
  ex : ∃ (f : Addr) (fd : FuncData) (ps : List Str) (ds : List Value) (dvs : List V), PySem.W.findIn K (.ref (He.ga K c)) nm = some (some (.ref f)) ∧ PySem.W.isFn K (.ref f) = true ∧ PySem.W.keepIn K (.ref f) = true ∧
    Binds K fd ps ds ∧ Vals dvs ds ∧ (∀ ρ H, RepVs K ρ H das dvs) ∧ FnOk P w K mg base (L2N.CX P w) k f fd ps (spF K m)
structure MakA (P : Program) (w : World) (K : PySem.W.Frag) (mg : Str → Option Value) (base : Heap) (k : Nat) (c : Str) (das : List AV) (m : MF) : Prop where
  mg_ : mg c = some (.ref (He.ga K c))
  mks : PySem.W.makesIn K (He.ga K c) = true
  kp : PySem.W.keepIn K (.ref (He.ga K c)) = true
  met : MetA P w K mg base k c "__init__" das m
structure ProA (P : Program) (w : World) (K : PySem.W.Frag) (mg : Str → Option Value) (base : Heap) (k : Nat) (c f : Str) (m : MF) : Prop where
  cl : Cls K (He.ga K c)
  ex : ∃ (p g : Addr) (fd : FuncData) (ps : List Str), PropOf K (He.ga K c) f p g ∧ Binds K fd ps [] ∧ FnOk P w K mg base (L2N.CX P w) k g fd ps (spF K m)
structure FldA (K : PySem.W.Frag) (c f : Str) : Prop where
  cl : Cls K (He.ga K c)
  no : NoAttr K (He.ga K c) f
/-- tables -/
def AttT (P : Program) (w : World) (K : PySem.W.Frag) (mg : Str → Option Value) (base : Heap) (k : Nat) (f : Str) : List (Str × Option MF) → Prop
  | [] => True
  | (c, none) :: r => FldA K c f ∧ AttT P w K mg base k f r
  | (c, some m) :: r => (∃ j, j + 1 ≤ k ∧ ProA P w K mg base j c f m) ∧ AttT P w K mg base k f r
def MetT (P : Program) (w : World) (K : PySem.W.Frag) (mg : Str → Option Value) (base : Heap) (k : Nat) (nm : Str) : List (Str × List AV × MF) → Prop
  | [] => True
  | (c, das, m) :: r => MetA P w K mg base k c nm das m ∧ MetT P w K mg base k nm r
def OpT (P : Program) (w : World) (K : PySem.W.Frag) (mg : Str → Option Value) (base : Heap) (k : Nat) (nm : Str) : List (Str × MF) → Prop
  | [] => True
  | (c, m) :: r => (MetA P w K mg base k c nm [] m ∧ PySem.W.selfFirst K (He.ga K c) = true) ∧ OpT P w K mg base k nm r
def EqT (P : Program) (w : World) (K : PySem.W.Frag) (mg : Str → Option Value) (base : Heap) (k : Nat) : List (Str × MF × List TyN) → Prop
  | [] => True
  | (c, m, ts) :: r => (MetA P w K mg base k c "__eq__" [] m ∧ ∀ t ∈ ts, PySem.W.notFirst K (He.ga K c) (tyVal K t) = true) ∧ EqT P w K mg base k r
section
variable {P : Program} {w : World} {K : PySem.W.Frag} {mg : Str → Option Value} {base : Heap} {k : Nat} {nm f c : Str} {m : MF}
theorem AttT.fld : ∀ {tab : List (Str × Option MF)}, AttT P w K mg base k f tab → tab.lookup c = some none → FldA K c f
  | [], _, h => by cases h
  | (c', o) :: r, t, h => by
    rw [List.lookup_cons] at h
    by_cases e : c = c'
    · subst e
      simp at h
      subst h
      exact t.1
    · rw [show (c == c') = false from beq_false_of_ne e] at h
      cases o with
      | none => exact AttT.fld t.2 h
      | some _ => exact AttT.fld t.2 h
theorem AttT.pro : ∀ {tab : List (Str × Option MF)}, AttT P w K mg base k f tab → tab.lookup c = some (some m) → ∃ j, j + 1 ≤ k ∧ ProA P w K mg base j c f m
  | [], _, h => by cases h
  | (c', o) :: r, t, h => by
    rw [List.lookup_cons] at h
    by_cases e : c = c'
    · subst e
      simp at h
      subst h
      exact t.1
    · rw [show (c == c') = false from beq_false_of_ne e] at h
      cases o with
      | none => exact AttT.pro t.2 h
      | some _ => exact AttT.pro t.2 h
theorem MetT.at_ {q : List AV × MF} : ∀ {tab : List (Str × List AV × MF)}, MetT P w K mg base k nm tab → tab.lookup c = some q → MetA P w K mg base k c nm q.1 q.2
  | [], _, h => by cases h
  | (c', o) :: r, t, h => by
    rw [List.lookup_cons] at h
    by_cases e : c = c'
    · subst e
      simp at h
      subst h
      exact t.1
    · rw [show (c == c') = false from beq_false_of_ne e] at h
      exact MetT.at_ t.2 h
theorem OpT.at_ : ∀ {tab : List (Str × MF)}, OpT P w K mg base k nm tab → tab.lookup c = some m → MetA P w K mg base k c nm [] m ∧ PySem.W.selfFirst K (He.ga K c) = true
  | [], _, h => by cases h
  | (c', o) :: r, t, h => by
    rw [List.lookup_cons] at h
    by_cases e : c = c'
    · subst e
      simp at h
      subst h
      exact t.1
    · rw [show (c == c') = false from beq_false_of_ne e] at h
      exact OpT.at_ t.2 h
theorem EqT.at_ {ts : List TyN} : ∀ {tab : List (Str × MF × List TyN)}, EqT P w K mg base k tab → tab.lookup c = some (m, ts) → MetA P w K mg base k c "__eq__" [] m ∧ ∀ t ∈ ts, PySem.W.notFirst K (He.ga K c) (tyVal K t) = true
  | [], _, h => by cases h
  | (c', o) :: r, t, h => by
    rw [List.lookup_cons] at h
    by_cases e : c = c'
    · subst e
      simp at h
      subst h
      exact t.1
    · rw [show (c == c') = false from beq_false_of_ne e] at h
      exact EqT.at_ t.2 h
end
/-! ### runs -/
theorem run_makeSD {X : Cx} {CX : CXT} {k : Nat} {f C : Addr} {fd : FuncData} {ps : List Str} {sp : Sp} {dvs : List V} {ds : List Value} {E : L2.St → XK} {pins : List (Addr × Obj)} {σ : L2.St} {H : Hp} {s : Shared} {Q : VK} {us : List Value} {vs : List V} (M : Mk X.K C f) (F : FnOk X.prog X.w X.K X.mg X.base CX k f fd ps sp) (hr : Room (k + 1) X.A) (hb : Binds X.K fd ps ds) (hd : Vals dvs ds)
    (hx : PassesAt CX X σ (E σ)) (I : Inv X pins σ H s) (r : Vals vs us)
    (h : ∀ x dx, H x = none → H dx = none → dx ≠ x → sp (.ref x :: (vs ++ dvs)) (upd (upd H dx (.own x)) x (.ins C dx [])) (fun v H2 => v = .non ∧ Q (.ref x) H2) (E σ)) :
    wpAny (model X.prog X.w) X.A (call (.ref C) us) (EP X pins σ Q) X.xe s := by
  have hq := h (s.heap.objs.size + 1) s.heap.objs.size (I.hok.fresh (Nat.le_succ _)) (I.hok.fresh (Nat.le_refl _)) (Nat.ne_of_lt (Nat.lt_succ_self _))
  have I2 := Inv.made (C := C) I
  have r2 : Vals (V.ref (s.heap.objs.size + 1) :: (vs ++ dvs)) (Value.ref (s.heap.objs.size + 1) :: (us ++ ds)) := .cons rfl (r.append hd)
  have hl : (Value.ref (s.heap.objs.size + 1) :: us ++ ds).length = ps.length := by
    have e := r2.length
    rw [F.len _ _ _ _ hq] at e
    exact e.symm
  refine wpAny_call (make_map (f := f) I.kIn M.makes M.init (beq_iff_eq.mp M.fn) (codeAny_mono (F.run _ X.stack _ _ ⟨Value.ref (s.heap.objs.size + 1) :: us, []⟩ (Value.ref (s.heap.objs.size + 1) :: (us ++ ds)) _ _ (E σ) (hr.make C us [])
    (I2.env0.make C us []) (hb _ (Value.ref (s.heap.objs.size + 1) :: us) I2.kIn hl) r2 hq) fun r s' hq' => ?_))
  cases r with
  | error e => exact hx pins _ _ e s' I2 hq'
  | ok fl =>
    cases fl with
    | ret u =>
      obtain ⟨v, H', I3, rv, ev, q3⟩ := I2.after hq'
      subst ev
      exact ⟨rv, ⟨V.ref (s.heap.objs.size + 1), H', I3, rfl, q3⟩⟩
    | next => exact False.elim hq'
    | brk => exact False.elim hq'
    | cont => exact False.elim hq'
section
variable {G : GX} {X : Cx} {W : WX} {pins : List (Addr × Obj)} {σ : L2.St} {H : Hp} {s : Shared} {Q : VK} {us : List Value} {vs : List V} {ρ : List Addr} {Λ : AH} {as das : List AV} {m : MF} {c nm : Str}
theorem GX.Fit.rm (F : G.Fit X) (hc : G.hx = none) : Room G.k X.A := ⟨F.hd hc, F.room.dp, F.room.un⟩
theorem fn_fit {k : Nat} {f : Addr} {fd : FuncData} {ps : List Str} {sp : Sp} (F : G.Fit X) (h : FnOk G.P G.w G.K G.mg G.base (L2N.CX G.P G.w) k f fd ps sp) : FnOk X.prog X.w X.K X.mg X.base (L2N.CX X.prog X.w) k f fd ps sp := by
  rw [F.hP, F.hw, F.hK, F.hmg, F.hbase]; exact h
/-- the method found at f runs -/
theorem met_run {f : Addr} {fd : FuncData} {ps : List Str} {ds : List Value} {dvs : List V} (F : G.Fit X) (hc : G.hx = none) (tk : L2N.Takes X W) (h3 : Binds G.K fd ps ds) (h4 : Vals dvs ds) (h5 : ∀ ρ H, RepVs G.K ρ H das dvs)
    (h6 : FnOk G.P G.w G.K G.mg G.base (L2N.CX G.P G.w) G.k f fd ps (spF G.K m)) (I : Inv X pins σ H s) (r : Vals vs us) (rp : Rep G.K ρ Λ H) (t : RepVs G.K ρ H as vs) (p : Post G.K W σ (TV G.K) ρ H (m (as ++ das) Λ) Q) :
    wpAny (model X.prog X.w) X.A (call (.ref f) us) (EP X pins σ Q) X.xe s :=
  run_fnSD (E := fun σ => WE W σ) (fn_fit F h6) (F.rm hc) (by rw [F.hK]; exact h3) h4 (L2N.passAt tk σ) I r ⟨ρ, Λ, as ++ das, rp, t.append (h5 _ _), call_post p⟩
theorem insA_some {a : AV} {n : Nat} (h : insA a Λ = some (n, c)) : a = .ref n ∧ ∃ fs, Λ[n]? = some (.ins c fs) := by
  unfold insA at h
  split at h
  · split at h
    · rename_i e
      cases h
      exact ⟨rfl, _, e⟩
    · cases h
  · cases h
theorem mk_post {x dx : Addr} (rp : Rep G.K ρ Λ H) (t : RepVs G.K ρ H as vs) (hx : H x = none) (hd : H dx = none) (ne : dx ≠ x) (p : Post G.K W σ (TV G.K) ρ H (mkR c m as Λ) Q) :
    ∃ ρ2, Rep G.K ρ2 (Λ ++ [.ins c []]) (upd (upd H dx (.own x)) x (.ins (He.ga G.K c) dx [])) ∧ RepVs G.K ρ2 (upd (upd H dx (.own x)) x (.ins (He.ga G.K c) dx [])) (.ref Λ.length :: as) (.ref x :: vs) ∧
      Post G.K W σ (TV G.K) ρ2 (upd (upd H dx (.own x)) x (.ins (He.ga G.K c) dx [])) (m (.ref Λ.length :: as) (Λ ++ [.ins c []])) (fun v H2 => v = .non ∧ Q (.ref x) H2) := by
  obtain ⟨rs, es⟩ := rp.side (u := .own x) hd
  have hx' : (upd H dx (.own x)) x = none := by rw [upd_ne (Ne.symm ne)]; exact hx
  obtain ⟨ra, ea, hp⟩ := rs.alloc (u := .ins (He.ga G.K c) dx []) (o := .ins c []) hx' ⟨rfl, .nil⟩
  refine ⟨ρ ++ [x], ra, .cons (.ref hp) (t.mono (es.trans ea)), ?_⟩
  have p := p.step (es.trans ea)
  unfold mkR at p
  revert p
  cases m (.ref Λ.length :: as) (Λ ++ [.ins c []]) with
  | ok v Λ' =>
    cases v <;> intro p <;> first | exact p.elim | skip
    intro ρ' u H' e r' t'
    cases t'
    exact ⟨rfl, p ρ' (.ref x) H' e r' (.ref (e.get hp))⟩
  | ex c' d Λ' => exact fun p => p
  | bad => exact fun p => p
end
/-! ### rules -/
section
variable {G : GX} {a b e o : Expr} {es : List Expr} {fa fb fe fo : ME} {fr : MA} {pos p apos : Pos} {c f nm : Str} {das : List AV} {m : MF} {g : G2}
theorem je_make {x : Str} {k : Nat} (hf : MakA G.P G.w G.K G.mg G.base k x das m) (hk : k + 1 ≤ G.k) (hg : G.sc.names.lookup x = some .globalImplicit) (ha : JA G (e :: es) fr)
    (hd : (x == ("__debug__" : Str)) = false) (he : ∀ env : Env, starEach (e :: es) env = (false, eval e env) :: starEach es env) (hpl : ∀ env : Env, (backTo pos (starEach es env)).any (·.1) = false) (hc : G.hx = none := by rfl) :
    JE G (.Call (.Name x p) (e :: es) [] pos) (dCall (mkR x fun as => m (as ++ das)) fr) := fun X F W tk => by
  obtain ⟨h1, h2, h3, ⟨c0, f, fd, ps, ds, dvs, q1, q2, q3, q4, q5, q6, q7⟩⟩ := hf
  refine ⟨fun pins s σ H Q I ⟨ρ, δ, Λ, r, v, pp⟩ => ?_⟩
  refine wpAny_Call_Name_kw (ld_glob I (gl_of F hg) (by rw [F.hmg]; exact h1) ?_ hd)
  refine PySem.W.callWith_K (h₀ := X.base) I.ok.mod.kin (by rw [F.hK]; exact h3) (thn ((ha X F W tk).run pos pins s σ H (fun vs H1 => ∃ as Λ1 ρ1, Rep G.K ρ1 Λ1 H1 ∧ RepVs G.K ρ1 H1 as vs ∧ Post G.K W σ (TV G.K) ρ1 H1 (mkR x (fun as => m (as ++ das)) as Λ1) Q) I ⟨ρ, δ, Λ, r, v, pp.bind.imp fun vs H1 ⟨as, Λ1, ρ1, e1, r1, t1, p1⟩ => ⟨as, Λ1, ρ1, r1, t1, p1⟩⟩) fun us s1 ⟨vs, H1, I1, ru, as, Λ1, ρ1, r1, t1, p1⟩ => ⟨I1.kIn, ?_⟩) (he _) (hpl _)
  refine run_makeSD (E := fun σ => WE W σ) ⟨by rw [F.hK]; exact h2, by rw [F.hK]; exact q1, by rw [F.hK]; exact q2, by rw [F.hK]; exact h3⟩ (fn_fit F q7) ((F.rm hc).mono hk) (by rw [F.hK]; exact q4) q5 (L2N.passAt tk σ) I1 ru fun y dy hy hdy ne => ?_
  obtain ⟨ρ2, rr, tt, pq⟩ := mk_post r1 t1 hy hdy ne p1
  exact ⟨ρ2, _, _, rr, tt.append (q6 ρ2 _), call_post pq⟩
theorem je_make0 {x : Str} {k : Nat} (hf : MakA G.P G.w G.K G.mg G.base k x das m) (hk : k + 1 ≤ G.k) (hg : G.sc.names.lookup x = some .globalImplicit) (hd : (x == ("__debug__" : Str)) = false) (hc : G.hx = none := by rfl) :
    JE G (.Call (.Name x p) [] [] pos) (dCall (mkR x fun as => m (as ++ das)) dNil) := fun X F W tk => by
  obtain ⟨h1, h2, h3, ⟨c0, f, fd, ps, ds, dvs, q1, q2, q3, q4, q5, q6, q7⟩⟩ := hf
  refine ⟨fun pins s σ H Q I ⟨ρ, δ, Λ, r, v, pp⟩ => ?_⟩
  refine wpAny_Call_Name_kw (ld_glob I (gl_of F hg) (by rw [F.hmg]; exact h1) ?_ hd)
  have pp : Post G.K W σ (TV G.K) ρ H (mkR x (fun as => m (as ++ das)) [] Λ) Q := pp
  refine PySem.W.callWith_K0 I.kIn (by rw [F.hK]; exact h3) (run_makeSD (us := []) (E := fun σ => WE W σ) ⟨by rw [F.hK]; exact h2, by rw [F.hK]; exact q1, by rw [F.hK]; exact q2, by rw [F.hK]; exact h3⟩ (fn_fit F q7) ((F.rm hc).mono hk) (by rw [F.hK]; exact q4) q5 (L2N.passAt tk σ) I .nil fun y dy hy hdy ne => ?_)
  obtain ⟨ρ2, rr, tt, pq⟩ := mk_post r .nil hy hdy ne pp
  exact ⟨ρ2, _, _, rr, tt.append (q6 ρ2 _), call_post pq⟩
theorem lookup_rep {K : PySem.W.Frag} {ρ : List Addr} {H : Hp} {f : Str} {v : AV} {fs : List (Str × AV)} {vs : List (Str × V)} (h : RepKV K ρ H fs vs) (e : fs.lookup f = some v) : ∃ u, vs.lookup f = some u ∧ RepV K ρ H v u := by
  unfold RepKV at h
  induction h with
  | nil => cases e
  | @cons p q ps qs h t ih =>
    obtain ⟨pk, pv⟩ := p
    obtain ⟨qk, qv⟩ := q
    obtain ⟨h1, h2⟩ := h
    cases h1
    rw [List.lookup_cons] at e ⊢
    cases hb : (f == pk) with
    | true => rw [hb] at e; cases e; exact ⟨_, rfl, h2⟩
    | false => rw [hb] at e; exact ih e
theorem lookup_rep0 {K : PySem.W.Frag} {ρ : List Addr} {H : Hp} {f : Str} {fs : List (Str × AV)} {vs : List (Str × V)} (h : RepKV K ρ H fs vs) (e : fs.lookup f = none) : vs.lookup f = none := by
  unfold RepKV at h
  induction h with
  | nil => rfl
  | @cons p q ps qs h t ih =>
    obtain ⟨pk, pv⟩ := p
    obtain ⟨qk, qv⟩ := q
    obtain ⟨h1, h2⟩ := h
    cases h1
    rw [List.lookup_cons] at e ⊢
    cases hb : (f == pk) with
    | true => rw [hb] at e; cases e
    | false => rw [hb] at e; exact ih e
theorem putFl_rep {K : PySem.W.Frag} {ρ : List Addr} {H : Hp} {f : Str} {v : AV} {u : V} (hv : RepV K ρ H v u) {fs : List (Str × AV)} {vs : List (Str × V)} (h : RepKV K ρ H fs vs) : RepKV K ρ H (putFl f v fs) (putF f u vs) := by
  unfold RepKV at h ⊢
  induction h with
  | nil => exact .cons ⟨rfl, hv⟩ .nil
  | @cons p q ps qs h t ih =>
    obtain ⟨pk, pv⟩ := p
    obtain ⟨qk, qv⟩ := q
    obtain ⟨h1, h2⟩ := h
    cases h1
    unfold putFl putF
    by_cases e : pk = f
    · simp only [e, if_true]
      exact .cons ⟨rfl, hv⟩ t
    · simp only [e, if_false]
      exact .cons ⟨rfl, h2⟩ ih
theorem je_att {tab : List (Str × Option MF)} (ht : AttT G.P G.w G.K G.mg G.base G.k f tab) (ha : JE G e fe) (hb : ∀ env : Env, attributeBase e f env (eval e env) = eval e env) (hc : G.hx = none := by rfl) :
    JE G (.Attribute e f pos) (dAtt f tab fe) := fun X F W tk => by
  refine ⟨fun pins s σ H Q I ⟨ρ, δ, Λ, r, v, pp⟩ => ?_⟩
  refine attr_of (hb _) (thn ((ha X F W tk).run pins s σ H (fun x H1 => ∃ a Λ1 ρ1, Rep G.K ρ1 Λ1 H1 ∧ RepV G.K ρ1 H1 a x ∧ Post G.K W σ (TV G.K) ρ1 H1 (attR f tab a Λ1) Q) I ⟨ρ, δ, Λ, r, v, pp.bind.imp fun x H1 ⟨a, Λ1, ρ1, e1, r1, t1, p1⟩ => ⟨a, Λ1, ρ1, r1, t1, p1⟩⟩) fun u s1 ⟨x, H1, I1, rx, a, Λ1, ρ1, r1, t1, p1⟩ => ?_)
  unfold attR at p1
  split at p1
  · rename_i n
    cases t1 with
    | @ref ax _ hn =>
    cases (show u = Value.ref ax from rx)
    split at p1
    · rename_i c fs hΛ
      obtain ⟨dx, vs, hH, hfs⟩ := ins_at r1 hn hΛ
      split at p1
      · rename_i hl
        obtain ⟨q1, q2⟩ := AttT.fld ht hl
        split at p1
        · rename_i y hy
          obtain ⟨uy, hu, ru⟩ := lookup_rep hfs hy
          exact getattr_ok I1 hH (by rw [F.hK]; exact q1) (by rw [F.hK]; exact q2) hu fun u' s2 I2 ru' => ⟨uy, H1, I2, ru', p1.ok r1 ru⟩
        · exact p1.elim
      · rename_i m hl
        obtain ⟨j, hj, q1, pp1, g1, fd, ps, q2, q3, q4⟩ := AttT.pro ht hl
        refine getprop_ok (E := fun _ _ _ => False) (dvs := []) I1 hH (by rw [F.hK]; exact q1) (by rw [F.hK]; exact q2) (fn_fit F q4) ((F.rm hc).mono hj) (by rw [F.hK]; exact q3) .nil ?_ ?_
        · intro pins' σ' H' s' e' s2 I' cx
          exact L2N.passes_call (X := X.nox) (W := W0) takes0N (fun _ _ _ _ z => False.elim z) pins' σ' H' s' e' s2 I' cx
        · refine ⟨ρ1, Λ1, [.ref n], r1, .cons (.ref hn) .nil, ?_⟩
          revert p1
          cases m [.ref n] Λ1 with
          | ok v Λ' => exact fun p1 => p1
          | ex c d Λ' => exact fun p1 => p1.elim
          | bad => exact fun p1 => p1.elim
      · exact p1.elim
    · exact p1.elim
  · exact p1.elim
end
section
variable {G : GX} {a b e o : Expr} {es : List Expr} {fa fb fe fo : ME} {fr : MA} {pos p apos : Pos} {c f nm : Str} {das : List AV} {m : MF} {g : G2}
theorem meth_post {K : PySem.W.Frag} {W : WX} {σ : L2.St} {ρ : List Addr} {H : Hp} {Q : VK} {tab : List (Str × List AV × MF)} {x : AV} {y : V} {Λ : AH} {k : (List AV × MF) → R AV} (r : Rep K ρ Λ H) (t : RepV K ρ H x y) (p : Post K W σ (TV K) ρ H (methR nm tab x Λ k) Q) :
    ∃ (n : Nat) (ax dx : Addr) (c : Str) (vs : List (Str × V)) (q : List AV × MF), x = .ref n ∧ y = .ref ax ∧ H ax = some (.ins (He.ga K c) dx vs) ∧ vs.lookup nm = none ∧ tab.lookup c = some q ∧ Post K W σ (TV K) ρ H (k q) Q := by
  unfold methR at p
  split at p
  · rename_i n
    cases t with
    | @ref ax _ hn =>
    split at p
    · rename_i c fs hΛ
      obtain ⟨dx, vs, hH, hfs⟩ := ins_at r hn hΛ
      split at p
      · rename_i q hq
        by_cases hl : fs.lookup nm = none
        · rw [if_pos hl] at p
          exact ⟨n, ax, dx, c, vs, q, rfl, rfl, hH, lookup_rep0 hfs hl, hq, p⟩
        · rw [if_neg hl] at p; exact p.elim
      · exact p.elim
    · exact p.elim
  · exact p.elim
theorem je_meth {tab : List (Str × List AV × MF)} {pl : Env → Sem Bool} (ht : MetT G.P G.w G.K G.mg G.base G.k nm tab) (ho : JE G o fo) (ha : JA G (e :: es) fr)
    (hst : ∀ env : Env, starEach (e :: es) env = (false, eval e env) :: starEach es env) (hpl : ∀ env : Env, (backTo pos (starEach es env)).any (·.1) = false)
    (hev : ∀ env : Env, eval (.Call (.Attribute o nm apos) (e :: es) [] pos) env = (do
      let ov ← eval o env
      standAt apos.atName
      let (f, first) ← holding [ov] (getMethod ov nm (pl env))
      callWith pos f first (backTo pos (starEach (e :: es) env)) (backToKw pos (keywordEach [] env)))) (hc : G.hx = none := by rfl) :
    JE G (.Call (.Attribute o nm apos) (e :: es) [] pos) (dMeth nm tab fo fr) := fun X F W tk => by
  refine ⟨fun pins s σ H Q I ⟨ρ, δ, Λ, r, v, pp⟩ => ?_⟩
  refine PySem.W.methodCall_KW (pl := pl X.env) (thn ((ho X F W tk).run pins s σ H (fun x H1 => ∃ a Λ1 ρ1, Rep G.K ρ1 Λ1 H1 ∧ RepE G.K G.hx ρ1 H1 δ σ ∧ RepV G.K ρ1 H1 a x ∧ Post G.K W σ (TV G.K) ρ1 H1 (methR nm tab a Λ1 fun q => (fr δ Λ1).bind fun as Λ2 => q.2 (a :: (as ++ q.1)) Λ2) Q) I ⟨ρ, δ, Λ, r, v, pp.bind.imp fun x H1 ⟨a, Λ1, ρ1, e1, r1, t1, p1⟩ => ⟨a, Λ1, ρ1, r1, v.mono e1, t1, p1⟩⟩) fun u s1 ⟨x, H1, I1, rx, a, Λ1, ρ1, r1, v1, t1, p1⟩ => ?_) (hev _)
  obtain ⟨n, ax, dx, c, vs, q, rfl, rfl, hH, hno, hq, p2⟩ := meth_post r1 t1 p1
  cases (show u = Value.ref ax from rx)
  obtain ⟨c0, f, fd, ps, ds, dvs, q1, q2, q3, q4, q5, q6, q7⟩ := MetT.at_ ht hq
  refine getmeth_ok I1 hH (by rw [F.hK]; exact c0) (g := f) ⟨by rw [F.hK]; exact q1, by rw [F.hK]; exact q2, by rw [F.hK]; exact q3⟩ hno ?_
  refine PySem.W.callWith_K (first := [.ref ax]) (h₀ := X.base) I.ok.mod.kin (by rw [F.hK]; exact q3) (thn ((ha X F W tk).run pos pins s1 σ H1 (fun vs H2 => ∃ as Λ2 ρ2, Rep G.K ρ2 Λ2 H2 ∧ RepV G.K ρ2 H2 (.ref n) (.ref ax) ∧ RepVs G.K ρ2 H2 as vs ∧ Post G.K W σ (TV G.K) ρ2 H2 (q.2 (.ref n :: (as ++ q.1)) Λ2) Q) I1 ⟨ρ1, δ, Λ1, r1, v1, p2.bind.imp fun vs H2 ⟨as, Λ2, ρ2, e2, r2, t2, p3⟩ => ⟨as, Λ2, ρ2, r2, t1.mono e2, t2, p3⟩⟩) fun us s2 ⟨vs, H2, I2, ru, as, Λ2, ρ2, r2, t1', t2, p3⟩ => ⟨I2.kIn, ?_⟩) (hst _) (hpl _)
  exact met_run (us := .ref ax :: us) (vs := .ref ax :: vs) (as := .ref n :: as) F hc tk q4 q5 q6 q7 I2 (.cons rfl ru) r2 (.cons t1' t2) p3
theorem je_meth0 {tab : List (Str × List AV × MF)} {pl : Env → Sem Bool} (ht : MetT G.P G.w G.K G.mg G.base G.k nm tab) (ho : JE G o fo)
    (hev : ∀ env : Env, eval (.Call (.Attribute o nm apos) [] [] pos) env = (do
      let ov ← eval o env
      standAt apos.atName
      let (f, first) ← holding [ov] (getMethod ov nm (pl env))
      callWith pos f first (backTo pos (starEach [] env)) (backToKw pos (keywordEach [] env)))) (hc : G.hx = none := by rfl) :
    JE G (.Call (.Attribute o nm apos) [] [] pos) (dMeth nm tab fo dNil) := fun X F W tk => by
  refine ⟨fun pins s σ H Q I ⟨ρ, δ, Λ, r, v, pp⟩ => ?_⟩
  refine PySem.W.methodCall_KW (pl := pl X.env) (thn ((ho X F W tk).run pins s σ H (fun x H1 => ∃ a Λ1 ρ1, Rep G.K ρ1 Λ1 H1 ∧ RepV G.K ρ1 H1 a x ∧ Post G.K W σ (TV G.K) ρ1 H1 (methR nm tab a Λ1 fun q => (dNil δ Λ1).bind fun as Λ2 => q.2 (a :: (as ++ q.1)) Λ2) Q) I ⟨ρ, δ, Λ, r, v, pp.bind.imp fun x H1 ⟨a, Λ1, ρ1, e1, r1, t1, p1⟩ => ⟨a, Λ1, ρ1, r1, t1, p1⟩⟩) fun u s1 ⟨x, H1, I1, rx, a, Λ1, ρ1, r1, t1, p1⟩ => ?_) (hev _)
  obtain ⟨n, ax, dx, c, vs, q, rfl, rfl, hH, hno, hq, p2⟩ := meth_post r1 t1 p1
  cases (show u = Value.ref ax from rx)
  obtain ⟨c0, f, fd, ps, ds, dvs, q1, q2, q3, q4, q5, q6, q7⟩ := MetT.at_ ht hq
  refine getmeth_ok I1 hH (by rw [F.hK]; exact c0) (g := f) ⟨by rw [F.hK]; exact q1, by rw [F.hK]; exact q2, by rw [F.hK]; exact q3⟩ hno ?_
  exact PySem.W.callWith_K0 (first := [.ref ax]) I1.kIn (by rw [F.hK]; exact q3) (met_run (us := [.ref ax]) (vs := [.ref ax]) (as := [.ref n]) F hc tk q4 q5 q6 q7 I1 (.cons rfl .nil) r1 (.cons t1 .nil) p2)
/-- an own operator's answer -/
theorem op_run {X : Cx} {W : WX} {op : Operator} {on : String} {tab : List (Str × MF)} {fn : Value → Value → Sem Value} {pins : List (Addr × Obj)} {s : Shared} {σ : L2.St} {H : Hp} {x y : V} {v u : Value} {Q : VK} {ρ : List Addr} {Λ : AH} {a b : AV} (F : G.Fit X) (hc : G.hx = none) (tk : L2N.Takes X W)
    (hb : ∀ {Q : Value → Shared → Prop} {x C f : Addr} {s : Shared} {ox : Obj} {od : Option Obj} {b : Value} {m : Str → Option Value}, Fr X.base X.env.locals s.heap m → X.K.In X.base → PySem.W.InstAt s.heap x ox C od → PySem.W.Looks (model X.prog X.w) s.heap (typeOf b) (.ref C) → PySem.W.selfFirst X.K C = true →
      PySem.W.findIn X.K (.ref C) on = some (some (.ref f)) → PySem.W.isFn X.K (.ref f) = true → wpAny (model X.prog X.w) X.A (call (.ref f) [.ref x, b]) (PySem.W.CmpBack Q) X.xe s → wpAny (model X.prog X.w) X.A (fn (.ref x) b) Q X.xe s)
    (ho : OpR X fn (r2 G.K g)) (ht : OpT G.P G.w G.K G.mg G.base G.k on tab) (I : Inv X pins σ H s) (rx : RelV x v) (ry : RelV y u) (rp : Rep G.K ρ Λ H) (ta : RepV G.K ρ H a x) (tb : RepV G.K ρ H b y) (p : Post G.K W σ (TV G.K) ρ H (opO g tab a b Λ) Q) :
    wpAny (model X.prog X.w) X.A (fn v u) (EP X pins σ Q) X.xe s := by
  unfold opO at p
  split at p
  · rename_i n c hi
    obtain ⟨rfl, fs, hΛ⟩ := insA_some hi
    cases ta with
    | @ref ax _ hn =>
    obtain ⟨dx, vs, hH, hfs⟩ := ins_at rp hn hΛ
    cases (show v = Value.ref ax from rx)
    split at p
    · rename_i m hm
      by_cases hr : okRt c b Λ = true
      · rw [if_pos hr] at p
        unfold okRt at hr
        split at hr
        · rename_i n' c' hi'
          obtain rfl : c' = c := by simpa using hr
          obtain ⟨rfl, fs', hΛ'⟩ := insA_some hi'
          cases tb with
          | @ref ay _ hn' =>
          obtain ⟨dy, vs', hH', hfs'⟩ := ins_at rp hn' hΛ'
          cases (show u = Value.ref ay from ry)
          obtain ⟨⟨c0, f, fd, ps, ds, dvs, q1, q2, q3, q4, q5, q6, q7⟩, hsf⟩ := OpT.at_ ht hm
          obtain ⟨mA, O, _, _, _, _⟩ := ins_get I.hok hH
          obtain ⟨od, J, _⟩ := O.look
          obtain ⟨mA', O', _, _, _, _⟩ := ins_get I.hok hH'
          obtain ⟨od', J', _⟩ := O'.look
          obtain ⟨mm, hF⟩ := I.fr
          refine hb hF I.ok.mod.kin J J'.type (by rw [F.hK]; exact hsf) (by rw [F.hK]; exact q1) (by rw [F.hK]; exact q2) ?_
          refine wpAny_mono (met_run (us := [.ref ax, .ref ay]) (vs := [.ref ax, .ref ay]) (as := [.ref n, .ref n']) F hc tk q4 q5 q6 q7 I (.cons rfl (.cons rfl .nil)) rp (.cons (.ref hn) (.cons (.ref hn') .nil)) p) (fun w s' z => ?_) fun _ _ x => x
          obtain ⟨z', H', I', rz, qz⟩ := z
          exact SlX.cmpback rz ⟨z', H', I', rz, qz⟩
        · cases hr
      · rw [if_neg hr] at p; exact p.elim
    · exact p.elim
  · exact ho pins s σ H x y v u Q I rx ry ⟨ρ, Λ, a, b, rp, ta, tb, post_lift p⟩
theorem je_opO {op : Operator} {on : String} {tab : List (Str × MF)} (hn : PySem.dunder op.info.2 = on) (ht : OpT G.P G.w G.K G.mg G.base G.k on tab) (ho : ∀ X, G.Fit X → OpR X (binaryOp op) (r2 G.K g)) (ha : JE G a fa) (hb : JE G b fb) (hc : G.hx = none := by rfl) :
    JE G (.BinOp a op b pos) (dOpO g tab fa fb) := fun X F W tk => by
  refine ⟨fun pins s σ H Q I ⟨ρ, δ, Λ, r, v, pp⟩ => ?_⟩
  refine wpAny_BinOp (binT (ha X F W tk) (hb X F W tk) (R := fun x y H2 => ∃ ρ2 Λ2 a b, Rep G.K ρ2 Λ2 H2 ∧ RepV G.K ρ2 H2 a x ∧ RepV G.K ρ2 H2 b y ∧ Post G.K W σ (TV G.K) ρ2 H2 (opO g tab a b Λ2) Q) I ?_ ?_)
  · refine ⟨ρ, δ, Λ, r, v, pp.bind.imp fun x H1 ⟨a, Λ1, ρ1, e1, r1, t1, p1⟩ => ?_⟩
    refine ⟨ρ1, δ, Λ1, r1, v.mono e1, p1.bind.imp fun y H2 ⟨b, Λ2, ρ2, e2, r2, t2, p2⟩ => ?_⟩
    exact ⟨ρ2, Λ2, a, b, r2, t1.mono e2, t2, p2⟩
  · intro v' u' s2 x y H2 I2 rx ry ⟨ρ2, Λ2, a, b, r2, t1, t2, p2⟩
    refine op_run (op := op) F hc tk ?_ (ho X F) ht I2 rx ry r2 t1 t2 p2
    intro Q x C f s ox od b m h1 h2 h3 h4 h5 h6 h7 h8
    exact PySem.W.binop_K h1 h2 h3 h4 h5 (by rw [hn]; exact h6) h7 h8
theorem j1_augO {op : Operator} {on : String} {tab : List (Str × MF)} {i : Nat} {x : Str} {pos' : Pos} (hn : dunderI op.info.2 = on) (ht : OpT G.P G.w G.K G.mg G.base G.k on tab) (ho : ∀ X, G.Fit X → OpR X (inplaceOp op) (r2 G.K g)) (hi : G.N[i]? = some x) (hx : LocG G x) (ha : JE G e fe)
    (hne : hxNe G.hx i = true := by rfl) (hc : G.hx = none := by rfl) : J1 G (.AugAssign (.Name x pos') op e pos) (dAugO i g tab fe) := fun X F W tk => by
  refine ⟨fun pins s σ H D I ⟨ρ, δ, Λ, r, v, pp⟩ => ?_⟩
  unfold dAugO at pp
  split at pp
  · rename_i xv hxv
    obtain ⟨xx, e1, t1⟩ := v.val i xv hxv
    obtain ⟨m, hns, hl⟩ := I.loc
    have hxl := hx.loc F
    have vis : Vis X.env.scope x := by rcases hxl with k | k; exact .inl k; exact .inr (.inl k)
    obtain ⟨u, rx, l⟩ := hl i x xx (by rw [F.hN]; exact hi) e1 vis
    refine wpAny_AugAssign_Name ?_
    have go : wpAny (model X.prog X.w) X.A (eval e X.env) (fun w s₂ => wpAny (model X.prog X.w) X.A (inplaceOp op u w) (fun r s₃ => wpAny (model X.prog X.w) X.A (storeName X.env x r) (fun _ => SP X pins D .next) X.xe s₃) X.xe s₂) X.xe s := by
      refine thn ((ha X F W tk).run pins s σ H (fun y H1 => ∃ b Λ1 ρ1, Ext ρ ρ1 H H1 ∧ Rep G.K ρ1 Λ1 H1 ∧ RepV G.K ρ1 H1 b y ∧ RepE G.K G.hx ρ1 H1 δ σ ∧ PostS G.K G.hx W D ρ1 H1 (sR δ (opO g tab xv b Λ1) fun z Λ2 => .nx (δ.set i (some z)) Λ2)) I ⟨ρ, δ, Λ, r, v, sR_post v pp⟩) fun w s1 ⟨y, H1, I1, ry, b, Λ1, ρ1, ex1, r1, tb, v1, p1⟩ => ?_
      refine thn (op_run (op := op) (Q := fun z H2 => ∃ zv Λ2 ρ2, Rep G.K ρ2 Λ2 H2 ∧ RepV G.K ρ2 H2 zv z ∧ RepE G.K G.hx ρ2 H2 δ σ ∧ PostS G.K G.hx W D ρ2 H2 (.nx (δ.set i (some zv)) Λ2)) F hc tk ?_ (ho X F) ht I1 rx ry r1 (t1.mono ex1) tb ((sR_post v1 p1).imp fun z H2 ⟨zv, Λ2, ρ2, _, r2, t2, v2, p2⟩ => ⟨zv, Λ2, ρ2, r2, t2, v2, p2⟩)) fun z s2 ⟨zv, H2, I2, rz, az, Λ2, ρ2, r2, tz, v2, p2⟩ => ?_
      · intro Q x C f s ox od b m h1 h2 h3 h4 h5 h6 h7 h8
        exact PySem.W.ksp_inplace h1 h2 h3 h5 (by rw [hn]; exact h6) h7 h8
      · exact store_ok I2 F.nd (by rw [F.hN]; exact hi) hxl rz (fun s3 I3 => ⟨_, H2, I3, p2 ρ2 _ H2 (Ext.refl _ _) r2 (v2.set hne tz)⟩) (hx.fn F)
    rcases l with ⟨hk, hm⟩ | ⟨hk, c, hcc, hcell⟩
    · exact wpAny_loadName_local I.ok.kind hk hns hm go
    · rcases hk with hk | hk
      · exact wpAny_loadName_cell I.ok.kind hk hcc hcell go
      · have hk2 : X.env.scope.names.lookup x = some .free := hk
        rcases hxl with k | k
        · rw [k] at hk2; cases hk2
        · rw [k] at hk2; cases hk2
  · exact pp.elim
theorem j1_setF {cs : List Str} {pos' : Pos} (hf : ∀ c ∈ cs, FldA G.K c f) (ho : JE G o fo) (ha : JE G e fe) (hs : ∀ env : Env, swapsWith e (some (.Attribute o f pos')) pos.line env = pure false) :
    J1 G (.Assign [.Attribute o f pos'] e pos) (dSetF cs f fo fe) := fun X F W tk => by
  refine ps_imp (ps_fld (ho X F W tk) (ha X F W tk) (hs _)) fun D σ H ⟨ρ, δ, Λ, r, v, pp⟩ => ?_
  refine ⟨ρ, δ, Λ, r, v, (sR_post v pp).imp fun y H1 ⟨av, Λ1, ρ1, e1, r1, t1, v1, p1⟩ => ?_⟩
  refine ⟨ρ1, δ, Λ1, r1, v1, (sR_post v1 p1).imp fun x H2 ⟨ao, Λ2, ρ2, e2, r2, t2, v2, p2⟩ => ?_⟩
  unfold setFR at p2
  split at p2
  · rename_i n
    cases t2 with
    | @ref ax _ hn =>
    split at p2
    · rename_i c fs hΛ
      obtain ⟨dx, vs, hH, hfs⟩ := ins_at r2 hn hΛ
      by_cases hq : cs.contains c ∧ fs.length < 1000
      · rw [if_pos hq] at p2
        obtain ⟨h1, h2⟩ := hq
        obtain ⟨q1, q2⟩ := hf c (List.contains_iff_mem.mp h1)
        have hl : vs.length < 1000 := by
          have := Paired.length hfs
          omega
        refine ⟨ax, _, dx, vs, rfl, hH, by rw [F.hK]; exact q1, by rw [F.hK]; exact q2, hl, ?_⟩
        obtain ⟨rw_, ew⟩ := r2.write (o' := .ins c (putFl f av fs)) (u := .ins (He.ga G.K c) dx (putF f y vs)) hn hΛ ⟨rfl, putFl_rep (t1.mono e2) hfs⟩
        exact p2 ρ2 σ _ ew rw_ (v2.mono ew)
      · rw [if_neg hq] at p2; exact p2.elim
    · exact p2.elim
  · exact p2.elim
/-! ### comparisons -/
def JC (G : GX) (op : CmpOp) (a b : Expr) (f : ME) : Prop := ∀ X, G.Fit X → ∀ W, L2N.Takes X W → PC X op a b (tE G.K G.hx W f)
theorem je_c {op : CmpOp} (h : JC G op a b fa) (hm : behindInMarks op b = false) : JE G (.Compare a [op] [b] pos) fa := fun X F W tk => pe_cmp (h X F W tk) hm
theorem jt_c {op : CmpOp} (h : JC G op a b fa) (hm : behindInMarks op b = false) : JT G (.Compare a [op] [b] pos) (dTB fa) := fun X F W tk => by
  refine pt_imp (pt_cmp (h X F W tk) hm) fun σ H Q ⟨ρ, δ, Λ, r, v, p⟩ => ?_
  unfold dTB at p
  refine ⟨ρ, δ, Λ, r, v, p.bind.imp fun x H1 ⟨a, Λ1, ρ1, e1, r1, t1, p1⟩ => ?_⟩
  exact blA_inv r1 t1 p1
theorem jc_inO {op : CmpOp} {neg : Bool} {tab : List (Str × MF)} (hop : (op = .In ∧ neg = false) ∨ (op = .NotIn ∧ neg = true)) (ht : OpT G.P G.w G.K G.mg G.base G.k "__contains__" tab) (ho : ∀ X, G.Fit X → OpR X (compareOp op) (r2 G.K g)) (ha : JE G a fa) (hb : JE G b fb) (hc : G.hx = none := by rfl) :
    JC G op a b (dInO g neg tab fa fb) := fun X F W tk => by
  refine ⟨fun pins s σ H Q I ⟨ρ, δ, Λ, r, v, pp⟩ => ?_⟩
  refine binT (ha X F W tk) (hb X F W tk) (R := fun x y H2 => ∃ ρ2 Λ2 a b, Rep G.K ρ2 Λ2 H2 ∧ RepV G.K ρ2 H2 a x ∧ RepV G.K ρ2 H2 b y ∧ Post G.K W σ (TV G.K) ρ2 H2 (inO g neg tab a b Λ2) Q) I ?_ ?_
  · refine ⟨ρ, δ, Λ, r, v, pp.bind.imp fun x H1 ⟨a, Λ1, ρ1, e1, r1, t1, p1⟩ => ?_⟩
    refine ⟨ρ1, δ, Λ1, r1, v.mono e1, p1.bind.imp fun y H2 ⟨b, Λ2, ρ2, e2, r2, t2, p2⟩ => ?_⟩
    exact ⟨ρ2, Λ2, a, b, r2, t1.mono e2, t2, p2⟩
  · intro v' u' s2 x y H2 I2 rx ry ⟨ρ2, Λ2, a, b, r2, t1, t2, p2⟩
    unfold inO at p2
    split at p2
    · rename_i n c hi
      obtain ⟨rfl, fs, hΛ⟩ := insA_some hi
      cases t2 with
      | @ref ay _ hn =>
      obtain ⟨dx, vs, hH, hfs⟩ := ins_at r2 hn hΛ
      cases (show u' = Value.ref ay from ry)
      split at p2
      · rename_i m hm
        obtain ⟨⟨c0, f, fd, ps, ds, dvs, q1, q2, q3, q4, q5, q6, q7⟩, _⟩ := OpT.at_ ht hm
        obtain ⟨mA, O, _, _, _, _⟩ := ins_get I2.hok hH
        obtain ⟨od, J, _⟩ := O.look
        obtain ⟨mm, hF⟩ := I2.fr
        have run := met_run (us := [.ref ay, v']) (vs := [.ref ay, x]) (as := [.ref n, a]) (Q := fun z H3 => ∃ t, z = .bl t ∧ Q (.bl (t != neg)) H3) F hc tk q4 q5 q6 q7 I2 (.cons rfl (.cons rx .nil)) r2 (.cons (.ref hn) (.cons t1 .nil)) (by
          refine p2.bind.imp fun z H3 ⟨zv, Λ3, ρ3, e3, r3, t3, p3⟩ => ?_
          cases t3 with
          | bl t => exact ⟨t, rfl, p3.ok r3 (.bl _)⟩
          | _ => exact p3.elim)
        rcases hop with ⟨rfl, rfl⟩ | ⟨rfl, rfl⟩
        · refine PySem.W.in_K hF I2.ok.mod.kin J (by rw [F.hK]; exact q1) (by rw [F.hK]; exact q2) (wpAny_mono run (fun w s' ⟨z, H', I', rz, t, ez, qz⟩ => ?_) fun _ _ x => x)
          subst ez
          cases rz
          refine wpAny_truthy_bool ⟨.bl t, H', I', rfl, ?_⟩
          cases t <;> exact qz
        · refine PySem.W.notIn_K hF I2.ok.mod.kin J (by rw [F.hK]; exact q1) (by rw [F.hK]; exact q2) (wpAny_mono run (fun w s' ⟨z, H', I', rz, t, ez, qz⟩ => ?_) fun _ _ x => x)
          subst ez
          cases rz
          refine wpAny_truthy_bool ⟨.bl (!t), H', I', rfl, ?_⟩
          cases t <;> exact qz
      · exact p2.elim
    · exact ho X F pins s2 σ H2 x y v' u' Q I2 rx ry ⟨ρ2, Λ2, a, b, r2, t1, t2, post_lift p2⟩
theorem tnE_looks {X : Cx} {pins : List (Addr × Obj)} {σ : L2.St} {H : Hp} {s : Shared} {ρ : List Addr} {Λ : AH} {b : AV} {y : V} {u : Value} {t : TyN} {K : PySem.W.Frag} (hK : X.K = K) (I : Inv X pins σ H s) (ry : RelV y u) (rp : Rep K ρ Λ H) (tb : RepV K ρ H b y) (h : tnE b Λ = some t) :
    PySem.W.Looks (model X.prog X.w) s.heap (typeOf u) (tyVal K t) := by
  cases tb with
  | non => cases h; cases (show u = Value.none from ry); exact PySem.W.Looks.of_pure rfl
  | bl b => cases h; cases (show u = Value.bool b from ry); exact PySem.W.Looks.of_pure rfl
  | int i =>
    cases h
    obtain ⟨t, e⟩ := (show ∃ t, u = Value.int i t from ry)
    subst e
    exact PySem.W.Looks.of_pure rfl
  | str x =>
    cases h
    obtain ⟨t, e⟩ := (show ∃ t, u = Value.str x t from ry)
    subst e
    exact PySem.W.Looks.of_pure rfl
  | @tup a xs vs hH _ =>
    cases h
    cases (show u = Value.ref a from ry)
    obtain ⟨z, its, r, ob, e, c, _⟩ := (show ObjOk X.prog X.w H s.heap a (.tup vs) from I.hok a _ hH)
    have q : PySem.W.Looks (model X.prog X.w) s.heap (typeOf (.ref a)) ob.cls := (PySem.W.Looks.ld e).andThen .now
    rw [c] at q
    exact q
  | @ct a xs vs hk _ =>
    cases h
    cases (show u = Value.ref a from ry)
    obtain ⟨ob, its, n, q1, q2, _⟩ := hk
    have q : PySem.W.Looks (model X.prog X.w) s.heap (typeOf (.ref a)) ob.cls := (PySem.W.Looks.ld (I.kIn a ob (by rw [hK]; exact q1))).andThen .now
    rw [q2] at q
    exact q
  | cl _ _ => cases h
  | rng _ => cases h
  | @ref a n hn =>
    cases (show u = Value.ref a from ry)
    unfold tnE at h
    simp only at h
    split at h
    · rename_i e1
      cases h
      obtain ⟨vs, q1, _⟩ := lst_at rp hn e1
      obtain ⟨z, its, n, r, e⟩ := (show ObjOk X.prog X.w H s.heap a (.lst vs) from I.hok a _ q1)
      exact (PySem.W.Looks.ld (M := model X.prog X.w) e).andThen (f := fun o => pure o.cls) .now
    · rename_i e1
      cases h
      obtain ⟨dx, vs, q1, _⟩ := ins_at rp hn e1
      obtain ⟨mA', O', _, _, _, _⟩ := ins_get I.hok q1
      obtain ⟨od', J', _⟩ := O'.look
      exact J'.type
    · cases h
theorem jc_eqO {tab : List (Str × MF × List TyN)} (ht : EqT G.P G.w G.K G.mg G.base G.k tab) (ho : ∀ X, G.Fit X → OpR X (compareOp .Eq) (r2 G.K g)) (ha : JE G a fa) (hb : JE G b fb) (hc : G.hx = none := by rfl) :
    JC G .Eq a b (dEqO g tab fa fb) := fun X F W tk => by
  refine ⟨fun pins s σ H Q I ⟨ρ, δ, Λ, r, v, pp⟩ => ?_⟩
  refine binT (ha X F W tk) (hb X F W tk) (R := fun x y H2 => ∃ ρ2 Λ2 a b, Rep G.K ρ2 Λ2 H2 ∧ RepV G.K ρ2 H2 a x ∧ RepV G.K ρ2 H2 b y ∧ Post G.K W σ (TV G.K) ρ2 H2 (eqO' g tab a b Λ2) Q) I ?_ ?_
  · refine ⟨ρ, δ, Λ, r, v, pp.bind.imp fun x H1 ⟨a, Λ1, ρ1, e1, r1, t1, p1⟩ => ?_⟩
    refine ⟨ρ1, δ, Λ1, r1, v.mono e1, p1.bind.imp fun y H2 ⟨b, Λ2, ρ2, e2, r2, t2, p2⟩ => ?_⟩
    exact ⟨ρ2, Λ2, a, b, r2, t1.mono e2, t2, p2⟩
  · intro v' u' s2 x y H2 I2 rx ry ⟨ρ2, Λ2, a, b, r2, t1, t2, p2⟩
    unfold eqO' at p2
    split at p2
    · rename_i n c hi
      obtain ⟨rfl, fs, hΛ⟩ := insA_some hi
      cases t1 with
      | @ref ax _ hn =>
      obtain ⟨dx, vs, hH, hfs⟩ := ins_at r2 hn hΛ
      cases (show v' = Value.ref ax from rx)
      split at p2
      · rename_i m ts hm
        split at p2
        · rename_i t htn
          by_cases hts : (ts.any fun u => decide (u = t)) = true
          · rw [if_pos hts] at p2
            obtain ⟨⟨c0, f, fd, ps, ds, dvs, q1, q2, q3, q4, q5, q6, q7⟩, hnf⟩ := EqT.at_ ht hm
            obtain ⟨mA, O, _, _, _, _⟩ := ins_get I2.hok hH
            obtain ⟨od, J, _⟩ := O.look
            obtain ⟨mm, hF⟩ := I2.fr
            have hr := (F.rm hc).units0
            refine PySem.W.cmp_K (op := .Eq) (tb := tyVal G.K t) hr hF I2.ok.mod.kin J (tnE_looks F.hK I2 ry r2 t2 htn) (by rw [F.hK]; exact hnf t (by obtain ⟨u, h1, h2⟩ := List.any_eq_true.mp hts; rw [← of_decide_eq_true h2]; exact h1)) (by rw [F.hK]; exact q1) (by rw [F.hK]; exact q2) ?_
            refine wpAny_mono (met_run (us := [.ref ax, u']) (vs := [.ref ax, y]) (as := [.ref n, b]) F hc tk q4 q5 q6 q7 I2 (.cons rfl (.cons ry .nil)) r2 (.cons (.ref hn) (.cons t2 .nil)) p2) (fun w s' z => ?_) fun _ _ x => x
            obtain ⟨z', H', I', rz, qz⟩ := z
            exact SlX.cmpback rz ⟨z', H', I', rz, qz⟩
          · rw [if_neg hts] at p2; exact p2.elim
        · exact p2.elim
      · exact p2.elim
    · exact ho X F pins s2 σ H2 x y v' u' Q I2 rx ry ⟨ρ2, Λ2, a, b, r2, t1, t2, post_lift p2⟩
end
end NP

set_option Elab.async false
set_option linter.all false
set_option maxRecDepth 100000
set_option maxHeartbeats 2000000
/-! NPX20: what the head tells of own classes. -/
namespace NP
open PySem PySem.Spec PyProof.Rows L2
def gNo2 : G2 := fun _ _ _ => none
theorem op_no2 {X : Cx} {K : PySem.W.Frag} {f : Value → Value → Sem Value} : OpR X f (r2 K gNo2) := fun pins s σ H x y v u Q I rx ry h => by
  obtain ⟨ρ, Λ, a, b, _, _, _, p⟩ := h
  exact p.elim
section
variable {P : Program} {w : World} {K : PySem.W.Frag} {mg : Str → Option Value} {base : Heap} {k : Nat} {c : Str} {das : List AV} {m : MF} {f : Addr}
theorem makA_of (h : mg c = some (.ref (He.ga K c))) (M : Mk K (He.ga K c) f) (met : MetA P w K mg base k c "__init__" das m) : MakA P w K mg base k c das m := ⟨h, M.makes, M.kp, met⟩
end
end NP

set_option Elab.async false
set_option linter.all false
set_option maxRecDepth 100000
set_option maxHeartbeats 4000000
/-! NPX23: `is True` of anything; defs that call themselves; properties in the head; isinstance of own classes. -/
namespace NP
open PySem PySem.Spec PyProof.Rows L2 He
/-! ### is -/
def gIsX : G2 := fun a b Λ => match b with
  | .bl q => match a with
    | .bl p => some (.bl (p == q), Λ)
    | .rng _ _ => none
    | _ => some (.bl false, Λ)
  | _ => gIs a b Λ
def rIsMix : R2 := fun x y H Q => ∃ q, y = .bl q ∧ (x = .non ∨ (∃ i, x = .int i) ∨ (∃ z, x = .str z) ∨ ∃ a, x = .ref a) ∧ Q (.bl false) H
theorem op_isMix {X : Cx} : OpR X (compareOp .Is) rIsMix := by
  intro pins s σ H x y v u Q I rx ry h
  obtain ⟨q, rfl, hx, k⟩ := h
  cases (show u = Value.bool q from ry)
  rcases hx with rfl | ⟨i, rfl⟩ | ⟨z, rfl⟩ | ⟨a, rfl⟩
  · cases (show v = Value.none from rx)
    exact wpAny_pure ⟨.bl false, H, I, rfl, k⟩
  · obtain ⟨t, e⟩ := (show ∃ t, v = Value.int i t from rx)
    subst e
    exact wpAny_pure ⟨.bl false, H, I, rfl, k⟩
  · obtain ⟨t, e⟩ := (show ∃ t, v = Value.str z t from rx)
    subst e
    exact wpAny_pure ⟨.bl false, H, I, rfl, k⟩
  · cases (show v = Value.ref a from rx)
    exact wpAny_pure ⟨.bl false, H, I, rfl, k⟩
theorem op_gIsX {G : GX} {X : Cx} (F : G.Fit X) : OpR X (compareOp .Is) (r2 G.K gIsX) := op_imp (OpR.or (op_gIs F) op_isMix) fun x y H Q ⟨ρ, Λ, a, b, r, ta, tb, p⟩ => by
  unfold gIsX at p
  split at p
  · cases tb
    split at p
    · cases ta
      exact .inl ⟨ρ, Λ, .bl _, .bl _, r, .bl _, .bl _, p⟩
    · exact p.elim
    · rename_i h1 h2
      refine .inr ⟨_, rfl, ?_, p.same r (.bl _)⟩
      cases ta with
      | non => exact .inl rfl
      | bl b => exact absurd rfl (h1 b)
      | int i => exact .inr (.inl ⟨i, rfl⟩)
      | str z => exact .inr (.inr (.inl ⟨z, rfl⟩))
      | tup _ _ => exact .inr (.inr (.inr ⟨_, rfl⟩))
      | ct _ _ => exact .inr (.inr (.inr ⟨_, rfl⟩))
      | ref _ => exact .inr (.inr (.inr ⟨_, rfl⟩))
      | cl _ _ => exact .inr (.inr (.inr ⟨_, rfl⟩))
      | rng _ => exact absurd rfl (h2 _ _)
  · exact .inl ⟨ρ, Λ, a, b, r, ta, tb, p⟩
theorem js_never {G : GX} {ss : List Stmt} : JS G ss dBad := fun X F W tk => ⟨fun pins s σ H D I ⟨_, _, _, _, _, p⟩ => p.elim⟩
/-! ### isinstance of own classes -/
def clsIB (K : PySem.W.Frag) (c : Str) : Bool := (Fa.cls c).ok K && (eqO (PySem.W.findIn K (.ref (ga K c)) "__class__") (some (some (.builtin "object.__class__"))) && (eqO (PySem.W.specialIn K (.builtin "object.__class__") "__get__") (some (some (.builtin "getset_descriptor.__get__"))) && (decide (PySem.W.takesIn K (.builtin "object.__class__") = some true) && decide (PySem.W.mroIn K (ga K c) (.type "object") = some true))))
theorem clsIB_ok {K : PySem.W.Frag} {c : Str} (h : clsIB K c = true) : ClsI K c := by
  obtain ⟨h1, h⟩ := ba h
  obtain ⟨h2, h⟩ := ba h
  obtain ⟨h3, h⟩ := ba h
  obtain ⟨h4, h5⟩ := ba h
  exact ⟨cls_ok h1, eqO_ok h2, eqO_ok h3, of_decide_eq_true h4, of_decide_eq_true h5⟩
def isO (tab : List (TyN × Bool)) (t : TyN) : Option Bool := (tab.find? fun p => decide (p.1 = t)).map (·.2)
def isoB (K : PySem.W.Frag) (u : Value) (tab : List (TyN × Bool)) : Bool := tab.all fun p => decide (PySem.W.kitOne K (tyVal K p.1) u = some p.2) && (match p.1 with
  | .inr C => clsIB K C
  | _ => true)
theorem isoB_ok {K : PySem.W.Frag} {u : Value} {tab : List (TyN × Bool)} (h : isoB K u tab = true) : ∀ t b, isO tab t = some b → PySem.W.kitOne K (tyVal K t) u = some b ∧ ∀ C, t = .inr C → ClsI K C := fun t b e => by
  unfold isO at e
  obtain ⟨p, h1, h2⟩ := Option.map_eq_some_iff.mp e
  have hm := List.mem_of_find?_eq_some h1
  have ht : p.1 = t := of_decide_eq_true (List.find?_some (p := fun p : TyN × Bool => decide (p.1 = t)) h1)
  obtain ⟨k1, k2⟩ := ba (List.all_eq_true.mp h p hm)
  subst ht
  subst h2
  refine ⟨of_decide_eq_true k1, fun C e => ?_⟩
  rw [e] at k2
  exact clsIB_ok k2
/-! ### properties -/
def pgA (K : PySem.W.Frag) (c f : Str) : Addr := match PySem.W.recIn K (ma K (ga K c) f) "property" with
  | some (.ref g :: _) => g
  | _ => 0
structure PrD where
  cls : Str
  f : Str
  qual : Str
  params : Arguments
  body : List Stmt
  scope : Scope
def prW (K : PySem.W.Frag) (p : Str × Str) : FnW := match K.lookup (pgA K p.1 p.2) with
  | some ⟨_, _, .func fd, _⟩ => some (fd.name, fd.qualname, fd.params, fd.body, fd.scope, fd.globals, fd.closure, fd.builtins)
  | _ => none
def PrD.val (d : PrD) : FnW := some (d.f, d.qual, d.params, .stmts d.body, d.scope, mainGlobals, [], builtinsNs)
def prB (K : PySem.W.Frag) (d : PrD) : Bool := (Fa.cls d.cls).ok K && (eqO (PySem.W.findIn K (.ref (ga K d.cls)) d.f) (some (some (.ref (ma K (ga K d.cls) d.f)))) && (eqO (PySem.W.specialIn K (.ref (ma K (ga K d.cls) d.f)) "__get__") (some (some (.builtin "property.__get__"))) &&
  (decide (PySem.W.takesIn K (.ref (ma K (ga K d.cls) d.f)) = some true) && ((match PySem.W.recIn K (ma K (ga K d.cls) d.f) "property" with
    | some (.ref _ :: _) => true
    | _ => false) && (PySem.W.keepIn K (.ref (pgA K d.cls d.f)) && (match K.lookup (pgA K d.cls d.f) with
    | some ⟨_, _, .func fd, _⟩ => PySem.W.codeIn K fd.code d.qual && decide (fd.defaults = .none)
    | _ => false))))))
theorem prB_ok {K : PySem.W.Frag} {d : PrD} (e : prW K (d.cls, d.f) = d.val) (h : prB K d = true) :
    Cls K (ga K d.cls) ∧ PropOf K (ga K d.cls) d.f (ma K (ga K d.cls) d.f) (pgA K d.cls d.f) ∧ ∃ fd, FunD K d.f d.qual d.params d.body d.scope [] [] (pgA K d.cls d.f) fd := by
  obtain ⟨h1, h⟩ := ba h
  obtain ⟨h2, h⟩ := ba h
  obtain ⟨h3, h⟩ := ba h
  obtain ⟨h4, h⟩ := ba h
  obtain ⟨h5, h⟩ := ba h
  obtain ⟨h6, h7⟩ := ba h
  refine ⟨cls_ok h1, ⟨eqO_ok h2, eqO_ok h3, of_decide_eq_true h4, ?_⟩, ?_⟩
  · unfold pgA
    split at h5
    · rename_i g rest hg
      rw [hg]
      exact ⟨rest, rfl⟩
    · cases h5
  · unfold prW at e
    cases q : K.lookup (pgA K d.cls d.f) with
    | none => rw [q] at h7; cases h7
    | some o =>
      obtain ⟨oc, od, dt, osl⟩ := o
      rw [q] at h7 e
      cases dt with
      | func fd =>
        obtain ⟨n1, n2, n3, n4, n5, n6, n7, n8, n9, n10, n11, n12, n13, n14, n15⟩ := fd
        have e2 : (some (n1, n2, n3, n4, n5, n6, n7, n15) : FnW) = some (d.f, d.qual, d.params, .stmts d.body, d.scope, mainGlobals, [], builtinsNs) := e
        simp only [Option.some.injEq, Prod.mk.injEq] at e2
        obtain ⟨g1, g2, g3, g4, g5, g6, g7, g8⟩ := e2
        subst g1 g2 g3 g4 g5 g6 g7 g8
        obtain ⟨k1, k2⟩ := ba h7
        have k2 : n8 = .none := of_decide_eq_true k2
        subst k2
        exact ⟨_, ⟨oc, od, .none, n9, n10, n11, n12, n13, n14, osl, rfl, q, k1, .inl ⟨rfl, rfl⟩, .inl rfl⟩, h6⟩
      | _ => cases h7
/-! ### the Hook, with properties -/
abbrev AlY : Type := AlX × List FnW
def obsYG (ck : PySem.W.Frag → Bool) (n : Nat) (fa : List He.Fa) (fn : List He.DefD) (cs : List Str) (pr : List (Str × Str)) (g : Addr → Option Obj) : AlY := (obsX ck fa fn cs (frX n g), pr.map (prW (frX n g)))
def hookY (ck : PySem.W.Frag → Bool) (n : Nat) (fa : List He.Fa) (fn : List He.DefD) (cs : List SupD) (pr : List PrD) : PySem.W.Hook where
  α := AlY
  obs := fun s => obsYG ck n fa fn (cs.map (·.cls)) (pr.map fun d => (d.cls, d.f)) s.heap.get?
  val := fun _ => ((He.valD fn, cs.map SupD.val), pr.map PrD.val)
  says := fun _ h => ∃ K : PySem.W.Frag, K.In h ∧ ck K = true ∧ He.SaysD fa fn K ∧ (cs.map (·.cls)).map (supW K) = cs.map SupD.val ∧ (pr.map fun d => (d.cls, d.f)).map (prW K) = pr.map PrD.val
  of := fun _ s e => by
    have e0 : obsX ck fa fn (cs.map (·.cls)) (frX n s.heap.get?) = (He.valD fn, cs.map SupD.val) := congrArg (fun z : AlY => z.1) e
    have e9 : (pr.map fun d => (d.cls, d.f)).map (prW (frX n s.heap.get?)) = pr.map PrD.val := congrArg (fun z : AlY => z.2) e
    have e1 : obsN ck fa fn (frX n s.heap.get?) = He.valD fn := congrArg (fun z : AlX => z.1) e0
    have e2 : (cs.map (·.cls)).map (supW (frX n s.heap.get?)) = cs.map SupD.val := congrArg (fun z : AlX => z.2) e0
    have e3 := congrArg (fun z : He.AlD => z.1) e1
    have e4 := congrArg (fun z : He.AlD => z.2) e1
    exact ⟨frX n s.heap.get?, He.frG_in, (and2 e3).1, Prod.ext (and2 e3).2 e4, e2, e9⟩
  keeps := fun _ _ _ ⟨K, hK, c⟩ k => ⟨K, PySem.W.Frag.In.keeps hK k, c⟩
theorem obsYG_eq {ck : PySem.W.Frag → Bool} {n : Nat} {fa : List He.Fa} {fn : List He.DefD} {cs : List SupD} {pr : List PrD} {g : Addr → Option Obj} {s : Shared} (h : ∀ a, g a = s.heap.get? a) : obsYG ck n fa fn (cs.map (·.cls)) (pr.map fun d => (d.cls, d.f)) g = (hookY ck n fa fn cs pr).obs s := by
  have e : g = s.heap.get? := funext h
  rw [e] <;> rfl
end NP

set_option Elab.async false
set_option linter.all false
set_option maxRecDepth 100000
set_option maxHeartbeats 4000000
/-! NPX24: try with several except clauses that bear a name. -/
namespace L2N
open PySem PySem.Spec PyProof.Rows L2
/-- what the clauses wish of the body's exception -/
def wMore (K : PySem.W.Frag) (Wout : WX) (D : Ends) : List (Value × Nat × (Addr → Value → Option Addr → TS)) → WX
  | [] => Wout
  | (c, i, ts) :: r => wAs K c i ts (wMore K Wout D r) D
inductive HdsNm (X : Cx) : List ExceptHandler → List (Value × Nat × (Addr → Value → Option Addr → TS)) → Prop
  | nil : HdsNm X [] []
  | cons {x n : Str} {c : Value} {i : Nat} {ts : Addr → Value → Option Addr → TS} {b₀ : Stmt} {suite : List Stmt} {np pos' : Pos} {hds : List ExceptHandler} {l : List (Value × Nat × (Addr → Value → Option Addr → TS))} (hi : X.N[i]? = some n) (hln : X.env.kindOf n = some .local) (hc : Names X x c)
      (hsu : ∀ (a : Addr) (oe : Obj) (cls : Value) (d : Option Addr) (pn : List (Addr × Obj)), Zn cls d oe → (∃ vs, oe.data = .fields vs) → PSs (X.suite a ((a, oe) :: pn)) (b₀ :: suite) (ts a cls d)) (r : HdsNm X hds l) :
      HdsNm X (.ExceptHandler (some (.Name x np)) (some n) (b₀ :: suite) pos' :: hds) ((c, i, ts) :: l)
section
variable {X : Cx} {body : List Stmt} {h₀ : ExceptHandler} {hds : List ExceptHandler} {l : List (Value × Nat × (Addr → Value → Option Addr → TS))} {pos : Pos} {tb : WX → TS} {Wout : WX}
theorem ps_try_more (hs : X.stack = X.env :: X.outer) (hf : X.env.frame = some X.env.locals) (hN : X.N.Nodup) (tk : Takes X Wout)
    (hb : ∀ (W : WX) (pn : List (Addr × Obj)) (xe : Value → Shared → Prop), Takes (X.tr pn xe) W → PassesOwn (model X.prog X.w) X.A X.env xe → PSs (X.tr pn xe) body (tb W))
    (hh : HdsNm X (h₀ :: hds) l) : PS X (.Try body (h₀ :: hds) [] [] pos) (fun D σ H => tb (wMore X.K Wout D l) D σ H) := by
  refine ⟨fun pins s σ H D I h => ?_⟩
  have ok := I.ok
  have hfr : X.A.frames = some (X.env :: X.outer) := by rw [ok.frames, hs]
  refine wpAny_Try_except ?_
  refine wpAny_mono ((hb (wMore X.K Wout D l) (X.pn ++ pins) (fun e s₁ => wpAny (model X.prog X.w) X.A (noteFrame e X.env) (fun _ s₂ => wpAny (model X.prog X.w) X.A (setFlight e none) (fun _ s₃ =>
    wpAny (model X.prog X.w) X.A (handleBy e X.env (h₀ :: hds)) (SP X pins D) X.xe s₃) X.xe s₂) X.xe s₁) (fun u s' xx => ?_) PassesOwn.looking).run [] s σ H D (I.toTry _) h) (fun f s1 hsp => ?_) (fun e s1 he => he)
  · obtain ⟨a, B, sI, pins', σ', H', cls, d, rfl, J', nb, up, sky, na, os, ag, w⟩ := xx
    have J : Inv X pins σ' H' sI := J'.ofTry ok
    have sky' : Sky B (X.env :: X.outer) a (Zn cls d) X.env.locals s'.heap := by rw [← hs]; exact sky
    show wpAny (model X.prog X.w) X.A (noteFrame (.ref a) X.env) _ _ _
    refine Sky.land Zn.steady hfr hf sky' fun h3 fl3 up3 => ?_
    have J3 : Inv X pins σ' H' { s' with heap := h3 } := J.landed nb fl3.1 (up.trans up3) os ag
    obtain ⟨oe3, vs3, he3, hz3, hd3⟩ := fl3.there
    have notFr : ∀ {h : Heap} {o : Obj} {vs : Array Value}, h.FunFrames B (X.env :: X.outer) → h.get? a = some o → o.data = .fields vs → a ∉ frs (X.env :: X.outer) := fun {h o vs} ff e dd hm => by
      obtain ⟨_, o', e', hnf⟩ := ff.mem hm
      rw [e] at e'; cases e'
      exact hnf _ dd
    have nfr := notFr fl3.2.2.1 he3 hd3
    have nL : a ≠ X.env.locals := fun z => nfr (List.mem_filterMap.mpr ⟨X.env, List.mem_cons_self, by rw [hf, z]⟩)
    have nF : a ∉ X.fs := fun hm => by
      obtain ⟨e, he, q⟩ := List.mem_filterMap.mp hm
      exact nfr (List.mem_filterMap.mpr ⟨e, List.mem_cons_of_mem _ he, q⟩)
    have S3 := J3.suite he3 hd3 na nL nF
    have go : ∀ {hds' : List ExceptHandler} {l' : List (Value × Nat × (Addr → Value → Option Addr → TS))}, HdsNm X hds' l' → wMore X.K Wout D l' cls d σ' H' →
        wpAny (model X.prog X.w) X.A (handleBy (.ref a) X.env hds') (SP X pins D) X.xe { s' with heap := h3 } := by
      intro hds' l' hk
      induction hk with
      | nil =>
        intro w
        refine wpAny_handleBy_nil ?_
        obtain ⟨k1, k2, k3, oe, vs, T, oT, ts', he, hz, hd, h1, hr⟩ := id fl3
        unfold PySem.passOn
        refine wpAny_bind (wpAny_field he hd h1 ?_)
        rw [if_neg (show ¬ ((Value.ref T == Value.none) = true) from by simp)]
        have fin : wpAny (model X.prog X.w) X.A (setFlight (.ref a) X.env.frame) (fun _ s4 => wpAny (model X.prog X.w) X.A (throw (.ref a) : Sem Flow) (SP X pins D) X.xe s4) X.xe { s' with heap := h3 } := by
          rw [hf]
          refine HandSPX.setFlight_upZ fl3 fun h4 hh4 up4 => wpAny_throw (tk _ _ ?_)
          exact ⟨a, B, sI, pins, σ', H', cls, d, rfl, J, nb, (up.trans up3).trans up4, .inr (.inr (by rw [hs]; exact hh4)), na, os, ag, w⟩
        first
          | exact wpAny_bind (wpAny_pure (wpAny_bind fin))
          | exact wpAny_bind fin
      | @cons x n c i ts b₀ suite np pos' hds2 l2 hi hln hc hsu r ih =>
        intro w
        have hloc : Loc X.env.scope n := .inl hln
        obtain ⟨b, hb1, hyes, hno⟩ := w
        refine wpAny_handleBy_cons (codeAny_handlers_test ?_) (by intro q; cases q)
        have LT : PySem.W.Looks (model X.prog X.w) h3 (typeOf (.ref a)) cls := fun A Q E s k q => wpAny_typeOf_ref (k _ _ he3) (by rw [hz3.1]; exact q)
        have LM := PySem.W.exm_one (M := model X.prog X.w) (J3.kIn) LT hb1
        have test : ∀ {Q : Value → Shared → Prop} {E : Value → Shared → Prop}, Q c { s' with heap := h3 } → wpAny (model X.prog X.w) (X.A.mark (some (.ref a))) (eval (.Name x np) X.env) Q E { s' with heap := h3 } := fun {Q E} q => by
          obtain ⟨hg, hdbg, hm | ⟨hm, hv, hnn⟩⟩ := hc
          · exact ld_glob (X := X.suite a ((a, oe3) :: (X.pn ++ pins))) S3 hg hm q hdbg
          · exact ld_blt (X := X.suite a ((a, oe3) :: (X.pn ++ pins))) S3 hg hm hv q hnn hdbg
        refine test (LM.here ?_)
        cases b with
        | true =>
          refine codeAny_handlers_suite_as ?_
          refine HandSPX.lands_againZ fl3 fun h4 fl4 up4 => ?_
          have J4 : Inv X pins σ' H' { s' with heap := h4 } := J.landed nb fl4.1 ((up.trans up3).trans up4) os ag
          obtain ⟨oe4, vs4, he4, hz4, hd4⟩ := fl4.there
          have S4 := J4.suite he4 hd4 na nL nF
          refine store_ok (X := X.suite a ((a, oe4) :: (X.pn ++ pins))) (v := .ref a) S4 hN hi hloc rfl (fun s5 S5 => ?_) (.inr hln)
          refine wpAny_mono ((hsu a oe4 cls d (X.pn ++ pins) hz4 ⟨_, hd4⟩).run [] s5 _ H' _ S5 (hyes rfl a na)) (fun f s6 hsp => ?_) (fun _ _ z => False.elim z)
          have end_ : ∀ {σ6 : St} {H6 : Hp} {Q : Shared → Prop}, Inv (X.suite a ((a, oe4) :: (X.pn ++ pins))) [] σ6 H6 s6 → (∀ s7, Inv X pins (σ6.set i none) H6 s7 → Q s7) →
              wpAny (model X.prog X.w) X.A (do bindName X.env n .none; unbindBehindTheSuite X.env n pos') (fun _ s7 => Q s7) X.xe s6 := fun {σ6 H6 Q} S6 hq => gone_ok (S6.unsuite ok) hN hi hln hq
          cases f with
          | next =>
            obtain ⟨σ6, H6, S6, q6⟩ := hsp
            exact end_ S6 fun s7 J7 => ⟨_, _, J7, q6⟩
          | brk =>
            obtain ⟨σ6, H6, S6, q6⟩ := hsp
            exact end_ S6 fun s7 J7 => ⟨_, _, J7, q6⟩
          | cont =>
            obtain ⟨σ6, H6, S6, q6⟩ := hsp
            exact end_ S6 fun s7 J7 => ⟨_, _, J7, q6⟩
          | ret u =>
            obtain ⟨v6, σ6, H6, S6, r6, q6⟩ := hsp
            exact end_ S6 fun s7 J7 => ⟨_, _, _, J7, r6, q6⟩
        | false =>
          show wpAny _ X.A (handleBy (.ref a) X.env hds2) _ _ _
          exact ih (hno rfl)
    exact go hh w
  · cases f with
    | next =>
      obtain ⟨σ', H', J', q⟩ := hsp
      exact wpAny_execs_nil ⟨σ', H', J'.ofTry ok, q⟩
    | brk =>
      obtain ⟨σ', H', J', q⟩ := hsp
      exact ⟨σ', H', J'.ofTry ok, q⟩
    | cont =>
      obtain ⟨σ', H', J', q⟩ := hsp
      exact ⟨σ', H', J'.ofTry ok, q⟩
    | ret u =>
      obtain ⟨v, σ', H', J', r, q⟩ := hsp
      exact ⟨v, σ', H', J'.ofTry ok, r, q⟩
end
end L2N
namespace NP
open PySem PySem.Spec PyProof.Rows L2
abbrev HdD := (Str → Option Bool) × Nat × (Str → Option Nat → MS)
def handleM : List HdD → AEnv → Str → Option Nat → AH → RS
  | [], δ, c, m, Λ => .ex δ c m Λ
  | (tab, i, fs) :: r, δ, c, m, Λ => match tab c with
    | some true => if i < δ.length then unS i (fs c m (δ.set i none) Λ) else .bad
    | some false => handleM r δ c m Λ
    | none => .bad
def dTryM (hs : List HdD) (fb : MS) : MS := fun δ Λ => match fb δ Λ with
  | .ex δ' c m Λ' => handleM hs δ' c m Λ'
  | r => r
inductive HdsJ (G : GX) : List ExceptHandler → List HdD → Prop
  | nil : HdsJ G [] []
  | cons {x n : Str} {i : Nat} {cv : Value} {tab : Str → Option Bool} {fs : Str → Option Nat → MS} {b₀ : Stmt} {suite : List Stmt} {np pos' : Pos} {hds : List ExceptHandler} {hs : List HdD} (hi : G.N[i]? = some n) (hln : G.sc.names.lookup n = some .local) (hn : ∀ X, G.Fit X → Names X x cv)
      (htab : ∀ c b, tab c = some b → PySem.W.exmOne G.K (.ref (He.ga G.K c)) cv = some b) (hJ : ∀ (a : Addr) (oe : Obj) (c : Str) (m : Option Nat), JS { G with hx := some ⟨a, oe, c, some i, m⟩ } (b₀ :: suite) (fs c m)) (r : HdsJ G hds hs) :
      HdsJ G (.ExceptHandler (some (.Name x np)) (some n) (b₀ :: suite) pos' :: hds) ((tab, i, fs) :: hs)
theorem hds_run {G : GX} {hds : List ExceptHandler} {hs : List HdD} (h : HdsJ G hds hs) (hc : G.hx = none) {X : Cx} (F : G.Fit X) :
    ∃ l, L2N.HdsNm X hds l ∧ ∀ (W : WX) (D : Ends) (ρ ρ1 : List Addr) (σ1 : L2.St) (H H1 : Hp) (δ1 : AEnv) (c : Str) (m : Option Nat) (Λ1 : AH) (d : Option Addr), PostS G.K G.hx W D ρ H (handleM hs δ1 c m Λ1) → Ext ρ ρ1 H H1 → Rep G.K ρ1 Λ1 H1 → RepE G.K G.hx ρ1 H1 δ1 σ1 → RepD ρ1 m d →
      L2N.wMore X.K W D l (.ref (He.ga G.K c)) d σ1 H1 := by
  induction h with
  | nil => exact ⟨[], .nil, fun W D ρ ρ1 σ1 H H1 δ1 c m Λ1 d p e1 r1 v1 hd => p ρ1 σ1 H1 d e1 r1 v1 hd⟩
  | @cons x n i cv tab fs b₀ suite np pos' hds hs hi hln hn htab hJ r ih =>
    obtain ⟨l, hl, hp⟩ := ih
    refine ⟨(cv, i, fun a cls d => fun D σ H => ∃ c m, cls = .ref (He.ga G.K c) ∧ ∀ oe, L2N.Zn cls d oe → tS G.K (some ⟨a, oe, c, some i, m⟩) W0 (fs c m) D σ H) :: l,
      .cons (by rw [F.hN]; exact hi) (by show X.env.scope.names.lookup n = _; rw [F.hsc]; exact hln) (hn X F) (fun a oe cls d pn hz hdat => ⟨fun pins s σ H D I ⟨c, m, ec, h⟩ => (hJ a oe c m (X.suite a ((a, oe) :: pn)) ⟨F.hP, F.hw, F.hK, F.hmg, F.hbase, F.hN, F.hsc, fun e => (by cases e), fun e => (by cases e), ⟨F.room.dp, F.room.un⟩, fun z e => (by
        cases e
        obtain ⟨vs, hvs⟩ := hdat
        exact ⟨⟨rfl, vs, hvs, hz.2.2 vs hvs⟩, List.mem_cons_self, fun _ _ => hz.1.trans ec⟩), PassesOwn.never, F.nd, F.fn, F.try_⟩ W0 takes0N).run pins s σ H D I (h oe hz)⟩) hl, ?_⟩
    intro W D ρ ρ1 σ1 H H1 δ1 c m Λ1 d p e1 r1 v1 hd1
    unfold handleM at p
    cases ht : tab c with
    | none => rw [ht] at p; exact p.elim
    | some b =>
      rw [ht] at p
      refine ⟨b, by rw [F.hK]; exact htab c b ht, ?_, ?_⟩
      · rintro rfl a ha
        by_cases hl' : i < δ1.length
        · have p : PostS G.K G.hx W D ρ H (if i < δ1.length then unS i (fs c m (δ1.set i none) Λ1) else .bad) := p
          rw [if_pos hl'] at p
          refine ⟨c, m, rfl, fun oe hz => ⟨ρ1, δ1.set i none, Λ1, r1, ⟨?_, fun j z hj => ?_, fun y k ey ek => ?_⟩, ?_⟩⟩
          · rw [List.length_set, List.length_set]; exact v1.len
          · by_cases hji : j = i
            · subst hji
              rw [List.getElem?_set_self hl'] at hj; cases hj
            · rw [List.getElem?_set_ne (Ne.symm hji)] at hj
              obtain ⟨w, h1, h2⟩ := v1.val j z hj
              exact ⟨w, by rw [List.getElem?_set_ne (Ne.symm hji)]; exact h1, h2⟩
          · cases ey
            cases ek
            refine ⟨List.getElem?_set_self (by rw [← v1.len]; exact hl'), ?_⟩
            show RepD ρ1 m oe.dict
            rw [hz.2.1]; exact hd1
          · have p := p.step e1
            have un : ∀ {y : HX} {ρ2 : List Addr} {H2 : Hp} {δ2 : AEnv} {σ2 : L2.St}, RepE G.K (some y) ρ2 H2 δ2 σ2 → RepE G.K G.hx ρ2 H2 (δ2.set i none) (σ2.set i none) := fun {y ρ2 H2 δ2 σ2} v2 =>
              RepE.unset ⟨v2.len, v2.val, fun z k e => (by rw [hc] at e; cases e)⟩ (by rw [hc]; rfl)
            revert p
            cases fs c m (δ1.set i none) Λ1 with
            | nx δ2 Λ2 => exact fun p ρ2 σ2 H2 e2 r2 v2 => p ρ2 _ H2 e2 r2 (un v2)
            | rt v2 Λ2 => exact fun p => p
            | bk δ2 Λ2 => exact fun p ρ2 σ2 H2 e2 r2 v2 => p ρ2 _ H2 e2 r2 (un v2)
            | ct δ2 Λ2 => exact fun p ρ2 σ2 H2 e2 r2 v2 => p ρ2 _ H2 e2 r2 (un v2)
            | bad => exact fun p => p.elim
            | ex δ2 c2 m2 Λ2 => exact fun p => p.elim
        · have p : PostS G.K G.hx W D ρ H (if i < δ1.length then unS i (fs c m (δ1.set i none) Λ1) else .bad) := p
          rw [if_neg hl'] at p
          exact p.elim
      · rintro rfl
        exact hp W D ρ ρ1 σ1 H H1 δ1 c m Λ1 d p e1 r1 v1 hd1
theorem j1_tryM {G : GX} {body : List Stmt} {h₀ : ExceptHandler} {hds : List ExceptHandler} {hs : List HdD} {fb : MS} {pos : Pos} (hblk : G.blk = false) (hb : JS G body fb) (hh : HdsJ G (h₀ :: hds) hs) (hc : G.hx = none := by rfl) :
    J1 G (.Try body (h₀ :: hds) [] [] pos) (dTryM hs fb) := fun X F W tk => by
  obtain ⟨hst, hf⟩ := F.try_ hblk
  obtain ⟨l, hl, hp⟩ := hds_run hh hc F
  refine ps_imp (L2N.ps_try_more (tb := fun W => tS G.K G.hx W fb) (Wout := W) hst hf F.nd tk
    (fun W' pn xe tk' po => hb (X.tr pn xe) ⟨F.hP, F.hw, F.hK, F.hmg, F.hbase, F.hN, F.hsc, F.calm, F.hd, F.room, fun z e => (by rw [hc] at e; cases e), po, F.nd, F.fn, F.try_⟩ W' tk') hl) fun D σ H ⟨ρ, δ, Λ, r, v, p⟩ => ?_
  refine ⟨ρ, δ, Λ, r, v, ?_⟩
  unfold dTryM at p
  revert p
  cases fb δ Λ with
  | nx δ1 Λ1 => exact fun p => p
  | rt v1 Λ1 => exact fun p => p
  | bk δ1 Λ1 => exact fun p => p
  | ct δ1 Λ1 => exact fun p => p
  | bad => exact fun p => p
  | ex δ1 c m Λ1 =>
    intro p ρ1 σ1 H1 d e1 r1 v1 hd1
    exact hp W D ρ ρ1 σ1 H H1 δ1 c m Λ1 d p e1 r1 v1 hd1
end NP
namespace NP
open PySem PySem.Spec PyProof.Rows L2
/-- no right operand of these kinds is asked first -/
def nfB (K : PySem.W.Frag) (c : Str) (ts : List TyN) : Bool := ts.all fun t => PySem.W.notFirst K (He.ga K c) (tyVal K t)
theorem nfB_ok {K : PySem.W.Frag} {c : Str} {ts : List TyN} (h : nfB K c ts = true) : ∀ t ∈ ts, PySem.W.notFirst K (He.ga K c) (tyVal K t) = true := fun t ht => List.all_eq_true.mp h t ht
end NP

set_option Elab.async false
set_option linter.all false
set_option maxRecDepth 100000
set_option maxHeartbeats 1000000
/-! NP12: what is wanted of a result, combinator by combinator (for the plain laws). -/
namespace NP
open PySem PySem.Spec PyProof.Rows L2
abbrev XQ := Str → Option Nat → AH → Prop
def RQ {α : Type} (r : R α) (Q : α → AH → Prop) (X : XQ) : Prop := match r with
  | .ok a Λ => Q a Λ
  | .ex c m Λ => X c m Λ
  | .bad => False
def OQ (o : Option (AV × AH)) (Q : AV → AH → Prop) : Prop := match o with
  | some p => Q p.1 p.2
  | none => False
structure DQ where
  nx : AEnv → AH → Prop
  rt : AV → AH → Prop
  bk : AEnv → AH → Prop
  ct : AEnv → AH → Prop
  ex : AEnv → XQ
def SQ (r : RS) (D : DQ) : Prop := match r with
  | .nx δ Λ => D.nx δ Λ
  | .rt v Λ => D.rt v Λ
  | .bk δ Λ => D.bk δ Λ
  | .ct δ Λ => D.ct δ Λ
  | .ex δ c m Λ => D.ex δ c m Λ
  | .bad => False
abbrev X0 : XQ := fun _ _ _ => False
section
variable {α β : Type} {r : R α} {Q Q' : α → AH → Prop} {P : AV → AH → Prop} {X X' : XQ} {Λ : AH} {δ : AEnv} {fa fb fc : ME} {ft fu : MT} {fr : MA} {D D' : DQ} {f g : MS}
theorem RQ.imp (h : RQ r Q X) (k : ∀ a Λ, Q a Λ → Q' a Λ) (kx : ∀ c m Λ, X c m Λ → X' c m Λ) : RQ r Q' X' := by
  cases r with
  | ok a Λ => exact k a Λ h
  | ex c m Λ => exact kx c m Λ h
  | bad => exact h
theorem RQ.and (h : RQ r Q X) (k : ∀ a Λ, Q a Λ → Q' a Λ) : RQ r Q' X := h.imp k fun _ _ _ z => z
/-- no exception at all: the same under any X -/
theorem RQ.no (h : RQ r Q X0) (k : ∀ a Λ, Q a Λ → Q' a Λ) : RQ r Q' X := h.imp k fun _ _ _ z => z.elim
theorem RQ.get (h : RQ r Q X0) : ∃ a Λ, r = .ok a Λ ∧ Q a Λ := by
  cases r with
  | ok a Λ => exact ⟨a, Λ, rfl, h⟩
  | ex c m Λ => exact h.elim
  | bad => exact h.elim
@[simp] theorem rq_ok {a : α} : RQ (.ok a Λ) Q X = Q a Λ := rfl
@[simp] theorem rq_bad : RQ (.bad : R α) Q X = False := rfl
@[simp] theorem rq_ex {c : Str} {m : Option Nat} : RQ (.ex c m Λ : R α) Q X = X c m Λ := rfl
@[simp] theorem rq_bind {Q : β → AH → Prop} {f : α → AH → R β} : RQ (r.bind f) Q X = RQ r (fun a Λ => RQ (f a Λ) Q X) X := by cases r <;> rfl
@[simp] theorem rq_lift {o : Option (AV × AH)} : RQ (liftR o) P X = OQ o P := by cases o <;> rfl
@[simp] theorem oq_some {v : AV} : OQ (some (v, Λ)) P = P v Λ := rfl
@[simp] theorem oq_none : OQ none P = False := rfl
@[simp] theorem oq_if {c : Prop} [Decidable c] {o : Option (AV × AH)} : OQ (if c then o else none) P = (c ∧ OQ o P) := by by_cases h : c <;> simp [h]
@[simp] theorem rq_if {c : Prop} [Decidable c] {r s : R α} : RQ (if c then r else s) Q X = ((c → RQ r Q X) ∧ (¬c → RQ s Q X)) := by by_cases h : c <;> simp [h]
@[simp] theorem oq_map {γ : Type} {o : Option γ} {f : γ → AV × AH} : OQ (o.map f) P = ∃ a, o = some a ∧ P (f a).1 (f a).2 := by cases o <;> simp [OQ]
@[simp] theorem rq_var {i : Nat} : RQ (dVar i δ Λ) P X = (match δ[i]? with | some (some v) => P v Λ | _ => False) := by
  unfold dVar
  split <;> simp_all
@[simp] theorem rq_c {v : AV} : RQ (dC v δ Λ) P X = P v Λ := rfl
@[simp] theorem rq_un {g : G1} : RQ (dUn g fa δ Λ) P X = RQ (fa δ Λ) (fun a Λ1 => OQ (g a Λ1) P) X := by simp [dUn]
@[simp] theorem rq_bin {g : G2} : RQ (dBin g fa fb δ Λ) P X = RQ (fa δ Λ) (fun a Λ1 => RQ (fb δ Λ1) (fun b Λ2 => OQ (g a b Λ2) P) X) X := by simp [dBin]
@[simp] theorem rq_blA {a : AV} {Q : Bool → AH → Prop} : RQ (blA a Λ) Q X = (match a with | .bl b => Q b Λ | _ => False) := by cases a <;> rfl
@[simp] theorem rq_tb {Q : Bool → AH → Prop} : RQ (dTB fa δ Λ) Q X = RQ (fa δ Λ) (fun a Λ1 => RQ (blA a Λ1) Q X) X := by simp [dTB]
@[simp] theorem rq_truR {a : AV} {Q : Bool → AH → Prop} : RQ (truR a Λ) Q X = (match truA a Λ with | some b => Q b Λ | none => False) := by
  unfold truR
  cases truA a Λ <;> rfl
@[simp] theorem rq_tr {Q : Bool → AH → Prop} : RQ (dTr fa δ Λ) Q X = RQ (fa δ Λ) (fun a Λ1 => RQ (truR a Λ1) Q X) X := by simp only [dTr, rq_bind]
@[simp] theorem rq_notT {Q : Bool → AH → Prop} : RQ (dNotT ft δ Λ) Q X = RQ (ft δ Λ) (fun b Λ1 => Q (!b) Λ1) X := by simp [dNotT]
@[simp] theorem rq_andT {Q : Bool → AH → Prop} : RQ (dAndT ft fu δ Λ) Q X = RQ (ft δ Λ) (fun b Λ1 => (b = true → RQ (fu δ Λ1) Q X) ∧ (b = false → Q false Λ1)) X := by simp [dAndT]
@[simp] theorem rq_orT {Q : Bool → AH → Prop} : RQ (dOrT ft fu δ Λ) Q X = RQ (ft δ Λ) (fun b Λ1 => (b = true → Q true Λ1) ∧ (b = false → RQ (fu δ Λ1) Q X)) X := by simp [dOrT]
@[simp] theorem rq_and : RQ (dAnd fa fb δ Λ) P X = RQ (fa δ Λ) (fun a Λ1 => RQ (truR a Λ1) (fun b Λ2 => (b = true → RQ (fb δ Λ2) P X) ∧ (b = false → P a Λ2)) X) X := by simp only [dAnd, rq_bind, rq_if, rq_ok, Bool.not_eq_true]
@[simp] theorem rq_or : RQ (dOr fa fb δ Λ) P X = RQ (fa δ Λ) (fun a Λ1 => RQ (truR a Λ1) (fun b Λ2 => (b = true → P a Λ2) ∧ (b = false → RQ (fb δ Λ2) P X)) X) X := by simp only [dOr, rq_bind, rq_if, rq_ok, Bool.not_eq_true]
@[simp] theorem rq_not : RQ (dNot fa δ Λ) P X = RQ (fa δ Λ) (fun a Λ1 => RQ (truR a Λ1) (fun b Λ2 => P (.bl (!b)) Λ2) X) X := by simp only [dNot, rq_bind, rq_ok]
@[simp] theorem rq_dif : RQ (dIf ft fa fb δ Λ) P X = RQ (ft δ Λ) (fun b Λ1 => (b = true → RQ (fa δ Λ1) P X) ∧ (b = false → RQ (fb δ Λ1) P X)) X := by simp only [dIf, rq_bind, rq_if, Bool.not_eq_true]
@[simp] theorem rq_chain {g g' : G2} : RQ (dChain g g' fa fb fc δ Λ) P X = RQ (fa δ Λ) (fun a Λ1 => RQ (fb δ Λ1) (fun b Λ2 => OQ (g a b Λ2) fun x Λ3 => RQ (blA x Λ3) (fun k Λ4 => (k = true → RQ (fc δ Λ4) (fun c Λ5 => OQ (g' b c Λ5) P) X) ∧ (k = false → P (.bl false) Λ4)) X) X) X := by
  simp only [dChain, rq_bind, rq_lift, rq_if, rq_ok, Bool.not_eq_true]
@[simp] theorem rq_nil {Q : List AV → AH → Prop} : RQ (dNil δ Λ) Q X = Q [] Λ := rfl
@[simp] theorem rq_cons {Q : List AV → AH → Prop} : RQ (dCons fa fr δ Λ) Q X = RQ (fa δ Λ) (fun a Λ1 => RQ (fr δ Λ1) (fun as Λ2 => Q (a :: as) Λ2) X) X := by simp [dCons]
@[simp] theorem rq_tup : RQ (dTup fr δ Λ) P X = RQ (fr δ Λ) (fun as Λ1 => as.length ≤ sizeLine ∧ P (.tup as) Λ1) X := by
  simp only [dTup, rq_bind]
  congr 1
  funext as Λ1
  unfold tupR
  by_cases h : as.length ≤ sizeLine <;> simp [h]
@[simp] theorem rq_lst : RQ (dLst fr δ Λ) P X = RQ (fr δ Λ) (fun as Λ1 => as.length ≤ sizeLine ∧ P (.ref Λ1.length) (Λ1 ++ [.lst as])) X := by
  simp only [dLst, rq_bind]
  congr 1
  funext as Λ1
  unfold lstR
  by_cases h : as.length ≤ sizeLine <;> simp [h]
@[simp] theorem rq_pr {g : GL} : RQ (dPr g fr δ Λ) P X = RQ (fr δ Λ) (fun as Λ1 => OQ (g as Λ1) P) X := by simp [dPr]
@[simp] theorem rq_call {m : List AV → AH → R AV} : RQ (dCall m fr δ Λ) P X = RQ (fr δ Λ) (fun as Λ1 => RQ (m as Λ1) P X) X := by simp only [dCall, rq_bind]
@[simp] theorem rq_mt {T : String} {g : AV → GL} : RQ (dMt T g fa fr δ Λ) P X = RQ (fa δ Λ) (fun a Λ1 => tyA T a Λ1 = true ∧ RQ (fr δ Λ1) (fun as Λ2 => OQ (g a as Λ2) P) X) X := by
  simp only [dMt, rq_bind]
  congr 1
  funext a Λ1
  by_cases h : tyA T a Λ1 = true <;> simp [h]
@[simp] theorem rq_nop {Q : Option Int → AH → Prop} : RQ (dNoP δ Λ) Q X = Q none Λ := rfl
@[simp] theorem rq_intO {a : AV} {Q : Option Int → AH → Prop} : RQ (intO a Λ) Q X = (match a with | .int i => Q (some i) Λ | _ => False) := by cases a <;> rfl
@[simp] theorem rq_part {Q : Option Int → AH → Prop} : RQ (dPart fa δ Λ) Q X = RQ (fa δ Λ) (fun a Λ1 => RQ (intO a Λ1) Q X) X := by simp only [dPart, rq_bind]
@[simp] theorem rq_sl {fl fh : MO} : RQ (dSl fa fl fh δ Λ) P X = RQ (fa δ Λ) (fun a Λ1 => RQ (fl δ Λ1) (fun l Λ2 => RQ (fh δ Λ2) (fun h Λ3 => RQ (slA a l h Λ3) P X) X) X) X := by simp only [dSl, rq_bind]
@[simp] theorem rq_dk : RQ (dDk δ Λ) P X = P (.ref Λ.length) (Λ ++ [.dk []]) := rfl
@[simp] theorem rq_dt : RQ (dDt δ Λ) P X = P (.ref Λ.length) (Λ ++ [.dt []]) := rfl
@[simp] theorem rq_minLen : RQ (dMinLen fa fb δ Λ) P X = RQ (fa δ Λ) (fun x Λ1 => RQ (fb δ Λ1) (fun d Λ2 => RQ (minLen x d Λ2) P X) X) X := by simp only [dMinLen, rq_bind]
@[simp] theorem rq_kget {tab : List (Int × AV)} : RQ (dKGet tab fa fb δ Λ) P X = RQ (fa δ Λ) (fun a Λ1 => RQ (fb δ Λ1) (fun d Λ2 => RQ (kGetR tab a d Λ2) P X) X) X := by simp only [dKGet, rq_bind]
@[simp] theorem rq_lc {vs : List Nat} {fi : MI} {T : Tg} : RQ (dLc vs fi T ft fa δ Λ) P X = RQ (fi δ Λ) (fun src Λ1 => RQ (lcR vs T ft fa δ src Λ1) P X) X := by simp only [dLc, rq_bind]
@[simp] theorem rq_dc {vs : List Nat} {fi : MI} {T : Tg} : RQ (dDc vs fi T ft fa fb δ Λ) P X = RQ (fi δ Λ) (fun src Λ1 => RQ (dcR vs T ft fa fb δ src Λ1) P X) X := by simp only [dDc, rq_bind]
@[simp] theorem rq_it {Q : Src → AH → Prop} : RQ (dIt fa δ Λ) Q X = RQ (fa δ Λ) (fun a Λ1 => RQ (srcA a Λ1) Q X) X := by simp only [dIt, rq_bind]
@[simp] theorem rq_rg1 {Q : Src → AH → Prop} : RQ (dRg1 fr δ Λ) Q X = RQ (fr δ Λ) (fun as Λ1 => RQ (rgR1 as Λ1) Q X) X := by simp only [dRg1, rq_bind]
@[simp] theorem rq_rg2 {Q : Src → AH → Prop} : RQ (dRg2 fr δ Λ) Q X = RQ (fr δ Λ) (fun as Λ1 => RQ (rgR2 as Λ1) Q X) X := by simp only [dRg2, rq_bind]
theorem if_and {c : Prop} [Decidable c] {Q : α → AH → Prop} (a : α) : RQ (if c then R.ok a Λ else .bad) Q X = (c ∧ Q a Λ) := by
  by_cases h : c
  · rw [if_pos h]; simp [h]
  · rw [if_neg h]; simp [h]
/-- within what range takes -/
def rgOk (j : Int) : Prop := -(2 ^ 62) ≤ j ∧ j < 2 ^ 62
theorem rgOk_of {j : Int} (h : -1000000000 ≤ j) (h2 : j ≤ 1000000000) : rgOk j := ⟨Int.le_trans (by decide) h, Int.lt_of_le_of_lt h2 (by decide)⟩
@[simp] theorem rq_rgR1 {j : Int} {Q : Src → AH → Prop} : RQ (rgR1 [.int j] Λ) Q X = (rgOk j ∧ Q (.fix (rgA 0 j.toNat)) Λ) := if_and _
@[simp] theorem rq_rgR2 {i j : Int} {Q : Src → AH → Prop} : RQ (rgR2 [.int i, .int j] Λ) Q X = ((rgOk i ∧ rgOk j) ∧ Q (.fix (rgA i (j - i).toNat)) Λ) := by
  have e : (rgOk i ∧ rgOk j) = (-(2 ^ 62) ≤ i ∧ i < 2 ^ 62 ∧ -(2 ^ 62) ≤ j ∧ j < 2 ^ 62) := by unfold rgOk; exact propext ⟨fun h => ⟨h.1.1, h.1.2, h.2.1, h.2.2⟩, fun h => ⟨⟨h.1, h.2.1⟩, h.2.2⟩⟩
  rw [e]
  exact if_and _
@[simp] theorem rq_toR {s : RS} : RQ (toR s) P X = SQ s ⟨fun _ Λ => P .non Λ, P, fun _ _ => False, fun _ _ => False, fun _ c m Λ => X c m Λ⟩ := by cases s <;> rfl
theorem rq_run {ar n : Nat} {b : MS} {as : List AV} (h : as.length = ar) : RQ (runF ar n b as Λ) P X = SQ (b (startA n as) Λ) ⟨fun _ Λ => P .non Λ, P, fun _ _ => False, fun _ _ => False, fun _ c m Λ => X c m Λ⟩ := by
  unfold runF
  rw [if_pos h, rq_toR]
/-! ### statements -/
theorem SQ.imp {s : RS} (h : SQ s D) (k1 : ∀ δ Λ, D.nx δ Λ → D'.nx δ Λ) (k2 : ∀ v Λ, D.rt v Λ → D'.rt v Λ) (k3 : ∀ δ Λ, D.bk δ Λ → D'.bk δ Λ) (k4 : ∀ δ Λ, D.ct δ Λ → D'.ct δ Λ) (k5 : ∀ δ c m Λ, D.ex δ c m Λ → D'.ex δ c m Λ) : SQ s D' := by
  cases s with
  | nx δ Λ => exact k1 _ _ h
  | rt v Λ => exact k2 _ _ h
  | bk δ Λ => exact k3 _ _ h
  | ct δ Λ => exact k4 _ _ h
  | ex δ c m Λ => exact k5 _ _ _ _ h
  | bad => exact h
@[simp] theorem sq_nx : SQ (.nx δ Λ) D = D.nx δ Λ := rfl
@[simp] theorem sq_rt {v : AV} : SQ (.rt v Λ) D = D.rt v Λ := rfl
@[simp] theorem sq_bk : SQ (.bk δ Λ) D = D.bk δ Λ := rfl
@[simp] theorem sq_ct : SQ (.ct δ Λ) D = D.ct δ Λ := rfl
@[simp] theorem sq_bad : SQ .bad D = False := rfl
@[simp] theorem sq_ex {c : Str} {m : Option Nat} : SQ (.ex δ c m Λ) D = D.ex δ c m Λ := rfl
@[simp] theorem sq_sR {k : α → AH → RS} : SQ (sR δ r k) D = RQ r (fun a Λ1 => SQ (k a Λ1) D) (D.ex δ) := by cases r <;> rfl
@[simp] theorem sq_dNx : SQ (dNx δ Λ) D = D.nx δ Λ := rfl
@[simp] theorem sq_seq : SQ (dSeq f g δ Λ) D = SQ (f δ Λ) { D with nx := fun δ1 Λ1 => SQ (g δ1 Λ1) D } := by
  unfold dSeq
  cases f δ Λ <;> rfl
@[simp] theorem sq_ex_ : SQ (dEx fa δ Λ) D = RQ (fa δ Λ) (fun _ Λ1 => D.nx δ Λ1) (D.ex δ) := by simp only [dEx, sq_sR, sq_nx]
@[simp] theorem sq_set {i : Nat} : SQ (dSet i fa δ Λ) D = RQ (fa δ Λ) (fun v Λ1 => D.nx (δ.set i (some v)) Λ1) (D.ex δ) := by simp only [dSet, sq_sR, sq_nx]
@[simp] theorem sq_ret : SQ (dRet fa δ Λ) D = RQ (fa δ Λ) D.rt (D.ex δ) := by simp only [dRet, sq_sR, sq_rt]
@[simp] theorem sq_retN : SQ (dRetN δ Λ) D = D.rt .non Λ := rfl
@[simp] theorem sq_if {c : Prop} [Decidable c] {s t : RS} : SQ (if c then s else t) D = ((c → SQ s D) ∧ (¬c → SQ t D)) := by by_cases h : c <;> simp [h]
@[simp] theorem sq_ifS : SQ (dIfS ft f g δ Λ) D = RQ (ft δ Λ) (fun b Λ1 => (b = true → SQ (f δ Λ1) D) ∧ (b = false → SQ (g δ Λ1) D)) (D.ex δ) := by simp only [dIfS, sq_sR, sq_if, Bool.not_eq_true]
@[simp] theorem sq_brk : SQ (dBrk δ Λ) D = D.bk δ Λ := rfl
@[simp] theorem sq_cnt : SQ (dCnt δ Λ) D = D.ct δ Λ := rfl
@[simp] theorem sq_dBad : SQ (dBad δ Λ) D = False := rfl
@[simp] theorem sq_asg {T : Tg} : SQ (dAsg T fa δ Λ) D = RQ (fa δ Λ) (fun v Λ1 => SQ (setR T v δ Λ1) D) (D.ex δ) := by simp only [dAsg, sq_sR]
@[simp] theorem sq_setR {T : Tg} {v : AV} : SQ (setR T v δ Λ) D = (match setT T v δ with | some δ' => D.nx δ' Λ | none => False) := by
  unfold setR
  cases setT T v δ <;> rfl
@[simp] theorem sq_setI : SQ (dSetI fa fb fc δ Λ) D = RQ (fc δ Λ) (fun v Λ1 => RQ (fa δ Λ1) (fun o Λ2 => RQ (fb δ Λ2) (fun i Λ3 => SQ (setIR o i v δ Λ3) D) (D.ex δ)) (D.ex δ)) (D.ex δ) := by simp only [dSetI, sq_sR]
@[simp] theorem sq_setIR {o i v : AV} : SQ (setIR o i v δ Λ) D = (match setI o i v Λ with | some Λ' => D.nx δ Λ' | none => False) := by
  unfold setIR
  cases setI o i v Λ <;> rfl
@[simp] theorem sq_for {fi : MI} {T : Tg} : SQ (dFor fi T f δ Λ) D = RQ (fi δ Λ) (fun src Λ1 => SQ (forL src.here T f src.items δ Λ1) D) (D.ex δ) := by simp only [dFor, sq_sR]
theorem sq_forN {here : AH → Prop} {T : Tg} : SQ (forL here T f [] δ Λ) D = (here Λ ∧ D.nx δ Λ) := by
  unfold forL
  by_cases h : here Λ <;> simp [h]
/-- one turn of a loop -/
theorem sq_forC {here : AH → Prop} {T : Tg} {x : AV} {xs : List AV} : SQ (forL here T f (x :: xs) δ Λ) D = (here Λ ∧ match setT T x δ with
    | some δ1 => SQ (f δ1 Λ) { D with nx := fun δ2 Λ2 => SQ (forL here T f xs δ2 Λ2) D, ct := fun δ2 Λ2 => SQ (forL here T f xs δ2 Λ2) D, bk := D.nx }
    | none => False) := by
  rw [forL]
  by_cases h : here Λ
  · rw [if_pos h]
    cases setT T x δ with
    | none => simp [h]
    | some δ1 =>
      simp only [h, true_and]
      cases f δ1 Λ <;> rfl
  · rw [if_neg h]; simp [h]
theorem forL_inv {here : AH → Prop} {T : Tg} {xs : List AV} (I : Nat → AEnv → AH → Prop) (h0 : I 0 δ Λ) (hh : ∀ i δ Λ, i ≤ xs.length → I i δ Λ → here Λ)
    (step : ∀ i (x : AV) δ Λ, xs[i]? = some x → I i δ Λ → ∃ δ1, setT T x δ = some δ1 ∧ SQ (f δ1 Λ) { D with nx := I (i + 1), ct := I (i + 1), bk := D.nx }) (fin : ∀ δ Λ, I xs.length δ Λ → D.nx δ Λ) : SQ (forL here T f xs δ Λ) D := by
  suffices h : ∀ (k i : Nat) (δ : AEnv) (Λ : AH), i + k = xs.length → I i δ Λ → SQ (forL here T f (xs.drop i) δ Λ) D by
    have := h xs.length 0 δ Λ (by omega) h0
    simpa using this
  intro k
  induction k with
  | zero =>
    intro i δ Λ hi hI
    have e : i = xs.length := by omega
    subst e
    rw [List.drop_length, sq_forN]
    exact ⟨hh _ _ _ (Nat.le_refl _) hI, fin _ _ hI⟩
  | succ k ih =>
    intro i δ Λ hi hI
    have hlt : i < xs.length := by omega
    rw [List.drop_eq_getElem_cons hlt, sq_forC]
    refine ⟨hh _ _ _ (Nat.le_of_lt hlt) hI, ?_⟩
    obtain ⟨δ1, e, q⟩ := step i xs[i] δ Λ (List.getElem?_eq_getElem hlt) hI
    rw [e]
    exact q.imp (fun δ Λ z => ih (i + 1) δ Λ (by omega) z) (fun _ _ z => z) (fun _ _ z => z) (fun δ Λ z => ih (i + 1) δ Λ (by omega) z) fun _ _ _ _ z => z
/-- one turn of a while -/
theorem sq_whileS {n : Nat} : SQ (whileF ft f (n + 1) δ Λ) D = RQ (ft δ Λ) (fun b Λ1 => (b = true → SQ (f δ Λ1) { D with nx := fun δ2 Λ2 => SQ (whileF ft f n δ2 Λ2) D, ct := fun δ2 Λ2 => SQ (whileF ft f n δ2 Λ2) D, bk := D.nx }) ∧ (b = false → D.nx δ Λ1)) (D.ex δ) := by
  rw [whileF, sq_sR]
  congr 1
  funext b Λ1
  cases b with
  | false => simp
  | true =>
    simp only [if_true, reduceCtorEq, false_implies, and_true, true_implies]
    cases f δ Λ1 <;> rfl
/-- by a measure -/
theorem while_inv {n : Nat} (I : Nat → AEnv → AH → Prop) (k : Nat) (hk : k < n) (h0 : I k δ Λ)
    (step : ∀ k δ Λ, I k δ Λ → RQ (ft δ Λ) (fun b Λ1 => (b = true → SQ (f δ Λ1) { D with nx := fun δ2 Λ2 => ∃ j, j < k ∧ I j δ2 Λ2, ct := fun δ2 Λ2 => ∃ j, j < k ∧ I j δ2 Λ2, bk := D.nx }) ∧ (b = false → D.nx δ Λ1)) (D.ex δ)) : SQ (dWhile n ft f δ Λ) D := by
  unfold dWhile
  suffices h : ∀ (n k : Nat) (δ : AEnv) (Λ : AH), k < n → I k δ Λ → SQ (whileF ft f n δ Λ) D from h n k δ Λ hk h0
  intro n
  induction n with
  | zero => intro k δ Λ h; omega
  | succ n ih =>
    intro k δ Λ hk hI
    rw [sq_whileS]
    refine (step k δ Λ hI).and fun b Λ1 q => ⟨fun hb => ?_, q.2⟩
    refine (q.1 hb).imp ?_ (fun _ _ z => z) (fun _ _ z => z) ?_ fun _ _ _ _ z => z
    · rintro δ2 Λ2 ⟨j, hj, z⟩
      exact ih j δ2 Λ2 (by omega) z
    · rintro δ2 Λ2 ⟨j, hj, z⟩
      exact ih j δ2 Λ2 (by omega) z
theorem RQ.cps {Q : α → AH → Prop} (h : ∀ P : α → AH → Prop, (∀ v Λ, Q v Λ → P v Λ) → RQ r P X) : RQ r Q X := h Q fun _ _ z => z
/-- what holds between two statements -/
theorem sq_cut (M : AEnv → AH → Prop) (h1 : ∀ N : AEnv → AH → Prop, (∀ δ Λ, M δ Λ → N δ Λ) → SQ (f δ Λ) { D with nx := N }) (h2 : ∀ δ Λ, M δ Λ → SQ (g δ Λ) D) : SQ (dSeq f g δ Λ) D := by
  rw [sq_seq]
  exact (h1 M fun _ _ z => z).imp h2 (fun _ _ z => z) (fun _ _ z => z) (fun _ _ z => z) fun _ _ _ _ z => z
/-! ### comprehensions -/
theorem rq_eq {α : Type} {r : R α} {b : α} {Λ : AH} (h : RQ r (fun a Λ' => a = b ∧ Λ' = Λ) X0) : r = .ok b Λ := by
  cases r with
  | ok a Λ' => obtain ⟨rfl, rfl⟩ := h; rfl
  | ex c m Λ' => exact h.elim
  | bad => exact h.elim
/-- element and test leave the heap as it is -/
theorem lc_gen {ι : Type} {vs : List Nat} {T : Tg} {src : Src} (is : List ι) (mk : ι → AV) (hi : src.items = is.map mk) (e : ι → AEnv) (p : ι → Bool) (v : ι → AV) (hs : ∀ x ∈ is, setT T (mk x) (wipeA δ vs) = some (e x)) (hh : ∀ acc, src.here (Λ ++ [.lst acc]))
    (hp' : ∀ x ∈ is, ∀ acc, RQ (ft (e x) (Λ ++ [.lst acc])) (fun b Λ' => b = p x ∧ Λ' = Λ ++ [.lst acc]) X0) (hv' : ∀ x ∈ is, p x = true → ∀ acc, RQ (fa (e x) (Λ ++ [.lst acc])) (fun b Λ' => b = v x ∧ Λ' = Λ ++ [.lst acc]) X0) (hl : is.length ≤ sizeLine) :
    lcR vs T ft fa δ src Λ = .ok (.ref Λ.length) (Λ ++ [.lst ((is.filter p).map v)]) := by
  have hp := fun x hx acc => rq_eq (hp' x hx acc)
  have hv := fun x hx hpx acc => rq_eq (hv' x hx hpx acc)
  have key : ∀ (xs : List ι) (acc : List AV), (∀ x ∈ xs, x ∈ is) → acc.length + xs.length ≤ sizeLine → lcL Λ.length src.here T ft fa (xs.map mk) (wipeA δ vs) (Λ ++ [.lst acc]) = some (Λ ++ [.lst (acc ++ (xs.filter p).map v)]) := by
    intro xs
    induction xs with
    | nil => intro acc _ _; simp [lcL, hh]
    | cons x xs ih =>
      intro acc hm hz
      have hx := hm x List.mem_cons_self
      rw [List.map_cons, lcL, if_pos (hh acc), hs x hx]
      simp only [hp x hx]
      cases hpx : p x with
      | false =>
        simp only
        rw [ih acc (fun y hy => hm y (List.mem_cons_of_mem _ hy)) (by simp at hz; omega)]
        simp [hpx]
      | true =>
        simp only [hv x hx hpx]
        rw [show (Λ ++ [AO.lst acc])[Λ.length]? = some (.lst acc) from by simp]
        simp only
        rw [if_pos (by simp at hz; omega), show (Λ ++ [AO.lst acc]).set Λ.length (.lst (acc ++ [v x])) = Λ ++ [.lst (acc ++ [v x])] from by simp [List.set_append_right]]
        rw [ih (acc ++ [v x]) (fun y hy => hm y (List.mem_cons_of_mem _ hy)) (by simp at hz ⊢; omega)]
        simp [hpx]
  unfold lcR
  rw [hi, key is [] (fun _ h => h) (by simpa using hl)]
  simp
/-- every item taken -/
theorem lc_all {ι : Type} {vs : List Nat} {T : Tg} {src : Src} (is : List ι) (mk : ι → AV) (hi : src.items = is.map mk) (e : ι → AEnv) (v : ι → AV) (hs : ∀ x ∈ is, setT T (mk x) (wipeA δ vs) = some (e x)) (hh : ∀ acc, src.here (Λ ++ [.lst acc]))
    (hv : ∀ x ∈ is, ∀ acc, RQ (fa (e x) (Λ ++ [.lst acc])) (fun b Λ' => b = v x ∧ Λ' = Λ ++ [.lst acc]) X0) (hl : is.length ≤ sizeLine) :
    lcR vs T dYes fa δ src Λ = .ok (.ref Λ.length) (Λ ++ [.lst (is.map v)]) := by
  rw [lc_gen (ft := dYes) is mk hi e (fun _ => true) v hs hh (fun x _ acc => (show RQ (R.ok true (Λ ++ [AO.lst acc])) _ X0 from ⟨rfl, rfl⟩)) (fun x hx _ => hv x hx) hl, List.filter_eq_self.mpr fun _ _ => rfl]
theorem dc_gen {ι : Type} {vs : List Nat} {T : Tg} {src : Src} {fk fv : ME} (is : List ι) (mk : ι → AV) (hi : src.items = is.map mk) (e : ι → AEnv) (p : ι → Bool) (k : ι → Key) (v : ι → AV) (hs : ∀ x ∈ is, setT T (mk x) (wipeA δ vs) = some (e x)) (hh : ∀ acc, src.here (Λ ++ [.dk acc]))
    (hp' : ∀ x ∈ is, ∀ acc, RQ (ft (e x) (Λ ++ [.dk acc])) (fun b Λ' => b = p x ∧ Λ' = Λ ++ [.dk acc]) X0) (y : ι → AV) (hy' : ∀ x ∈ is, p x = true → keyA (y x) = some (k x)) (hk' : ∀ x ∈ is, p x = true → ∀ acc, RQ (fk (e x) (Λ ++ [.dk acc])) (fun b Λ' => b = y x ∧ Λ' = Λ ++ [.dk acc]) X0)
    (hv' : ∀ x ∈ is, p x = true → ∀ acc, RQ (fv (e x) (Λ ++ [.dk acc])) (fun b Λ' => b = v x ∧ Λ' = Λ ++ [.dk acc]) X0) (hl : is.length ≤ sizeLine) :
    dcR vs T ft fk fv δ src Λ = .ok (.ref Λ.length) (Λ ++ [.dk ((is.filter p).foldl (fun acc x => putA acc (k x) (v x)) [])]) := by
  have hp := fun x hx acc => rq_eq (hp' x hx acc)
  have hv := fun x hx hpx acc => rq_eq (hv' x hx hpx acc)
  have hk := fun x hx hpx acc => rq_eq (hk' x hx hpx acc)
  have plen : ∀ (acc : List (Key × AV)) (a : Key) (b : AV), (putA acc a b).length ≤ acc.length + 1 := by
    intro acc a b
    unfold putA
    split <;> simp
  have key : ∀ (xs : List ι) (acc : List (Key × AV)), (∀ x ∈ xs, x ∈ is) → acc.length + xs.length ≤ sizeLine → dcL Λ.length src.here T ft fk fv (xs.map mk) (wipeA δ vs) (Λ ++ [.dk acc]) = some (Λ ++ [.dk ((xs.filter p).foldl (fun acc x => putA acc (k x) (v x)) acc)]) := by
    intro xs
    induction xs with
    | nil => intro acc _ _; simp [dcL, hh]
    | cons x xs ih =>
      intro acc hm hz
      have hx := hm x List.mem_cons_self
      rw [List.map_cons, dcL, if_pos (hh acc), hs x hx]
      simp only [hp x hx]
      cases hpx : p x with
      | false =>
        simp only
        rw [ih acc (fun y hy => hm y (List.mem_cons_of_mem _ hy)) (by simp at hz; omega)]
        simp [hpx]
      | true =>
        simp only [hk x hx hpx, hv x hx hpx, hy' x hx hpx]
        rw [show (Λ ++ [AO.dk acc])[Λ.length]? = some (.dk acc) from by simp]
        simp only
        rw [if_pos (by simp at hz; omega), show (Λ ++ [AO.dk acc]).set Λ.length (.dk (putA acc (k x) (v x))) = Λ ++ [.dk (putA acc (k x) (v x))] from by simp [List.set_append_right]]
        rw [ih _ (fun y hy => hm y (List.mem_cons_of_mem _ hy)) (by have := plen acc (k x) (v x); simp at hz; omega)]
        simp [hpx]
  unfold dcR
  rw [hi, key is [] (fun _ h => h) (by simpa using hl)]
end
section
variable {δ : AEnv} {Λ : AH} {fa : ME} {ft : MT} {P : AV → AH → Prop} {X : XQ}
theorem rq_lcg {ι : Type} {vs : List Nat} {T : Tg} {src : Src} (is : List ι) (mk : ι → AV) (e : ι → AEnv) (p : ι → Bool) (v : ι → AV) (hi : src.items = is.map mk) (hs : ∀ x ∈ is, setT T (mk x) (wipeA δ vs) = some (e x)) (hh : ∀ acc, src.here (Λ ++ [.lst acc]))
    (hp' : ∀ x ∈ is, ∀ acc, RQ (ft (e x) (Λ ++ [.lst acc])) (fun b Λ' => b = p x ∧ Λ' = Λ ++ [.lst acc]) X0) (hv' : ∀ x ∈ is, p x = true → ∀ acc, RQ (fa (e x) (Λ ++ [.lst acc])) (fun b Λ' => b = v x ∧ Λ' = Λ ++ [.lst acc]) X0) (hl : is.length ≤ sizeLine)
    (q : P (.ref Λ.length) (Λ ++ [.lst ((is.filter p).map v)])) : RQ (lcR vs T ft fa δ src Λ) P X := by
  rw [lc_gen is mk hi e p v hs hh hp' hv' hl]; exact q
theorem rq_lca {ι : Type} {vs : List Nat} {T : Tg} {src : Src} (is : List ι) (mk : ι → AV) (e : ι → AEnv) (v : ι → AV) (hi : src.items = is.map mk) (hs : ∀ x ∈ is, setT T (mk x) (wipeA δ vs) = some (e x)) (hh : ∀ acc, src.here (Λ ++ [.lst acc]))
    (hv' : ∀ x ∈ is, ∀ acc, RQ (fa (e x) (Λ ++ [.lst acc])) (fun b Λ' => b = v x ∧ Λ' = Λ ++ [.lst acc]) X0) (hl : is.length ≤ sizeLine)
    (q : P (.ref Λ.length) (Λ ++ [.lst (is.map v)])) : RQ (lcR vs T dYes fa δ src Λ) P X := by
  rw [lc_all is mk hi e v hs hh hv' hl]; exact q
theorem rq_dcg {ι : Type} {vs : List Nat} {T : Tg} {src : Src} {fk fv : ME} (is : List ι) (mk : ι → AV) (e : ι → AEnv) (p : ι → Bool) (k : ι → Key) (y v : ι → AV) (hi : src.items = is.map mk) (hs : ∀ x ∈ is, setT T (mk x) (wipeA δ vs) = some (e x)) (hh : ∀ acc, src.here (Λ ++ [.dk acc]))
    (hp' : ∀ x ∈ is, ∀ acc, RQ (ft (e x) (Λ ++ [.dk acc])) (fun b Λ' => b = p x ∧ Λ' = Λ ++ [.dk acc]) X0) (hy' : ∀ x ∈ is, p x = true → keyA (y x) = some (k x)) (hk' : ∀ x ∈ is, p x = true → ∀ acc, RQ (fk (e x) (Λ ++ [.dk acc])) (fun b Λ' => b = y x ∧ Λ' = Λ ++ [.dk acc]) X0)
    (hv' : ∀ x ∈ is, p x = true → ∀ acc, RQ (fv (e x) (Λ ++ [.dk acc])) (fun b Λ' => b = v x ∧ Λ' = Λ ++ [.dk acc]) X0) (hl : is.length ≤ sizeLine)
    (q : P (.ref Λ.length) (Λ ++ [.dk ((is.filter p).foldl (fun acc x => putA acc (k x) (v x)) [])])) : RQ (dcR vs T ft fk fv δ src Λ) P X := by
  rw [dc_gen is mk hi e p k v hs hh hp' y hy' hk' hv' hl]; exact q
end
theorem sz_le {n : Nat} (h : n ≤ 10000000) : n ≤ sizeLine := by rw [sizeLine_eq]; exact Nat.le_trans h (by decide)
theorem sz_lt {n : Nat} (h : n < 10000000) : n < sizeLine := by rw [sizeLine_eq]; exact Nat.lt_of_lt_of_le h (by decide)
/-! ### heaps -/
@[simp] theorem get_new {Λ Y : AH} {k : Nat} : (Λ ++ Y)[Λ.length + k]? = Y[k]? := by simp [List.getElem?_append_right]
@[simp] theorem get_new0 {Λ Y : AH} : (Λ ++ Y)[Λ.length]? = Y[0]? := by simp [List.getElem?_append_right]
@[simp] theorem set_new {Λ Y : AH} {k : Nat} {o : AO} : (Λ ++ Y).set (Λ.length + k) o = Λ ++ Y.set k o := by simp [List.set_append_right]
@[simp] theorem set_new0 {Λ Y : AH} {o : AO} : (Λ ++ Y).set Λ.length o = Λ ++ Y.set 0 o := by simp [List.set_append_right]
theorem get_old {Λ : AH} {n : Nat} {o : AO} (h : Λ[n]? = some o) (Y : AH) : (Λ ++ Y)[n]? = some o := by
  rw [List.getElem?_append_left (List.getElem?_eq_some_iff.mp h).1, h]
theorem get_pre {Λ Λ' : AH} {n : Nat} {o : AO} (e : Λ <+: Λ') (h : Λ[n]? = some o) : Λ'[n]? = some o := by
  obtain ⟨Y, rfl⟩ := e
  exact get_old h Y
theorem get_lt {Λ : AH} {n : Nat} {o : AO} (h : Λ[n]? = some o) : n < Λ.length := (List.getElem?_eq_some_iff.mp h).1
end NP

set_option Elab.async false
set_option linter.all false
set_option maxRecDepth 100000
set_option maxHeartbeats 1000000
/-! NP13: the operations at values whose form is known. -/
namespace NP
open PySem PySem.Spec PyProof.Rows L2
section
variable {i j : Int} {x y : Str} {xs ys : List AV} {n m : Nat} {b c : Bool} {Λ : AH} {a v : AV} {δ : AEnv}
@[simp] theorem gAdd_ii : gAdd (.int i) (.int j) Λ = some (.int (i + j), Λ) := rfl
@[simp] theorem gAdd_ss : gAdd (.str x) (.str y) Λ = if x.length + y.length ≤ sizeLine then some (.str (x ++ y), Λ) else none := rfl
@[simp] theorem gAdd_tt : gAdd (.tup xs) (.tup ys) Λ = if xs ≠ [] ∧ xs.length + ys.length ≤ sizeLine then some (.tup (xs ++ ys), Λ) else none := rfl
theorem gAdd_rr : gAdd (.ref n) (.ref m) Λ = (match Λ[n]?, Λ[m]? with
  | some (.lst xs), some (.lst ys) => if xs.length + ys.length ≤ sizeLine then some (.ref Λ.length, Λ ++ [.lst (xs ++ ys)]) else none
  | _, _ => none) := rfl
@[simp] theorem gSub_ii : gSub (.int i) (.int j) Λ = some (.int (i - j), Λ) := rfl
@[simp] theorem gMul_ii : gMul (.int i) (.int j) Λ = if mulOk i j then some (.int (i * j), Λ) else none := rfl
@[simp] theorem gFdiv_ii : gFdiv (.int i) (.int j) Λ = if 0 < j ∧ j.natAbs.log2 < 9000 then some (.int (i / j), Λ) else none := rfl
@[simp] theorem gMod_ii : gMod (.int i) (.int j) Λ = if 0 < j then some (.int (i % j), Λ) else none := rfl
@[simp] theorem gPow_ii : gPow (.int i) (.int j) Λ = if 0 ≤ j ∧ j ≤ 1000000 ∧ i.natAbs < 2 ^ 64 then some (.int (i ^ j.toNat), Λ) else none := rfl
@[simp] theorem gNeg_i : gNeg (.int i) Λ = some (.int (-i), Λ) := rfl
@[simp] theorem gLt_ii : gLt (.int i) (.int j) Λ = some (.bl (decide (i < j)), Λ) := rfl
@[simp] theorem gLe_ii : gLe (.int i) (.int j) Λ = some (.bl (decide (i ≤ j)), Λ) := rfl
@[simp] theorem gGt_ii : gGt (.int i) (.int j) Λ = some (.bl (decide (j < i)), Λ) := rfl
@[simp] theorem gGe_ii : gGe (.int i) (.int j) Λ = some (.bl (decide (j ≤ i)), Λ) := rfl
@[simp] theorem gEq_ii : gEq (.int i) (.int j) Λ = some (.bl (decide (i = j)), Λ) := by
  unfold gEq
  simp only [toD, PyData.eqv]
  congr 3
@[simp] theorem gNe_ii : gNe (.int i) (.int j) Λ = some (.bl (!decide (i = j)), Λ) := by
  unfold gNe
  simp only [toD, PyData.eqv]
  congr 4
@[simp] theorem gEq_bb : gEq (.bl b) (.bl c) Λ = some (.bl (decide (b = c)), Λ) := by
  cases b <;> cases c <;> rfl
@[simp] theorem gNe_bb : gNe (.bl b) (.bl c) Λ = some (.bl (!decide (b = c)), Λ) := by
  cases b <;> cases c <;> rfl
@[simp] theorem gIs_non : gIs a .non Λ = some (.bl (isNonA a), Λ) := rfl
@[simp] theorem gIs_bb : gIs (.bl b) (.bl c) Λ = some (.bl (b == c), Λ) := rfl
@[simp] theorem gIsNot_non : gIsNot a .non Λ = some (.bl (!isNonA a), Λ) := rfl
@[simp] theorem gIsNot_bb : gIsNot (.bl b) (.bl c) Λ = some (.bl (!(b == c)), Λ) := rfl
@[simp] theorem isNon_non : isNonA .non = true := rfl
@[simp] theorem isNon_ref : isNonA (.ref n) = false := rfl
@[simp] theorem isNon_int : isNonA (.int i) = false := rfl
@[simp] theorem isNon_bl : isNonA (.bl b) = false := rfl
@[simp] theorem isNon_str : isNonA (.str x) = false := rfl
@[simp] theorem isNon_tup : isNonA (.tup xs) = false := rfl
@[simp] theorem isNon_ct : isNonA (.ct xs) = false := rfl
@[simp] theorem gIx_ti : gIx (.tup xs) (.int i) Λ = (atA xs i).map fun v => (v, Λ) := rfl
@[simp] theorem gIx_ci : gIx (.ct xs) (.int i) Λ = (atA xs i).map fun v => (v, Λ) := rfl
@[simp] theorem gIx_li : gIx (.cl xs) (.int i) Λ = (atA xs i).map fun v => (v, Λ) := rfl
@[simp] theorem gIx_ri : gIx (.ref n) (.int i) Λ = (match Λ[n]? with
  | some (.lst xs) => (atA xs i).map fun v => (v, Λ)
  | _ => none) := rfl
@[simp] theorem gLen_t : gLen [.tup xs] Λ = some (.int xs.length, Λ) := rfl
@[simp] theorem gLen_c : gLen [.ct xs] Λ = some (.int xs.length, Λ) := rfl
@[simp] theorem gLen_l : gLen [.cl xs] Λ = some (.int xs.length, Λ) := rfl
@[simp] theorem gLen_r : gLen [.ref n] Λ = (match Λ[n]? with
  | some (.lst xs) => some (.int xs.length, Λ)
  | some (.dk xs) => some (.int xs.length, Λ)
  | some (.dt xs) => some (.int xs.length, Λ)
  | _ => none) := by
  unfold gLen lenA
  simp only
  split <;> simp_all
@[simp] theorem gLen_s : gLen [.str x] Λ = if x.length ≤ sizeLine then some (.int x.length, Λ) else none := by
  unfold gLen lenA
  simp only
  split <;> simp_all
@[simp] theorem gAbs_i : gAbs [.int i] Λ = some (.int (if i < 0 then -i else i), Λ) := rfl
@[simp] theorem gInt_i : gInt [.int i] Λ = some (.int i, Λ) := rfl
@[simp] theorem gInt_b : gInt [.bl b] Λ = some (.int (if b then 1 else 0), Λ) := rfl
@[simp] theorem gMax2_ii : gMax2 [.int i, .int j] Λ = some (.int (if j > i then j else i), Λ) := rfl
@[simp] theorem gMin2_ii : gMin2 [.int i, .int j] Λ = some (.int (if j < i then j else i), Λ) := rfl
@[simp] theorem lstA_l : lstA (.cl xs) Λ = some xs := rfl
@[simp] theorem lstA_r : lstA (.ref n) Λ = (match Λ[n]? with
  | some (.lst xs) => some xs
  | _ => none) := rfl
@[simp] theorem seqA_t : seqA (.tup xs) Λ = some xs := rfl
@[simp] theorem seqA_c : seqA (.ct xs) Λ = some xs := rfl
@[simp] theorem seqA_r : seqA (.ref n) Λ = lstA (.ref n) Λ := rfl
@[simp] theorem seqA_l : seqA (.cl xs) Λ = some xs := rfl
@[simp] theorem gList_t : gList [.tup xs] Λ = some (.ref Λ.length, Λ ++ [.lst xs]) := rfl
@[simp] theorem gList_c : gList [.ct xs] Λ = some (.ref Λ.length, Λ ++ [.lst xs]) := rfl
@[simp] theorem gList_l : gList [.cl xs] Λ = some (.ref Λ.length, Λ ++ [.lst xs]) := rfl
@[simp] theorem gList_r : gList [.ref n] Λ = (match Λ[n]? with
  | some (.lst xs) => some (.ref Λ.length, Λ ++ [.lst xs])
  | some (.dk kvs) => some (.ref Λ.length, Λ ++ [.lst (kvs.map fun p => kA p.1)])
  | some (.dt kvs) => some (.ref Λ.length, Λ ++ [.lst (kvs.map fun p => .tup (p.1.map kA))])
  | _ => none) := rfl
@[simp] theorem gTuple_t : gTuple [.tup xs] Λ = some (.tup xs, Λ) := rfl
@[simp] theorem gTuple_c : gTuple [.ct xs] Λ = some (.ct xs, Λ) := rfl
@[simp] theorem gTuple_r : gTuple [.ref n] Λ = (match Λ[n]? with
  | some (.lst xs) => some (.tup xs, Λ)
  | _ => none) := by
  unfold gTuple lstA
  simp only
  split <;> simp_all
@[simp] theorem gLR_r : gLR (.ref n) Λ = (match Λ[n]? with
  | some (.lst xs) => some (.ref Λ.length, Λ ++ [.lst xs.reverse])
  | _ => none) := by
  unfold gLR lstA
  simp only
  split <;> simp_all
@[simp] theorem tyA_r {T : String} : tyA T (.ref n) Λ = (match Λ[n]? with
  | some (.lst _) => T == "list"
  | some (.dk _) => T == "dict"
  | some (.dt _) => T == "dict"
  | _ => false) := rfl
@[simp] theorem tyA_l {T : String} {xs : List AV} : tyA T (.cl xs) Λ = (T == "list") := rfl
@[simp] theorem tyA_s {T : String} : tyA T (.str x) Λ = (T == "str") := rfl
@[simp] theorem gAppend_r : gAppend (.ref n) [v] Λ = (match Λ[n]? with
  | some (.lst xs) => if xs.length < sizeLine then some (.non, Λ.set n (.lst (xs ++ [v]))) else none
  | _ => none) := rfl
@[simp] theorem gPop_r : gPop (.ref n) [] Λ = (match Λ[n]? with
  | some (.lst xs) => match xs[xs.length - 1]? with
    | some y => some (y, Λ.set n (.lst xs.dropLast))
    | none => none
  | _ => none) := rfl
@[simp] theorem setI_ri : setI (.ref n) (.int i) v Λ = (match Λ[n]? with
  | some (.lst xs) => (ixN xs.length i).map fun j => Λ.set n (.lst (xs.set j v))
  | some (.dk kvs) => if kvs.length < sizeLine then some (Λ.set n (.dk (putA kvs (.inl i) v))) else none
  | _ => none) := by
  unfold setI
  simp only [keyA]
  split <;> simp_all
@[simp] theorem rq_srcA_t {Q : Src → AH → Prop} {X : XQ} : RQ (srcA (.tup xs) Λ) Q X = Q (.fix xs) Λ := rfl
@[simp] theorem rq_srcA_c {Q : Src → AH → Prop} {X : XQ} : RQ (srcA (.ct xs) Λ) Q X = Q (.fix xs) Λ := rfl
@[simp] theorem rq_srcA_l {Q : Src → AH → Prop} {X : XQ} : RQ (srcA (.cl xs) Λ) Q X = Q (.fix xs) Λ := rfl
@[simp] theorem rq_srcA_r {Q : Src → AH → Prop} {X : XQ} : RQ (srcA (.ref n) Λ) Q X = (match Λ[n]? with
  | some (.lst xs) => Q (.lst n xs) Λ
  | _ => False) := by
  unfold srcA
  simp only
  cases h : Λ[n]? with
  | none => rfl
  | some o => cases o <;> rfl
@[simp] theorem rq_slA_r {lo hi : Option Int} {Q : AV → AH → Prop} {X : XQ} : RQ (slA (.ref n) lo hi Λ) Q X = (match Λ[n]? with
  | some (.lst xs) => Q (.ref Λ.length) (Λ ++ [.lst (cutA xs lo hi)])
  | _ => False) := by
  unfold slA lstA
  simp only
  cases h : Λ[n]? with
  | none => rfl
  | some o => cases o <;> rfl
@[simp] theorem setT_nm : setT (.nm n) v δ = some (δ.set n (some v)) := rfl
@[simp] theorem setT_tp {is : List Nat} : setT (.tp is) (.tup xs) δ = if xs.length = is.length then some (setMany is xs δ) else none := rfl
@[simp] theorem setT_tpc {is : List Nat} : setT (.tp is) (.ct xs) δ = if xs.length = is.length then some (setMany is xs δ) else none := rfl
@[simp] theorem setMany_c {is : List Nat} : setMany (n :: is) (v :: xs) δ = setMany is xs (δ.set n (some v)) := rfl
@[simp] theorem setMany_n {xs : List AV} : setMany [] xs δ = δ := by cases xs <;> rfl
@[simp] theorem src_fix : (Src.fix xs).items = xs := rfl
@[simp] theorem src_lst : (Src.lst n xs).items = xs := rfl
@[simp] theorem src_fixh : (Src.fix xs).here Λ = True := rfl
@[simp] theorem src_lsth : (Src.lst n xs).here Λ = (Λ[n]? = some (.lst xs)) := rfl
@[simp] theorem truA_bl : truA (.bl b) Λ = some b := rfl
@[simp] theorem truA_int : truA (.int i) Λ = some (i != 0) := rfl
@[simp] theorem truA_non : truA .non Λ = some false := rfl
@[simp] theorem truA_r : truA (.ref n) Λ = (match Λ[n]? with
  | some (.lst xs) => some (!xs.isEmpty)
  | some (.dk xs) => some (!xs.isEmpty)
  | _ => none) := rfl
theorem get_set {o o' : AO} (h : Λ[n]? = some o) : (Λ.set n o')[n]? = some o' := List.getElem?_set_self (get_lt h)
theorem get_setNe {o' : AO} (h : m ≠ n) : (Λ.set m o')[n]? = Λ[n]? := List.getElem?_set_ne h
theorem set_same {o : AO} (h : Λ[n]? = some o) : Λ.set n o = Λ := by
  apply List.ext_getElem?
  intro k
  by_cases hk : n = k
  · subst hk; rw [get_set h, h]
  · rw [List.getElem?_set_ne hk]
/-! ### equality of lists of ints -/
theorem toD_ints {ns : List Int} {k : Nat} : allO ((ns.map AV.int).map (toD Λ (k + 1))) = some (ns.map PyData.int) := by
  induction ns with
  | nil => rfl
  | cons a as ih =>
    rw [List.map_cons, List.map_cons, toD, allO, ih]
    rfl
theorem eqv_ints : ∀ {as bs : List Int}, PyData.eqvAll (as.map PyData.int) (bs.map PyData.int) = decide (as = bs)
  | [], [] => rfl
  | [], _ :: _ => rfl
  | _ :: _, [] => rfl
  | a :: as, b :: bs => by
    rw [List.map_cons, List.map_cons, PyData.eqvAll, eqv_ints, PyData.eqv]
    by_cases h : a = b <;> simp [h]
theorem mul_small (h : -1000000000000 ≤ j ∧ j ≤ 1000000000000) : mulOk i j := by
  refine .inl (.inr ⟨?_, ?_⟩)
  · exact Int.lt_of_lt_of_le (by decide) h.1
  · exact Int.lt_of_le_of_lt h.2 (by decide)
theorem mul_smallL (h : -1000000000000 ≤ i ∧ i ≤ 1000000000000) : mulOk i j := by
  refine .inl (.inl ⟨?_, ?_⟩)
  · exact Int.lt_of_lt_of_le (by decide) h.1
  · exact Int.lt_of_le_of_lt h.2 (by decide)
@[simp] theorem gSum_r : gSum [.ref n] Λ = (match Λ[n]? with
  | some (.lst xs) => (intsA xs).map fun ns => (.int ns.sum, Λ)
  | _ => none) := by
  unfold gSum lstA
  simp only
  cases h : Λ[n]? with
  | none => rfl
  | some o => cases o <;> rfl
@[simp] theorem intsA_fun {ι : Type} {f : ι → Int} : ∀ {l : List ι}, intsA (l.map fun k => AV.int (f k)) = some (l.map f)
  | [] => rfl
  | a :: as => by
    have ih := intsA_fun (f := f) (l := as)
    unfold intsA at ih ⊢
    rw [List.map_cons, List.map_cons, intA, allO, ih]
    rfl
@[simp] theorem intsA_int {l : List Int} : intsA (l.map AV.int) = some l := by
  have := intsA_fun (f := id) (l := l)
  simpa using this
@[simp] theorem gAll_r : gAll [.ref n] Λ = (match Λ[n]? with
  | some (.lst xs) => (blsA xs).map fun bs => (.bl (bs.all id), Λ)
  | _ => none) := by
  unfold gAll lstA
  simp only
  cases h : Λ[n]? with
  | none => rfl
  | some o => cases o <;> rfl
@[simp] theorem gAny_r : gAny [.ref n] Λ = (match Λ[n]? with
  | some (.lst xs) => (blsA xs).map fun bs => (.bl (bs.any id), Λ)
  | _ => none) := by
  unfold gAny lstA
  simp only
  cases h : Λ[n]? with
  | none => rfl
  | some o => cases o <;> rfl
@[simp] theorem blsA_fun {ι : Type} {f : ι → Bool} : ∀ {l : List ι}, blsA (l.map fun k => AV.bl (f k)) = some (l.map f)
  | [] => rfl
  | a :: as => by
    have ih := blsA_fun (f := f) (l := as)
    unfold blsA at ih ⊢
    rw [List.map_cons, List.map_cons, blO, allO, ih]
    rfl
end
end NP

set_option Elab.async false
set_option linter.all false
set_option maxRecDepth 100000
set_option maxHeartbeats 1000000
/-! NPA: the pool of the laws k61 to k73. -/
namespace NP
open PySem PySem.Spec PyProof.Rows L2
noncomputable def poolA : List AV → AH → R AV := runF 1 5 (dSeq (dSet 1 (dLc [2] (dIt (dSl (dVar 0) dNoP (dPart (dC (.int 63))))) (.nm 2) dYes (dPr gAbs (dCons (dVar 2) dNil)))) (dSeq (dSet 3 (dPr gSum (dCons (dLc [4] (dRg1 (dCons (dPr gLen (dCons (dVar 1) dNil)) dNil)) (.nm 4) dYes (dBin gMul (dBin gAdd (dVar 4) (dC (.int 1))) (dBin gMod (dPr gInt (dCons (dBin gIx (dVar 1) (dVar 4)) dNil)) (dC (.int 1009))))) dNil))) (dRet (dBin gAdd (dLst (dCons (dVar 3) (dCons (dC (.int 0)) dNil))) (dUn gLR (dVar 1))))))
noncomputable def drawA : List AV → AH → R AV := runF 2 3 (dSeq (dWhile 1000 (dAndT (dTB (dBin gGt (dPr gLen (dCons (dVar 0) dNil)) (dC (.int 2)))) (dTB (dBin gLt (dBin gIx (dVar 0) (dUn gNeg (dC (.int 1)))) (dC (.int 2))))) (dEx (dMt "list" gPop (dVar 0) dNil))) (dSeq (dIfS (dTB (dBin gLt (dPr gLen (dCons (dVar 0) dNil)) (dC (.int 3)))) (dSeq (dSetI (dVar 0) (dC (.int 1)) (dBin gAdd (dBin gIx (dVar 0) (dC (.int 1))) (dC (.int 1)))) (dEx (dMt "list" gAppend (dVar 0) (dCons (dBin gFdiv (dBin gPow (dBin gAdd (dBin gAdd (dBin gIx (dVar 0) (dC (.int 0))) (dBin gMul (dC (.int 1009)) (dBin gIx (dVar 0) (dC (.int 1))))) (dC (.int 1234567))) (dC (.int 3))) (dC (.int 997))) dNil)))) dNx) (dSeq (dSet 2 (dBin gIx (dVar 0) (dUn gNeg (dC (.int 1))))) (dSeq (dSetI (dVar 0) (dUn gNeg (dC (.int 1))) (dBin gFdiv (dVar 2) (dVar 1))) (dRet (dBin gMod (dPr gInt (dCons (dVar 2) dNil)) (dVar 1)))))))
theorem ix_nat {n : Nat} {i : Int} (h0 : 0 ≤ i) (h1 : i < n) : ixN n i = some i.toNat := by
  unfold ixN
  rw [if_pos h0, if_pos h1]
theorem ix_last {n : Nat} (h : 0 < n) : ixN n (-1) = some (n - 1) := by
  unfold ixN
  rw [if_neg (by omega), if_pos (by omega)]
  congr 1
  omega
theorem at_last {ys : List AV} {x : AV} : atA (ys ++ [x]) (-1) = some x := by
  unfold atA atI
  rw [ix_last (by simp)]
  simp
theorem at_nat {xs : List AV} {i : Int} (h0 : 0 ≤ i) (h1 : i < xs.length) : atA xs i = xs[i.toNat]? := by
  unfold atA atI
  rw [ix_nat h0 h1]
  rfl
theorem set_last {ys : List AV} {x y : AV} : (ys ++ [x]).set ys.length y = ys ++ [y] := by simp [List.set_append_right]
structure PoolA (c : Int) (t n : Int) (rs : List Int) : Prop where
  t0 : 0 ≤ t
  t1 : t ≤ 5000000
  n0 : 0 ≤ n
  n1 : n ≤ c
  rs0 : ∀ r ∈ rs, 0 ≤ r
  len : rs.length ≤ 70
abbrev cellsA (t n : Int) (rs : List Int) : List AV := [.int t, .int n] ++ rs.map .int
theorem snoc_cases (rs : List Int) : rs = [] ∨ ∃ qs x, rs = qs ++ [x] := by
  rcases List.eq_nil_or_concat rs with h | ⟨qs, x, h⟩
  · exact .inl h
  · exact .inr ⟨qs, x, by simpa using h⟩
theorem at_last3 {a b x : AV} {l : List AV} : atA (a :: b :: (l ++ [x])) (-1) = some x := at_last (ys := a :: b :: l)
theorem set_last3 {a b x y : AV} {l : List AV} : (a :: b :: (l ++ [x])).set (l.length + 1 + 1) y = a :: b :: (l ++ [y]) := set_last (ys := a :: b :: l)
theorem sq_mid {f g : MS} {δ : AEnv} {Λ : AH} {D : DQ} (M : AEnv → AH → Prop) (h1 : SQ (f δ Λ) { D with nx := M }) (h2 : ∀ δ Λ, M δ Λ → SQ (g δ Λ) D) : SQ (dSeq f g δ Λ) D := by
  rw [sq_seq]
  exact h1.imp h2 (fun _ _ z => z) (fun _ _ z => z) (fun _ _ z => z) fun _ _ _ _ z => z
theorem drawA_ok {c t n many : Int} {rs : List Int} {Λ : AH} {p : Nat} {X : XQ} (h : PoolA c t n rs) (hc : c ≤ 1000000000) (hm : 0 < many) (hm2 : many ≤ 1000000) (hp : Λ[p]? = some (.lst (cellsA t n rs))) :
    RQ (drawA [.ref p, .int many] Λ) (fun v Λ' => ∃ d n' rs', v = .int d ∧ 0 ≤ d ∧ d < many ∧ Λ' = Λ.set p (.lst (cellsA t n' rs')) ∧ PoolA (c + 1) t n' rs') X := by
  have hpl := get_lt hp
  have hlog : many.natAbs.log2 < 9000 := by
    have : many.natAbs.log2 ≤ many.natAbs := Nat.log2_le_self _
    have h2 : many.natAbs < 2 ^ 20 := by omega
    have := (Nat.log2_lt (by omega)).mpr h2
    omega
  unfold drawA
  rw [rq_run (by rfl)]
  simp only [startA, List.map_cons, List.map_nil, List.length_cons, List.length_nil, List.cons_append, List.nil_append, Nat.reduceAdd, Nat.reduceSub, List.replicate]
  refine sq_mid (fun δ Λ' => δ = [some (.ref p), some (.int many), none] ∧ ∃ qs, Λ' = Λ.set p (.lst (cellsA t n qs)) ∧ PoolA c t n qs) ?_ ?_
  · refine while_inv (fun k δ Λ' => δ = [some (.ref p), some (.int many), none] ∧ ∃ qs, qs.length = k ∧ Λ' = Λ.set p (.lst (cellsA t n qs)) ∧ PoolA c t n qs) rs.length (by have := h.len; omega) ⟨rfl, rs, rfl, (set_same hp).symm, h⟩ ?_
    rintro k δ Λ' ⟨rfl, qs, rfl, eΛ, hq⟩
    rcases snoc_cases qs with rfl | ⟨ys, x, rfl⟩
    · have hg : Λ'[p]? = some (.lst [.int t, .int n]) := by rw [eΛ]; exact get_set hp
      simp [hg]
      exact ⟨[], eΛ, hq⟩
    · have hg : Λ'[p]? = some (.lst (.int t :: .int n :: (ys.map AV.int ++ [.int x]))) := by rw [eΛ, get_set hp]; simp
      simp [hg, at_last3]
      have h3 : ¬((ys.length : Int) + 1 + 1 + 1 ≤ 2) := by omega
      refine ⟨fun _ => ⟨fun hx => ⟨ys.length, by omega, ys, rfl, ?_, ⟨hq.t0, hq.t1, hq.n0, hq.n1, fun r hr => hq.rs0 r (List.mem_append_left _ hr), by have := hq.len; simp at this; omega⟩⟩, fun hx => ⟨ys ++ [x], by simpa using eΛ, hq⟩⟩, fun h => absurd h h3⟩
      rw [eΛ, List.set_set]
      congr 2
      rw [show AV.int n :: (ys.map AV.int ++ [AV.int x]) = (AV.int n :: ys.map AV.int) ++ [AV.int x] from rfl, List.dropLast_concat]
  rintro δ Λ1 ⟨rfl, qs, eΛ, hq⟩
  refine sq_mid (fun δ Λ' => δ = [some (.ref p), some (.int many), none] ∧ ∃ n' ys x, Λ' = Λ.set p (.lst (cellsA t n' (ys ++ [x]))) ∧ PoolA (c + 1) t n' (ys ++ [x])) ?_ ?_
  · rcases snoc_cases qs with rfl | ⟨ys, x, rfl⟩
    · have hg : Λ1[p]? = some (.lst [.int t, .int n]) := by rw [eΛ]; exact get_set hp
      have ht0 := hq.t0; have ht1 := hq.t1; have hn0 := hq.n0; have hn1 := hq.n1
      simp [hg, at_nat, ix_nat, get_set hg]
      have hlog2 : Nat.log2 997 < 9000 := by decide +kernel
      refine ⟨.inl (.inl ⟨by decide, by decide⟩), by omega, hlog2, by rw [sizeLine_eq]; decide, n + 1, [], (t + 1009 * (n + 1) + 1234567) ^ 3 / 997, ?_, ⟨ht0, ht1, by omega, by omega, fun r hr => ?_, by simp⟩⟩
      · rw [eΛ, List.set_set]; rfl
      · simp at hr
        rw [hr]
        exact Int.ediv_nonneg (Int.pow_nonneg (by omega)) (by decide)
    · have hg : Λ1[p]? = some (.lst (.int t :: .int n :: (ys.map AV.int ++ [.int x]))) := by rw [eΛ, get_set hp]; simp
      have h3 : ¬((ys.length : Int) + 1 + 1 + 1 < 3) := by omega
      simp [hg, h3]
      exact ⟨n, ys, x, by simpa using eΛ, ⟨hq.t0, hq.t1, hq.n0, by have := hq.n1; omega, hq.rs0, hq.len⟩⟩
  rintro δ Λ2 ⟨rfl, n', ys, x, eΛ2, hq2⟩
  have hg : Λ2[p]? = some (.lst (.int t :: .int n' :: (ys.map AV.int ++ [.int x]))) := by rw [eΛ2, get_set hp]; simp
  simp [hg, at_last3, ix_last, hm, hlog, get_set hg]
  refine ⟨Int.emod_nonneg _ (by omega), Int.emod_lt_of_pos _ hm, n', ys ++ [x / many], ?_, ⟨hq2.t0, hq2.t1, hq2.n0, hq2.n1, fun r hr => ?_, by have := hq2.len; simp at this ⊢; omega⟩⟩
  · rw [eΛ2, List.set_set]; simp
  · rcases List.mem_append.mp hr with hr | hr
    · exact hq2.rs0 r (List.mem_append_left _ hr)
    · rw [List.mem_singleton.mp hr]
      exact Int.ediv_nonneg (hq2.rs0 x (by simp)) (by omega)
/-! ### the pool is made -/
def absI (i : Int) : Int := if i < 0 then -i else i
theorem absI_nonneg (i : Int) : 0 ≤ absI i := by unfold absI; split <;> omega
theorem sum_in {B : Int} : ∀ {l : List Int}, (∀ x ∈ l, 0 ≤ x ∧ x ≤ B) → 0 ≤ l.sum ∧ l.sum ≤ B * l.length
  | [], _ => by simp
  | x :: xs, h => by
    obtain ⟨h1, h2⟩ := sum_in (l := xs) fun y hy => h y (List.mem_cons_of_mem _ hy)
    obtain ⟨h3, h4⟩ := h x List.mem_cons_self
    rw [List.sum_cons, List.length_cons]
    have e : B * ((xs.length + 1 : Nat) : Int) = B * (xs.length : Int) + B := by rw [Int.natCast_add, Int.mul_add]; simp
    rw [e]
    omega
theorem poolA_ok {ns : List Int} {Λ : AH} {X : XQ} (hn : ns.length ≤ 63) : RQ (poolA [.cl (ns.map .int)] Λ) (fun v Λ' => ∃ t p E, v = .ref p ∧ Λ' = Λ ++ E ∧ Λ'[p]? = some (.lst (cellsA t 0 (ns.map absI).reverse)) ∧ PoolA 0 t 0 (ns.map absI).reverse) X := by
  unfold poolA
  rw [rq_run (by rfl)]
  have hcut : cutA (ns.map AV.int) none (some 63) = ns.map AV.int := by
    unfold cutA
    have h1 : HT.sIx (ns.map AV.int).length 0 none = 0 := rfl
    rw [h1, List.drop_zero, List.take_of_length_le]
    unfold HT.sIx
    simp
    omega
  simp [startA, slA, hcut, List.replicate]
  rw [lc_all ns AV.int rfl (fun i => [some (AV.cl (ns.map AV.int)), none, some (.int i), none, none]) (fun i => .int (absI i)) (fun _ _ => rfl) (fun acc => by simp) (fun i _ acc => by simp [absI]) (sz_le (by omega))]
  simp -implicitDefEqProofs
  refine ⟨rgOk_of (by omega) (by omega), ?_⟩
  rw [lc_all (List.range ns.length) (fun k : Nat => AV.int (0 + (k : Int))) (by simp [rgA]) (fun k => [some (AV.cl (ns.map AV.int)), some (.ref (Λ.length + 1)), none, none, some (.int (0 + (k : Int)))]) (fun k => .int (((k : Int) + 1) * (absI (ns.getD k 0) % 1009))) (fun _ _ => rfl) (fun acc => by simp) (fun k hk acc => ?_) (sz_le (by simp; omega))]
  rotate_left
  · have hk2 : k < ns.length := List.mem_range.mp hk
    simp [at_nat, hk2]
    exact mul_small (by omega)
  rw [rq_ok]
  have hz : ns.length + 1 + 1 ≤ sizeLine := sz_le (by omega)
  have hg : ∀ Y : AH, (Λ ++ Y)[Λ.length + 3 + 1]? = Y[4]? := fun Y => by rw [Nat.add_assoc]; exact get_new
  have h2 : 2 ≤ sizeLine := sz_le (by decide)
  simp -implicitDefEqProofs [gAdd_rr, hg, hz, h2, -getElem?_pos, List.getElem?_cons_zero, List.getElem?_cons_succ]
  have hb := sum_in (B := 63504) (l := (List.range ns.length).map fun k : Nat => ((k : Int) + 1) * (absI (ns[k]?.getD 0) % 1009)) fun x hx => by
    obtain ⟨k, hk, rfl⟩ := List.mem_map.mp hx
    have hk := List.mem_range.mp hk
    have m0 : 0 ≤ absI (ns[k]?.getD 0) % 1009 := Int.emod_nonneg _ (by decide)
    have m1 : absI (ns[k]?.getD 0) % 1009 < 1009 := Int.emod_lt_of_pos _ (by decide)
    generalize absI (ns[k]?.getD 0) % 1009 = m at m0 m1
    refine ⟨Int.mul_nonneg (by omega) m0, ?_⟩
    have h1 : ((k : Int) + 1) * m ≤ 63 * m := Int.mul_le_mul_of_nonneg_right (by omega) m0
    omega
  refine ⟨sz_le (by omega), hb.1, ?_, Int.le_refl _, Int.le_refl _, fun r hr => ?_, by simp; omega⟩
  · have := hb.2
    simp only [List.length_map, List.length_range] at this
    omega
  · simp at hr
    obtain ⟨x, _, rfl⟩ := hr
    exact absI_nonneg x
/-! ### draws, by what stays -/
def PoolAt (Λ : AH) (p : Nat) (c : Int) : Prop := ∃ t n rs, Λ[p]? = some (.lst (cellsA t n rs)) ∧ PoolA c t n rs
theorem PoolAt.pre {Λ Λ' : AH} {p : Nat} {c : Int} (h : PoolAt Λ p c) (e : Λ <+: Λ') : PoolAt Λ' p c := let ⟨t, n, rs, h1, h2⟩ := h; ⟨t, n, rs, get_pre e h1, h2⟩
theorem PoolAt.mono {Λ : AH} {p : Nat} {c c' : Int} (h : PoolAt Λ p c) (e : c ≤ c') : PoolAt Λ p c' := let ⟨t, n, rs, h1, h2⟩ := h; ⟨t, n, rs, h1, ⟨h2.t0, h2.t1, h2.n0, Int.le_trans h2.n1 e, h2.rs0, h2.len⟩⟩
/-- all but p stays -/
structure Keeps (p : Nat) (Λ Λ' : AH) : Prop where
  len : Λ.length ≤ Λ'.length
  get : ∀ m, m ≠ p → ∀ o, Λ[m]? = some o → Λ'[m]? = some o
theorem Keeps.refl {p : Nat} {Λ : AH} : Keeps p Λ Λ := ⟨Nat.le_refl _, fun _ _ _ h => h⟩
theorem Keeps.trans {p : Nat} {Λ Λ1 Λ2 : AH} (a : Keeps p Λ Λ1) (b : Keeps p Λ1 Λ2) : Keeps p Λ Λ2 := ⟨Nat.le_trans a.len b.len, fun m hm o h => b.get m hm o (a.get m hm o h)⟩
theorem Keeps.pre {p : Nat} {Λ Λ' : AH} (e : Λ <+: Λ') : Keeps p Λ Λ' := ⟨e.length_le, fun _ _ _ h => get_pre e h⟩
theorem drawA_at {c many : Int} {Λ : AH} {p : Nat} {X : XQ} (h : PoolAt Λ p c) (hc : c ≤ 1000000000) (hm : 0 < many) (hm2 : many ≤ 1000000) :
    RQ (drawA [.ref p, .int many] Λ) (fun v Λ' => ∃ d, v = .int d ∧ 0 ≤ d ∧ d < many ∧ PoolAt Λ' p (c + 1) ∧ Keeps p Λ Λ' ∧ Λ'.length = Λ.length) X := by
  obtain ⟨t, n, rs, h1, h2⟩ := h
  refine (drawA_ok h2 hc hm hm2 h1).and fun v Λ' ⟨d, n', rs', e1, e2, e3, e4, e5⟩ => ?_
  subst e4
  refine ⟨d, e1, e2, e3, ⟨t, n', rs', get_set h1, e5⟩, ⟨by simp, fun m hm o ho => ?_⟩, by simp⟩
  rw [get_setNe (Ne.symm hm)]; exact ho
theorem poolA_at {ns : List Int} {X : XQ} (hn : ns.length ≤ 63) : RQ (poolA [.cl (ns.map .int)] []) (fun v Λ' => ∃ p, v = .ref p ∧ PoolAt Λ' p 0) X :=
  (poolA_ok hn).and fun _ _ ⟨t, p, _, e1, _, e3, e4⟩ => ⟨p, e1, t, 0, _, e3, e4⟩
end NP

set_option Elab.async false
set_option linter.all false
set_option maxRecDepth 100000
set_option maxHeartbeats 1000000
/-! NP14: what is wanted of a result, the exceptions' combinators. -/
namespace NP
open PySem PySem.Spec PyProof.Rows L2
section
variable {P : AV → AH → Prop} {X : XQ} {Λ : AH} {δ : AEnv} {fa fb : ME} {D : DQ} {c f z : Str} {m : Option Nat} {a b : AV}
@[simp] theorem sq_raise : SQ (dRaise c f fa δ Λ) D = RQ (fa δ Λ) (fun y Λ1 => D.ex δ c (some Λ1.length) (Λ1 ++ [.xd [(f, y)]])) (D.ex δ) := by
  simp only [dRaise, sq_sR]; rfl
/-- the ends of a suite -/
def DQ.un (D : DQ) (i : Nat) : DQ := ⟨fun δ Λ => D.nx (δ.set i none) Λ, D.rt, fun δ Λ => D.bk (δ.set i none) Λ, fun δ Λ => D.ct (δ.set i none) Λ, fun _ _ _ _ => False⟩
theorem sq_unS {i : Nat} {r : RS} : SQ (unS i r) D = SQ r (D.un i) := by cases r <;> rfl
/-- try: what the body ends by, an exception caught -/
theorem sq_try {tab : Str → Option Bool} {i : Nat} {b : MS} {s : Str → Option Nat → MS} : SQ (dTry tab i b s δ Λ) D = SQ (b δ Λ) { D with ex := fun δ' c m Λ' => match tab c with
    | some true => i < δ'.length ∧ SQ (s c m (δ'.set i none) Λ') (D.un i)
    | some false => D.ex δ' c m Λ'
    | none => False } := by
  unfold dTry
  cases b δ Λ with
  | ex δ' c m Λ' =>
    show SQ (match tab c with
      | some true => if i < δ'.length then unS i (s c m (δ'.set i none) Λ') else .bad
      | some false => .ex δ' c m Λ'
      | none => .bad) D = _
    cases h : tab c with
    | none => simp [SQ, h]
    | some k => cases k with
      | false => simp [SQ, h]
      | true =>
        by_cases hl : i < δ'.length
        · simp only [hl, if_true, sq_unS]; simp [SQ, h, hl]
        · simp [SQ, h, hl]
  | _ => rfl
@[simp] theorem rq_xis {tab : List (Str × Bool)} {k : Nat} {fs : List (Str × AV)} {v : Bool} (h : tab.lookup c = some v) (hk : Λ[k]? = some (.xd fs)) : RQ (dXisC c (some k) tab δ Λ) P X = P (.bl v) Λ := by
  unfold dXisC; rw [h]; simp only [hk]; rfl
@[simp] theorem rq_xf {cs : List Str} {k : Nat} {fs : List (Str × AV)} {v : AV} (hc : c ∈ cs) (hk : Λ[k]? = some (.xd fs)) (hf : fs.lookup f = some v) : RQ (dXfC c (some k) cs f δ Λ) P X = P v Λ := by
  unfold dXfC; rw [if_pos hc]; simp only [hk, hf]; rfl
theorem rq_ds1 : RQ (dDs1 z fa δ Λ) P X = RQ (fa δ (Λ ++ [.dk []])) (fun v Λ1 => RQ (dsPut Λ.length (.inr z) v Λ1) P X) X := by simp only [dDs1, rq_bind]
theorem rq_dsPut {n : Nat} {k : Key} {v : AV} (h : Λ[n]? = some (.dk [])) : RQ (dsPut n k v Λ) P X = P (.ref n) (Λ.set n (.dk [(k, v)])) := by
  unfold dsPut; rw [h]; rfl
theorem gEqX_dk (h : dkEq a b Λ = true) : gEqX a b Λ = some (.bl true, Λ) := by unfold gEqX; rw [if_pos h]
theorem gNeX_dk (h : dkEq a b Λ = true) : gNeX a b Λ = some (.bl false, Λ) := by unfold gNeX; rw [if_pos h]
theorem gEqX_no (h : dkEq a b Λ = false) : gEqX a b Λ = gEq a b Λ := by unfold gEqX; rw [if_neg (by rw [h]; decide)]
theorem gNeX_no (h : dkEq a b Λ = false) : gNeX a b Λ = gNe a b Λ := by unfold gNeX; rw [if_neg (by rw [h]; decide)]
end
end NP

set_option Elab.async false
set_option linter.all false
set_option maxRecDepth 100000
set_option maxHeartbeats 1000000
/-! NP15: list comprehensions whose parts change the heap; lists by numbers. -/
namespace NP
open PySem PySem.Spec PyProof.Rows L2
section
variable {P : AV → AH → Prop} {X : XQ} {Λ : AH} {δ : AEnv} {fa : ME} {ft : MT}
theorem lc_inv {vs : List Nat} {T : Tg} {src : Src} (I : Nat → List AV → AH → Prop) (h0 : I 0 [] (Λ ++ [.lst []]))
    (hh : ∀ i acc Λ', i ≤ src.items.length → I i acc Λ' → src.here Λ')
    (step : ∀ i x acc Λ', src.items[i]? = some x → I i acc Λ' → ∃ δ1, setT T x (wipeA δ vs) = some δ1 ∧ RQ (ft δ1 Λ') (fun b Λ1 => (b = true → RQ (fa δ1 Λ1) (fun y Λ2 => Λ2[Λ.length]? = some (.lst acc) ∧ acc.length < sizeLine ∧ I (i + 1) (acc ++ [y]) (Λ2.set Λ.length (.lst (acc ++ [y])))) X0) ∧ (b = false → I (i + 1) acc Λ1)) X0)
    (fin : ∀ acc Λ', I src.items.length acc Λ' → P (.ref Λ.length) Λ') : RQ (lcR vs T ft fa δ src Λ) P X := by
  suffices h : ∀ (k i : Nat) (acc : List AV) (Λ' : AH), i + k = src.items.length → I i acc Λ' → ∃ acc2 Λ2, lcL Λ.length src.here T ft fa (src.items.drop i) (wipeA δ vs) Λ' = some Λ2 ∧ I src.items.length acc2 Λ2 by
    obtain ⟨acc2, Λ2, e, q⟩ := h src.items.length 0 [] _ (by omega) h0
    unfold lcR
    rw [List.drop_zero] at e
    rw [e]
    exact fin _ _ q
  intro k
  induction k with
  | zero =>
    intro i acc Λ' hi hI
    have e : i = src.items.length := by omega
    subst e
    rw [List.drop_length, lcL, if_pos (hh _ _ _ (Nat.le_refl _) hI)]
    exact ⟨acc, Λ', rfl, hI⟩
  | succ k ih =>
    intro i acc Λ' hi hI
    have hlt : i < src.items.length := by omega
    obtain ⟨δ1, e1, q⟩ := step i src.items[i] acc Λ' (List.getElem?_eq_getElem hlt) hI
    rw [List.drop_eq_getElem_cons hlt, lcL, if_pos (hh _ _ _ (Nat.le_of_lt hlt) hI), e1]
    obtain ⟨b, Λ1, e2, q1, q2⟩ := q.get
    simp only [e2]
    cases b with
    | false => exact ih (i + 1) acc Λ1 (by omega) (q2 rfl)
    | true =>
      obtain ⟨y, Λ2, e3, q3, q4, q5⟩ := (q1 rfl).get
      simp only [e3, q3]
      rw [if_pos q4]
      exact ih (i + 1) _ _ (by omega) q5
/-- a comprehension in which each part draws -/
theorem lc_draw {vs : List Nat} {T : Tg} {src : Src} {p : Nat} {c k : Int} (Good : AV → Prop) (hk : 0 ≤ k) (hp : PoolAt Λ p c) (hx : src.items.length ≤ 1000000)
    (hf : ∀ Λ', src.here Λ')
    (step : ∀ (i : Nat) x Λ', src.items[i]? = some x → PoolAt Λ' p (c + k * i) → ∃ δ1, setT T x (wipeA δ vs) = some δ1 ∧ RQ (fa δ1 Λ') (fun y Λ2 => Good y ∧ PoolAt Λ2 p (c + k * i + k) ∧ Keeps p Λ' Λ2) X0)
    (fin : ∀ acc Λ', acc.length = src.items.length → (∀ y ∈ acc, Good y) → Λ'[Λ.length]? = some (.lst acc) → PoolAt Λ' p (c + k * src.items.length) → Keeps p Λ Λ' → P (.ref Λ.length) Λ') : RQ (lcR vs T dYes fa δ src Λ) P X := by
  have hpl : p < Λ.length := by obtain ⟨_, _, _, h, _⟩ := hp; exact get_lt h
  refine lc_inv (fun i acc Λ' => acc.length = i ∧ (∀ y ∈ acc, Good y) ∧ Λ'[Λ.length]? = some (.lst acc) ∧ PoolAt Λ' p (c + k * i) ∧ Keeps p Λ Λ') ⟨rfl, by simp, by simp, (hp.pre (List.prefix_append _ _)).mono (by simp), Keeps.pre (List.prefix_append _ _)⟩ (fun _ _ _ _ _ => hf _) ?_ (fun acc Λ' ⟨h1, h2, h3, h4, h5⟩ => fin acc Λ' h1 h2 h3 h4 h5)
  rintro i x acc Λ' hi ⟨h1, h2, h3, h4, h5⟩
  have hi2 := (List.getElem?_eq_some_iff.mp hi).1
  obtain ⟨δ1, e1, q⟩ := step i x Λ' hi h4
  refine ⟨δ1, e1, ?_⟩
  show (true = true → _) ∧ _
  refine ⟨fun _ => q.and fun y Λ2 ⟨g, hp2, k2⟩ => ?_, fun z => by cases z⟩
  have h6 := k2.get Λ.length (by omega) _ h3
  refine ⟨h6, sz_lt (by omega), by simp [h1], fun z hz => ?_, get_set h6, ?_, ?_⟩
  · rcases List.mem_append.mp hz with hz | hz
    · exact h2 z hz
    · rw [List.mem_singleton.mp hz]; exact g
  · obtain ⟨t, n, rs, w1, w2⟩ := hp2
    refine PoolAt.mono (c := c + k * i + k) ⟨t, n, rs, ?_, w2⟩ (by rw [Int.natCast_add, Int.mul_add]; simp; omega)
    rw [get_setNe (by omega)]; exact w1
  · refine ⟨?_, fun m hm o ho => ?_⟩
    · rw [List.length_set]; exact Nat.le_trans h5.len k2.len
    · have hlt := get_lt ho
      rw [get_setNe (by omega)]
      exact k2.get m hm o (h5.get m hm o ho)
theorem gMul_r {n : Nat} {k : Int} {xs : List AV} (h : Λ[n]? = some (.lst xs)) (h1 : -1000000000 ≤ k) (h2 : k ≤ 1000000000) (h3 : xs.length * k.toNat ≤ 10000000) : gMul (.ref n) (.int k) Λ = some (.ref Λ.length, Λ ++ [.lst (List.replicate k.toNat xs).flatten]) := by
  unfold gMul
  simp only [h]
  rw [if_pos ⟨Int.le_trans (by decide) h1, Int.lt_of_le_of_lt h2 (by decide), sz_le h3⟩]
theorem mem_of_pre {α : Type} {xs ys : List α} {x : α} {i : Nat} (h : xs[i]? = some x) : x ∈ xs := List.mem_of_getElem? h
end
end NP

set_option Elab.async false
set_option linter.all false
set_option maxRecDepth 100000
set_option maxHeartbeats 1000000
/-! NP16: what is wanted of a result: raise with a copy, dicts of tuples, == and in by data. -/
namespace NP
open PySem PySem.Spec PyProof.Rows L2
section
variable {P : AV → AH → Prop} {X : XQ} {Λ : AH} {δ : AEnv} {fa : ME} {ft : MT} {D : DQ} {c f : Str} {a b : AV}
theorem sq_raiseB : SQ (dRaiseB c f fa δ Λ) D = RQ (fa δ Λ) (fun y Λ1 => flatFC y = true ∧ D.ex δ c (some Λ1.length) (Λ1 ++ [.xd [(f, y)]])) (D.ex δ) := by
  simp only [dRaiseB, sq_sR]
  congr 1
  funext y Λ1
  by_cases h : flatFC y = true <;> simp [h]
@[simp] theorem rq_dt2 {vs : List Nat} {fi : MI} {T : Tg} {fk fv : ME} : RQ (dDt2 vs fi T ft fk fv δ Λ) P X = RQ (fi δ Λ) (fun src Λ1 => RQ (dtR vs T ft fk fv δ src Λ1) P X) X := by simp only [dDt2, rq_bind]
/-- every item's tuple a key -/
theorem rq_dta {ι : Type} {vs : List Nat} {T : Tg} {src : Src} {fk fv : ME} (is : List ι) (mk : ι → AV) (e : ι → AEnv) (ys : ι → List AV) (k : ι → List Key) (v : ι → AV) (hi : src.items = is.map mk) (hs : ∀ x ∈ is, setT T (mk x) (wipeA δ vs) = some (e x)) (hh : ∀ acc, src.here (Λ ++ [.dt acc]))
    (hk' : ∀ x ∈ is, ∀ acc, RQ (fk (e x) (Λ ++ [.dt acc])) (fun b Λ' => b = .tup (ys x) ∧ Λ' = Λ ++ [.dt acc]) X0) (hy : ∀ x ∈ is, keysA (ys x) = some (k x)) (hv' : ∀ x ∈ is, ∀ acc, RQ (fv (e x) (Λ ++ [.dt acc])) (fun b Λ' => b = v x ∧ Λ' = Λ ++ [.dt acc]) X0) (hl : is.length ≤ sizeLine)
    (q : P (.ref Λ.length) (Λ ++ [.dt (is.foldl (fun acc x => putA acc (k x) (v x)) [])])) : RQ (dtR vs T dYes fk fv δ src Λ) P X := by
  have hv := fun x hx acc => rq_eq (hv' x hx acc)
  have hk := fun x hx acc => rq_eq (hk' x hx acc)
  have plen : ∀ (acc : List (List Key × AV)) (a : List Key) (b : AV), (putA acc a b).length ≤ acc.length + 1 := by
    intro acc a b
    unfold putA
    split <;> simp
  have key : ∀ (xs : List ι) (acc : List (List Key × AV)), (∀ x ∈ xs, x ∈ is) → acc.length + xs.length ≤ sizeLine → dtL Λ.length src.here T dYes fk fv (xs.map mk) (wipeA δ vs) (Λ ++ [.dt acc]) = some (Λ ++ [.dt (xs.foldl (fun acc x => putA acc (k x) (v x)) acc)]) := by
    intro xs
    induction xs with
    | nil => intro acc _ _; simp [dtL, hh]
    | cons x xs ih =>
      intro acc hm hz
      have hx := hm x List.mem_cons_self
      rw [List.map_cons, dtL, if_pos (hh acc), hs x hx]
      simp only [dYes, hk x hx, hv x hx]
      rw [show (Λ ++ [AO.dt acc])[Λ.length]? = some (.dt acc) from by simp]
      simp only [putT, hy x hx]
      rw [if_pos (by simp at hz; omega)]
      simp only
      rw [show (Λ ++ [AO.dt acc]).set Λ.length (.dt (putA acc (k x) (v x))) = Λ ++ [.dt (putA acc (k x) (v x))] from by simp [List.set_append_right]]
      exact ih _ (fun y hy => hm y (List.mem_cons_of_mem _ hy)) (by have := plen acc (k x) (v x); simp at hz; omega)
  unfold dtR
  rw [hi, key is [] (fun _ h => h) (by simpa using hl)]
  exact q
theorem gEqY_no (h : dkDs Λ a = none) : gEqY a b Λ = gEq a b Λ := by unfold gEqY; rw [h]
theorem gNeY_no (h : dkDs Λ a = none) : gNeY a b Λ = gNe a b Λ := by unfold gNeY; rw [h]
@[simp] theorem dkDs_int {i : Int} : dkDs Λ (.int i) = none := rfl
@[simp] theorem dkDs_tup {xs : List AV} : dkDs Λ (.tup xs) = none := rfl
@[simp] theorem dkDs_bl {k : Bool} : dkDs Λ (.bl k) = none := rfl
@[simp] theorem dkDs_non : dkDs Λ .non = none := rfl
theorem dkDs_lst {n : Nat} {xs : List AV} (h : Λ[n]? = some (.lst xs)) : dkDs Λ (.ref n) = none := by unfold dkDs; simp [h]
@[simp] theorem gEqY_ii {i j : Int} : gEqY (.int i) (.int j) Λ = some (.bl (decide (i = j)), Λ) := by rw [gEqY_no rfl]; simp
@[simp] theorem gNeY_ii {i j : Int} : gNeY (.int i) (.int j) Λ = some (.bl (!decide (i = j)), Λ) := by rw [gNeY_no rfl]; simp
@[simp] theorem gEqY_bb {i j : Bool} : gEqY (.bl i) (.bl j) Λ = some (.bl (decide (i = j)), Λ) := by rw [gEqY_no rfl]; simp
end
end NP

set_option Elab.async false
set_option linter.all false
set_option maxRecDepth 100000
set_option maxHeartbeats 1000000
/-! NPC: cells (pairs of ints), lists of them, for the plain laws. -/
namespace NP
open PySem PySem.Spec PyProof.Rows L2
abbrev iv (l : List Int) : List AV := l.map .int
abbrev cv (c : Int × Int) : AV := .tup [.int c.1, .int c.2]
abbrev cvs (l : List (Int × Int)) : List AV := l.map cv
def dCell (c : Int × Int) : PyData := .tuple [.int c.1, .int c.2]
theorem eqv_int {i j : Int} : PyData.eqv (.int i) (.int j) = decide (i = j) := by
  rw [PyData.eqv]
  by_cases h : i = j <;> simp [h]
theorem eqv_dCell {a b : Int × Int} : PyData.eqv (dCell a) (dCell b) = decide (a = b) := by
  obtain ⟨a1, a2⟩ := a
  obtain ⟨b1, b2⟩ := b
  unfold dCell
  rw [PyData.eqv, PyData.eqvAll, PyData.eqvAll, PyData.eqvAll, eqv_int, eqv_int]
  by_cases h1 : a1 = b1 <;> by_cases h2 : a2 = b2 <;> simp [h1, h2]
theorem eqvAll_dCell : ∀ {as bs : List (Int × Int)}, PyData.eqvAll (as.map dCell) (bs.map dCell) = decide (as = bs)
  | [], [] => rfl
  | [], _ :: _ => rfl
  | _ :: _, [] => rfl
  | a :: as, b :: bs => by
    rw [List.map_cons, List.map_cons, PyData.eqvAll, eqvAll_dCell, eqv_dCell]
    by_cases h : a = b <;> simp [h]
section
variable {Λ Λ' : AH} {a b : AV} {n m : Nat} {cs ds : List (Int × Int)} {xs ys : List Int} {c : Int × Int}
@[simp] theorem toD_cv {k : Nat} : toD Λ (k + 2) (cv c) = some (dCell c) := rfl
theorem toD_cvs {k : Nat} : allO ((cvs cs).map (toD Λ (k + 2))) = some (cs.map dCell) := by
  induction cs with
  | nil => rfl
  | cons c cs ih =>
    show allO (toD Λ (k + 2) (cv c) :: (cvs cs).map (toD Λ (k + 2))) = _
    rw [toD_cv, allO, ih]
    rfl
theorem gEqY_iv (h : Λ[n]? = some (.lst (iv xs))) (h' : Λ[m]? = some (.lst (iv ys))) : gEqY (.ref n) (.ref m) Λ = some (.bl (decide (xs = ys)), Λ) := by
  rw [gEqY_no (dkDs_lst h)]
  unfold gEq
  simp only [toD, h, h', toD_ints, iv, Option.map_some]
  rw [PyData.eqv, eqv_ints]
theorem gNeY_iv (h : Λ[n]? = some (.lst (iv xs))) (h' : Λ[m]? = some (.lst (iv ys))) : gNeY (.ref n) (.ref m) Λ = some (.bl (!decide (xs = ys)), Λ) := by
  rw [gNeY_no (dkDs_lst h)]
  unfold gNe
  simp only [toD, h, h', toD_ints, iv, Option.map_some]
  rw [PyData.eqv, eqv_ints]
theorem gEqY_cvs (h : Λ[n]? = some (.lst (cvs cs))) (h' : Λ[m]? = some (.lst (cvs ds))) : gEqY (.ref n) (.ref m) Λ = some (.bl (decide (cs = ds)), Λ) := by
  rw [gEqY_no (dkDs_lst h)]
  unfold gEq
  simp only [toD, h, h', toD_cvs, Option.map_some]
  rw [PyData.eqv, eqvAll_dCell]
theorem gNeY_cvs (h : Λ[n]? = some (.lst (cvs cs))) (h' : Λ[m]? = some (.lst (cvs ds))) : gNeY (.ref n) (.ref m) Λ = some (.bl (!decide (cs = ds)), Λ) := by
  rw [gNeY_no (dkDs_lst h)]
  unfold gNe
  simp only [toD, h, h', toD_cvs, Option.map_some]
  rw [PyData.eqv, eqvAll_dCell]
/-- a list of cells behind a reference, or a tuple of cells -/
def CSeq (Λ : AH) (a : AV) (cs : List (Int × Int)) : Prop := (∃ n, a = .ref n ∧ Λ[n]? = some (.lst (cvs cs))) ∨ a = .tup (cvs cs)
theorem CSeq.pre (h : CSeq Λ a cs) (e : Λ <+: Λ') : CSeq Λ' a cs := by
  rcases h with ⟨n, rfl, h⟩ | rfl
  · exact .inl ⟨n, rfl, get_pre e h⟩
  · exact .inr rfl
theorem CSeq.src (h : CSeq Λ a cs) : ∃ src : Src, src.items = cvs cs ∧ (∀ Λ', Λ <+: Λ' → src.here Λ') ∧ ∀ (Q : Src → AH → Prop) (X : XQ), RQ (srcA a Λ) Q X = Q src Λ := by
  rcases h with ⟨n, rfl, h⟩ | rfl
  · exact ⟨.lst n (cvs cs), rfl, fun Λ' e => get_pre e h, fun Q X => by simp [h]⟩
  · exact ⟨.fix (cvs cs), rfl, fun _ _ => trivial, fun Q X => rfl⟩
theorem CSeq.len (h : CSeq Λ a cs) : gLen [a] Λ = some (.int cs.length, Λ) := by
  rcases h with ⟨n, rfl, h⟩ | rfl
  · simp [h]
  · simp
theorem CSeq.list (h : CSeq Λ a cs) : gList [a] Λ = some (.ref Λ.length, Λ ++ [.lst (cvs cs)]) := by
  rcases h with ⟨n, rfl, h⟩ | rfl
  · simp [h]
  · simp
theorem any_dCell : ((cs.map dCell).any fun z => PyData.eqv z (dCell c)) = decide (c ∈ cs) := by
  induction cs with
  | nil => simp
  | cons x cs ih =>
    rw [List.map_cons, List.any_cons, ih, eqv_dCell]
    by_cases h : x = c
    · simp [h]
    · have h' : ¬ c = x := Ne.symm h
      simp [h, h']
theorem CSeq.inY (h : CSeq Λ a cs) : gInY (cv c) a Λ = some (.bl (decide (c ∈ cs)), Λ) := by
  rcases h with ⟨n, rfl, h⟩ | rfl
  · unfold gInY tupD gIn inA
    simp only [h, toD_cv, toD_cvs]
    rw [any_dCell]
    rfl
  · unfold gInY tupD
    simp only [toD_cv, toD_cvs]
    rw [any_dCell]
/-! ### dicts of cells -/
abbrev keyC (c : Int × Int) : List Key := [.inl c.1, .inl c.2]
theorem keyC_inj {c d : Int × Int} (h : keyC c = keyC d) : c = d := by
  obtain ⟨c1, c2⟩ := c
  obtain ⟨d1, d2⟩ := d
  simp only [keyC, List.cons.injEq, Sum.inl.injEq, and_true] at h
  rw [h.1, h.2]
theorem lookT_put {κ : Type} [DecidableEq κ] {k : κ} {kvs : List (κ × AV)} {j : κ} {v : AV} : (lookA (putA kvs j v) k).isSome = (decide (j = k) || (lookA kvs k).isSome) := by
  unfold putA
  by_cases h : (lookA kvs j).isSome = true
  · rw [if_pos h]
    have e : ∀ l : List (κ × AV), (lookA (l.map fun p => if p.1 = j then (p.1, v) else p) k).isSome = (lookA l k).isSome := by
      intro l
      induction l with
      | nil => rfl
      | cons p ps ih =>
        unfold lookA at ih ⊢
        rw [List.map_cons, List.find?_cons, List.find?_cons]
        by_cases hp : p.1 = j
        · rw [if_pos hp]
          by_cases hk : p.1 = k <;> simp [hk] <;> simpa using ih
        · rw [if_neg hp]
          by_cases hk : p.1 = k <;> simp [hk] <;> simpa using ih
    rw [e]
    by_cases hjk : j = k
    · subst hjk; simp [h]
    · simp [hjk]
  · rw [if_neg h]
    unfold lookA
    rw [List.find?_append]
    by_cases hjk : j = k
    · subst hjk
      cases hf : List.find? (fun kv => decide (kv.1 = j)) kvs <;> simp [List.find?]
    · cases hf : List.find? (fun kv => decide (kv.1 = k)) kvs <;> simp [List.find?, hjk]
def dtOf (cs : List (Int × Int)) : List (List Key × AV) := cs.foldl (fun acc x => putA acc (keyC x) (.bl true)) []
theorem look_dt : (lookA (dtOf cs) (keyC c)).isSome = decide (c ∈ cs) := by
  have key : ∀ (l : List (Int × Int)) (acc : List (List Key × AV)), (lookA (l.foldl (fun acc x => putA acc (keyC x) (.bl true)) acc) (keyC c)).isSome = (decide (c ∈ l) || (lookA acc (keyC c)).isSome) := by
    intro l
    induction l with
    | nil => intro acc; simp
    | cons x l ih =>
      intro acc
      rw [List.foldl_cons, ih, lookT_put]
      by_cases h : x = c
      · subst h; simp
      · have h2 : ¬ keyC x = keyC c := fun z => h (keyC_inj z)
        have h3 : ¬ c = x := Ne.symm h
        simp only [h2, decide_false, Bool.false_or, List.mem_cons, h3, false_or]
  unfold dtOf
  rw [key]
  simp [lookA]
theorem dt_inY (h : Λ[n]? = some (.dt (dtOf cs))) : gInY (cv c) (.ref n) Λ = some (.bl (decide (c ∈ cs)), Λ) := by
  have hk : keysA [.int c.1, .int c.2] = some (keyC c) := rfl
  unfold gInY tupD gIn inA
  simp only [h, hk, look_dt]
  rfl
/-! ### how far out -/
def mx2 (i j : Int) : Int := if j > i then j else i
theorem mx2_le {i j k : Int} : mx2 i j ≤ k ↔ i ≤ k ∧ j ≤ k := by unfold mx2; split <;> omega
def far (c : Int × Int) : Int := mx2 (absI c.1) (absI c.2)
theorem absI_le {i k : Int} : absI i ≤ k ↔ -k ≤ i ∧ i ≤ k := by unfold absI; split <;> omega
theorem far_le {c : Int × Int} {k : Int} : far c ≤ k ↔ (-k ≤ c.1 ∧ c.1 ≤ k) ∧ -k ≤ c.2 ∧ c.2 ≤ k := by unfold far; rw [mx2_le, absI_le, absI_le]
theorem gAbs_a {i : Int} : gAbs [.int i] Λ = some (.int (absI i), Λ) := rfl
theorem gMax_a {i j : Int} : gMax2 [.int i, .int j] Λ = some (.int (mx2 i j), Λ) := rfl
theorem toD_bls {k : Nat} {l : List Bool} : allO ((l.map AV.bl).map (toD Λ (k + 1))) = some (l.map PyData.bool) := by
  induction l with
  | nil => rfl
  | cons c cs ih => rw [List.map_cons, List.map_cons, toD, allO, ih]; rfl
theorem eqvAll_bls : ∀ {as bs : List Bool}, PyData.eqvAll (as.map .bool) (bs.map .bool) = decide (as = bs)
  | [], [] => rfl
  | [], _ :: _ => rfl
  | _ :: _, [] => rfl
  | a :: as, b :: bs => by
    rw [List.map_cons, List.map_cons, PyData.eqvAll, eqvAll_bls]
    have e : PyData.eqv (.bool a) (.bool b) = decide (a = b) := by cases a <;> cases b <;> rfl
    rw [e]
    by_cases h : a = b <;> simp [h]
theorem gEqY_bls {as bs : List Bool} (h : Λ[n]? = some (.lst (as.map .bl))) (h' : Λ[m]? = some (.lst (bs.map .bl))) : gEqY (.ref n) (.ref m) Λ = some (.bl (decide (as = bs)), Λ) := by
  rw [gEqY_no (dkDs_lst h)]
  unfold gEq
  simp only [toD, h, h', toD_bls, Option.map_some]
  rw [PyData.eqv, eqvAll_bls]
/-! ### dicts with one text key -/
/-- data that is the same as itself -/
def Dat (w : AV) : Prop := ∃ d : PyData, PyData.eqv d d = true ∧ ∀ Λ : AH, toD Λ 12 w = some d
theorem dat_int {i : Int} : Dat (.int i) := ⟨.int i, by rw [eqv_int]; simp, fun _ => rfl⟩
theorem dat_cv {c : Int × Int} : Dat (cv c) := ⟨dCell c, by rw [eqv_dCell]; simp, fun _ => rfl⟩
def DkW (Λ : AH) (v : AV) (z : Str) (w : AV) : Prop := ∃ n, v = .ref n ∧ Λ[n]? = some (.dk [(.inr z, w)])
theorem DkW.pre {v w : AV} {z : Str} (h : DkW Λ v z w) (e : Λ <+: Λ') : DkW Λ' v z w := let ⟨n, h1, h2⟩ := h; ⟨n, h1, get_pre e h2⟩
theorem dkw_ds {v w : AV} {z : Str} (h : DkW Λ v z w) {d : PyData} (hd : toD Λ 12 w = some d) : dkDs Λ v = some [(.inr z, d)] := by
  obtain ⟨n, rfl, h⟩ := h
  unfold dkDs dkItems
  simp [h, hd, allO]
theorem eqDD_one {z : Str} {d : PyData} (h : PyData.eqv d d = true) : eqDD [(.inr z, d)] [(.inr z, d)] = true := by simp [eqDD, eqDk, lookP, h]
theorem gEqY_dk {w : AV} {z : Str} (hw : Dat w) (h : DkW Λ a z w) (h' : DkW Λ b z w) : gEqY a b Λ = some (.bl true, Λ) := by
  obtain ⟨d, e1, e2⟩ := hw
  unfold gEqY
  rw [dkw_ds h (e2 Λ), dkw_ds h' (e2 Λ)]
  simp only [eqDD_one e1]
theorem gNeY_dk {w : AV} {z : Str} (hw : Dat w) (h : DkW Λ a z w) (h' : DkW Λ b z w) : gNeY a b Λ = some (.bl false, Λ) := by
  obtain ⟨d, e1, e2⟩ := hw
  unfold gNeY
  rw [dkw_ds h (e2 Λ), dkw_ds h' (e2 Λ)]
  simp only [eqDD_one e1]
  rfl
end
end NP

set_option Elab.async false
set_option linter.all false
set_option maxRecDepth 100000
set_option maxHeartbeats 2000000
/-! NP17: two loops, range objects, the pool that is used by its digits. -/
namespace NP
open PySem PySem.Spec PyProof.Rows L2
section
variable {δ : AEnv} {Λ : AH} {fa fe : ME} {ft ft1 : MT} {P : AV → AH → Prop} {X : XQ}
@[simp] theorem rq_itR {Q : Src → AH → Prop} : RQ (dItR fa δ Λ) Q X = RQ (fa δ Λ) (fun a Λ1 => RQ (rngSrc a Λ1) Q X) X := by simp only [dItR, rq_bind]
@[simp] theorem rq_rngSrc {i j : Int} {Q : Src → AH → Prop} : RQ (rngSrc (.rng i j) Λ) Q X = ((rgOk i ∧ rgOk j) ∧ Q (.fix (rgA i (j - i).toNat)) Λ) := by
  have e : (rgOk i ∧ rgOk j) = (-(2 ^ 62) ≤ i ∧ i < 2 ^ 62 ∧ -(2 ^ 62) ≤ j ∧ j < 2 ^ 62) := by unfold rgOk; exact propext ⟨fun h => ⟨h.1.1, h.1.2, h.2.1, h.2.2⟩, fun h => ⟨⟨h.1, h.2.1⟩, h.2.2⟩⟩
  rw [e]
  exact if_and _
@[simp] theorem gRange_ii {i j : Int} : gRange [.int i, .int j] Λ = some (.rng i j, Λ) := rfl
@[simp] theorem rq_lc2 {vs vs1 : List Nat} {fi fi1 : MI} {T T1 : Tg} : RQ (dLc2 vs fi T ft fi1 vs1 T1 ft1 fe δ Λ) P X = RQ (fi δ Λ) (fun src Λ1 => RQ (lcR2 vs T ft fi1 vs1 T1 ft1 fe δ src Λ1) P X) X := by simp only [dLc2, rq_bind]
@[simp] theorem gPopAt_r {n : Nat} {i : Int} : gPopAt (.ref n) [.int i] Λ = (match Λ[n]? with
  | some (.lst xs) => if -(2 ^ 63) ≤ i ∧ i < 2 ^ 63 then
      match seqIndex? i xs.length with
      | some k => match xs[k]? with
        | some y => some (y, Λ.set n (.lst (xs.eraseIdx k)))
        | none => none
      | none => none
    else none
  | _ => none) := rfl
/-- the inner list, from where it stands -/
theorem lcL_gen {κ : Type} {T : Tg} {here : AH → Prop} {n : Nat} {δ1 : AEnv} (mk : κ → AV) (e : κ → AEnv) (p : κ → Bool) (v : κ → AV) (hn : n = Λ.length) (hh : ∀ acc, here (Λ ++ [.lst acc])) : ∀ (xs : List κ) (acc : List AV), (∀ x ∈ xs, setT T (mk x) δ1 = some (e x)) →
    (∀ x ∈ xs, ∀ acc, RQ (ft (e x) (Λ ++ [.lst acc])) (fun b Λ' => b = p x ∧ Λ' = Λ ++ [.lst acc]) X0) → (∀ x ∈ xs, p x = true → ∀ acc, RQ (fe (e x) (Λ ++ [.lst acc])) (fun b Λ' => b = v x ∧ Λ' = Λ ++ [.lst acc]) X0) →
    acc.length + xs.length ≤ sizeLine → lcL n here T ft fe (xs.map mk) δ1 (Λ ++ [.lst acc]) = some (Λ ++ [.lst (acc ++ (xs.filter p).map v)])
  | [], acc, _, _, _, _ => by simp [lcL, hh]
  | x :: xs, acc, hs, hp', hv', hz => by
    subst hn
    have ih := fun acc' => lcL_gen (T := T) (here := here) (δ1 := δ1) mk e p v rfl hh xs acc' (fun y hy => hs y (List.mem_cons_of_mem _ hy)) (fun y hy => hp' y (List.mem_cons_of_mem _ hy)) (fun y hy => hv' y (List.mem_cons_of_mem _ hy))
    rw [List.map_cons, lcL, if_pos (hh acc), hs x List.mem_cons_self]
    simp only [rq_eq (hp' x List.mem_cons_self acc)]
    cases hpx : p x with
    | false =>
      simp only
      rw [ih acc (by simp at hz; omega)]
      simp [hpx]
    | true =>
      simp only [rq_eq (hv' x List.mem_cons_self hpx acc)]
      rw [show (Λ ++ [AO.lst acc])[Λ.length]? = some (.lst acc) from by simp]
      simp only
      rw [if_pos (by simp at hz; omega), show (Λ ++ [AO.lst acc]).set Λ.length (.lst (acc ++ [v x])) = Λ ++ [.lst (acc ++ [v x])] from by simp [List.set_append_right]]
      rw [ih (acc ++ [v x]) (by simp at hz ⊢; omega)]
      simp [hpx]
theorem rq_lc2a {ι κ : Type} {vs vs1 : List Nat} {fi1 : MI} {T T1 : Tg} {src : Src} (is : List ι) (mk : ι → AV) (e : ι → AEnv) (ks : ι → List κ) (mk1 : ι → κ → AV) (e1 : ι → κ → AEnv) (p : ι → κ → Bool) (v : ι → κ → AV) (L : Nat)
    (hi : src.items = is.map mk) (hs : ∀ x ∈ is, setT T (mk x) (wipeA δ vs) = some (e x)) (hh : ∀ acc, src.here (Λ ++ [.lst acc]))
    (hi1 : ∀ x ∈ is, ∀ acc, fi1 (e x) (Λ ++ [.lst acc]) = .ok (.fix ((ks x).map (mk1 x))) (Λ ++ [.lst acc]))
    (hs1 : ∀ x ∈ is, ∀ k ∈ ks x, setT T1 (mk1 x k) (wipeA (e x) vs1) = some (e1 x k))
    (hp : ∀ x ∈ is, ∀ k ∈ ks x, ∀ acc, RQ (ft1 (e1 x k) (Λ ++ [.lst acc])) (fun b Λ' => b = p x k ∧ Λ' = Λ ++ [.lst acc]) X0)
    (hv : ∀ x ∈ is, ∀ k ∈ ks x, p x k = true → ∀ acc, RQ (fe (e1 x k) (Λ ++ [.lst acc])) (fun b Λ' => b = v x k ∧ Λ' = Λ ++ [.lst acc]) X0)
    (hL : ∀ x ∈ is, (ks x).length ≤ L) (hl : is.length * L ≤ sizeLine)
    (q : P (.ref Λ.length) (Λ ++ [.lst (is.flatMap fun x => ((ks x).filter (p x)).map (v x))])) : RQ (lcR2 vs T dYes fi1 vs1 T1 ft1 fe δ src Λ) P X := by
  have key : ∀ (xs : List ι) (acc : List AV), (∀ x ∈ xs, x ∈ is) → acc.length + xs.length * L ≤ sizeLine → lcL2 Λ.length src.here T dYes fi1 vs1 T1 ft1 fe (xs.map mk) (wipeA δ vs) (Λ ++ [.lst acc]) = some (Λ ++ [.lst (acc ++ xs.flatMap fun x => ((ks x).filter (p x)).map (v x))]) := by
    intro xs
    induction xs with
    | nil => intro acc _ _; simp [lcL2, hh]
    | cons x xs ih =>
      intro acc hm hz
      have hx := hm x List.mem_cons_self
      have hLx := hL x hx
      rw [List.length_cons, Nat.succ_mul] at hz
      rw [List.map_cons, lcL2, if_pos (hh acc), hs x hx]
      simp only [dYes, hi1 x hx acc]
      rw [show (Src.fix ((ks x).map (mk1 x))).items = (ks x).map (mk1 x) from rfl, lcL_gen (mk1 x) (e1 x) (p x) (v x) rfl (fun _ => trivial) (ks x) acc (hs1 x hx) (hp x hx) (hv x hx) (by omega)]
      simp only
      have hlen : (((ks x).filter (p x)).map (v x)).length ≤ L := by
        rw [List.length_map]
        exact Nat.le_trans (List.length_filter_le _ _) hLx
      have ih' := ih (acc ++ ((ks x).filter (p x)).map (v x)) (fun y hy => hm y (List.mem_cons_of_mem _ hy)) (by rw [List.length_append]; omega)
      rw [ih', List.flatMap_cons, List.append_assoc]
  unfold lcR2
  rw [hi, key is [] (fun _ h => h) (by simpa using hl)]
  simpa using q
end
/-! ### the pool that is used by its digits -/
noncomputable def poolB : List AV → AH → R AV := runF 1 2 (dRet (dBin gAdd (dLst (dCons (dC (.int 0)) dNil)) (dLc [1] (dIt (dSl (dVar 0) dNoP (dPart (dC (.int 63))))) (.nm 1) dYes (dPr gAbs (dCons (dPr gInt (dCons (dVar 1) dNil)) dNil)))))
noncomputable def drawB : List AV → AH → R AV := runF 2 3 (dSeq (dIfS (dTB (dBin gEqY (dPr gLen (dCons (dVar 0) dNil)) (dC (.int 1)))) (dSeq (dSetI (dVar 0) (dC (.int 0)) (dBin gAdd (dPr gInt (dCons (dBin gIx (dVar 0) (dC (.int 0))) dNil)) (dC (.int 11)))) (dRet (dBin gMod (dPr gInt (dCons (dBin gIx (dVar 0) (dC (.int 0))) dNil)) (dVar 1)))) dNx) (dSeq (dSet 2 (dPr gInt (dCons (dBin gIx (dVar 0) (dC (.int 1))) dNil))) (dSeq (dSetI (dVar 0) (dC (.int 1)) (dBin gFdiv (dVar 2) (dVar 1))) (dSeq (dIfS (dTB (dBin gEqY (dBin gIx (dVar 0) (dC (.int 1))) (dC (.int 0)))) (dEx (dMt "list" gPopAt (dVar 0) (dCons (dC (.int 1)) dNil))) dNx) (dRet (dBin gMod (dVar 2) (dVar 1)))))))
def PoolB (Λ : AH) (p : Nat) : Prop := ∃ (c : Int) (rs : List Int), Λ[p]? = some (.lst (.int c :: rs.map AV.int)) ∧ (∀ r ∈ rs, 0 ≤ r) ∧ 0 ≤ c ∧ rs.length ≤ 63
theorem PoolB.pre {Λ Λ' : AH} {p : Nat} (h : PoolB Λ p) (e : Λ <+: Λ') : PoolB Λ' p := let ⟨c, rs, h1, h2⟩ := h; ⟨c, rs, get_pre e h1, h2⟩
theorem PoolB.lt {Λ : AH} {p : Nat} (h : PoolB Λ p) : p < Λ.length := let ⟨_, _, h1, _⟩ := h; get_lt h1
theorem set_keeps {Λ : AH} {p : Nat} {o : AO} : Keeps p Λ (Λ.set p o) := ⟨by simp, fun m hm o' h => by rw [get_setNe (Ne.symm hm)]; exact h⟩
theorem logOk {many : Int} (hm : 0 < many) (hm2 : many ≤ 1000000) : many.natAbs.log2 < 9000 := by
  have : many.natAbs.log2 ≤ many.natAbs := Nat.log2_le_self _
  have h2 : many.natAbs < 2 ^ 20 := by omega
  have := (Nat.log2_lt (by omega)).mpr h2
  omega
theorem at_one {x y : AV} {l : List AV} : atA (x :: y :: l) 1 = some y := by
  have h : (1 : Int) < ((x :: y :: l).length : Int) := by
    simp only [List.length_cons]
    omega
  rw [at_nat (by omega) h]
  rfl
theorem drawB_ok {many : Int} {Λ : AH} {p : Nat} {X : XQ} (h : PoolB Λ p) (hm : 0 < many) (hm2 : many ≤ 1000000) :
    RQ (drawB [.ref p, .int many] Λ) (fun v Λ' => ∃ d, v = .int d ∧ 0 ≤ d ∧ d < many ∧ PoolB Λ' p ∧ Keeps p Λ Λ' ∧ Λ'.length = Λ.length) X := by
  refine RQ.cps fun P kP => ?_
  obtain ⟨c, rs, hp, hr, hc, hl⟩ := h
  have hpl := get_lt hp
  have hlog := logOk hm hm2
  unfold drawB
  rw [rq_run (by rfl)]
  simp only [startA, List.map_cons, List.map_nil, List.length_cons, List.length_nil, List.cons_append, List.nil_append, Nat.reduceAdd, Nat.reduceSub, List.replicate]
  cases rs with
  | nil =>
    have hp : Λ[p]? = some (.lst [.int c]) := hp
    have a0 : atA [.int c] 0 = some (.int c) := rfl
    have a1 : atA [.int (c + 11)] 0 = some (.int (c + 11)) := rfl
    have i0 : ixN 1 0 = some 0 := rfl
    have g1 : (Λ.set p (.lst [.int (c + 11)]))[p]? = some (.lst [.int (c + 11)]) := get_set hp
    refine sq_mid (fun _ _ => False) ?_ fun δ Λ h => h.elim
    simp -implicitDefEqProofs [hp, a0, a1, i0, g1, hm, -getElem?_pos, List.getElem?_cons_zero, List.getElem?_cons_succ]
    exact kP _ _ ⟨_, rfl, Int.emod_nonneg _ (by omega), Int.emod_lt_of_pos _ hm, ⟨c + 11, [], g1, by simp, by omega, by simp⟩, set_keeps, by simp⟩
  | cons x rs =>
    have hp : Λ[p]? = some (.lst (.int c :: .int x :: rs.map .int)) := hp
    have hx := hr x List.mem_cons_self
    have hr' : ∀ r ∈ rs, 0 ≤ r := fun r h => hr r (List.mem_cons_of_mem _ h)
    have hl' : rs.length + 1 ≤ 63 := hl
    have a1 : ∀ y : Int, atA (.int c :: .int y :: rs.map AV.int) 1 = some (.int y) := fun y => at_one
    have i1 : ixN (rs.length + 1 + 1) 1 = some 1 := by rw [ix_nat (by omega) (by omega)]; rfl
    have hz : ¬ ((rs.length : Int) + 1 + 1 = 1) := by omega
    have hz2 : ¬ ((rs.length : Int) + 1 = 0) := by omega
    have g1 : (Λ.set p (.lst (.int c :: .int (x / many) :: rs.map .int)))[p]? = some (.lst (.int c :: .int (x / many) :: rs.map .int)) := get_set hp
    have s1 : seqIndex? 1 (rs.length + 1 + 1) = some 1 := by
      unfold seqIndex?
      simp
      omega
    have hxd : 0 ≤ x / many := Int.ediv_nonneg hx (by omega)
    refine sq_mid (fun δ Λ' => δ = [some (.ref p), some (.int many), none] ∧ Λ' = Λ) ?_ ?_
    · simp -implicitDefEqProofs [hp, hz, hz2, -getElem?_pos, List.getElem?_cons_zero, List.getElem?_cons_succ]
    rintro δ Λ1 ⟨rfl, rfl⟩
    refine sq_mid (fun δ Λ' => δ = [some (.ref p), some (.int many), some (.int x)] ∧ Λ' = Λ1) ?_ ?_
    · simp -implicitDefEqProofs [hp, a1, -getElem?_pos, List.getElem?_cons_zero, List.getElem?_cons_succ]
    rintro δ Λ ⟨rfl, rfl⟩
    refine sq_mid (fun δ Λ' => δ = [some (.ref p), some (.int many), some (.int x)] ∧ Λ' = Λ.set p (.lst (.int c :: .int (x / many) :: rs.map .int))) ?_ ?_
    · simp -implicitDefEqProofs [hp, i1, hm, hlog, -getElem?_pos, List.getElem?_cons_zero, List.getElem?_cons_succ]
    rintro δ Λ1 ⟨rfl, rfl⟩
    have fin : ∀ Λ', PoolB Λ' p → Keeps p Λ Λ' → Λ'.length = Λ.length → P (.int (x % many)) Λ' := fun Λ' q1 q2 q3 => kP _ _ ⟨_, rfl, Int.emod_nonneg _ (by omega), Int.emod_lt_of_pos _ hm, q1, q2, q3⟩
    by_cases hq : x / many = 0
    · rw [hq] at g1 ⊢
      simp -implicitDefEqProofs [g1, a1, s1, hm, -getElem?_pos, List.getElem?_cons_zero, List.getElem?_cons_succ]
      refine fin _ ⟨c, rs, ?_, hr', hc, by omega⟩ set_keeps (by simp)
      simp [hpl]
    · simp -implicitDefEqProofs [g1, a1, hq, hm, -getElem?_pos, List.getElem?_cons_zero, List.getElem?_cons_succ]
      refine fin _ ⟨c, x / many :: rs, g1, ?_, hc, hl⟩ set_keeps (by simp)
      intro r h
      rcases List.mem_cons.mp h with rfl | h
      · exact hxd
      · exact hr' r h
theorem poolB_ok {ns : List Int} {X : XQ} (hn : ns.length ≤ 63) : RQ (poolB [.cl (ns.map .int)] []) (fun v Λ' => ∃ p, v = .ref p ∧ PoolB Λ' p) X := by
  refine RQ.cps fun P kP => ?_
  unfold poolB
  rw [rq_run (by rfl)]
  have hcut : cutA (ns.map AV.int) none (some 63) = ns.map AV.int := by
    unfold cutA
    have h1 : HT.sIx (ns.map AV.int).length 0 none = 0 := rfl
    rw [h1, List.drop_zero, List.take_of_length_le]
    unfold HT.sIx
    simp
    omega
  have one : 1 ≤ sizeLine := sz_le (by decide)
  have hz : 1 + ns.length ≤ sizeLine := sz_le (by omega)
  simp -implicitDefEqProofs [startA, slA, hcut, List.replicate, one, -getElem?_pos, List.getElem?_cons_zero, List.getElem?_cons_succ]
  rw [lc_all ns AV.int rfl (fun i => [some (AV.cl (ns.map AV.int)), some (.int i)]) (fun i => .int (absI i)) (fun _ _ => rfl) (fun acc => by simp) (fun i _ acc => by simp [absI]) (sz_le (by omega))]
  rw [rq_ok]
  simp -implicitDefEqProofs [gAdd_rr, hz, one, -getElem?_pos, List.getElem?_cons_zero, List.getElem?_cons_succ]
  refine kP _ _ ⟨_, rfl, 0, ns.map absI, ?_, fun r hr => ?_, by omega, by simpa using hn⟩
  · simp
  · obtain ⟨x, _, rfl⟩ := List.mem_map.mp hr
    exact absI_nonneg x
end NP

set_option Elab.async false
set_option linter.all false
set_option maxRecDepth 100000
set_option maxHeartbeats 1000000
/-! NP21: what is wanted of a result: own classes. -/
namespace NP
open PySem PySem.Spec PyProof.Rows L2
section
variable {P : AV → AH → Prop} {X : XQ} {Λ : AH} {δ : AEnv} {fa fb fo fe : ME} {fr : MA} {D : DQ} {c c' f nm : Str} {n k : Nat} {fs fs' : List (Str × AV)} {g : G2} {m : MF} {v a b : AV}
@[simp] theorem rq_att {tab : List (Str × Option MF)} : RQ (dAtt f tab fa δ Λ) P X = RQ (fa δ Λ) (fun x Λ1 => RQ (attR f tab x Λ1) P X) X := by simp only [dAtt, rq_bind]
theorem att_f {tab : List (Str × Option MF)} (h : Λ[n]? = some (.ins c fs)) (ht : tab.lookup c = some none) (hf : fs.lookup f = some v) : RQ (attR f tab (.ref n) Λ) P X = P v Λ := by
  unfold attR
  simp only [h, ht, hf]
  rfl
theorem att_p {tab : List (Str × Option MF)} (h : Λ[n]? = some (.ins c fs)) (ht : tab.lookup c = some (some m)) (q : RQ (m [.ref n] Λ) P X0) : RQ (attR f tab (.ref n) Λ) P X := by
  unfold attR
  simp only [h, ht]
  revert q
  cases m [.ref n] Λ <;> intro q <;> first | exact q | exact q.elim
@[simp] theorem rq_meth {tab : List (Str × List AV × MF)} : RQ (dMeth nm tab fo fr δ Λ) P X = RQ (fo δ Λ) (fun x Λ1 => RQ (methR nm tab x Λ1 fun q => (fr δ Λ1).bind fun as Λ2 => q.2 (x :: (as ++ q.1)) Λ2) P X) X := by simp only [dMeth, rq_bind]
theorem meth_r {tab : List (Str × List AV × MF)} {q : List AV × MF} {K : List AV × MF → R AV} (h : Λ[n]? = some (.ins c fs)) (ht : tab.lookup c = some q) (hf : fs.lookup nm = none) : RQ (methR nm tab (.ref n) Λ K) P X = RQ (K q) P X := by
  unfold methR
  simp only [h, ht, hf, if_true]
@[simp] theorem rq_opO {tab : List (Str × MF)} : RQ (dOpO g tab fa fb δ Λ) P X = RQ (fa δ Λ) (fun a Λ1 => RQ (fb δ Λ1) (fun b Λ2 => RQ (opO g tab a b Λ2) P X) X) X := by simp only [dOpO, rq_bind]
theorem insA_r (h : Λ[n]? = some (.ins c fs)) : insA (.ref n) Λ = some (n, c) := by unfold insA; simp only [h]
theorem opO_r {tab : List (Str × MF)} (h : Λ[n]? = some (.ins c fs)) (h' : Λ[k]? = some (.ins c fs')) (ht : tab.lookup c = some m) : opO g tab (.ref n) (.ref k) Λ = m [.ref n, .ref k] Λ := by
  unfold opO okRt
  simp only [insA_r h, insA_r h', ht, beq_self_eq_true, if_true]
@[simp] theorem rq_inO {neg : Bool} {tab : List (Str × MF)} : RQ (dInO g neg tab fa fb δ Λ) P X = RQ (fa δ Λ) (fun a Λ1 => RQ (fb δ Λ1) (fun b Λ2 => RQ (inO g neg tab a b Λ2) P X) X) X := by simp only [dInO, rq_bind]
theorem inO_r {neg : Bool} {tab : List (Str × MF)} (h : Λ[n]? = some (.ins c fs)) (ht : tab.lookup c = some m) : RQ (inO g neg tab a (.ref n) Λ) P X = RQ (m [.ref n, a] Λ) (fun v Λ' => match v with | .bl t => P (.bl (t != neg)) Λ' | _ => False) X := by
  unfold inO
  simp only [insA_r h, ht, rq_bind]
  congr 1
  funext v Λ'
  cases v <;> rfl
@[simp] theorem rq_eqO {tab : List (Str × MF × List TyN)} : RQ (dEqO g tab fa fb δ Λ) P X = RQ (fa δ Λ) (fun a Λ1 => RQ (fb δ Λ1) (fun b Λ2 => RQ (eqO' g tab a b Λ2) P X) X) X := by simp only [dEqO, rq_bind]
theorem eqO_r {tab : List (Str × MF × List TyN)} {ts : List TyN} {t : TyN} (h : Λ[n]? = some (.ins c fs)) (ht : tab.lookup c = some (m, ts)) (hb : tnE b Λ = some t) (hm : t ∈ ts) : eqO' g tab (.ref n) b Λ = m [.ref n, b] Λ := by
  unfold eqO'
  simp only [insA_r h, ht, hb]
  rw [if_pos]
  exact List.any_eq_true.mpr ⟨t, hm, by simp⟩
@[simp] theorem sq_setF {cs : List Str} : SQ (dSetF cs f fo fe δ Λ) D = RQ (fe δ Λ) (fun v Λ1 => RQ (fo δ Λ1) (fun x Λ2 => SQ (setFR cs f δ v x Λ2) D) (D.ex δ)) (D.ex δ) := by simp only [dSetF, sq_sR]
theorem setF_r {cs : List Str} (h : Λ[n]? = some (.ins c fs)) (hc : cs.contains c = true) (hl : fs.length < 1000) : SQ (setFR cs f δ v (.ref n) Λ) D = D.nx δ (Λ.set n (.ins c (putFl f v fs))) := by
  unfold setFR
  simp only [h]
  rw [if_pos ⟨hc, hl⟩]
  rfl
theorem sq_augO {i : Nat} {tab : List (Str × MF)} {x : AV} (h : δ[i]? = some (some x)) : SQ (dAugO i g tab fe δ Λ) D = RQ (fe δ Λ) (fun y Λ1 => RQ (opO g tab x y Λ1) (fun z Λ2 => D.nx (δ.set i (some z)) Λ2) (D.ex δ)) (D.ex δ) := by
  unfold dAugO
  rw [h]
  simp only [sq_sR, sq_nx]
theorem mk_r {as : List AV} (h : RQ (m (.ref Λ.length :: as) (Λ ++ [.ins c []])) (fun v Λ' => v = .non ∧ P (.ref Λ.length) Λ') X) : RQ (mkR c m as Λ) P X := by
  unfold mkR
  revert h
  cases m (.ref Λ.length :: as) (Λ ++ [.ins c []]) with
  | ok v Λ' =>
    rintro ⟨rfl, h⟩
    exact h
  | ex c' d Λ' => exact fun h => h
  | bad => exact fun h => h
/-! ### heaps that grow but at one place -/
theorem Keeps.prefix_ {Λ Λ' : AH} {o : AO} (h : Keeps Λ.length (Λ ++ [o]) Λ') : Λ <+: Λ' := by
  have key : ∀ i, i < Λ.length → Λ'[i]? = Λ[i]? := fun i hi => by
    have e1 : (Λ ++ [o])[i]? = some Λ[i] := by rw [List.getElem?_append_left hi, List.getElem?_eq_getElem hi]
    rw [h.2 i (Nat.ne_of_lt hi) _ e1, List.getElem?_eq_getElem hi]
  rw [List.prefix_iff_eq_take]
  apply List.ext_getElem?
  intro i
  by_cases hi : i < Λ.length
  · rw [List.getElem?_take_of_lt hi, key i hi]
  · rw [List.getElem?_eq_none (by omega), List.getElem?_eq_none (by rw [List.length_take]; omega)]
end
end NP

set_option Elab.async false
set_option linter.all false
set_option maxRecDepth 100000
set_option maxHeartbeats 1000000
/-! NP22: lists of cells without doubles, dicts of cells, Region. -/
namespace NP
open PySem PySem.Spec PyProof.Rows L2
theorem at0 {x y : AV} : atA [x, y] 0 = some x := rfl
theorem at1 {x y : AV} : atA [x, y] 1 = some y := rfl
theorem cvs_len {l : List (Int × Int)} : (cvs l).length = l.length := by simp [cvs]
theorem cvs_ix {l : List (Int × Int)} {i : Nat} {x : AV} (h : (cvs l)[i]? = some x) : ∃ c, l[i]? = some c ∧ x = cv c := by
  unfold cvs at h
  rw [List.getElem?_map] at h
  obtain ⟨c, h1, h2⟩ := Option.map_eq_some_iff.mp h
  exact ⟨c, h1, h2.symm⟩
theorem cvs_at {l : List (Int × Int)} {i : Nat} {x : AV} (h : (cvs l)[i]? = some x) : ∃ c, c ∈ l ∧ x = cv c := by
  obtain ⟨c, h1, h2⟩ := cvs_ix h
  exact ⟨c, List.mem_of_getElem? h1, h2⟩
theorem rgA_at {lo : Int} {n i : Nat} {x : AV} (h : (rgA lo n)[i]? = some x) : i < n ∧ x = .int (lo + i) := by
  unfold rgA at h
  rw [List.getElem?_map] at h
  obtain ⟨k, hk, rfl⟩ := Option.map_eq_some_iff.mp h
  obtain ⟨hi, e⟩ := List.getElem?_eq_some_iff.mp hk
  rw [List.getElem_range] at e
  rw [List.length_range] at hi
  subst e
  exact ⟨hi, rfl⟩
theorem pairsA_cvs {l : List (Int × Int)} : pairsA (cvs l) = some l := by
  induction l with
  | nil => rfl
  | cons c l ih =>
    unfold pairsA at ih ⊢
    unfold cvs at ih ⊢
    simp only [List.map_cons]
    rw [show pairA (cv c) = some c from rfl, allO, ih]
    rfl
theorem sorted_ok {Λ : AH} {n : Nat} {l : List (Int × Int)} (h : Λ[n]? = some (.lst (cvs l))) : gSortedP [.ref n] Λ = some (.ref Λ.length, Λ ++ [.lst (cvs (sortP l))]) := by
  unfold gSortedP
  simp only [h, pairsA_cvs]
/-- a list of cells, a tuple of cells, the empty tuple of a default -/
def CS2 (Λ : AH) (a : AV) (l : List (Int × Int)) : Prop := CSeq Λ a l ∨ (a = .ct [] ∧ l = [])
section
variable {Λ Λ' : AH} {a : AV} {l m : List (Int × Int)} {c : Int × Int} {n : Nat}
theorem CS2.pre (h : CS2 Λ a l) (e : Λ <+: Λ') : CS2 Λ' a l := h.imp (fun h => h.pre e) fun h => h
theorem CS2.len (h : CS2 Λ a l) : gLen [a] Λ = some (.int l.length, Λ) := by
  rcases h with h | ⟨rfl, rfl⟩
  · exact h.len
  · rfl
theorem CS2.src (h : CS2 Λ a l) : ∃ src : Src, src.items = cvs l ∧ ∀ Λ', Λ <+: Λ' → src.here Λ' ∧ ∀ (Q : Src → AH → Prop) (X : XQ), RQ (srcA a Λ') Q X = Q src Λ' := by
  rcases h with h | ⟨rfl, rfl⟩
  · rcases h with ⟨n, rfl, h⟩ | rfl
    · exact ⟨.lst n (cvs l), rfl, fun Λ' e => ⟨get_pre e h, fun Q X => by rw [rq_srcA_r, get_pre e h]⟩⟩
    · exact ⟨.fix (cvs l), rfl, fun Λ' e => ⟨trivial, fun Q X => rfl⟩⟩
  · exact ⟨.fix [], rfl, fun _ _ => ⟨trivial, fun Q X => rfl⟩⟩
theorem CSeq.cs2 (h : CSeq Λ a l) : CS2 Λ a l := .inl h
/-! ### without doubles -/
def ddS (acc : List (Int × Int)) (x : Int × Int) : List (Int × Int) := if x ∈ acc then acc else acc ++ [x]
def dd (l : List (Int × Int)) : List (Int × Int) := l.foldl ddS []
theorem dd_snoc : dd (l ++ [c]) = ddS (dd l) c := by unfold dd; rw [List.foldl_append]; rfl
theorem ind_snoc {α : Type} {P : List α → Prop} (h0 : P []) (h1 : ∀ l x, P l → P (l ++ [x])) (l : List α) : P l := by
  rw [← List.reverse_reverse l]
  induction l.reverse with
  | nil => exact h0
  | cons x xs ih => rw [List.reverse_cons]; exact h1 _ _ ih
theorem dd_memA (l : List (Int × Int)) : ∀ c, c ∈ dd l ↔ c ∈ l := by
  induction l using ind_snoc with
  | h0 => exact fun c => Iff.rfl
  | h1 l x ih =>
    intro c
    rw [dd_snoc]
    unfold ddS
    by_cases h : x ∈ dd l
    · rw [if_pos h, ih c, List.mem_append, List.mem_singleton]
      exact ⟨.inl, fun q => q.elim id fun e => e ▸ (ih x).mp h⟩
    · rw [if_neg h, List.mem_append, List.mem_append, ih c]
theorem dd_mem : c ∈ dd l ↔ c ∈ l := dd_memA l c
theorem dd_nd : (dd l).Nodup := by
  induction l using ind_snoc with
  | h0 => exact List.nodup_nil
  | h1 l x ih =>
    rw [dd_snoc]
    unfold ddS
    split
    · exact ih
    · rename_i h
      rw [List.nodup_append]
      exact ⟨ih, by simp, fun a ha b hb e => h (by rw [List.mem_singleton] at hb; rw [← hb, ← e]; exact ha)⟩
theorem dd_of_nd (h : l.Nodup) : dd l = l := by
  induction l using ind_snoc with
  | h0 => rfl
  | h1 l x ih =>
    rw [List.nodup_append] at h
    rw [dd_snoc, ih h.1]
    unfold ddS
    rw [if_neg fun hx => h.2.2 x hx x (by simp) rfl]
theorem dd_len (l : List (Int × Int)) : (dd l).length ≤ l.length := by
  induction l using ind_snoc with
  | h0 => exact Nat.le_refl _
  | h1 l x ih =>
    rw [dd_snoc]
    unfold ddS
    split <;> simp <;> omega
theorem dtOf_snoc : dtOf (l ++ [c]) = putA (dtOf l) (keyC c) (.bl true) := by unfold dtOf; rw [List.foldl_append]; rfl
theorem dtOf_dd (l : List (Int × Int)) : dtOf l = (dd l).map fun c => (keyC c, .bl true) := by
  induction l using ind_snoc with
  | h0 => rfl
  | h1 l x ih =>
    rw [dtOf_snoc, dd_snoc]
    unfold putA ddS
    rw [look_dt]
    by_cases h : x ∈ l
    · rw [if_pos (by simpa using h), if_pos (dd_mem.mpr h), ih, List.map_map]
      apply List.map_congr_left
      intro p _
      show (if keyC p = keyC x then (keyC p, AV.bl true) else (keyC p, AV.bl true)) = _
      rw [ite_self]
    · rw [if_neg (by simpa using h), if_neg fun z => h (dd_mem.mp z), ih, List.map_append]
      rfl
theorem dtOf_len (l : List (Int × Int)) : (dtOf l).length ≤ l.length := by rw [dtOf_dd, List.length_map]; exact dd_len l
theorem keys_dt : (dtOf l).map (fun p => AV.tup (p.1.map kA)) = cvs (dd l) := by
  rw [dtOf_dd, List.map_map]
  rfl
theorem dt_put {kvs : List (List Key × AV)} {v : AV} (h : Λ[n]? = some (.dt kvs)) (hl : kvs.length < sizeLine) : setI (.ref n) (cv c) v Λ = some (Λ.set n (.dt (putA kvs (keyC c) v))) := by
  have hk : keysA [.int c.1, .int c.2] = some (keyC c) := rfl
  unfold setI
  simp only [h, hk]
  rw [if_pos hl]
theorem putFl_ne {f g : Str} {v x : AV} {r : List (Str × AV)} (h : g ≠ f) : putFl f v ((g, x) :: r) = (g, x) :: putFl f v r := by
  rw [putFl, if_neg h]
theorem putFl_eq {f : Str} {v x : AV} {r : List (Str × AV)} : putFl f v ((f, x) :: r) = (f, v) :: r := by
  rw [putFl, if_pos rfl]
theorem sortP_congr (h : l.Perm m) : sortP l = sortP m := sortP_eq (sortP_sorted m) ((sortP_perm m).trans h.symm)
theorem nd_perm (h1 : l.Nodup) (h2 : m.Nodup) (h : ∀ c, c ∈ l ↔ c ∈ m) : l.Perm m := by
  rw [List.perm_iff_count]
  intro c
  rw [h1.count, h2.count]
  simp only [h c]
theorem sortP_mem : c ∈ sortP l ↔ c ∈ l := (sortP_perm l).mem_iff
theorem sortP_nd (h : l.Nodup) : (sortP l).Nodup := (sortP_perm l).symm.nodup_iff.mp h
/-! ### a Region of these cells -/
def Reg (Λ : AH) (r : Nat) (l : List (Int × Int)) : Prop := ∃ (d : Nat) (l' : List (Int × Int)), Λ[r]? = some (.ins "Region" [("_places", .ref d), ("cells", .tup (cvs (sortP l)))]) ∧ Λ[d]? = some (.dt (dtOf l')) ∧ l.Nodup ∧ ∀ c, c ∈ l ↔ c ∈ l'
theorem Reg.pre {r : Nat} (h : Reg Λ r l) (e : Λ <+: Λ') : Reg Λ' r l := let ⟨d, l', h1, h2, h3, h4⟩ := h; ⟨d, l', get_pre e h1, get_pre e h2, h3, h4⟩
theorem Reg.nd {r : Nat} (h : Reg Λ r l) : l.Nodup := let ⟨_, _, _, _, h3, _⟩ := h; h3
theorem Reg.lt {r : Nat} (h : Reg Λ r l) : r < Λ.length := let ⟨_, _, h1, _⟩ := h; get_lt h1
theorem Reg.congr {r : Nat} (h : Reg Λ r l) (hm : m.Nodup) (e : ∀ c, c ∈ l ↔ c ∈ m) : Reg Λ r m := by
  obtain ⟨d, l', h1, h2, h3, h4⟩ := h
  exact ⟨d, l', by rw [h1, sortP_congr (nd_perm h3 hm e)], h2, hm, fun c => (e c).symm.trans (h4 c)⟩
/-- another thing changes -/
theorem Reg.keeps {r p : Nat} (h : Reg Λ r l) (k : Keeps p Λ Λ') (hp : p ≠ r) (hd : ∀ kvs, Λ[p]? ≠ some (.dt kvs)) : Reg Λ' r l := by
  obtain ⟨d, l', h1, h2, h3, h4⟩ := h
  refine ⟨d, l', k.get r (Ne.symm hp) _ h1, k.get d (fun e => ?_) _ h2, h3, h4⟩
  subst e
  exact hd _ h2
theorem Reg.keepsL {r p : Nat} {xs : List AV} (h : Reg Λ r l) (k : Keeps p Λ Λ') (hp : Λ[p]? = some (.lst xs)) : Reg Λ' r l := by
  refine h.keeps k (fun e => ?_) fun kvs e => by rw [hp] at e; cases e
  obtain ⟨d, l', h1, _⟩ := h
  rw [e, h1] at hp
  cases hp
end
end NP
namespace NP
open PySem PySem.Spec PyProof.Rows L2
theorem pre_set {Λ Λ' : AH} {m : Nat} {o : AO} (h : Λ <+: Λ') (hm : Λ.length ≤ m) : Λ <+: Λ'.set m o := by
  obtain ⟨E, rfl⟩ := h
  rw [List.set_append_right _ _ hm]
  exact List.prefix_append _ _
theorem CSeq.notInY {Λ : AH} {a : AV} {cs : List (Int × Int)} {c : Int × Int} (h : CSeq Λ a cs) : gNotInY (cv c) a Λ = some (.bl (!decide (c ∈ cs)), Λ) := by
  rcases h with ⟨n, rfl, h⟩ | rfl
  · unfold gNotInY tupD gNotIn inA
    simp only [h, toD_cv, toD_cvs]
    rw [any_dCell]
    rfl
  · unfold gNotInY tupD
    simp only [toD_cv, toD_cvs]
    rw [any_dCell]
theorem dt_notInY {Λ : AH} {n : Nat} {cs : List (Int × Int)} {c : Int × Int} (h : Λ[n]? = some (.dt (dtOf cs))) : gNotInY (cv c) (.ref n) Λ = some (.bl (!decide (c ∈ cs)), Λ) := by
  have hk : keysA [.int c.1, .int c.2] = some (keyC c) := rfl
  unfold gNotInY tupD gNotIn inA
  simp only [h, hk, look_dt]
  rfl
end NP
namespace NP
open PySem PySem.Spec PyProof.Rows L2
section
variable {P : AV → AH → Prop} {X : XQ} {Λ : AH} {δ : AEnv} {fa : ME}
/-- a comprehension in which each part draws, from the pool of digits -/
theorem lc_drawB {vs : List Nat} {T : Tg} {src : Src} {p : Nat} (Good : AV → Prop) (hp : PoolB Λ p) (hx : src.items.length ≤ 1000000)
    (hf : ∀ Λ', src.here Λ')
    (step : ∀ (i : Nat) x Λ', src.items[i]? = some x → PoolB Λ' p → Keeps p Λ Λ' → ∃ δ1, setT T x (wipeA δ vs) = some δ1 ∧ RQ (fa δ1 Λ') (fun y Λ2 => Good y ∧ PoolB Λ2 p ∧ Keeps p Λ' Λ2) X0)
    (fin : ∀ acc Λ', acc.length = src.items.length → (∀ y ∈ acc, Good y) → Λ'[Λ.length]? = some (.lst acc) → PoolB Λ' p → Keeps p Λ Λ' → P (.ref Λ.length) Λ') : RQ (lcR vs T dYes fa δ src Λ) P X := by
  have hpl : p < Λ.length := hp.lt
  refine lc_inv (fun i acc Λ' => acc.length = i ∧ (∀ y ∈ acc, Good y) ∧ Λ'[Λ.length]? = some (.lst acc) ∧ PoolB Λ' p ∧ Keeps p Λ Λ') ⟨rfl, by simp, by simp, hp.pre (List.prefix_append _ _), Keeps.pre (List.prefix_append _ _)⟩ (fun _ _ _ _ _ => hf _) ?_ (fun acc Λ' ⟨h1, h2, h3, h4, h5⟩ => fin acc Λ' h1 h2 h3 h4 h5)
  rintro i x acc Λ' hi ⟨h1, h2, h3, h4, h5⟩
  have hi2 := (List.getElem?_eq_some_iff.mp hi).1
  obtain ⟨δ1, e1, q⟩ := step i x Λ' hi h4 h5
  refine ⟨δ1, e1, ?_⟩
  show (true = true → _) ∧ _
  refine ⟨fun _ => q.and fun y Λ2 ⟨g, hp2, k2⟩ => ?_, fun z => by cases z⟩
  have h6 := k2.get Λ.length (by omega) _ h3
  refine ⟨h6, sz_lt (by omega), by simp [h1], fun z hz => ?_, get_set h6, ?_, ?_⟩
  · rcases List.mem_append.mp hz with hz | hz
    · exact h2 z hz
    · rw [List.mem_singleton.mp hz]; exact g
  · obtain ⟨c, rs, w1, w2⟩ := hp2
    exact ⟨c, rs, by rw [get_setNe (by omega)]; exact w1, w2⟩
  · refine ⟨?_, fun m hm o ho => ?_⟩
    · rw [List.length_set]; exact Nat.le_trans h5.len k2.len
    · have hlt := get_lt ho
      rw [get_setNe (by omega)]
      exact k2.get m hm o (h5.get m hm o ho)
end
end NP

set_option Elab.async false
set_option linter.all false
set_option maxRecDepth 100000
set_option maxHeartbeats 4000000
/-! NP24: the pool that is emptied by its digits; things compared part by part; plain lists; Bank. -/
namespace NP
open PySem PySem.Spec PyProof.Rows L2
theorem two' : 2 ≤ sizeLine := sz_le (by decide)
theorem keeps_set {p q : Nat} {Λ Λ' : AH} {o : AO} (h : Keeps p Λ Λ') (hq : Λ.length ≤ q) : Keeps p Λ (Λ'.set q o) :=
  ⟨by rw [List.length_set]; exact h.len, fun m hm o' e => by rw [get_setNe (by have := get_lt e; omega)]; exact h.get m hm o' e⟩
/-! ### the pool -/
noncomputable def drawD : MF := runF 2 3 (dSeq (dIfS (dTB (dBin gEqY (dVar 0) (dLst dNil))) (dRet (dC (.int 0))) dNx) (dSeq (dSet 2 (dBin gMod (dPr gInt (dCons (dBin gIx (dVar 0) (dC (.int 0))) dNil)) (dVar 1))) (dSeq (dSetI (dVar 0) (dC (.int 0)) (dBin gFdiv (dPr gInt (dCons (dBin gIx (dVar 0) (dC (.int 0))) dNil)) (dVar 1))) (dSeq (dIfS (dTB (dBin gEqY (dBin gIx (dVar 0) (dC (.int 0))) (dC (.int 0)))) (dEx (dMt "list" gPopAt (dVar 0) (dCons (dC (.int 0)) dNil))) dNx) (dRet (dVar 2))))))
def PoolD (Λ : AH) (p : Nat) : Prop := ∃ rs : List Int, Λ[p]? = some (.lst (iv rs)) ∧ ∀ r ∈ rs, 0 ≤ r
theorem PoolD.pre {Λ Λ' : AH} {p : Nat} (h : PoolD Λ p) (e : Λ <+: Λ') : PoolD Λ' p := let ⟨rs, h1, h2⟩ := h; ⟨rs, get_pre e h1, h2⟩
theorem PoolD.lt {Λ : AH} {p : Nat} (h : PoolD Λ p) : p < Λ.length := let ⟨_, h1, _⟩ := h; get_lt h1
theorem poolD_set {p q : Nat} {Λ : AH} {o : AO} (h : PoolD Λ p) (hq : q ≠ p) : PoolD (Λ.set q o) p := let ⟨rs, h1, h2⟩ := h; ⟨rs, by rw [get_setNe hq]; exact h1, h2⟩
theorem drawD_ok {many : Int} {Λ : AH} {p : Nat} {X : XQ} (h : PoolD Λ p) (hm : 0 < many) (hm2 : many ≤ 1000000) :
    RQ (drawD [.ref p, .int many] Λ) (fun v Λ' => ∃ d, v = .int d ∧ 0 ≤ d ∧ d < many ∧ PoolD Λ' p ∧ Keeps p Λ Λ') X := by
  refine RQ.cps fun P kP => ?_
  obtain ⟨rs, hp, hr⟩ := h
  have hpl := get_lt hp
  have hlog := logOk hm hm2
  unfold drawD
  rw [rq_run (by rfl)]
  simp only [startA, List.map_cons, List.map_nil, List.length_cons, List.length_nil, List.cons_append, List.nil_append, Nat.reduceAdd, Nat.reduceSub, List.replicate]
  have hp0 : (Λ ++ [AO.lst []])[p]? = some (.lst (iv rs)) := get_old hp _
  have hn0 : (Λ ++ [AO.lst []])[Λ.length]? = some (.lst (iv [])) := by rw [get_new0]; rfl
  have he := gEqY_iv hp0 hn0
  cases rs with
  | nil =>
    rw [sq_seq, sq_ifS]
    simp only [rq_tb, rq_bin, rq_var, rq_lst, rq_nil, List.length_nil, List.getElem?_cons_zero, he, decide_true, oq_some, rq_blA, true_implies, Bool.true_eq_false, false_implies, and_true, sq_ret, rq_c]
    exact ⟨Nat.zero_le _, kP _ _ ⟨0, rfl, by omega, hm, ⟨[], hp0, by simp⟩, Keeps.pre (List.prefix_append _ _)⟩⟩
  | cons x rs =>
    have hx := hr x List.mem_cons_self
    have hr' : ∀ r ∈ rs, 0 ≤ r := fun r h => hr r (List.mem_cons_of_mem _ h)
    refine sq_cut (fun δ Λ' => δ = [some (.ref p), some (.int many), none] ∧ Λ' = Λ ++ [.lst []]) (fun N kN => ?_) ?_
    · rw [sq_ifS]
      simp only [rq_tb, rq_bin, rq_var, rq_lst, rq_nil, List.length_nil, List.getElem?_cons_zero, he, reduceCtorEq, decide_false, oq_some, rq_blA, Bool.false_eq_true, false_implies, true_implies, true_and, sq_dNx]
      exact ⟨Nat.zero_le _, kN _ _ ⟨rfl, rfl⟩⟩
    rintro δ Λ1 ⟨rfl, rfl⟩
    have a0 : ∀ (y : Int), atA (iv (y :: rs)) 0 = some (.int y) := fun y => by
      have h := at_nat (xs := iv (y :: rs)) (i := 0) (by omega) (by simp [iv])
      rw [h]; rfl
    have i0 : ixN (iv (x :: rs)).length 0 = some 0 := ix_nat (n := (iv (x :: rs)).length) (i := 0) (by omega) (by simp [iv])
    refine sq_cut (fun δ Λ' => δ = [some (.ref p), some (.int many), some (.int (x % many))] ∧ Λ' = Λ ++ [.lst []]) (fun N kN => ?_) ?_
    · simp only [sq_set, rq_bin, rq_pr, rq_cons, rq_nil, rq_var, rq_c, List.getElem?_cons_zero, List.getElem?_cons_succ, gIx_ri, hp0, a0, Option.map_some, oq_some, gInt_i, gMod_ii, if_pos hm, List.set_cons_zero, List.set_cons_succ]
      exact kN _ _ ⟨rfl, rfl⟩
    rintro δ Λ1 ⟨rfl, rfl⟩
    refine sq_cut (fun δ Λ' => δ = [some (.ref p), some (.int many), some (.int (x % many))] ∧ Λ' = (Λ ++ [AO.lst []]).set p (.lst (iv (x / many :: rs)))) (fun N kN => ?_) ?_
    · simp only [sq_setI, rq_bin, rq_pr, rq_cons, rq_nil, rq_var, rq_c, List.getElem?_cons_zero, List.getElem?_cons_succ, gIx_ri, hp0, a0, Option.map_some, oq_some, gInt_i, gFdiv_ii, if_pos (And.intro hm hlog), sq_setIR, setI_ri, i0]
      exact kN _ _ ⟨rfl, rfl⟩
    rintro δ Λ1 ⟨rfl, rfl⟩
    have g1 : ((Λ ++ [AO.lst []]).set p (.lst (iv (x / many :: rs))))[p]? = some (.lst (iv (x / many :: rs))) := get_set hp0
    have hk : Keeps p Λ ((Λ ++ [AO.lst []]).set p (.lst (iv (x / many :: rs)))) := (Keeps.pre (List.prefix_append _ _)).trans set_keeps
    generalize (Λ ++ [AO.lst []]).set p (.lst (iv (x / many :: rs))) = Λ1 at g1 hk
    have hxd : 0 ≤ x / many := Int.ediv_nonneg hx (by omega)
    refine sq_cut (fun δ Λ' => δ = [some (.ref p), some (.int many), some (.int (x % many))] ∧ PoolD Λ' p ∧ Keeps p Λ Λ') (fun N kN => ?_) ?_
    · rw [sq_ifS]
      simp only [rq_tb, rq_bin, rq_var, rq_c, List.getElem?_cons_zero, List.getElem?_cons_succ, gIx_ri, g1, a0, Option.map_some, oq_some, gEqY_ii, rq_blA, decide_eq_true_eq, decide_eq_false_iff_not, sq_ex_, rq_mt, rq_cons, rq_nil, gPopAt_r, sq_dNx]
      refine ⟨fun hq => ?_, fun _ => kN _ _ ⟨rfl, ⟨_, g1, fun r hr2 => ?_⟩, hk⟩⟩
      · have s0 : seqIndex? 0 (iv (x / many :: rs)).length = some 0 := by
          unfold seqIndex?
          simp [iv]
          try omega
        rw [if_pos (by omega), s0]
        simp only [iv, List.map_cons, List.getElem?_cons_zero, oq_some, List.eraseIdx_cons_zero]
        refine ⟨by rw [tyA_r, g1]; rfl, kN _ _ ⟨rfl, ⟨rs, get_set g1, hr'⟩, hk.trans set_keeps⟩⟩
      · rcases List.mem_cons.mp hr2 with rfl | h
        · exact hxd
        · exact hr' r h
    rintro δ Λ2 ⟨rfl, q1, q2⟩
    simp only [sq_ret, rq_var, List.getElem?_cons_zero, List.getElem?_cons_succ]
    exact kP _ _ ⟨_, rfl, Int.emod_nonneg _ (by omega), Int.emod_lt_of_pos _ hm, q1, q2⟩
/-! ### things compared part by part -/
noncomputable def sameB (Rec : MF) : MS := (dSeq (dIfS (dTB (dBin gIs (dVar 1) (dC .non))) (dRet (dBin gIs (dVar 0) (dC .non))) dNx) (dSeq (dIfS (dTB (dBin gIsX (dVar 1) (dC (.bl true)))) (dRet (dBin gIsX (dVar 0) (dC (.bl true)))) dNx) (dSeq (dIfS (dTB (dBin gIsX (dVar 1) (dC (.bl false)))) (dRet (dBin gIsX (dVar 0) (dC (.bl false)))) dNx) (dSeq (dIfS (dTr (dUn (gIsi (isB "int")) (dVar 1))) (dRet (dAnd (dUn (gIsi (isB "int")) (dVar 0)) (dAnd (dNot (dUn (gIsi (isB "bool")) (dVar 0))) (dBin gEqY (dVar 0) (dVar 1))))) dNx) (dSeq (dIfS (dTr (dUn (gIsi (isB "str")) (dVar 1))) (dRet (dAnd (dUn (gIsi (isB "str")) (dVar 0)) (dBin gEqY (dVar 0) (dVar 1)))) dNx) (dSeq (dIfS (dAndT (dTr (dUn (gIsi (isB "tuple")) (dVar 1))) (dNotT (dTr (dUn (gIsi (isB "tuple")) (dVar 0))))) (dRet (dC (.bl false))) dNx) (dSeq (dIfS (dAndT (dTr (dUn (gIsi (isB "list")) (dVar 1))) (dNotT (dTr (dUn (gIsi (isB "list")) (dVar 0))))) (dRet (dC (.bl false))) dNx) (dSeq (dIfS (dTB (dBin gNeY (dPr gLen (dCons (dVar 0) dNil)) (dPr gLen (dCons (dVar 1) dNil)))) (dRet (dC (.bl false))) dNx) (dSeq (dFor (dRg1 (dCons (dPr gLen (dCons (dVar 1) dNil)) dNil)) (.nm 2) (dIfS (dNotT (dTr (dCall (fun as => Rec (as ++ [])) (dCons (dBin gIx (dVar 0) (dVar 2)) (dCons (dBin gIx (dVar 1) (dVar 2)) dNil))))) (dRet (dC (.bl false))) dNx)) (dRet (dC (.bl true))))))))))))
/-- m says True of these two, and leaves the heap -/
structure SameR (m : MF) (a b : AV) : Prop where
  run : ∀ (Λ : AH) (P : AV → AH → Prop) (X : XQ), P (.bl true) Λ → RQ (m [a, b] Λ) P X
theorem same_int {Rec : MF} {Λ : AH} {i j : Int} {P : AV → AH → Prop} {X : XQ} (h : P (.bl (decide (i = j))) Λ) : RQ (runF 2 3 (sameB Rec) [.int i, .int j] Λ) P X := by
  unfold sameB
  rw [rq_run (by rfl)]
  have h1 : ∀ k : Int, gIsi (isB "int") (.int k) = fun Λ => some (.bl true, Λ) := fun _ => rfl
  have h2 : ∀ k : Int, gIsi (isB "bool") (.int k) = fun Λ => some (.bl false, Λ) := fun _ => rfl
  have h3 : ∀ (k : Int) (b : Bool), gIsX (.int k) (.bl b) Λ = some (.bl false, Λ) := fun _ _ => rfl
  simp only [startA, List.map_cons, List.map_nil, List.length_cons, List.length_nil, List.cons_append, List.nil_append, Nat.reduceAdd, Nat.reduceSub, List.replicate]
  simp [h1, h2, h3]
  exact h
theorem same_loop {Rec : MF} {a b : AV} {xs ys : List AV} {Λ : AH} {K : Int} {D : DQ} (ea : a = .tup xs) (eb : b = .tup ys) (hl : xs.length = ys.length) (hs : (ys.length : Int) ≤ 1000000) (hK : K = (ys.length : Int)) (h : ∀ (i : Nat) x y, xs[i]? = some x → ys[i]? = some y → SameR Rec x y)
    (kP : D.rt (.bl true) Λ) : SQ ((dSeq (dFor (dRg1 (dCons (dPr gLen (dCons (dVar 1) dNil)) dNil)) (.nm 2) (dIfS (dNotT (dTr (dCall (fun as => Rec (as ++ [])) (dCons (dBin gIx (dVar 0) (dVar 2)) (dCons (dBin gIx (dVar 1) (dVar 2)) dNil))))) (dRet (dC (.bl false))) dNx)) (dRet (dC (.bl true)))) [some a, some b, none] Λ) D := by
  have g2 : gLen [b] Λ = some (.int K, Λ) := by rw [eb, gLen_t, hK]
  have ia : ∀ k : Int, gIx a (.int k) Λ = (atA xs k).map fun v => (v, Λ) := fun k => by rw [ea]; rfl
  have ib : ∀ k : Int, gIx b (.int k) Λ = (atA ys k).map fun v => (v, Λ) := fun k => by rw [eb]; rfl
  clear ea eb
  refine sq_cut (fun δ Λ' => Λ' = Λ) (fun N kN => ?_) (fun δ Λ' e => by rw [e]; simp only [sq_ret, rq_c]; exact kP)
  simp only [sq_for, rq_rg1, rq_cons, rq_nil, rq_pr, rq_var, List.getElem?_cons_zero, List.getElem?_cons_succ, g2, oq_some, rq_rgR1]
  refine ⟨rgOk_of (by omega) (by omega), ?_⟩
  refine forL_inv (fun i δ Λ' => (∃ o, δ = [some a, some b, o]) ∧ Λ' = Λ) ⟨⟨_, rfl⟩, rfl⟩ (fun _ _ _ _ _ => trivial) ?_ (fun δ Λ' q => kN _ _ q.2)
  rintro i z δ Λ1 hz ⟨⟨o, rfl⟩, e1⟩
  rw [e1]
  clear e1 Λ1
  obtain ⟨hi, rfl⟩ := rgA_at hz
  have hi : i < ys.length := by omega
  refine ⟨_, rfl, ?_⟩
  obtain ⟨kk, hkk⟩ : ∃ kk : Int, kk = 0 + (i : Int) := ⟨_, rfl⟩
  rw [← hkk]
  have ax : atA xs kk = some xs[i] := by
    rw [at_nat (by omega) (by omega)]
    have e : kk.toNat = i := by omega
    rw [e, List.getElem?_eq_getElem]
  have ay : atA ys kk = some ys[i] := by
    rw [at_nat (by omega) (by omega)]
    have e : kk.toNat = i := by omega
    rw [e, List.getElem?_eq_getElem]
  generalize hI : (fun δ Λ'' => (∃ o, δ = [some a, some b, o]) ∧ Λ'' = Λ) = I
  simp only [sq_ifS, rq_notT, rq_tr, rq_call, rq_cons, rq_nil, rq_bin, rq_var, List.set_cons_zero, List.set_cons_succ, List.getElem?_cons_zero, List.getElem?_cons_succ, ia, ib, ax, ay, Option.map_some, oq_some, List.append_nil]
  refine (h i xs[i] ys[i] (List.getElem?_eq_getElem _) (List.getElem?_eq_getElem _)).run Λ _ _ ?_
  simp only [rq_truR, truA_bl, Bool.not_true, Bool.false_eq_true, false_implies, true_implies, true_and, sq_dNx]
  rw [← hI]
  exact ⟨⟨_, rfl⟩, rfl⟩
theorem same_tupA {Rec : MF} {a b : AV} {xs ys : List AV} (ea : a = .tup xs) (eb : b = .tup ys) (hl : xs.length = ys.length) (hs : (ys.length : Int) ≤ 1000000) (h : ∀ (i : Nat) x y, xs[i]? = some x → ys[i]? = some y → SameR Rec x y) : SameR (runF 2 3 (sameB Rec)) a b := by
  refine ⟨fun Λ P X kP => ?_⟩
  unfold sameB
  rw [rq_run (by rfl)]
  obtain ⟨K, hK⟩ : ∃ K : Int, K = (ys.length : Int) := ⟨_, rfl⟩
  have g1 : gLen [a] Λ = some (.int K, Λ) := by rw [ea, gLen_t, hK, hl]
  have g2 : gLen [b] Λ = some (.int K, Λ) := by rw [eb, gLen_t, hK]
  have n1 : gIs b .non Λ = some (.bl false, Λ) := by rw [eb]; rfl
  have n2 : ∀ q : Bool, gIsX b (.bl q) Λ = some (.bl false, Λ) := fun q => by rw [eb]; rfl
  have h1 : gIsi (isB "int") b Λ = some (.bl false, Λ) := by rw [eb]; rfl
  have h2 : gIsi (isB "str") b Λ = some (.bl false, Λ) := by rw [eb]; rfl
  have h4 : gIsi (isB "tuple") b Λ = some (.bl true, Λ) := by rw [eb]; rfl
  have h4a : gIsi (isB "tuple") a Λ = some (.bl true, Λ) := by rw [ea]; rfl
  have h5 : gIsi (isB "list") b Λ = some (.bl false, Λ) := by rw [eb]; rfl
  have fin := fun (D : DQ) (q : D.rt (.bl true) Λ) => same_loop (Rec := Rec) (D := D) ea eb hl hs hK h q
  clear ea eb h
  simp only [startA, List.map_cons, List.map_nil, List.length_cons, List.length_nil, List.cons_append, List.nil_append, Nat.reduceAdd, Nat.reduceSub, List.replicate]
  have st : ∀ {f g : MS} {D : DQ}, (∀ N : AEnv → AH → Prop, N [some a, some b, none] Λ → SQ (f [some a, some b, none] Λ) { D with nx := N }) → SQ (g [some a, some b, none] Λ) D → SQ (dSeq f g [some a, some b, none] Λ) D := fun {f g D} q1 q2 => by
    rw [sq_seq]
    exact q1 _ q2
  refine st (fun N kN => ?_) (st (fun N kN => ?_) (st (fun N kN => ?_) (st (fun N kN => ?_) (st (fun N kN => ?_) (st (fun N kN => ?_) (st (fun N kN => ?_) (st (fun N kN => ?_) (fin _ kP))))))))
  · simp only [sq_ifS, rq_tb, rq_bin, rq_c, rq_var, List.getElem?_cons_zero, List.getElem?_cons_succ, n1, oq_some, rq_blA, Bool.false_eq_true, false_implies, true_implies, true_and, sq_dNx]
    exact kN
  · simp only [sq_ifS, rq_tb, rq_bin, rq_c, rq_var, List.getElem?_cons_zero, List.getElem?_cons_succ, n2, oq_some, rq_blA, Bool.false_eq_true, false_implies, true_implies, true_and, sq_dNx]
    exact kN
  · simp only [sq_ifS, rq_tb, rq_bin, rq_c, rq_var, List.getElem?_cons_zero, List.getElem?_cons_succ, n2, oq_some, rq_blA, Bool.false_eq_true, false_implies, true_implies, true_and, sq_dNx]
    exact kN
  · simp only [sq_ifS, rq_tr, rq_un, rq_var, List.getElem?_cons_zero, List.getElem?_cons_succ, h1, oq_some, rq_truR, truA_bl, Bool.false_eq_true, false_implies, true_implies, true_and, sq_dNx]
    exact kN
  · simp only [sq_ifS, rq_tr, rq_un, rq_var, List.getElem?_cons_zero, List.getElem?_cons_succ, h2, oq_some, rq_truR, truA_bl, Bool.false_eq_true, false_implies, true_implies, true_and, sq_dNx]
    exact kN
  · simp only [sq_ifS, rq_andT, rq_notT, rq_tr, rq_un, rq_var, List.getElem?_cons_zero, List.getElem?_cons_succ, h4, h4a, oq_some, rq_truR, truA_bl, Bool.not_true, Bool.false_eq_true, Bool.true_eq_false, false_implies, true_implies, true_and, and_true, sq_dNx]
    exact kN
  · simp only [sq_ifS, rq_andT, rq_notT, rq_tr, rq_un, rq_var, List.getElem?_cons_zero, List.getElem?_cons_succ, h5, oq_some, rq_truR, truA_bl, Bool.not_true, Bool.false_eq_true, Bool.true_eq_false, false_implies, true_implies, true_and, and_true, sq_dNx]
    exact kN
  · simp only [sq_ifS, rq_tb, rq_bin, rq_pr, rq_cons, rq_nil, rq_var, List.getElem?_cons_zero, List.getElem?_cons_succ, g1, g2, oq_some, gNeY_ii, decide_true, Bool.not_true, rq_blA, Bool.false_eq_true, false_implies, true_implies, true_and, sq_dNx]
    exact kN
theorem same_tup {Rec : MF} {xs ys : List AV} (hl : xs.length = ys.length) (hs : (ys.length : Int) ≤ 1000000) (h : ∀ (i : Nat) x y, xs[i]? = some x → ys[i]? = some y → SameR Rec x y) : SameR (runF 2 3 (sameB Rec)) (.tup xs) (.tup ys) := same_tupA rfl rfl hl hs h
theorem same_ii {Rec : MF} {i : Int} : SameR (runF 2 3 (sameB Rec)) (.int i) (.int i) := ⟨fun Λ P X k => same_int (by rw [decide_eq_true rfl]; exact k)⟩
theorem same_cv {Rec : MF} {c : Int × Int} : SameR (runF 2 3 (sameB (runF 2 3 (sameB Rec)))) (cv c) (cv c) := same_tup rfl (by show ((2 : Nat) : Int) ≤ 1000000; omega) fun i x y h1 h2 => by
  rw [h1] at h2
  cases h2
  match i, h1 with
  | 0, h1 => cases h1; exact same_ii
  | 1, h1 => cases h1; exact same_ii
  | n + 2, h1 => cases h1
theorem same_cvs {Rec : MF} {l : List (Int × Int)} (hl : (l.length : Int) ≤ 1000000) : SameR (runF 2 3 (sameB (runF 2 3 (sameB (runF 2 3 (sameB Rec)))))) (.tup (cvs l)) (.tup (cvs l)) := same_tup rfl (by rw [cvs_len]; exact hl) fun i x y h1 h2 => by
  rw [h1] at h2
  cases h2
  obtain ⟨c, _, rfl⟩ := cvs_ix h1
  exact same_cv
/-! ### sorted, without doubles -/
noncomputable def plainB : MF := runF 1 3 (dSeq (dSet 1 (dLst dNil)) (dSeq (dFor (dIt (dPr gSortedP (dCons (dVar 0) dNil))) (.nm 2) (dIfS (dTB (dBin gNotInY (dVar 2) (dVar 1))) (dEx (dMt "list" gAppend (dVar 1) (dCons (dVar 2) dNil))) dNx)) (dRet (dVar 1))))
def plainP (l : List (Int × Int)) : List (Int × Int) := dd (sortP l)
theorem dd_sub (l : List (Int × Int)) : (dd l).Sublist l := by
  induction l using ind_snoc with
  | h0 => exact List.Sublist.refl _
  | h1 l x ih =>
    rw [dd_snoc]
    unfold ddS
    split
    · exact ih.trans (List.sublist_append_left l [x])
    · exact ih.append_right [x]
theorem plain_eq (l : List (Int × Int)) : plainP l = sortP (dd l) := by
  unfold plainP
  refine (sortP_eq ((sortP_sorted l).sublist (dd_sub _)) (nd_perm dd_nd dd_nd fun c => ?_)).symm
  rw [dd_mem, dd_mem, sortP_mem]
theorem plain_nd {l : List (Int × Int)} : (plainP l).Nodup := dd_nd
theorem plain_mem {l : List (Int × Int)} {c : Int × Int} : c ∈ plainP l ↔ c ∈ l := by unfold plainP; rw [dd_mem, sortP_mem]
theorem plain_len (l : List (Int × Int)) : (plainP l).length ≤ l.length := by
  have := dd_len (sortP l)
  rw [(sortP_perm l).length_eq] at this
  exact this
theorem sort_plain (l : List (Int × Int)) : sortP (plainP l) = plainP l := by
  rw [plain_eq]
  exact sortP_eq (sortP_sorted _) (List.Perm.refl _)
theorem plain_congr {l m : List (Int × Int)} (h : ∀ c, c ∈ l ↔ c ∈ m) : plainP l = plainP m := by
  rw [plain_eq, plain_eq]
  exact sortP_congr (nd_perm dd_nd dd_nd fun c => by rw [dd_mem, dd_mem, h])
theorem plainB_ok {Λ : AH} {n : Nat} {l : List (Int × Int)} {X : XQ} (h : Λ[n]? = some (.lst (cvs l))) (hl : l.length ≤ 100000) :
    RQ (plainB [.ref n] Λ) (fun v Λ' => ∃ m, v = .ref m ∧ Λ.length ≤ m ∧ Λ <+: Λ' ∧ Λ'[m]? = some (.lst (cvs (plainP l)))) X := by
  refine RQ.cps fun P kP => ?_
  unfold plainB
  rw [rq_run (by rfl)]
  simp only [startA, List.map_cons, List.map_nil, List.length_cons, List.length_nil, List.cons_append, List.nil_append, Nat.reduceAdd, Nat.reduceSub, List.replicate]
  have hsl : (sortP l).length = l.length := (sortP_perm l).length_eq
  refine sq_cut (fun δ Λ' => δ = [some (.ref n), some (.ref Λ.length), none] ∧ Λ' = Λ ++ [.lst []]) (fun N kN => ?_) ?_
  · simp only [sq_set, rq_lst, rq_nil, List.length_nil, List.set_cons_zero, List.set_cons_succ]
    exact ⟨Nat.zero_le _, kN _ _ ⟨rfl, rfl⟩⟩
  rintro δ Λ1 ⟨rfl, rfl⟩
  refine sq_cut (fun δ Λ' => (∃ o, δ = [some (.ref n), some (.ref Λ.length), o]) ∧ Λ <+: Λ' ∧ Λ'[Λ.length]? = some (.lst (cvs (plainP l)))) (fun N kN => ?_) ?_
  · simp only [sq_for, rq_it, rq_pr, rq_cons, rq_nil, rq_var, List.getElem?_cons_zero, List.getElem?_cons_succ, sorted_ok (get_old h _), oq_some, rq_srcA_r, get_new0]
    refine forL_inv (fun i δ Λ' => (∃ o, δ = [some (.ref n), some (.ref Λ.length), o]) ∧ Λ <+: Λ' ∧ Λ'[Λ.length]? = some (.lst (cvs (dd ((sortP l).take i)))) ∧ Λ'[Λ.length + 1]? = some (.lst (cvs (sortP l))))
      ⟨⟨_, rfl⟩, (List.prefix_append _ _).trans (List.prefix_append _ _), ?_, ?_⟩ (fun i δ Λ' _ q => ?_) ?_ (fun δ Λ' q => kN _ _ ⟨q.1, q.2.1, by rw [q.2.2.1, src_lst, cvs_len, List.take_length]; rfl⟩)
    · rw [List.append_assoc, get_new0]; rfl
    · rw [List.append_assoc, get_new]; rfl
    · show Λ'[(Λ ++ [AO.lst []]).length]? = _
      rw [List.length_append]
      exact q.2.2.2
    rintro i x δ Λ' hx ⟨⟨o, rfl⟩, e1, e2, e3⟩
    obtain ⟨c, hc, rfl⟩ := cvs_ix hx
    refine ⟨_, rfl, ?_⟩
    have hdd : dd ((sortP l).take (i + 1)) = ddS (dd ((sortP l).take i)) c := by rw [List.take_add_one, hc, Option.toList_some, dd_snoc]
    have hlen : (dd ((sortP l).take i)).length ≤ 100000 := by
      have h1 := dd_len ((sortP l).take i)
      rw [List.length_take] at h1
      omega
    rw [hdd]
    generalize hI : (fun δ Λ' => (∃ o, δ = [some (AV.ref n), some (AV.ref Λ.length), o]) ∧ Λ <+: Λ' ∧ Λ'[Λ.length]? = some (AO.lst (cvs (ddS (dd ((sortP l).take i)) c))) ∧ Λ'[Λ.length + 1]? = some (AO.lst (cvs (sortP l)))) = I
    generalize dd ((sortP l).take i) = B at *
    rw [sq_ifS]
    simp only [rq_tb, rq_bin, rq_var, List.set_cons_zero, List.set_cons_succ, List.getElem?_cons_zero, List.getElem?_cons_succ, CSeq.notInY (cs := B) (.inl ⟨_, rfl, e2⟩), oq_some, rq_blA]
    by_cases hm : c ∈ B
    · simp only [hm, decide_true, Bool.not_true, Bool.false_eq_true, false_implies, true_implies, true_and, sq_dNx]
      rw [← hI]
      unfold ddS
      rw [if_pos hm]
      exact ⟨⟨_, rfl⟩, e1, e2, e3⟩
    · have hz : (cvs B).length < sizeLine := by rw [cvs_len]; exact sz_lt (by omega)
      simp only [hm, decide_false, Bool.not_false, true_implies, Bool.true_eq_false, false_implies, and_true, sq_ex_, rq_mt, rq_var, rq_cons, rq_nil, List.getElem?_cons_zero, List.getElem?_cons_succ, gAppend_r, e2, if_pos hz, oq_some]
      refine ⟨by rw [tyA_r, e2]; rfl, ?_⟩
      rw [← hI]
      unfold ddS
      rw [if_neg hm]
      refine ⟨⟨_, rfl⟩, pre_set e1 (Nat.le_refl _), ?_, ?_⟩
      · rw [get_set e2]; simp
      · rw [get_setNe (by omega)]; exact e3
  rintro δ Λ2 ⟨⟨o, rfl⟩, e1, e2⟩
  simp only [sq_ret, rq_var, List.getElem?_cons_zero, List.getElem?_cons_succ]
  exact kP _ _ ⟨_, rfl, Nat.le_refl _, e1, e2⟩
section
variable {Λ Λ' : AH} {a : AV} {l m : List (Int × Int)} {c : Int × Int} {n : Nat}
/-! ### a Bank of these cells -/
def BkR (Λ : AH) (r : Nat) (l : List (Int × Int)) : Prop := ∃ (d : Nat) (l' : List (Int × Int)), Λ[r]? = some (.ins "Bank" [("_places", .ref d), ("extra", .tup (cvs (sortP l)))]) ∧ Λ[d]? = some (.dt (dtOf l')) ∧ l.Nodup ∧ ∀ c, c ∈ l ↔ c ∈ l'
theorem BkR.pre {r : Nat} (h : BkR Λ r l) (e : Λ <+: Λ') : BkR Λ' r l := let ⟨d, l', h1, h2, h3, h4⟩ := h; ⟨d, l', get_pre e h1, get_pre e h2, h3, h4⟩
theorem BkR.nd {r : Nat} (h : BkR Λ r l) : l.Nodup := let ⟨_, _, _, _, h3, _⟩ := h; h3
theorem BkR.lt {r : Nat} (h : BkR Λ r l) : r < Λ.length := let ⟨_, _, h1, _⟩ := h; get_lt h1
theorem BkR.congr {r : Nat} (h : BkR Λ r l) (hm : m.Nodup) (e : ∀ c, c ∈ l ↔ c ∈ m) : BkR Λ r m := by
  obtain ⟨d, l', h1, h2, h3, h4⟩ := h
  exact ⟨d, l', by rw [h1, sortP_congr (nd_perm h3 hm e)], h2, hm, fun c => (e c).symm.trans (h4 c)⟩
/-- another thing changes -/
theorem BkR.keeps {r p : Nat} (h : BkR Λ r l) (k : Keeps p Λ Λ') (hp : p ≠ r) (hd : ∀ kvs, Λ[p]? ≠ some (.dt kvs)) : BkR Λ' r l := by
  obtain ⟨d, l', h1, h2, h3, h4⟩ := h
  refine ⟨d, l', k.get r (Ne.symm hp) _ h1, k.get d (fun e => ?_) _ h2, h3, h4⟩
  subst e
  exact hd _ h2
theorem BkR.keepsL {r p : Nat} {xs : List AV} (h : BkR Λ r l) (k : Keeps p Λ Λ') (hp : Λ[p]? = some (.lst xs)) : BkR Λ' r l := by
  refine h.keeps k (fun e => ?_) fun kvs e => by rw [hp] at e; cases e
  obtain ⟨d, l', h1, _⟩ := h
  rw [e, h1] at hp
  cases hp
end
end NP

set_option Elab.async false
set_option linter.all false
set_option maxRecDepth 100000
set_option maxHeartbeats 4000000
open PySem PySem.Spec PyProof.Rows L2 NP
namespace Lk34
abbrev RW : PySem.W.OpenLaw := PySem.Challenge.rw_neverpenned_k34_banks
def top (i : Nat) : Stmt := PySem.Challenge.pw_neverpenned_k34_banks.main.body.getD i (.Pass ⟨0, 0, 0, 0⟩)
/-! ### what the defs do -/
def xt_BadCell : List (Str × Bool) := [("BadCell", true), ("OnShore", false), ("TooMany", false)]
def xt_OnShore : List (Str × Bool) := [("BadCell", false), ("OnShore", true), ("TooMany", false)]
def xt_TooMany : List (Str × Bool) := [("BadCell", false), ("OnShore", false), ("TooMany", true)]
def it_PlayError : List (Str × Bool) := [("BadCell", true), ("OnShore", true), ("TooMany", true)]
def it_ValueError : List (Str × Bool) := [("BadCell", true), ("OnShore", true), ("TooMany", true)]
def tst0 : List Str := ["BadCell", "OnShore"]
def itt0 : List (Str × Bool) := [("BadCell", true), ("OnShore", true), ("TooMany", false)]
def tst1 : List Str := ["TooMany", "OnShore"]
def itt1 : List (Str × Bool) := [("BadCell", false), ("OnShore", true), ("TooMany", true)]
def tst2 : List Str := ["TooMany", "BadCell"]
def itt2 : List (Str × Bool) := [("BadCell", true), ("OnShore", false), ("TooMany", true)]
def eqt_Bank : List TyN := [.inl "NoneType", .inl "bool", .inl "int", .inl "str", .inl "tuple", .inl "list", .inr "Bank"]
def io_Bank : List (TyN × Bool) := [(.inl "NoneType", false), (.inl "bool", false), (.inl "int", false), (.inl "str", false), (.inl "tuple", false), (.inl "list", false), (.inl "dict", false), (.inr "Bank", true)]
def cs_cell : List Str := ["BadCell", "OnShore", "TooMany"]
def cs_most : List Str := ["BadCell", "OnShore", "TooMany"]
noncomputable def b__on_shore : MS := (dRet (dBin gLt (dBin gIx (dVar 0) (dC (.int 0))) (dC (.int 0))))
noncomputable def f__on_shore : List AV → AH → R AV := runF 1 1 b__on_shore
noncomputable def b__law_draw : MS := (dSeq (dIfS (dTB (dBin gEqY (dVar 0) (dLst dNil))) (dRet (dC (.int 0))) dNx) (dSeq (dSet 2 (dBin gMod (dPr gInt (dCons (dBin gIx (dVar 0) (dC (.int 0))) dNil)) (dVar 1))) (dSeq (dSetI (dVar 0) (dC (.int 0)) (dBin gFdiv (dPr gInt (dCons (dBin gIx (dVar 0) (dC (.int 0))) dNil)) (dVar 1))) (dSeq (dIfS (dTB (dBin gEqY (dBin gIx (dVar 0) (dC (.int 0))) (dC (.int 0)))) (dEx (dMt "list" gPopAt (dVar 0) (dCons (dC (.int 0)) dNil))) dNx) (dRet (dVar 2))))))
noncomputable def f__law_draw : List AV → AH → R AV := runF 2 3 b__law_draw
noncomputable def b__law_plain : MS := (dSeq (dSet 1 (dLst dNil)) (dSeq (dFor (dIt (dPr gSortedP (dCons (dVar 0) dNil))) (.nm 2) (dIfS (dTB (dBin gNotInY (dVar 2) (dVar 1))) (dEx (dMt "list" gAppend (dVar 1) (dCons (dVar 2) dNil))) dNx)) (dRet (dVar 1))))
noncomputable def f__law_plain : List AV → AH → R AV := runF 1 3 b__law_plain
noncomputable def b__law_within : MS := (dSeq (dFor (dIt (dVar 0)) (.nm 2) (dIfS (dTB (dBin gNotInY (dVar 2) (dVar 1))) (dRet (dC (.bl false))) dNx)) (dRet (dC (.bl true))))
noncomputable def f__law_within : List AV → AH → R AV := runF 2 3 b__law_within
noncomputable def b_Bank___eq__ : MS := (dRet (dAnd (dUn (gIsi (isO io_Bank)) (dVar 1)) (dBin gEqY (dAtt "extra" (("Bank", none) :: []) (dVar 0)) (dAtt "extra" (("Bank", none) :: []) (dVar 1)))))
noncomputable def f_Bank___eq__ : List AV → AH → R AV := runF 2 2 b_Bank___eq__
noncomputable def b__law_lot : MS := (dSeq (dSet 3 (dLst dNil)) (dSeq (dFor (dRg1 (dCons (dVar 1) dNil)) (.nm 4) (dSeq (dSet 5 (dBin gMod (dBin gAdd (dBin gFdiv (dVar 4) (dVar 2)) (dCall (fun as => f__law_draw (as ++ [])) (dCons (dVar 0) (dCons (dC (.int 6)) dNil)))) (dC (.int 6)))) (dSeq (dSet 6 (dBin gSub (dBin gMod (dBin gAdd (dBin gMod (dVar 4) (dVar 2)) (dCall (fun as => f__law_draw (as ++ [])) (dCons (dVar 0) (dCons (dC (.int 8)) dNil)))) (dC (.int 8))) (dC (.int 3)))) (dEx (dMt "list" gAppend (dVar 3) (dCons (dTup (dCons (dVar 5) (dCons (dVar 6) dNil))) dNil)))))) (dRet (dVar 3))))
noncomputable def f__law_lot : List AV → AH → R AV := runF 3 7 b__law_lot
noncomputable def b_Bank___contains__ : MS := (dRet (dOr (dCall (fun as => f__on_shore (as ++ [])) (dCons (dVar 1) dNil)) (dBin gInY (dVar 1) (dAtt "_places" (("Bank", none) :: []) (dVar 0)))))
noncomputable def f_Bank___contains__ : List AV → AH → R AV := runF 2 2 b_Bank___contains__
noncomputable def b_check_length : MS := (dIfS (dTB (dBin gGt (dPr gLen (dCons (dVar 0) dNil)) (dVar 1))) (dRaise "TooMany" "most" (dVar 1)) dNx)
noncomputable def f_check_length : List AV → AH → R AV := runF 2 2 b_check_length
noncomputable def b__law_second : MS := (dSeq (dSet 2 (dCall (fun as => f__law_draw (as ++ [])) (dCons (dVar 0) (dCons (dC (.int 5)) dNil)))) (dSeq (dSet 3 (dCall (fun as => f__law_lot (as ++ [])) (dCons (dVar 0) (dCons (dBin gMod (dBin gAdd (dCall (fun as => f__law_draw (as ++ [])) (dCons (dVar 0) (dCons (dC (.int 15)) dNil))) (dC (.int 7))) (dC (.int 15))) (dCons (dC (.int 4)) dNil))))) (dSeq (dIfS (dTB (dBin gEqY (dVar 2) (dC (.int 1)))) (dRet (dBin gAdd (dLc [4] (dRg1 (dCons (dPr gLen (dCons (dVar 1) dNil)) dNil)) (.nm 4) dYes (dBin gIx (dVar 1) (dBin gSub (dBin gSub (dPr gLen (dCons (dVar 1) dNil)) (dC (.int 1))) (dVar 4)))) (dSl (dVar 1) dNoP (dPart (dC (.int 2)))))) dNx) (dSeq (dIfS (dTB (dBin gEqY (dVar 2) (dC (.int 2)))) (dRet (dBin gAdd (dVar 3) (dVar 1))) dNx) (dSeq (dIfS (dTB (dBin gEqY (dVar 2) (dC (.int 3)))) (dRet (dLc [5] (dIt (dVar 1)) (.nm 5) (dTB (dBin gNotInY (dVar 5) (dSl (dVar 3) dNoP (dPart (dC (.int 3)))))) (dVar 5))) dNx) (dSeq (dIfS (dTB (dBin gEqY (dVar 2) (dC (.int 4)))) (dRet (dLc [5] (dIt (dVar 3)) (.nm 5) dYes (dTup (dCons (dBin gAdd (dBin gIx (dVar 5) (dC (.int 0))) (dC (.int 6))) (dCons (dBin gIx (dVar 5) (dC (.int 1))) dNil))))) dNx) (dRet (dVar 3))))))))
noncomputable def f__law_second : List AV → AH → R AV := runF 2 6 b__law_second
noncomputable def b__law_members : MS := (dSeq (dFor (dRg2 (dCons (dUn gNeg (dC (.int 2))) (dCons (dC (.int 13)) dNil))) (.nm 2) (dFor (dRg2 (dCons (dUn gNeg (dC (.int 5))) (dCons (dC (.int 7)) dNil))) (.nm 3) (dIfS (dTB (dBin gNeY (dInO gInY false (("Bank", f_Bank___contains__) :: []) (dTup (dCons (dVar 2) (dCons (dVar 3) dNil))) (dVar 0)) (dOr (dBin gLt (dVar 2) (dC (.int 0))) (dBin gInY (dTup (dCons (dVar 2) (dCons (dVar 3) dNil))) (dVar 1))))) (dRet (dC (.bl false))) dNx))) (dSeq (dFor (dIt (dLst (dCons (dTup (dCons (dUn gNeg (dC (.int 1))) (dCons (dC (.int 121)) dNil))) (dCons (dTup (dCons (dUn gNeg (dC (.int 121))) (dCons (dUn gNeg (dC (.int 500))) dNil))) (dCons (dTup (dCons (dUn gNeg (dBin gPow (dC (.int 10)) (dC (.int 30)))) (dCons (dBin gPow (dC (.int 10)) (dC (.int 30))) dNil))) dNil))))) (.nm 4) (dIfS (dTB (dInO gNotInY true (("Bank", f_Bank___contains__) :: []) (dVar 4) (dVar 0))) (dRet (dC (.bl false))) dNx)) (dSeq (dFor (dIt (dLst (dCons (dTup (dCons (dC (.int 121)) (dCons (dC (.int 0)) dNil))) (dCons (dTup (dCons (dC (.int 0)) (dCons (dUn gNeg (dC (.int 121))) dNil))) (dCons (dTup (dCons (dC (.int 0)) (dCons (dBin gPow (dC (.int 10)) (dC (.int 30))) dNil))) (dCons (dTup (dCons (dBin gPow (dC (.int 10)) (dC (.int 30))) (dCons (dUn gNeg (dC (.int 1))) dNil))) dNil)))))) (.nm 4) (dIfS (dTB (dInO gInY false (("Bank", f_Bank___contains__) :: []) (dVar 4) (dVar 0))) (dRet (dC (.bl false))) dNx)) (dRet (dC (.bl true))))))
noncomputable def f__law_members : List AV → AH → R AV := runF 2 5 b__law_members
noncomputable def b_Bank_inside : MS := (dSeq (dFor (dIt (dAtt "extra" (("Bank", none) :: []) (dVar 0))) (.nm 2) (dIfS (dTB (dInO gNotInY true (("Bank", f_Bank___contains__) :: []) (dVar 2) (dVar 1))) (dRet (dC (.bl false))) dNx)) (dRet (dC (.bl true))))
noncomputable def f_Bank_inside : List AV → AH → R AV := runF 2 3 b_Bank_inside
noncomputable def b_check_cell : MS := (dSeq (dAsg (.tp [1, 2]) (dVar 0)) (dIfS (dNotT (dAndT (dTB (dChain gLe gLe (dUn gNeg (dC (.int 120))) (dVar 1) (dC (.int 120)))) (dTB (dChain gLe gLe (dUn gNeg (dC (.int 120))) (dVar 2) (dC (.int 120)))))) (dRaiseB "BadCell" "cell" (dVar 0)) dNx))
noncomputable def f_check_cell : List AV → AH → R AV := runF 1 3 b_check_cell
noncomputable def b__check_off_shore : MS := (dFor (dIt (dVar 0)) (.nm 1) (dIfS (dTr (dCall (fun as => f__on_shore (as ++ [])) (dCons (dVar 1) dNil))) (dRaiseB "OnShore" "cell" (dVar 1)) dNx))
noncomputable def f__check_off_shore : List AV → AH → R AV := runF 1 2 b__check_off_shore
noncomputable def b_check_cells : MS := (dSeq (dEx (dCall (fun as => f_check_length (as ++ [])) (dCons (dVar 0) (dCons (dVar 1) dNil)))) (dFor (dIt (dVar 0)) (.nm 2) (dEx (dCall (fun as => f_check_cell (as ++ [])) (dCons (dVar 2) dNil)))))
noncomputable def f_check_cells : List AV → AH → R AV := runF 2 3 b_check_cells
noncomputable def b__law_same (Rec : MF) : MS := (dSeq (dIfS (dTB (dBin gIs (dVar 1) (dC .non))) (dRet (dBin gIs (dVar 0) (dC .non))) dNx) (dSeq (dIfS (dTB (dBin gIsX (dVar 1) (dC (.bl true)))) (dRet (dBin gIsX (dVar 0) (dC (.bl true)))) dNx) (dSeq (dIfS (dTB (dBin gIsX (dVar 1) (dC (.bl false)))) (dRet (dBin gIsX (dVar 0) (dC (.bl false)))) dNx) (dSeq (dIfS (dTr (dUn (gIsi (isB "int")) (dVar 1))) (dRet (dAnd (dUn (gIsi (isB "int")) (dVar 0)) (dAnd (dNot (dUn (gIsi (isB "bool")) (dVar 0))) (dBin gEqY (dVar 0) (dVar 1))))) dNx) (dSeq (dIfS (dTr (dUn (gIsi (isB "str")) (dVar 1))) (dRet (dAnd (dUn (gIsi (isB "str")) (dVar 0)) (dBin gEqY (dVar 0) (dVar 1)))) dNx) (dSeq (dIfS (dAndT (dTr (dUn (gIsi (isB "tuple")) (dVar 1))) (dNotT (dTr (dUn (gIsi (isB "tuple")) (dVar 0))))) (dRet (dC (.bl false))) dNx) (dSeq (dIfS (dAndT (dTr (dUn (gIsi (isB "list")) (dVar 1))) (dNotT (dTr (dUn (gIsi (isB "list")) (dVar 0))))) (dRet (dC (.bl false))) dNx) (dSeq (dIfS (dTB (dBin gNeY (dPr gLen (dCons (dVar 0) dNil)) (dPr gLen (dCons (dVar 1) dNil)))) (dRet (dC (.bl false))) dNx) (dSeq (dFor (dRg1 (dCons (dPr gLen (dCons (dVar 1) dNil)) dNil)) (.nm 2) (dIfS (dNotT (dTr (dCall (fun as => Rec (as ++ [])) (dCons (dBin gIx (dVar 0) (dVar 2)) (dCons (dBin gIx (dVar 1) (dVar 2)) dNil))))) (dRet (dC (.bl false))) dNx)) (dRet (dC (.bl true))))))))))))
noncomputable def f__law_same_0 : MF := runF 2 3 dBad
noncomputable def f__law_same_1 : MF := runF 2 3 (b__law_same f__law_same_0)
noncomputable def f__law_same_2 : MF := runF 2 3 (b__law_same f__law_same_1)
noncomputable def f__law_same_3 : MF := runF 2 3 (b__law_same f__law_same_2)
noncomputable def f__law_same_4 : MF := runF 2 3 (b__law_same f__law_same_3)
noncomputable def f__law_same : MF := f__law_same_4
noncomputable def b_Bank___init__ : MS := (dSeq (dEx (dCall (fun as => f_check_cells (as ++ [])) (dCons (dVar 1) (dCons (dC (.int 10000)) dNil)))) (dSeq (dEx (dCall (fun as => f__check_off_shore (as ++ [])) (dCons (dVar 1) dNil))) (dSeq (dSetF ["Bank"] "_places" (dVar 0) (dDt2 [2] (dIt (dVar 1)) (.nm 2) dYes (dVar 2) (dC (.bl true)))) (dSetF ["Bank"] "extra" (dVar 0) (dPr gTuple (dCons (dPr gSortedP (dCons (dPr gList (dCons (dAtt "_places" (("Bank", none) :: []) (dVar 0)) dNil)) dNil)) dNil))))))
noncomputable def f_Bank___init__ : List AV → AH → R AV := runF 2 3 b_Bank___init__
noncomputable def b__law_made : MS := (dSeq (dTryM [((fun c => xt_TooMany.lookup c), 2, (fun c m => (dSeq (dSet 3 (dAnd (dXisC c m it_PlayError) (dXisC c m it_ValueError))) (dRet (dTup (dCons (dC (.str "TooMany")) (dCons (dXfC c m cs_most "most") (dCons (dAnd (dVar 3) (dNot (dXisC c m itt0))) dNil)))))))), ((fun c => xt_BadCell.lookup c), 2, (fun c m => (dSeq (dSet 3 (dAnd (dXisC c m it_PlayError) (dXisC c m it_ValueError))) (dRet (dTup (dCons (dC (.str "BadCell")) (dCons (dXfC c m cs_cell "cell") (dCons (dAnd (dVar 3) (dNot (dXisC c m itt1))) dNil)))))))), ((fun c => xt_OnShore.lookup c), 2, (fun c m => (dSeq (dSet 3 (dAnd (dXisC c m it_PlayError) (dXisC c m it_ValueError))) (dRet (dTup (dCons (dC (.str "OnShore")) (dCons (dXfC c m cs_cell "cell") (dCons (dAnd (dVar 3) (dNot (dXisC c m itt2))) dNil))))))))] (dSet 1 (dCall (mkR "Bank" fun as => f_Bank___init__ (as ++ [])) (dCons (dVar 0) dNil)))) (dRet (dTup (dCons (dC (.str "bank")) (dCons (dAtt "extra" (("Bank", none) :: []) (dVar 1)) (dCons (dC (.bl true)) dNil))))))
noncomputable def f__law_made : List AV → AH → R AV := runF 1 4 b__law_made
noncomputable def b_Bank___or__ : MS := (dSeq (dSet 2 (dLc [3] (dIt (dAtt "extra" (("Bank", none) :: []) (dVar 1))) (.nm 3) (dTB (dBin gNotInY (dVar 3) (dAtt "_places" (("Bank", none) :: []) (dVar 0)))) (dVar 3))) (dRet (dCall (mkR "Bank" fun as => f_Bank___init__ (as ++ [])) (dCons (dBin gAdd (dPr gList (dCons (dAtt "extra" (("Bank", none) :: []) (dVar 0)) dNil)) (dVar 2)) dNil))))
noncomputable def f_Bank___or__ : List AV → AH → R AV := runF 2 4 b_Bank___or__
noncomputable def b_Bank___and__ : MS := (dRet (dCall (mkR "Bank" fun as => f_Bank___init__ (as ++ [])) (dCons (dLc [2] (dIt (dAtt "extra" (("Bank", none) :: []) (dVar 0))) (.nm 2) (dTB (dInO gInY false (("Bank", f_Bank___contains__) :: []) (dVar 2) (dVar 1))) (dVar 2)) dNil)))
noncomputable def f_Bank___and__ : List AV → AH → R AV := runF 2 3 b_Bank___and__
noncomputable def b__law_pair : MS := (dSeq (dSet 4 (dCall (fun as => f__law_plain (as ++ [])) (dCons (dBin gAdd (dVar 2) (dVar 3)) dNil))) (dSeq (dSet 5 (dLc [6] (dIt (dVar 2)) (.nm 6) (dTB (dBin gInY (dVar 6) (dVar 3))) (dVar 6))) (dSeq (dSet 7 (dLst (dCons (dVar 0) (dCons (dVar 1) (dCons (dOpO gNo2 (("Bank", f_Bank___or__) :: []) (dVar 0) (dVar 1)) (dCons (dOpO gNo2 (("Bank", f_Bank___and__) :: []) (dVar 0) (dVar 1)) (dCons (dCall (mkR "Bank" fun as => f_Bank___init__ (as ++ [(.ct [])])) dNil) dNil))))))) (dSeq (dSet 8 (dLst (dCons (dVar 2) (dCons (dVar 3) (dCons (dVar 4) (dCons (dVar 5) (dCons (dLst dNil) dNil))))))) (dSeq (dFor (dRg1 (dCons (dC (.int 5)) dNil)) (.nm 9) (dSeq (dIfS (dOrT (dNotT (dTr (dUn (gIsi (isO io_Bank)) (dBin gIx (dVar 7) (dVar 9))))) (dNotT (dTr (dCall (fun as => f__law_members (as ++ [])) (dCons (dBin gIx (dVar 7) (dVar 9)) (dCons (dBin gIx (dVar 8) (dVar 9)) dNil)))))) (dRet (dC (.bl false))) dNx) (dSeq (dIfS (dNotT (dTr (dCall (fun as => f__law_same (as ++ [])) (dCons (dAtt "extra" (("Bank", none) :: []) (dBin gIx (dVar 7) (dVar 9))) (dCons (dPr gTuple (dCons (dBin gIx (dVar 8) (dVar 9)) dNil)) dNil))))) (dRet (dC (.bl false))) dNx) (dSeq (dIfS (dNotT (dTr (dCall (fun as => f__law_same (as ++ [])) (dCons (dEqO gEqY (("Bank", f_Bank___eq__, eqt_Bank) :: []) (dBin gIx (dVar 7) (dVar 9)) (dPr gTuple (dCons (dBin gIx (dVar 8) (dVar 9)) dNil))) (dCons (dC (.bl false)) dNil))))) (dRet (dC (.bl false))) dNx) (dSeq (dIfS (dNotT (dTr (dCall (fun as => f__law_same (as ++ [])) (dCons (dEqO gEqY (("Bank", f_Bank___eq__, eqt_Bank) :: []) (dBin gIx (dVar 7) (dVar 9)) (dC .non)) (dCons (dC (.bl false)) dNil))))) (dRet (dC (.bl false))) dNx) (dFor (dRg1 (dCons (dC (.int 5)) dNil)) (.nm 10) (dSeq (dSet 11 (dCall (fun as => f__law_within (as ++ [])) (dCons (dBin gIx (dVar 8) (dVar 9)) (dCons (dBin gIx (dVar 8) (dVar 10)) dNil)))) (dSeq (dIfS (dNotT (dTr (dCall (fun as => f__law_same (as ++ [])) (dCons (dMeth "inside" (("Bank", [], f_Bank_inside) :: []) (dBin gIx (dVar 7) (dVar 9)) (dCons (dBin gIx (dVar 7) (dVar 10)) dNil)) (dCons (dVar 11) dNil))))) (dRet (dC (.bl false))) dNx) (dIfS (dNotT (dTr (dCall (fun as => f__law_same (as ++ [])) (dCons (dEqO gEqY (("Bank", f_Bank___eq__, eqt_Bank) :: []) (dBin gIx (dVar 7) (dVar 9)) (dBin gIx (dVar 7) (dVar 10))) (dCons (dBin gEqY (dBin gIx (dVar 8) (dVar 9)) (dBin gIx (dVar 8) (dVar 10))) dNil))))) (dRet (dC (.bl false))) dNx))))))))) (dSeq (dSet 12 (dOpO gNo2 (("Bank", f_Bank___or__) :: []) (dVar 1) (dVar 0))) (dSeq (dSet 13 (dOpO gNo2 (("Bank", f_Bank___and__) :: []) (dVar 1) (dVar 0))) (dSeq (dIfS (dNotT (dTr (dCall (fun as => f__law_same (as ++ [])) (dCons (dAtt "extra" (("Bank", none) :: []) (dVar 12)) (dCons (dPr gTuple (dCons (dVar 4) dNil)) dNil))))) (dRet (dC (.bl false))) dNx) (dSeq (dIfS (dNotT (dTr (dCall (fun as => f__law_same (as ++ [])) (dCons (dAtt "extra" (("Bank", none) :: []) (dVar 13)) (dCons (dPr gTuple (dCons (dVar 5) dNil)) dNil))))) (dRet (dC (.bl false))) dNx) (dSeq (dSet 12 (dOpO gNo2 (("Bank", f_Bank___or__) :: []) (dVar 0) (dVar 0))) (dSeq (dSet 13 (dOpO gNo2 (("Bank", f_Bank___and__) :: []) (dVar 0) (dVar 0))) (dRet (dAnd (dCall (fun as => f__law_same (as ++ [])) (dCons (dAtt "extra" (("Bank", none) :: []) (dVar 12)) (dCons (dPr gTuple (dCons (dVar 2) dNil)) dNil))) (dCall (fun as => f__law_same (as ++ [])) (dCons (dAtt "extra" (("Bank", none) :: []) (dVar 13)) (dCons (dPr gTuple (dCons (dVar 2) dNil)) dNil))))))))))))))))
noncomputable def f__law_pair : List AV → AH → R AV := runF 4 14 b__law_pair
noncomputable def b__law_joined : MS := (dSeq (dTry (fun c => xt_TooMany.lookup c) 3 (dSet 2 (dOpO gNo2 (("Bank", f_Bank___or__) :: []) (dVar 0) (dVar 1))) (fun c m => (dRet (dTup (dCons (dC (.str "TooMany")) (dCons (dXfC c m cs_most "most") (dCons (dAnd (dXisC c m it_PlayError) (dXisC c m it_ValueError)) dNil))))))) (dRet (dTup (dCons (dC (.str "bank")) (dCons (dAtt "extra" (("Bank", none) :: []) (dVar 2)) (dCons (dC (.bl true)) dNil))))))
noncomputable def f__law_joined : List AV → AH → R AV := runF 2 4 b__law_joined
noncomputable def b__law_refusals : MS := (dSeq (dSet 2 (dTup (dCons (dBin gSub (dUn gNeg (dC (.int 1))) (dCall (fun as => f__law_draw (as ++ [])) (dCons (dVar 0) (dCons (dC (.int 6)) dNil)))) (dCons (dBin gSub (dCall (fun as => f__law_draw (as ++ [])) (dCons (dVar 0) (dCons (dC (.int 8)) dNil))) (dC (.int 3))) dNil)))) (dSeq (dSet 3 (dCall (fun as => f__law_draw (as ++ [])) (dCons (dVar 0) (dCons (dBin gAdd (dPr gLen (dCons (dVar 1) dNil)) (dC (.int 1))) dNil)))) (dSeq (dSet 4 (dBin gAdd (dBin gAdd (dBin gAdd (dSl (dVar 1) dNoP (dPart (dVar 3))) (dLst (dCons (dVar 2) dNil))) (dSl (dVar 1) (dPart (dVar 3)) dNoP)) (dLst (dCons (dTup (dCons (dUn gNeg (dC (.int 7))) (dCons (dC (.int 0)) dNil))) dNil)))) (dSeq (dSet 5 (dCall (fun as => f__law_draw (as ++ [])) (dCons (dVar 0) (dCons (dC (.int 300)) dNil)))) (dSeq (dSet 6 (dLst (dCons (dTup (dCons (dC (.int 121)) (dCons (dC (.int 0)) dNil))) (dCons (dTup (dCons (dC (.int 3)) (dCons (dC (.int 121)) dNil))) (dCons (dTup (dCons (dC (.int 2)) (dCons (dUn gNeg (dC (.int 121))) dNil))) (dCons (dTup (dCons (dUn gNeg (dC (.int 121))) (dCons (dC (.int 4)) dNil))) (dCons (dTup (dCons (dBin gAdd (dC (.int 121)) (dVar 5)) (dCons (dBin gSub (dUn gNeg (dC (.int 121))) (dVar 5)) dNil))) dNil))))))) (dSeq (dSet 3 (dCall (fun as => f__law_draw (as ++ [])) (dCons (dVar 0) (dCons (dBin gAdd (dPr gLen (dCons (dVar 4) dNil)) (dC (.int 1))) dNil)))) (dSeq (dSet 7 (dCall (fun as => f__law_draw (as ++ [])) (dCons (dVar 0) (dCons (dC (.int 5)) dNil)))) (dSeq (dSet 8 (dLst (dCons (dTup (dCons (dVar 4) (dCons (dTup (dCons (dC (.str "OnShore")) (dCons (dVar 2) (dCons (dC (.bl true)) dNil)))) dNil))) dNil))) (dSeq (dEx (dMt "list" gAppend (dVar 8) (dCons (dTup (dCons (dBin gAdd (dLst (dCons (dTup (dCons (dUn gNeg (dC (.int 120))) (dCons (dC (.int 5)) dNil))) dNil)) (dVar 1)) (dCons (dTup (dCons (dC (.str "OnShore")) (dCons (dTup (dCons (dUn gNeg (dC (.int 120))) (dCons (dC (.int 5)) dNil))) (dCons (dC (.bl true)) dNil)))) dNil))) dNil))) (dSeq (dFor (dIt (dVar 6)) (.nm 9) (dSeq (dSet 10 (dBin gAdd (dBin gAdd (dSl (dVar 4) dNoP (dPart (dVar 3))) (dLst (dCons (dVar 9) dNil))) (dSl (dVar 4) (dPart (dVar 3)) dNoP))) (dSeq (dEx (dMt "list" gAppend (dVar 8) (dCons (dTup (dCons (dVar 10) (dCons (dTup (dCons (dC (.str "BadCell")) (dCons (dVar 9) (dCons (dC (.bl true)) dNil)))) dNil))) dNil))) (dEx (dMt "list" gAppend (dVar 8) (dCons (dTup (dCons (dBin gAdd (dVar 1) (dLst (dCons (dVar 9) dNil))) (dCons (dTup (dCons (dC (.str "BadCell")) (dCons (dVar 9) (dCons (dC (.bl true)) dNil)))) dNil))) dNil)))))) (dSeq (dSet 11 (dBin gAdd (dVar 4) (dLst (dCons (dBin gIx (dVar 6) (dVar 7)) (dCons (dBin gIx (dVar 6) (dBin gMod (dBin gAdd (dVar 7) (dC (.int 1))) (dC (.int 5)))) dNil))))) (dSeq (dEx (dMt "list" gAppend (dVar 8) (dCons (dTup (dCons (dVar 11) (dCons (dTup (dCons (dC (.str "BadCell")) (dCons (dBin gIx (dVar 6) (dVar 7)) (dCons (dC (.bl true)) dNil)))) dNil))) dNil))) (dSeq (dEx (dMt "list" gAppend (dVar 8) (dCons (dTup (dCons (dBin gMul (dLst (dCons (dVar 2) dNil)) (dC (.int 10001))) (dCons (dTup (dCons (dC (.str "TooMany")) (dCons (dC (.int 10000)) (dCons (dC (.bl true)) dNil)))) dNil))) dNil))) (dSeq (dSet 10 (dBin gAdd (dLst (dCons (dBin gIx (dVar 6) (dVar 7)) dNil)) (dBin gMul (dLst (dCons (dTup (dCons (dC (.int 0)) (dCons (dC (.int 0)) dNil))) dNil)) (dC (.int 10000))))) (dSeq (dEx (dMt "list" gAppend (dVar 8) (dCons (dTup (dCons (dVar 10) (dCons (dTup (dCons (dC (.str "TooMany")) (dCons (dC (.int 10000)) (dCons (dC (.bl true)) dNil)))) dNil))) dNil))) (dSeq (dSet 10 (dLst (dCons (dTup (dCons (dC (.int 120)) (dCons (dC (.int 120)) dNil))) (dCons (dTup (dCons (dC (.int 0)) (dCons (dUn gNeg (dC (.int 120))) dNil))) (dCons (dTup (dCons (dC (.int 120)) (dCons (dUn gNeg (dC (.int 120))) dNil))) (dCons (dTup (dCons (dC (.int 0)) (dCons (dC (.int 120)) dNil))) dNil)))))) (dSeq (dEx (dMt "list" gAppend (dVar 8) (dCons (dTup (dCons (dVar 10) (dCons (dTup (dCons (dC (.str "bank")) (dCons (dPr gTuple (dCons (dCall (fun as => f__law_plain (as ++ [])) (dCons (dVar 10) dNil)) dNil)) (dCons (dC (.bl true)) dNil)))) dNil))) dNil))) (dSeq (dEx (dMt "list" gAppend (dVar 8) (dCons (dTup (dCons (dVar 1) (dCons (dTup (dCons (dC (.str "bank")) (dCons (dPr gTuple (dCons (dCall (fun as => f__law_plain (as ++ [])) (dCons (dVar 1) dNil)) dNil)) (dCons (dC (.bl true)) dNil)))) dNil))) dNil))) (dSeq (dFor (dIt (dVar 8)) (.tp [12, 13]) (dSeq (dSet 14 (dPr gList (dCons (dVar 12) dNil))) (dIfS (dOrT (dNotT (dTr (dCall (fun as => f__law_same (as ++ [])) (dCons (dCall (fun as => f__law_made (as ++ [])) (dCons (dVar 14) dNil)) (dCons (dVar 13) dNil))))) (dTB (dBin gNeY (dVar 14) (dVar 12)))) (dRet (dC (.bl false))) dNx))) (dRet (dC (.bl true))))))))))))))))))))))
noncomputable def f__law_refusals : List AV → AH → R AV := runF 2 15 b__law_refusals
noncomputable def b__law_block : MS := (dSeq (dSet 1 (dCall (fun as => f__law_draw (as ++ [])) (dCons (dVar 0) (dCons (dC (.int 21)) dNil)))) (dSeq (dSet 2 (dBin gSub (dCall (fun as => f__law_draw (as ++ [])) (dCons (dVar 0) (dCons (dC (.int 60)) dNil))) (dC (.int 110)))) (dSeq (dSet 3 (dLc [4] (dRg1 (dCons (dC (.int 10000)) dNil)) (.nm 4) dYes (dTup (dCons (dBin gAdd (dVar 1) (dBin gFdiv (dVar 4) (dC (.int 100)))) (dCons (dBin gAdd (dVar 2) (dBin gMod (dVar 4) (dC (.int 100)))) dNil))))) (dSeq (dSet 5 (dCall (mkR "Bank" fun as => f_Bank___init__ (as ++ [])) (dCons (dVar 3) dNil))) (dSeq (dSet 6 (dCall (mkR "Bank" fun as => f_Bank___init__ (as ++ [])) (dCons (dLst (dCons (dBin gIx (dVar 3) (dCall (fun as => f__law_draw (as ++ [])) (dCons (dVar 0) (dCons (dC (.int 10000)) dNil)))) (dCons (dBin gIx (dVar 3) (dC (.int 0))) (dCons (dBin gIx (dVar 3) (dC (.int 9999))) dNil)))) dNil))) (dSeq (dSet 7 (dCall (mkR "Bank" fun as => f_Bank___init__ (as ++ [])) (dCons (dLst (dCons (dTup (dCons (dBin gAdd (dVar 1) (dC (.int 100))) (dCons (dVar 2) dNil))) dNil)) dNil))) (dSeq (dSet 8 (dPr gTuple (dCons (dVar 3) dNil))) (dSeq (dIfS (dOrT (dNotT (dTr (dUn (gIsi (isB "tuple")) (dAtt "extra" (("Bank", none) :: []) (dVar 5))))) (dTB (dBin gNeY (dAtt "extra" (("Bank", none) :: []) (dVar 5)) (dVar 8)))) (dRet (dC (.bl false))) dNx) (dSeq (dIfS (dTB (dBin gNeY (dCall (fun as => f__law_joined (as ++ [])) (dCons (dVar 5) (dCons (dVar 6) dNil))) (dTup (dCons (dC (.str "bank")) (dCons (dVar 8) (dCons (dC (.bl true)) dNil)))))) (dRet (dC (.bl false))) dNx) (dSeq (dIfS (dNotT (dTr (dCall (fun as => f__law_same (as ++ [])) (dCons (dCall (fun as => f__law_joined (as ++ [])) (dCons (dVar 5) (dCons (dVar 7) dNil))) (dCons (dTup (dCons (dC (.str "TooMany")) (dCons (dC (.int 10000)) (dCons (dC (.bl true)) dNil)))) dNil))))) (dRet (dC (.bl false))) dNx) (dSeq (dIfS (dNotT (dTr (dCall (fun as => f__law_same (as ++ [])) (dCons (dCall (fun as => f__law_joined (as ++ [])) (dCons (dVar 7) (dCons (dVar 5) dNil))) (dCons (dTup (dCons (dC (.str "TooMany")) (dCons (dC (.int 10000)) (dCons (dC (.bl true)) dNil)))) dNil))))) (dRet (dC (.bl false))) dNx) (dSeq (dIfS (dNotT (dTr (dCall (fun as => f__law_same (as ++ [])) (dCons (dCall (fun as => f__law_made (as ++ [])) (dCons (dBin gMul (dLst (dCons (dTup (dCons (dVar 1) (dCons (dVar 2) dNil))) dNil)) (dC (.int 10000))) dNil)) (dCons (dTup (dCons (dC (.str "bank")) (dCons (dTup (dCons (dTup (dCons (dVar 1) (dCons (dVar 2) dNil))) dNil)) (dCons (dC (.bl true)) dNil)))) dNil))))) (dRet (dC (.bl false))) dNx) (dSeq (dSet 9 (dOpO gNo2 (("Bank", f_Bank___and__) :: []) (dVar 5) (dVar 7))) (dSeq (dIfS (dOrT (dTB (dBin gNeY (dAtt "extra" (("Bank", none) :: []) (dVar 5)) (dVar 8))) (dTB (dBin gNeY (dAtt "extra" (("Bank", none) :: []) (dVar 7)) (dTup (dCons (dTup (dCons (dBin gAdd (dVar 1) (dC (.int 100))) (dCons (dVar 2) dNil))) dNil))))) (dRet (dC (.bl false))) dNx) (dRet (dCall (fun as => f__law_same (as ++ [])) (dCons (dAtt "extra" (("Bank", none) :: []) (dVar 9)) (dCons (dTup dNil) dNil))))))))))))))))))
noncomputable def f__law_block : List AV → AH → R AV := runF 1 10 b__law_block
noncomputable def b_law : MS := (dSeq (dSet 1 (dLc [2] (dIt (dSl (dVar 0) dNoP (dPart (dC (.int 63))))) (.nm 2) dYes (dPr gAbs (dCons (dPr gInt (dCons (dVar 2) dNil)) dNil)))) (dSeq (dIfS (dAndT (dTB (dBin gEqY (dCall (fun as => f__law_draw (as ++ [])) (dCons (dVar 1) (dCons (dC (.int 16)) dNil))) (dC (.int 7)))) (dNotT (dTr (dCall (fun as => f__law_block (as ++ [])) (dCons (dVar 1) dNil))))) (dRet (dC (.bl false))) dNx) (dSeq (dSet 3 (dCall (fun as => f__law_lot (as ++ [])) (dCons (dVar 1) (dCons (dBin gMod (dBin gAdd (dCall (fun as => f__law_draw (as ++ [])) (dCons (dVar 1) (dCons (dC (.int 15)) dNil))) (dC (.int 5))) (dC (.int 15))) (dCons (dC (.int 3)) dNil))))) (dSeq (dSet 4 (dCall (fun as => f__law_second (as ++ [])) (dCons (dVar 1) (dCons (dVar 3) dNil)))) (dSeq (dSet 5 (dCall (fun as => f__law_plain (as ++ [])) (dCons (dVar 3) dNil))) (dSeq (dSet 6 (dCall (fun as => f__law_plain (as ++ [])) (dCons (dVar 4) dNil))) (dSeq (dSet 7 (dPr gList (dCons (dVar 3) dNil))) (dSeq (dSet 8 (dCall (mkR "Bank" fun as => f_Bank___init__ (as ++ [])) (dCons (dVar 7) dNil))) (dSeq (dSet 9 (dCall (mkR "Bank" fun as => f_Bank___init__ (as ++ [])) (dCons (dPr gTuple (dCons (dVar 4) dNil)) dNil))) (dSeq (dIfS (dTB (dBin gNeY (dVar 7) (dVar 3))) (dRet (dC (.bl false))) dNx) (dSeq (dEx (dMt "list" gReverse (dVar 7) dNil)) (dSeq (dEx (dMt "list" gAppend (dVar 7) (dCons (dTup (dCons (dC (.int 5)) (dCons (dC (.int 5)) dNil))) dNil))) (dSeq (dIfS (dOrT (dNotT (dTr (dCall (fun as => f__law_same (as ++ [])) (dCons (dAtt "extra" (("Bank", none) :: []) (dCall (mkR "Bank" fun as => f_Bank___init__ (as ++ [])) (dCons (dLst dNil) dNil))) (dCons (dTup dNil) dNil))))) (dNotT (dTr (dCall (fun as => f__law_pair (as ++ [])) (dCons (dVar 8) (dCons (dVar 9) (dCons (dVar 5) (dCons (dVar 6) dNil)))))))) (dRet (dC (.bl false))) dNx) (dRet (dAnd (dCall (fun as => f__law_refusals (as ++ [])) (dCons (dVar 1) (dCons (dVar 3) dNil))) (dCall (fun as => f__law_pair (as ++ [])) (dCons (dVar 8) (dCons (dVar 9) (dCons (dVar 5) (dCons (dVar 6) dNil))))))))))))))))))))
noncomputable def f_law : List AV → AH → R AV := runF 1 10 b_law
/-! ### the names of the module -/
structure Ctx (K : PySem.W.Frag) (mg : Str → Option Value) : Prop where
  n_ValueError : mg "ValueError" = none
  n_abs : mg "abs" = none
  n_bool : mg "bool" = none
  n_dict : mg "dict" = none
  n_int : mg "int" = none
  n_isinstance : mg "isinstance" = none
  n_len : mg "len" = none
  n_list : mg "list" = none
  n_range : mg "range" = none
  n_sorted : mg "sorted" = none
  n_str : mg "str" = none
  n_tuple : mg "tuple" = none
  c_REACH : GV K mg "REACH" (.int 120)
  c__MOST_EXTRA : GV K mg "_MOST_EXTRA" (.int 10000)
  fl_Bank__places : FldA K "Bank" "_places"
  fl_Bank_extra : FldA K "Bank" "extra"
  sf_Bank : PySem.W.selfFirst K (He.ga K "Bank") = true
  x_BadCell : mg "BadCell" = some (.ref (He.ga K "BadCell"))
  x_Bank : mg "Bank" = some (.ref (He.ga K "Bank"))
  x_OnShore : mg "OnShore" = some (.ref (He.ga K "OnShore"))
  x_PlayError : mg "PlayError" = some (.ref (He.ga K "PlayError"))
  x_TooMany : mg "TooMany" = some (.ref (He.ga K "TooMany"))
  xm_BadCell : exmTab K (.ref (He.ga K "BadCell")) xt_BadCell = true
  xm_OnShore : exmTab K (.ref (He.ga K "OnShore")) xt_OnShore = true
  xm_TooMany : exmTab K (.ref (He.ga K "TooMany")) xt_TooMany = true
  xi_PlayError : isiTab K (.ref (He.ga K "PlayError")) it_PlayError = true
  xi_ValueError : isiTab K (.type "ValueError") it_ValueError = true
  xt_0 : isiTabT K ["BadCell", "OnShore"] itt0 = true
  xt_1 : isiTabT K ["TooMany", "OnShore"] itt1 = true
  xt_2 : isiTabT K ["TooMany", "BadCell"] itt2 = true
  xf_cell : xfTab K cs_cell "cell" = true
  xf_most : xfTab K cs_most "most" = true
  nf_Bank : nfB K "Bank" eqt_Bank = true
  io_Bank : isoB K (.ref (He.ga K "Bank")) io_Bank = true
/-! ### each def does it -/
section
variable {P : Program} {w : World} {K : PySem.W.Frag} {mg : Str → Option Value} {base : Heap}
theorem sc__field_copy : FnScope ["value", "key"] ["value"] (defScope (top 2)) := ⟨rfl, rfl, rfl, by decide +kernel, rfl, by decide +kernel, by decide +kernel⟩
theorem sc__on_shore : FnScope ["cell"] ["cell"] (defScope (top 15)) := ⟨rfl, rfl, rfl, by decide +kernel, rfl, by decide +kernel, by decide +kernel⟩
theorem j__on_shore (C : Ctx K mg) : JS ⟨P, w, K, mg, base, ["cell"], defScope (top 15), 0, false, none⟩ (defBody (top 15)) b__on_shore :=
  (js_one (j1_ret (je_cmp (fun X F => op_gLt F) (je_ix (fun X F => ix_gIx F) (je_var rfl (by first | exact Or.inl rfl | exact Or.inr (Or.inl rfl) | exact Or.inr (Or.inr rfl)) rfl rfl) je_int (fun _ _ => rfl)) je_int rfl)))
theorem sc__law_draw : FnScope ["pool", "many", "digit"] ["pool", "many"] (defScope (top 19)) := ⟨rfl, rfl, rfl, by decide +kernel, rfl, by decide +kernel, by decide +kernel⟩
theorem j__law_draw (C : Ctx K mg) : JS ⟨P, w, K, mg, base, ["pool", "many", "digit"], defScope (top 19), 0, false, none⟩ (defBody (top 19)) b__law_draw :=
  (js_cons (j1_if (jt_cmp (fun X F => op_gEqY F) (je_var rfl (by first | exact Or.inl rfl | exact Or.inr (Or.inl rfl) | exact Or.inr (Or.inr rfl)) rfl rfl) (je_lst ja_nil) rfl) (js_one (j1_ret je_int)) js_nil) (js_cons (j1_set rfl (by first | exact Or.inl rfl | exact Or.inr ⟨rfl, rfl⟩) (je_bin (fun X F => op_gMod F) (je_prT (fun X F => call_gInt F) rfl C.n_int (by decide +kernel) (ja_cons (je_ix (fun X F => ix_gIx F) (je_var rfl (by first | exact Or.inl rfl | exact Or.inr (Or.inl rfl) | exact Or.inr (Or.inr rfl)) rfl rfl) je_int (fun _ _ => rfl)) ja_nil (fun _ => rfl)) (by decide) rfl (fun _ => rfl) (fun _ => rfl)) (je_var rfl (by first | exact Or.inl rfl | exact Or.inr (Or.inl rfl) | exact Or.inr (Or.inr rfl)) rfl rfl)) (fun _ => rfl)) (js_cons (j1_setI (je_bin (fun X F => op_gFdiv F) (je_prT (fun X F => call_gInt F) rfl C.n_int (by decide +kernel) (ja_cons (je_ix (fun X F => ix_gIx F) (je_var rfl (by first | exact Or.inl rfl | exact Or.inr (Or.inl rfl) | exact Or.inr (Or.inr rfl)) rfl rfl) je_int (fun _ _ => rfl)) ja_nil (fun _ => rfl)) (by decide) rfl (fun _ => rfl) (fun _ => rfl)) (je_var rfl (by first | exact Or.inl rfl | exact Or.inr (Or.inl rfl) | exact Or.inr (Or.inr rfl)) rfl rfl)) (je_var rfl (by first | exact Or.inl rfl | exact Or.inr (Or.inl rfl) | exact Or.inr (Or.inr rfl)) rfl rfl) je_int (fun _ _ => rfl) (fun _ => rfl) (fun _ => rfl) (fun _ => rfl)) (js_cons (j1_if (jt_cmp (fun X F => op_gEqY F) (je_ix (fun X F => ix_gIx F) (je_var rfl (by first | exact Or.inl rfl | exact Or.inr (Or.inl rfl) | exact Or.inr (Or.inr rfl)) rfl rfl) je_int (fun _ _ => rfl)) je_int rfl) (js_one (j1_expr (je_mt PySem.F.plainAttrs_list PySem.F.slot_list_pop PySem.F.type_list_pop (fun X F => mt_gPopAt F) (je_var rfl (by first | exact Or.inl rfl | exact Or.inr (Or.inl rfl) | exact Or.inr (Or.inr rfl)) rfl rfl) (ja_cons je_int ja_nil (fun _ => rfl)) (fun _ => rfl) (fun _ => rfl) rfl (fun _ => rfl) (fun _ => rfl)) (fun _ => rfl))) js_nil) (js_one (j1_ret (je_var rfl (by first | exact Or.inl rfl | exact Or.inr (Or.inl rfl) | exact Or.inr (Or.inr rfl)) rfl rfl)))))))
theorem sc__law_plain : FnScope ["lot", "found", "cell"] ["lot"] (defScope (top 23)) := ⟨rfl, rfl, rfl, by decide +kernel, rfl, by decide +kernel, by decide +kernel⟩
theorem j__law_plain (C : Ctx K mg) : JS ⟨P, w, K, mg, base, ["lot", "found", "cell"], defScope (top 23), 0, false, none⟩ (defBody (top 23)) b__law_plain :=
  (js_cons (j1_set rfl (by first | exact Or.inl rfl | exact Or.inr ⟨rfl, rfl⟩) (je_lst ja_nil) (fun _ => rfl)) (js_cons (j1_for (ji_seq (je_prB (fun X F => call_gSortedP F) rfl C.n_sorted (by decide +kernel) (ja_cons (je_var rfl (by first | exact Or.inl rfl | exact Or.inr (Or.inl rfl) | exact Or.inr (Or.inr rfl)) rfl rfl) ja_nil (fun _ => rfl)) (by decide) rfl (fun _ => rfl) (fun _ => rfl))) (jg_name rfl (by first | exact Or.inl rfl | exact Or.inr ⟨rfl, rfl⟩)) (js_one (j1_if (jt_cmp (fun X F => op_gNotInY F) (je_var rfl (by first | exact Or.inl rfl | exact Or.inr (Or.inl rfl) | exact Or.inr (Or.inr rfl)) rfl rfl) (je_var rfl (by first | exact Or.inl rfl | exact Or.inr (Or.inl rfl) | exact Or.inr (Or.inr rfl)) rfl rfl) rfl) (js_one (j1_expr (je_mt PySem.F.plainAttrs_list PySem.F.slot_list_append PySem.F.type_list_append (fun X F => mt_gAppend F) (je_var rfl (by first | exact Or.inl rfl | exact Or.inr (Or.inl rfl) | exact Or.inr (Or.inr rfl)) rfl rfl) (ja_cons (je_var rfl (by first | exact Or.inl rfl | exact Or.inr (Or.inl rfl) | exact Or.inr (Or.inr rfl)) rfl rfl) ja_nil (fun _ => rfl)) (fun _ => rfl) (fun _ => rfl) rfl (fun _ => rfl) (fun _ => rfl)) (fun _ => rfl))) js_nil)) (fun _ _ => rfl)) (js_one (j1_ret (je_var rfl (by first | exact Or.inl rfl | exact Or.inr (Or.inl rfl) | exact Or.inr (Or.inr rfl)) rfl rfl)))))
theorem sc__law_within : FnScope ["cells", "others", "cell"] ["cells", "others"] (defScope (top 24)) := ⟨rfl, rfl, rfl, by decide +kernel, rfl, by decide +kernel, by decide +kernel⟩
theorem j__law_within (C : Ctx K mg) : JS ⟨P, w, K, mg, base, ["cells", "others", "cell"], defScope (top 24), 0, false, none⟩ (defBody (top 24)) b__law_within :=
  (js_cons (j1_for (ji_seq (je_var rfl (by first | exact Or.inl rfl | exact Or.inr (Or.inl rfl) | exact Or.inr (Or.inr rfl)) rfl rfl)) (jg_name rfl (by first | exact Or.inl rfl | exact Or.inr ⟨rfl, rfl⟩)) (js_one (j1_if (jt_cmp (fun X F => op_gNotInY F) (je_var rfl (by first | exact Or.inl rfl | exact Or.inr (Or.inl rfl) | exact Or.inr (Or.inr rfl)) rfl rfl) (je_var rfl (by first | exact Or.inl rfl | exact Or.inr (Or.inl rfl) | exact Or.inr (Or.inr rfl)) rfl rfl) rfl) (js_one (j1_ret je_bl)) js_nil)) (fun _ _ => rfl)) (js_one (j1_ret je_bl)))
theorem sc_Bank___eq__ : FnScope ["self", "other"] ["self", "other"] (defScope (clsMeth (top 17) 3)) := ⟨rfl, rfl, rfl, by decide +kernel, rfl, by decide +kernel, by decide +kernel⟩
theorem j_Bank___eq__ (C : Ctx K mg) : JS ⟨P, w, K, mg, base, ["self", "other"], defScope (clsMeth (top 17) 3), 0, false, none⟩ (defBody (clsMeth (top 17) 3)) b_Bank___eq__ :=
  (js_one (j1_ret (je_and (je_isiO (isoB_ok C.io_Bank) (je_var rfl (by first | exact Or.inl rfl | exact Or.inr (Or.inl rfl) | exact Or.inr (Or.inr rfl)) rfl rfl) rfl C.n_isinstance rfl C.x_Bank rfl (fun _ => rfl)) (je_one (je_cmp (fun X F => op_gEqY F) (je_att ⟨C.fl_Bank_extra, trivial⟩ (je_var rfl (by first | exact Or.inl rfl | exact Or.inr (Or.inl rfl) | exact Or.inr (Or.inr rfl)) rfl rfl) (fun _ => rfl)) (je_att ⟨C.fl_Bank_extra, trivial⟩ (je_var rfl (by first | exact Or.inl rfl | exact Or.inr (Or.inl rfl) | exact Or.inr (Or.inr rfl)) rfl rfl) (fun _ => rfl)) rfl)))))
theorem sc__law_lot : FnScope ["pool", "many", "wide", "lot", "k", "x", "y"] ["pool", "many", "wide"] (defScope (top 21)) := ⟨rfl, rfl, rfl, by decide +kernel, rfl, by decide +kernel, by decide +kernel⟩
theorem j__law_lot (C : Ctx K mg) (h__law_draw : FnAt P w K mg base 1 "_law_draw" [] f__law_draw) : JS ⟨P, w, K, mg, base, ["pool", "many", "wide", "lot", "k", "x", "y"], defScope (top 21), 1, false, none⟩ (defBody (top 21)) b__law_lot :=
  (js_cons (j1_set rfl (by first | exact Or.inl rfl | exact Or.inr ⟨rfl, rfl⟩) (je_lst ja_nil) (fun _ => rfl)) (js_cons (j1_for (ji_rg1 rfl C.n_range (ja_cons (je_var rfl (by first | exact Or.inl rfl | exact Or.inr (Or.inl rfl) | exact Or.inr (Or.inr rfl)) rfl rfl) ja_nil (fun _ => rfl)) (fun _ => rfl)) (jg_name rfl (by first | exact Or.inl rfl | exact Or.inr ⟨rfl, rfl⟩)) (js_cons (j1_set rfl (by first | exact Or.inl rfl | exact Or.inr ⟨rfl, rfl⟩) (je_bin (fun X F => op_gMod F) (je_bin (fun X F => op_gAdd F) (je_bin (fun X F => op_gFdiv F) (je_var rfl (by first | exact Or.inl rfl | exact Or.inr (Or.inl rfl) | exact Or.inr (Or.inr rfl)) rfl rfl) (je_var rfl (by first | exact Or.inl rfl | exact Or.inr (Or.inl rfl) | exact Or.inr (Or.inr rfl)) rfl rfl)) (je_call h__law_draw rfl (ja_cons (je_var rfl (by first | exact Or.inl rfl | exact Or.inr (Or.inl rfl) | exact Or.inr (Or.inr rfl)) rfl rfl) (ja_cons je_int ja_nil (fun _ => rfl)) (fun _ => rfl)) rfl (fun _ => rfl) (fun _ => rfl))) je_int) (fun _ => rfl)) (js_cons (j1_set rfl (by first | exact Or.inl rfl | exact Or.inr ⟨rfl, rfl⟩) (je_bin (fun X F => op_gSub F) (je_bin (fun X F => op_gMod F) (je_bin (fun X F => op_gAdd F) (je_bin (fun X F => op_gMod F) (je_var rfl (by first | exact Or.inl rfl | exact Or.inr (Or.inl rfl) | exact Or.inr (Or.inr rfl)) rfl rfl) (je_var rfl (by first | exact Or.inl rfl | exact Or.inr (Or.inl rfl) | exact Or.inr (Or.inr rfl)) rfl rfl)) (je_call h__law_draw rfl (ja_cons (je_var rfl (by first | exact Or.inl rfl | exact Or.inr (Or.inl rfl) | exact Or.inr (Or.inr rfl)) rfl rfl) (ja_cons je_int ja_nil (fun _ => rfl)) (fun _ => rfl)) rfl (fun _ => rfl) (fun _ => rfl))) je_int) je_int) (fun _ => rfl)) (js_one (j1_expr (je_mt PySem.F.plainAttrs_list PySem.F.slot_list_append PySem.F.type_list_append (fun X F => mt_gAppend F) (je_var rfl (by first | exact Or.inl rfl | exact Or.inr (Or.inl rfl) | exact Or.inr (Or.inr rfl)) rfl rfl) (ja_cons (je_tup (ja_cons (je_var rfl (by first | exact Or.inl rfl | exact Or.inr (Or.inl rfl) | exact Or.inr (Or.inr rfl)) rfl rfl) (ja_cons (je_var rfl (by first | exact Or.inl rfl | exact Or.inr (Or.inl rfl) | exact Or.inr (Or.inr rfl)) rfl rfl) ja_nil (fun _ => rfl)) (fun _ => rfl))) ja_nil (fun _ => rfl)) (fun _ => rfl) (fun _ => rfl) rfl (fun _ => rfl) (fun _ => rfl)) (fun _ => rfl))))) (fun _ _ => rfl)) (js_one (j1_ret (je_var rfl (by first | exact Or.inl rfl | exact Or.inr (Or.inl rfl) | exact Or.inr (Or.inr rfl)) rfl rfl)))))
theorem sc_Bank___contains__ : FnScope ["self", "cell"] ["self", "cell"] (defScope (clsMeth (top 17) 2)) := ⟨rfl, rfl, rfl, by decide +kernel, rfl, by decide +kernel, by decide +kernel⟩
theorem j_Bank___contains__ (C : Ctx K mg) (h__on_shore : FnAt P w K mg base 1 "_on_shore" [] f__on_shore) : JS ⟨P, w, K, mg, base, ["self", "cell"], defScope (clsMeth (top 17) 2), 1, false, none⟩ (defBody (clsMeth (top 17) 2)) b_Bank___contains__ :=
  (js_one (j1_ret (je_or (je_call h__on_shore rfl (ja_cons (je_var rfl (by first | exact Or.inl rfl | exact Or.inr (Or.inl rfl) | exact Or.inr (Or.inr rfl)) rfl rfl) ja_nil (fun _ => rfl)) rfl (fun _ => rfl) (fun _ => rfl)) (je_one (je_cmp (fun X F => op_gInY F) (je_var rfl (by first | exact Or.inl rfl | exact Or.inr (Or.inl rfl) | exact Or.inr (Or.inr rfl)) rfl rfl) (je_att ⟨C.fl_Bank__places, trivial⟩ (je_var rfl (by first | exact Or.inl rfl | exact Or.inr (Or.inl rfl) | exact Or.inr (Or.inr rfl)) rfl rfl) (fun _ => rfl)) rfl)))))
theorem sc_check_length : FnScope ["items", "most"] ["items", "most"] (defScope (top 11)) := ⟨rfl, rfl, rfl, by decide +kernel, rfl, by decide +kernel, by decide +kernel⟩
theorem j_check_length (C : Ctx K mg) (r_TooMany : RaisesA P w K mg base 1 "TooMany" "most") : JS ⟨P, w, K, mg, base, ["items", "most"], defScope (top 11), 2, false, none⟩ (defBody (top 11)) b_check_length :=
  (js_one (j1_if (jt_cmp (fun X F => op_gGt F) (je_prB (fun X F => call_gLen F) rfl C.n_len (by decide +kernel) (ja_cons (je_var rfl (by first | exact Or.inl rfl | exact Or.inr (Or.inl rfl) | exact Or.inr (Or.inr rfl)) rfl rfl) ja_nil (fun _ => rfl)) (by decide) rfl (fun _ => rfl) (fun _ => rfl)) (je_var rfl (by first | exact Or.inl rfl | exact Or.inr (Or.inl rfl) | exact Or.inr (Or.inr rfl)) rfl rfl) rfl) (js_one (j1_raiseR r_TooMany (show 1 + 1 ≤ 2 by decide) rfl (je_var rfl (by first | exact Or.inl rfl | exact Or.inr (Or.inl rfl) | exact Or.inr (Or.inr rfl)) rfl rfl) rfl (fun _ => rfl))) js_nil))
theorem sc__law_second : FnScope ["pool", "first", "mode", "lot", "k", "cell"] ["pool", "first"] (defScope (top 22)) := ⟨rfl, rfl, rfl, by decide +kernel, rfl, by decide +kernel, by decide +kernel⟩
theorem j__law_second (C : Ctx K mg) (h__law_draw : FnAt P w K mg base 2 "_law_draw" [] f__law_draw) (h__law_lot : FnAt P w K mg base 2 "_law_lot" [] f__law_lot) : JS ⟨P, w, K, mg, base, ["pool", "first", "mode", "lot", "k", "cell"], defScope (top 22), 2, false, none⟩ (defBody (top 22)) b__law_second :=
  (js_cons (j1_set rfl (by first | exact Or.inl rfl | exact Or.inr ⟨rfl, rfl⟩) (je_call h__law_draw rfl (ja_cons (je_var rfl (by first | exact Or.inl rfl | exact Or.inr (Or.inl rfl) | exact Or.inr (Or.inr rfl)) rfl rfl) (ja_cons je_int ja_nil (fun _ => rfl)) (fun _ => rfl)) rfl (fun _ => rfl) (fun _ => rfl)) (fun _ => rfl)) (js_cons (j1_set rfl (by first | exact Or.inl rfl | exact Or.inr ⟨rfl, rfl⟩) (je_call h__law_lot rfl (ja_cons (je_var rfl (by first | exact Or.inl rfl | exact Or.inr (Or.inl rfl) | exact Or.inr (Or.inr rfl)) rfl rfl) (ja_cons (je_bin (fun X F => op_gMod F) (je_bin (fun X F => op_gAdd F) (je_call h__law_draw rfl (ja_cons (je_var rfl (by first | exact Or.inl rfl | exact Or.inr (Or.inl rfl) | exact Or.inr (Or.inr rfl)) rfl rfl) (ja_cons je_int ja_nil (fun _ => rfl)) (fun _ => rfl)) rfl (fun _ => rfl) (fun _ => rfl)) je_int) je_int) (ja_cons je_int ja_nil (fun _ => rfl)) (fun _ => rfl)) (fun _ => rfl)) rfl (fun _ => rfl) (fun _ => rfl)) (fun _ => rfl)) (js_cons (j1_if (jt_cmp (fun X F => op_gEqY F) (je_var rfl (by first | exact Or.inl rfl | exact Or.inr (Or.inl rfl) | exact Or.inr (Or.inr rfl)) rfl rfl) je_int rfl) (js_one (j1_ret (je_bin (fun X F => op_gAdd F) (je_lc (own := [("k", 4)]) (ji_rg1 rfl C.n_range (ja_cons (je_prB (fun X F => call_gLen F) rfl C.n_len (by decide +kernel) (ja_cons (je_var rfl (by first | exact Or.inl rfl | exact Or.inr (Or.inl rfl) | exact Or.inr (Or.inr rfl)) rfl rfl) ja_nil (fun _ => rfl)) (by decide) rfl (fun _ => rfl) (fun _ => rfl)) ja_nil (fun _ => rfl)) (fun _ => rfl)) rfl (jg_name rfl (by first | exact Or.inl rfl | exact Or.inr ⟨rfl, rfl⟩)) jts_nil (je_ix (fun X F => ix_gIx F) (je_var rfl (by first | exact Or.inl rfl | exact Or.inr (Or.inl rfl) | exact Or.inr (Or.inr rfl)) rfl rfl) (je_bin (fun X F => op_gSub F) (je_bin (fun X F => op_gSub F) (je_prB (fun X F => call_gLen F) rfl C.n_len (by decide +kernel) (ja_cons (je_var rfl (by first | exact Or.inl rfl | exact Or.inr (Or.inl rfl) | exact Or.inr (Or.inr rfl)) rfl rfl) ja_nil (fun _ => rfl)) (by decide) rfl (fun _ => rfl) (fun _ => rfl)) je_int) (je_var rfl (by first | exact Or.inl rfl | exact Or.inr (Or.inl rfl) | exact Or.inr (Or.inr rfl)) rfl rfl)) (fun _ _ => rfl)) (by decide) (fun _ _ => rfl)) (je_sl (je_var rfl (by first | exact Or.inl rfl | exact Or.inr (Or.inl rfl) | exact Or.inr (Or.inr rfl)) rfl rfl) jo_none (jo_some je_int))))) js_nil) (js_cons (j1_if (jt_cmp (fun X F => op_gEqY F) (je_var rfl (by first | exact Or.inl rfl | exact Or.inr (Or.inl rfl) | exact Or.inr (Or.inr rfl)) rfl rfl) je_int rfl) (js_one (j1_ret (je_bin (fun X F => op_gAdd F) (je_var rfl (by first | exact Or.inl rfl | exact Or.inr (Or.inl rfl) | exact Or.inr (Or.inr rfl)) rfl rfl) (je_var rfl (by first | exact Or.inl rfl | exact Or.inr (Or.inl rfl) | exact Or.inr (Or.inr rfl)) rfl rfl)))) js_nil) (js_cons (j1_if (jt_cmp (fun X F => op_gEqY F) (je_var rfl (by first | exact Or.inl rfl | exact Or.inr (Or.inl rfl) | exact Or.inr (Or.inr rfl)) rfl rfl) je_int rfl) (js_one (j1_ret (je_lc (own := [("cell", 5)]) (ji_seq (je_var rfl (by first | exact Or.inl rfl | exact Or.inr (Or.inl rfl) | exact Or.inr (Or.inr rfl)) rfl rfl)) rfl (jg_name rfl (by first | exact Or.inl rfl | exact Or.inr ⟨rfl, rfl⟩)) (jts_one (jt_cmp (fun X F => op_gNotInY F) (je_var rfl (by first | exact Or.inl rfl | exact Or.inr (Or.inl rfl) | exact Or.inr (Or.inr rfl)) rfl rfl) (je_sl (je_var rfl (by first | exact Or.inl rfl | exact Or.inr (Or.inl rfl) | exact Or.inr (Or.inr rfl)) rfl rfl) jo_none (jo_some je_int)) rfl)) (je_var rfl (by first | exact Or.inl rfl | exact Or.inr (Or.inl rfl) | exact Or.inr (Or.inr rfl)) rfl rfl) (by decide) (fun _ _ => rfl)))) js_nil) (js_cons (j1_if (jt_cmp (fun X F => op_gEqY F) (je_var rfl (by first | exact Or.inl rfl | exact Or.inr (Or.inl rfl) | exact Or.inr (Or.inr rfl)) rfl rfl) je_int rfl) (js_one (j1_ret (je_lc (own := [("cell", 5)]) (ji_seq (je_var rfl (by first | exact Or.inl rfl | exact Or.inr (Or.inl rfl) | exact Or.inr (Or.inr rfl)) rfl rfl)) rfl (jg_name rfl (by first | exact Or.inl rfl | exact Or.inr ⟨rfl, rfl⟩)) jts_nil (je_tup (ja_cons (je_bin (fun X F => op_gAdd F) (je_ix (fun X F => ix_gIx F) (je_var rfl (by first | exact Or.inl rfl | exact Or.inr (Or.inl rfl) | exact Or.inr (Or.inr rfl)) rfl rfl) je_int (fun _ _ => rfl)) je_int) (ja_cons (je_ix (fun X F => ix_gIx F) (je_var rfl (by first | exact Or.inl rfl | exact Or.inr (Or.inl rfl) | exact Or.inr (Or.inr rfl)) rfl rfl) je_int (fun _ _ => rfl)) ja_nil (fun _ => rfl)) (fun _ => rfl))) (by decide) (fun _ _ => rfl)))) js_nil) (js_one (j1_ret (je_var rfl (by first | exact Or.inl rfl | exact Or.inr (Or.inl rfl) | exact Or.inr (Or.inr rfl)) rfl rfl)))))))))
theorem sc__law_members : FnScope ["bank", "cells", "x", "y", "cell"] ["bank", "cells"] (defScope (top 25)) := ⟨rfl, rfl, rfl, by decide +kernel, rfl, by decide +kernel, by decide +kernel⟩
theorem j__law_members (C : Ctx K mg) (m_Bank___contains__ : MetA P w K mg base 2 "Bank" "__contains__" [] f_Bank___contains__) : JS ⟨P, w, K, mg, base, ["bank", "cells", "x", "y", "cell"], defScope (top 25), 2, false, none⟩ (defBody (top 25)) b__law_members :=
  (js_cons (j1_for (ji_rg2 rfl C.n_range (ja_cons (je_un (fun X F => un_gNeg F) je_int) (ja_cons je_int ja_nil (fun _ => rfl)) (fun _ => rfl)) (fun _ => rfl) (fun _ => rfl)) (jg_name rfl (by first | exact Or.inl rfl | exact Or.inr ⟨rfl, rfl⟩)) (js_one (j1_for (ji_rg2 rfl C.n_range (ja_cons (je_un (fun X F => un_gNeg F) je_int) (ja_cons je_int ja_nil (fun _ => rfl)) (fun _ => rfl)) (fun _ => rfl) (fun _ => rfl)) (jg_name rfl (by first | exact Or.inl rfl | exact Or.inr ⟨rfl, rfl⟩)) (js_one (j1_if (jt_cmp (fun X F => op_gNeY F) (je_c (jc_inO (by decide) ⟨⟨m_Bank___contains__, C.sf_Bank⟩, trivial⟩ (fun X F => op_gInY F) (je_tup (ja_cons (je_var rfl (by first | exact Or.inl rfl | exact Or.inr (Or.inl rfl) | exact Or.inr (Or.inr rfl)) rfl rfl) (ja_cons (je_var rfl (by first | exact Or.inl rfl | exact Or.inr (Or.inl rfl) | exact Or.inr (Or.inr rfl)) rfl rfl) ja_nil (fun _ => rfl)) (fun _ => rfl))) (je_var rfl (by first | exact Or.inl rfl | exact Or.inr (Or.inl rfl) | exact Or.inr (Or.inr rfl)) rfl rfl)) rfl) (je_or (je_cmp (fun X F => op_gLt F) (je_var rfl (by first | exact Or.inl rfl | exact Or.inr (Or.inl rfl) | exact Or.inr (Or.inr rfl)) rfl rfl) je_int rfl) (je_one (je_cmp (fun X F => op_gInY F) (je_tup (ja_cons (je_var rfl (by first | exact Or.inl rfl | exact Or.inr (Or.inl rfl) | exact Or.inr (Or.inr rfl)) rfl rfl) (ja_cons (je_var rfl (by first | exact Or.inl rfl | exact Or.inr (Or.inl rfl) | exact Or.inr (Or.inr rfl)) rfl rfl) ja_nil (fun _ => rfl)) (fun _ => rfl))) (je_var rfl (by first | exact Or.inl rfl | exact Or.inr (Or.inl rfl) | exact Or.inr (Or.inr rfl)) rfl rfl) rfl))) rfl) (js_one (j1_ret je_bl)) js_nil)) (fun _ _ => rfl))) (fun _ _ => rfl)) (js_cons (j1_for (ji_seq (je_lst (ja_cons (je_tup (ja_cons (je_un (fun X F => un_gNeg F) je_int) (ja_cons je_int ja_nil (fun _ => rfl)) (fun _ => rfl))) (ja_cons (je_tup (ja_cons (je_un (fun X F => un_gNeg F) je_int) (ja_cons (je_un (fun X F => un_gNeg F) je_int) ja_nil (fun _ => rfl)) (fun _ => rfl))) (ja_cons (je_tup (ja_cons (je_un (fun X F => un_gNeg F) (je_bin (fun X F => op_gPow F) je_int je_int)) (ja_cons (je_bin (fun X F => op_gPow F) je_int je_int) ja_nil (fun _ => rfl)) (fun _ => rfl))) ja_nil (fun _ => rfl)) (fun _ => rfl)) (fun _ => rfl)))) (jg_name rfl (by first | exact Or.inl rfl | exact Or.inr ⟨rfl, rfl⟩)) (js_one (j1_if (jt_c (jc_inO (by decide) ⟨⟨m_Bank___contains__, C.sf_Bank⟩, trivial⟩ (fun X F => op_gNotInY F) (je_var rfl (by first | exact Or.inl rfl | exact Or.inr (Or.inl rfl) | exact Or.inr (Or.inr rfl)) rfl rfl) (je_var rfl (by first | exact Or.inl rfl | exact Or.inr (Or.inl rfl) | exact Or.inr (Or.inr rfl)) rfl rfl)) rfl) (js_one (j1_ret je_bl)) js_nil)) (fun _ _ => rfl)) (js_cons (j1_for (ji_seq (je_lst (ja_cons (je_tup (ja_cons je_int (ja_cons je_int ja_nil (fun _ => rfl)) (fun _ => rfl))) (ja_cons (je_tup (ja_cons je_int (ja_cons (je_un (fun X F => un_gNeg F) je_int) ja_nil (fun _ => rfl)) (fun _ => rfl))) (ja_cons (je_tup (ja_cons je_int (ja_cons (je_bin (fun X F => op_gPow F) je_int je_int) ja_nil (fun _ => rfl)) (fun _ => rfl))) (ja_cons (je_tup (ja_cons (je_bin (fun X F => op_gPow F) je_int je_int) (ja_cons (je_un (fun X F => un_gNeg F) je_int) ja_nil (fun _ => rfl)) (fun _ => rfl))) ja_nil (fun _ => rfl)) (fun _ => rfl)) (fun _ => rfl)) (fun _ => rfl)))) (jg_name rfl (by first | exact Or.inl rfl | exact Or.inr ⟨rfl, rfl⟩)) (js_one (j1_if (jt_c (jc_inO (by decide) ⟨⟨m_Bank___contains__, C.sf_Bank⟩, trivial⟩ (fun X F => op_gInY F) (je_var rfl (by first | exact Or.inl rfl | exact Or.inr (Or.inl rfl) | exact Or.inr (Or.inr rfl)) rfl rfl) (je_var rfl (by first | exact Or.inl rfl | exact Or.inr (Or.inl rfl) | exact Or.inr (Or.inr rfl)) rfl rfl)) rfl) (js_one (j1_ret je_bl)) js_nil)) (fun _ _ => rfl)) (js_one (j1_ret je_bl)))))
theorem sc_Bank_inside : FnScope ["self", "other", "cell"] ["self", "other"] (defScope (clsMeth (top 17) 6)) := ⟨rfl, rfl, rfl, by decide +kernel, rfl, by decide +kernel, by decide +kernel⟩
theorem j_Bank_inside (C : Ctx K mg) (m_Bank___contains__ : MetA P w K mg base 2 "Bank" "__contains__" [] f_Bank___contains__) : JS ⟨P, w, K, mg, base, ["self", "other", "cell"], defScope (clsMeth (top 17) 6), 2, false, none⟩ (defBody (clsMeth (top 17) 6)) b_Bank_inside :=
  (js_cons (j1_for (ji_seq (je_att ⟨C.fl_Bank_extra, trivial⟩ (je_var rfl (by first | exact Or.inl rfl | exact Or.inr (Or.inl rfl) | exact Or.inr (Or.inr rfl)) rfl rfl) (fun _ => rfl))) (jg_name rfl (by first | exact Or.inl rfl | exact Or.inr ⟨rfl, rfl⟩)) (js_one (j1_if (jt_c (jc_inO (by decide) ⟨⟨m_Bank___contains__, C.sf_Bank⟩, trivial⟩ (fun X F => op_gNotInY F) (je_var rfl (by first | exact Or.inl rfl | exact Or.inr (Or.inl rfl) | exact Or.inr (Or.inr rfl)) rfl rfl) (je_var rfl (by first | exact Or.inl rfl | exact Or.inr (Or.inl rfl) | exact Or.inr (Or.inr rfl)) rfl rfl)) rfl) (js_one (j1_ret je_bl)) js_nil)) (fun _ _ => rfl)) (js_one (j1_ret je_bl)))
theorem sc_check_cell : FnScope ["cell", "x", "y"] ["cell"] (defScope (top 9)) := ⟨rfl, rfl, rfl, by decide +kernel, rfl, by decide +kernel, by decide +kernel⟩
theorem j_check_cell (C : Ctx K mg) (r_BadCell : RaisesB P w K mg base 2 "BadCell" "cell") : JS ⟨P, w, K, mg, base, ["cell", "x", "y"], defScope (top 9), 3, false, none⟩ (defBody (top 9)) b_check_cell :=
  (js_cons (j1_asg (je_var rfl (by first | exact Or.inl rfl | exact Or.inr (Or.inl rfl) | exact Or.inr (Or.inr rfl)) rfl rfl) (jg_tup (jgs_cons (jg_name rfl (by first | exact Or.inl rfl | exact Or.inr ⟨rfl, rfl⟩)) (jgs_cons (jg_name rfl (by first | exact Or.inl rfl | exact Or.inr ⟨rfl, rfl⟩)) jgs_nil (fun _ => rfl)) (fun _ => rfl)) (fun _ => rfl) (fun _ => rfl)) (fun _ => rfl) (fun _ => rfl) (fun _ => rfl)) (js_one (j1_if (jt_not (jt_w (jw_and (jt_chain (fun X F => op_gLe F) (fun X F => op_gLe F) (je_un (fun X F => un_gNeg F) (je_glob rfl C.c_REACH rfl)) (je_var rfl (by first | exact Or.inl rfl | exact Or.inr (Or.inl rfl) | exact Or.inr (Or.inr rfl)) rfl rfl) (je_glob rfl C.c_REACH rfl) rfl) (jw_and1 (jt_chain (fun X F => op_gLe F) (fun X F => op_gLe F) (je_un (fun X F => un_gNeg F) (je_glob rfl C.c_REACH rfl)) (je_var rfl (by first | exact Or.inl rfl | exact Or.inr (Or.inl rfl) | exact Or.inr (Or.inr rfl)) rfl rfl) (je_glob rfl C.c_REACH rfl) rfl))))) (js_one (j1_raiseB r_BadCell (show 2 + 1 ≤ 3 by decide) rfl (je_var rfl (by first | exact Or.inl rfl | exact Or.inr (Or.inl rfl) | exact Or.inr (Or.inr rfl)) rfl rfl) rfl (fun _ => rfl))) js_nil)))
theorem sc__check_off_shore : FnScope ["cells", "cell"] ["cells"] (defScope (top 16)) := ⟨rfl, rfl, rfl, by decide +kernel, rfl, by decide +kernel, by decide +kernel⟩
theorem j__check_off_shore (C : Ctx K mg) (h__on_shore : FnAt P w K mg base 3 "_on_shore" [] f__on_shore) (r_OnShore : RaisesB P w K mg base 2 "OnShore" "cell") : JS ⟨P, w, K, mg, base, ["cells", "cell"], defScope (top 16), 3, false, none⟩ (defBody (top 16)) b__check_off_shore :=
  (js_one (j1_for (ji_seq (je_var rfl (by first | exact Or.inl rfl | exact Or.inr (Or.inl rfl) | exact Or.inr (Or.inr rfl)) rfl rfl)) (jg_name rfl (by first | exact Or.inl rfl | exact Or.inr ⟨rfl, rfl⟩)) (js_one (j1_if (jt_tr (je_call h__on_shore rfl (ja_cons (je_var rfl (by first | exact Or.inl rfl | exact Or.inr (Or.inl rfl) | exact Or.inr (Or.inr rfl)) rfl rfl) ja_nil (fun _ => rfl)) rfl (fun _ => rfl) (fun _ => rfl)) (fun _ _ => rfl)) (js_one (j1_raiseB r_OnShore (show 2 + 1 ≤ 3 by decide) rfl (je_var rfl (by first | exact Or.inl rfl | exact Or.inr (Or.inl rfl) | exact Or.inr (Or.inr rfl)) rfl rfl) rfl (fun _ => rfl))) js_nil)) (fun _ _ => rfl)))
theorem sc_check_cells : FnScope ["cells", "most", "cell"] ["cells", "most"] (defScope (top 12)) := ⟨rfl, rfl, rfl, by decide +kernel, rfl, by decide +kernel, by decide +kernel⟩
theorem j_check_cells (C : Ctx K mg) (h_check_length : FnAt P w K mg base 4 "check_length" [] f_check_length) (h_check_cell : FnAt P w K mg base 4 "check_cell" [] f_check_cell) : JS ⟨P, w, K, mg, base, ["cells", "most", "cell"], defScope (top 12), 4, false, none⟩ (defBody (top 12)) b_check_cells :=
  (js_cons (j1_expr (je_call h_check_length rfl (ja_cons (je_var rfl (by first | exact Or.inl rfl | exact Or.inr (Or.inl rfl) | exact Or.inr (Or.inr rfl)) rfl rfl) (ja_cons (je_var rfl (by first | exact Or.inl rfl | exact Or.inr (Or.inl rfl) | exact Or.inr (Or.inr rfl)) rfl rfl) ja_nil (fun _ => rfl)) (fun _ => rfl)) rfl (fun _ => rfl) (fun _ => rfl)) (fun _ => rfl)) (js_one (j1_for (ji_seq (je_var rfl (by first | exact Or.inl rfl | exact Or.inr (Or.inl rfl) | exact Or.inr (Or.inr rfl)) rfl rfl)) (jg_name rfl (by first | exact Or.inl rfl | exact Or.inr ⟨rfl, rfl⟩)) (js_one (j1_expr (je_call h_check_cell rfl (ja_cons (je_var rfl (by first | exact Or.inl rfl | exact Or.inr (Or.inl rfl) | exact Or.inr (Or.inr rfl)) rfl rfl) ja_nil (fun _ => rfl)) rfl (fun _ => rfl) (fun _ => rfl)) (fun _ => rfl))) (fun _ _ => rfl))))
theorem sc__law_same : FnScope ["told", "due", "k"] ["told", "due"] (defScope (top 20)) := ⟨rfl, rfl, rfl, by decide +kernel, rfl, by decide +kernel, by decide +kernel⟩
theorem j__law_same {k : Nat} (C : Ctx K mg) (Rec : MF) (h_rec : FnAt P w K mg base k "_law_same" [] Rec) : JS ⟨P, w, K, mg, base, ["told", "due", "k"], defScope (top 20), k, false, none⟩ (defBody (top 20)) (b__law_same Rec) :=
  (js_cons (j1_if (jt_cmp (fun X F => op_gIs F) (je_var rfl (by first | exact Or.inl rfl | exact Or.inr (Or.inl rfl) | exact Or.inr (Or.inr rfl)) rfl rfl) je_non rfl) (js_one (j1_ret (je_cmp (fun X F => op_gIs F) (je_var rfl (by first | exact Or.inl rfl | exact Or.inr (Or.inl rfl) | exact Or.inr (Or.inr rfl)) rfl rfl) je_non rfl))) js_nil) (js_cons (j1_if (jt_cmp (fun X F => op_gIsX F) (je_var rfl (by first | exact Or.inl rfl | exact Or.inr (Or.inl rfl) | exact Or.inr (Or.inr rfl)) rfl rfl) je_bl rfl) (js_one (j1_ret (je_cmp (fun X F => op_gIsX F) (je_var rfl (by first | exact Or.inl rfl | exact Or.inr (Or.inl rfl) | exact Or.inr (Or.inr rfl)) rfl rfl) je_bl rfl))) js_nil) (js_cons (j1_if (jt_cmp (fun X F => op_gIsX F) (je_var rfl (by first | exact Or.inl rfl | exact Or.inr (Or.inl rfl) | exact Or.inr (Or.inr rfl)) rfl rfl) je_bl rfl) (js_one (j1_ret (je_cmp (fun X F => op_gIsX F) (je_var rfl (by first | exact Or.inl rfl | exact Or.inr (Or.inl rfl) | exact Or.inr (Or.inr rfl)) rfl rfl) je_bl rfl))) js_nil) (js_cons (j1_if (jt_tr (je_isiB (n := "int") isB_ok (je_var rfl (by first | exact Or.inl rfl | exact Or.inr (Or.inl rfl) | exact Or.inr (Or.inr rfl)) rfl rfl) rfl C.n_isinstance rfl C.n_int (by decide +kernel) (by decide) rfl (fun _ => rfl)) (fun _ _ => rfl)) (js_one (j1_ret (je_and (je_isiB (n := "int") isB_ok (je_var rfl (by first | exact Or.inl rfl | exact Or.inr (Or.inl rfl) | exact Or.inr (Or.inr rfl)) rfl rfl) rfl C.n_isinstance rfl C.n_int (by decide +kernel) (by decide) rfl (fun _ => rfl)) (je_and (je_not (je_isiB (n := "bool") isB_ok (je_var rfl (by first | exact Or.inl rfl | exact Or.inr (Or.inl rfl) | exact Or.inr (Or.inr rfl)) rfl rfl) rfl C.n_isinstance rfl C.n_bool (by decide +kernel) (by decide) rfl (fun _ => rfl))) (je_one (je_cmp (fun X F => op_gEqY F) (je_var rfl (by first | exact Or.inl rfl | exact Or.inr (Or.inl rfl) | exact Or.inr (Or.inr rfl)) rfl rfl) (je_var rfl (by first | exact Or.inl rfl | exact Or.inr (Or.inl rfl) | exact Or.inr (Or.inr rfl)) rfl rfl) rfl)))))) js_nil) (js_cons (j1_if (jt_tr (je_isiB (n := "str") isB_ok (je_var rfl (by first | exact Or.inl rfl | exact Or.inr (Or.inl rfl) | exact Or.inr (Or.inr rfl)) rfl rfl) rfl C.n_isinstance rfl C.n_str (by decide +kernel) (by decide) rfl (fun _ => rfl)) (fun _ _ => rfl)) (js_one (j1_ret (je_and (je_isiB (n := "str") isB_ok (je_var rfl (by first | exact Or.inl rfl | exact Or.inr (Or.inl rfl) | exact Or.inr (Or.inr rfl)) rfl rfl) rfl C.n_isinstance rfl C.n_str (by decide +kernel) (by decide) rfl (fun _ => rfl)) (je_one (je_cmp (fun X F => op_gEqY F) (je_var rfl (by first | exact Or.inl rfl | exact Or.inr (Or.inl rfl) | exact Or.inr (Or.inr rfl)) rfl rfl) (je_var rfl (by first | exact Or.inl rfl | exact Or.inr (Or.inl rfl) | exact Or.inr (Or.inr rfl)) rfl rfl) rfl))))) js_nil) (js_cons (j1_if (jt_w (jw_and (jt_tr (je_isiB (n := "tuple") isB_ok (je_var rfl (by first | exact Or.inl rfl | exact Or.inr (Or.inl rfl) | exact Or.inr (Or.inr rfl)) rfl rfl) rfl C.n_isinstance rfl C.n_tuple (by decide +kernel) (by decide) rfl (fun _ => rfl)) (fun _ _ => rfl)) (jw_and1 (jt_not (jt_tr (je_isiB (n := "tuple") isB_ok (je_var rfl (by first | exact Or.inl rfl | exact Or.inr (Or.inl rfl) | exact Or.inr (Or.inr rfl)) rfl rfl) rfl C.n_isinstance rfl C.n_tuple (by decide +kernel) (by decide) rfl (fun _ => rfl)) (fun _ _ => rfl)))))) (js_one (j1_ret je_bl)) js_nil) (js_cons (j1_if (jt_w (jw_and (jt_tr (je_isiB (n := "list") isB_ok (je_var rfl (by first | exact Or.inl rfl | exact Or.inr (Or.inl rfl) | exact Or.inr (Or.inr rfl)) rfl rfl) rfl C.n_isinstance rfl C.n_list (by decide +kernel) (by decide) rfl (fun _ => rfl)) (fun _ _ => rfl)) (jw_and1 (jt_not (jt_tr (je_isiB (n := "list") isB_ok (je_var rfl (by first | exact Or.inl rfl | exact Or.inr (Or.inl rfl) | exact Or.inr (Or.inr rfl)) rfl rfl) rfl C.n_isinstance rfl C.n_list (by decide +kernel) (by decide) rfl (fun _ => rfl)) (fun _ _ => rfl)))))) (js_one (j1_ret je_bl)) js_nil) (js_cons (j1_if (jt_cmp (fun X F => op_gNeY F) (je_prB (fun X F => call_gLen F) rfl C.n_len (by decide +kernel) (ja_cons (je_var rfl (by first | exact Or.inl rfl | exact Or.inr (Or.inl rfl) | exact Or.inr (Or.inr rfl)) rfl rfl) ja_nil (fun _ => rfl)) (by decide) rfl (fun _ => rfl) (fun _ => rfl)) (je_prB (fun X F => call_gLen F) rfl C.n_len (by decide +kernel) (ja_cons (je_var rfl (by first | exact Or.inl rfl | exact Or.inr (Or.inl rfl) | exact Or.inr (Or.inr rfl)) rfl rfl) ja_nil (fun _ => rfl)) (by decide) rfl (fun _ => rfl) (fun _ => rfl)) rfl) (js_one (j1_ret je_bl)) js_nil) (js_cons (j1_for (ji_rg1 rfl C.n_range (ja_cons (je_prB (fun X F => call_gLen F) rfl C.n_len (by decide +kernel) (ja_cons (je_var rfl (by first | exact Or.inl rfl | exact Or.inr (Or.inl rfl) | exact Or.inr (Or.inr rfl)) rfl rfl) ja_nil (fun _ => rfl)) (by decide) rfl (fun _ => rfl) (fun _ => rfl)) ja_nil (fun _ => rfl)) (fun _ => rfl)) (jg_name rfl (by first | exact Or.inl rfl | exact Or.inr ⟨rfl, rfl⟩)) (js_one (j1_if (jt_not (jt_tr (je_call h_rec rfl (ja_cons (je_ix (fun X F => ix_gIx F) (je_var rfl (by first | exact Or.inl rfl | exact Or.inr (Or.inl rfl) | exact Or.inr (Or.inr rfl)) rfl rfl) (je_var rfl (by first | exact Or.inl rfl | exact Or.inr (Or.inl rfl) | exact Or.inr (Or.inr rfl)) rfl rfl) (fun _ _ => rfl)) (ja_cons (je_ix (fun X F => ix_gIx F) (je_var rfl (by first | exact Or.inl rfl | exact Or.inr (Or.inl rfl) | exact Or.inr (Or.inr rfl)) rfl rfl) (je_var rfl (by first | exact Or.inl rfl | exact Or.inr (Or.inl rfl) | exact Or.inr (Or.inr rfl)) rfl rfl) (fun _ _ => rfl)) ja_nil (fun _ => rfl)) (fun _ => rfl)) rfl (fun _ => rfl) (fun _ => rfl)) (fun _ _ => rfl))) (js_one (j1_ret je_bl)) js_nil)) (fun _ _ => rfl)) (js_one (j1_ret je_bl)))))))))))
theorem sc_Bank___init__ : FnScope ["self", "extra", "cell"] ["self", "extra"] (defScope (clsMeth (top 17) 0)) := ⟨rfl, rfl, rfl, by decide +kernel, rfl, by decide +kernel, by decide +kernel⟩
theorem j_Bank___init__ (C : Ctx K mg) (h_check_cells : FnAt P w K mg base 5 "check_cells" [] f_check_cells) (h__check_off_shore : FnAt P w K mg base 5 "_check_off_shore" [] f__check_off_shore) : JS ⟨P, w, K, mg, base, ["self", "extra", "cell"], defScope (clsMeth (top 17) 0), 5, false, none⟩ (defBody (clsMeth (top 17) 0)) b_Bank___init__ :=
  (js_cons (j1_expr (je_call h_check_cells rfl (ja_cons (je_var rfl (by first | exact Or.inl rfl | exact Or.inr (Or.inl rfl) | exact Or.inr (Or.inr rfl)) rfl rfl) (ja_cons (je_glob rfl C.c__MOST_EXTRA rfl) ja_nil (fun _ => rfl)) (fun _ => rfl)) rfl (fun _ => rfl) (fun _ => rfl)) (fun _ => rfl)) (js_cons (j1_expr (je_call h__check_off_shore rfl (ja_cons (je_var rfl (by first | exact Or.inl rfl | exact Or.inr (Or.inl rfl) | exact Or.inr (Or.inr rfl)) rfl rfl) ja_nil (fun _ => rfl)) rfl (fun _ => rfl) (fun _ => rfl)) (fun _ => rfl)) (js_cons (j1_setF (List.forall_mem_cons.mpr ⟨C.fl_Bank__places, (fun c h => absurd h List.not_mem_nil)⟩) (je_var rfl (by first | exact Or.inl rfl | exact Or.inr (Or.inl rfl) | exact Or.inr (Or.inr rfl)) rfl rfl) (je_dt2 (own := [("cell", 2)]) (ji_seq (je_var rfl (by first | exact Or.inl rfl | exact Or.inr (Or.inl rfl) | exact Or.inr (Or.inr rfl)) rfl rfl)) rfl (jg_name rfl (by first | exact Or.inl rfl | exact Or.inr ⟨rfl, rfl⟩)) jts_nil (je_var rfl (by first | exact Or.inl rfl | exact Or.inr (Or.inl rfl) | exact Or.inr (Or.inr rfl)) rfl rfl) je_bl (by decide) (fun _ _ => rfl)) (fun _ => rfl)) (js_one (j1_setF (List.forall_mem_cons.mpr ⟨C.fl_Bank_extra, (fun c h => absurd h List.not_mem_nil)⟩) (je_var rfl (by first | exact Or.inl rfl | exact Or.inr (Or.inl rfl) | exact Or.inr (Or.inr rfl)) rfl rfl) (je_prT (fun X F => call_gTuple F) rfl C.n_tuple (by decide +kernel) (ja_cons (je_prB (fun X F => call_gSortedP F) rfl C.n_sorted (by decide +kernel) (ja_cons (je_prT (fun X F => call_gList F) rfl C.n_list (by decide +kernel) (ja_cons (je_att ⟨C.fl_Bank__places, trivial⟩ (je_var rfl (by first | exact Or.inl rfl | exact Or.inr (Or.inl rfl) | exact Or.inr (Or.inr rfl)) rfl rfl) (fun _ => rfl)) ja_nil (fun _ => rfl)) (by decide) rfl (fun _ => rfl) (fun _ => rfl)) ja_nil (fun _ => rfl)) (by decide) rfl (fun _ => rfl) (fun _ => rfl)) ja_nil (fun _ => rfl)) (by decide) rfl (fun _ => rfl) (fun _ => rfl)) (fun _ => rfl))))))
theorem sc__law_made : FnScope ["cells", "bank", "e", "kin"] ["cells"] (defScope (top 27)) := ⟨rfl, rfl, rfl, by decide +kernel, rfl, by decide +kernel, by decide +kernel⟩
theorem j__law_made (C : Ctx K mg) (mk_Bank___init___0 : MakA P w K mg base 6 "Bank" [] f_Bank___init__) : JS ⟨P, w, K, mg, base, ["cells", "bank", "e", "kin"], defScope (top 27), 7, false, none⟩ (defBody (top 27)) b__law_made :=
  (js_cons (j1_tryM rfl (js_one (j1_set rfl (by first | exact Or.inl rfl | exact Or.inr ⟨rfl, rfl⟩) (je_make (k := 6) mk_Bank___init___0 (show 6 + 1 ≤ 7 by decide) rfl (ja_cons (je_var rfl (by first | exact Or.inl rfl | exact Or.inr (Or.inl rfl) | exact Or.inr (Or.inr rfl)) rfl rfl) ja_nil (fun _ => rfl)) rfl (fun _ => rfl) (fun _ => rfl)) (fun _ => rfl))) (.cons (i := 2) rfl rfl (names_own rfl rfl C.x_TooMany) (exmTab_ok C.xm_TooMany) (fun a oe c m => (js_cons (j1_set rfl (by first | exact Or.inl rfl | exact Or.inr ⟨rfl, rfl⟩) (je_and (je_xisOC rfl (by first | exact Or.inl rfl | exact Or.inr (Or.inl rfl) | exact Or.inr (Or.inr rfl)) rfl rfl rfl C.n_isinstance rfl C.x_PlayError rfl C.xi_PlayError) (je_one (je_xisBC (T := "ValueError") rfl (by first | exact Or.inl rfl | exact Or.inr (Or.inl rfl) | exact Or.inr (Or.inr rfl)) rfl rfl rfl C.n_isinstance rfl C.n_ValueError (by decide +kernel) (by decide) rfl C.xi_ValueError))) (fun _ => rfl)) (js_one (j1_ret (je_tup (ja_cons je_str (ja_cons (je_xfC rfl (by first | exact Or.inl rfl | exact Or.inr (Or.inl rfl) | exact Or.inr (Or.inr rfl)) rfl rfl C.xf_most (fun _ => rfl)) (ja_cons (je_and (je_var rfl (by first | exact Or.inl rfl | exact Or.inr (Or.inl rfl) | exact Or.inr (Or.inr rfl)) rfl rfl) (je_one (je_not (je_xisTC rfl (by first | exact Or.inl rfl | exact Or.inr (Or.inl rfl) | exact Or.inr (Or.inr rfl)) rfl rfl rfl C.n_isinstance (.cons rfl C.x_BadCell rfl (.cons rfl C.x_OnShore rfl .nil)) (by decide) C.xt_0)))) ja_nil (fun _ => rfl)) (fun _ => rfl)) (fun _ => rfl))))))) (.cons (i := 2) rfl rfl (names_own rfl rfl C.x_BadCell) (exmTab_ok C.xm_BadCell) (fun a oe c m => (js_cons (j1_set rfl (by first | exact Or.inl rfl | exact Or.inr ⟨rfl, rfl⟩) (je_and (je_xisOC rfl (by first | exact Or.inl rfl | exact Or.inr (Or.inl rfl) | exact Or.inr (Or.inr rfl)) rfl rfl rfl C.n_isinstance rfl C.x_PlayError rfl C.xi_PlayError) (je_one (je_xisBC (T := "ValueError") rfl (by first | exact Or.inl rfl | exact Or.inr (Or.inl rfl) | exact Or.inr (Or.inr rfl)) rfl rfl rfl C.n_isinstance rfl C.n_ValueError (by decide +kernel) (by decide) rfl C.xi_ValueError))) (fun _ => rfl)) (js_one (j1_ret (je_tup (ja_cons je_str (ja_cons (je_xfC rfl (by first | exact Or.inl rfl | exact Or.inr (Or.inl rfl) | exact Or.inr (Or.inr rfl)) rfl rfl C.xf_cell (fun _ => rfl)) (ja_cons (je_and (je_var rfl (by first | exact Or.inl rfl | exact Or.inr (Or.inl rfl) | exact Or.inr (Or.inr rfl)) rfl rfl) (je_one (je_not (je_xisTC rfl (by first | exact Or.inl rfl | exact Or.inr (Or.inl rfl) | exact Or.inr (Or.inr rfl)) rfl rfl rfl C.n_isinstance (.cons rfl C.x_TooMany rfl (.cons rfl C.x_OnShore rfl .nil)) (by decide) C.xt_1)))) ja_nil (fun _ => rfl)) (fun _ => rfl)) (fun _ => rfl))))))) (.cons (i := 2) rfl rfl (names_own rfl rfl C.x_OnShore) (exmTab_ok C.xm_OnShore) (fun a oe c m => (js_cons (j1_set rfl (by first | exact Or.inl rfl | exact Or.inr ⟨rfl, rfl⟩) (je_and (je_xisOC rfl (by first | exact Or.inl rfl | exact Or.inr (Or.inl rfl) | exact Or.inr (Or.inr rfl)) rfl rfl rfl C.n_isinstance rfl C.x_PlayError rfl C.xi_PlayError) (je_one (je_xisBC (T := "ValueError") rfl (by first | exact Or.inl rfl | exact Or.inr (Or.inl rfl) | exact Or.inr (Or.inr rfl)) rfl rfl rfl C.n_isinstance rfl C.n_ValueError (by decide +kernel) (by decide) rfl C.xi_ValueError))) (fun _ => rfl)) (js_one (j1_ret (je_tup (ja_cons je_str (ja_cons (je_xfC rfl (by first | exact Or.inl rfl | exact Or.inr (Or.inl rfl) | exact Or.inr (Or.inr rfl)) rfl rfl C.xf_cell (fun _ => rfl)) (ja_cons (je_and (je_var rfl (by first | exact Or.inl rfl | exact Or.inr (Or.inl rfl) | exact Or.inr (Or.inr rfl)) rfl rfl) (je_one (je_not (je_xisTC rfl (by first | exact Or.inl rfl | exact Or.inr (Or.inl rfl) | exact Or.inr (Or.inr rfl)) rfl rfl rfl C.n_isinstance (.cons rfl C.x_TooMany rfl (.cons rfl C.x_BadCell rfl .nil)) (by decide) C.xt_2)))) ja_nil (fun _ => rfl)) (fun _ => rfl)) (fun _ => rfl))))))) .nil)))) (js_one (j1_ret (je_tup (ja_cons je_str (ja_cons (je_att ⟨C.fl_Bank_extra, trivial⟩ (je_var rfl (by first | exact Or.inl rfl | exact Or.inr (Or.inl rfl) | exact Or.inr (Or.inr rfl)) rfl rfl) (fun _ => rfl)) (ja_cons je_bl ja_nil (fun _ => rfl)) (fun _ => rfl)) (fun _ => rfl))))))
theorem sc_Bank___or__ : FnScope ["self", "other", "further", "cell"] ["self", "other"] (defScope (clsMeth (top 17) 4)) := ⟨rfl, rfl, rfl, by decide +kernel, rfl, by decide +kernel, by decide +kernel⟩
theorem j_Bank___or__ (C : Ctx K mg) (mk_Bank___init___0 : MakA P w K mg base 6 "Bank" [] f_Bank___init__) : JS ⟨P, w, K, mg, base, ["self", "other", "further", "cell"], defScope (clsMeth (top 17) 4), 7, false, none⟩ (defBody (clsMeth (top 17) 4)) b_Bank___or__ :=
  (js_cons (j1_setLc rfl rfl rfl rfl (own := [("cell", 3)]) (ji_seq (je_att ⟨C.fl_Bank_extra, trivial⟩ (je_var rfl (by first | exact Or.inl rfl | exact Or.inr (Or.inl rfl) | exact Or.inr (Or.inr rfl)) rfl rfl) (fun _ => rfl))) rfl (jg_name rfl (by first | exact Or.inl rfl | exact Or.inr ⟨rfl, rfl⟩)) (jts_one (jt_cmp (fun X F => op_gNotInY F) (je_var rfl (by first | exact Or.inl rfl | exact Or.inr (Or.inl rfl) | exact Or.inr (Or.inr rfl)) rfl rfl) (je_att ⟨C.fl_Bank__places, trivial⟩ (je_var rfl (by first | exact Or.inl rfl | exact Or.inr (Or.inl rfl) | exact Or.inr (Or.inr rfl)) rfl rfl) (fun _ => rfl)) rfl)) (je_var rfl (by first | exact Or.inl rfl | exact Or.inr (Or.inl rfl) | exact Or.inr (Or.inr rfl)) rfl rfl) (by decide) (fun _ _ => rfl) rfl) (js_one (j1_ret (je_make (k := 6) mk_Bank___init___0 (show 6 + 1 ≤ 7 by decide) rfl (ja_cons (je_bin (fun X F => op_gAdd F) (je_prT (fun X F => call_gList F) rfl C.n_list (by decide +kernel) (ja_cons (je_att ⟨C.fl_Bank_extra, trivial⟩ (je_var rfl (by first | exact Or.inl rfl | exact Or.inr (Or.inl rfl) | exact Or.inr (Or.inr rfl)) rfl rfl) (fun _ => rfl)) ja_nil (fun _ => rfl)) (by decide) rfl (fun _ => rfl) (fun _ => rfl)) (je_var rfl (by first | exact Or.inl rfl | exact Or.inr (Or.inl rfl) | exact Or.inr (Or.inr rfl)) rfl rfl)) ja_nil (fun _ => rfl)) rfl (fun _ => rfl) (fun _ => rfl)))))
theorem sc_Bank___and__ : FnScope ["self", "other", "cell"] ["self", "other"] (defScope (clsMeth (top 17) 5)) := ⟨rfl, rfl, rfl, by decide +kernel, rfl, by decide +kernel, by decide +kernel⟩
theorem j_Bank___and__ (C : Ctx K mg) (m_Bank___contains__ : MetA P w K mg base 7 "Bank" "__contains__" [] f_Bank___contains__) (mk_Bank___init___0 : MakA P w K mg base 6 "Bank" [] f_Bank___init__) : JS ⟨P, w, K, mg, base, ["self", "other", "cell"], defScope (clsMeth (top 17) 5), 7, false, none⟩ (defBody (clsMeth (top 17) 5)) b_Bank___and__ :=
  (js_one (j1_ret (je_make (k := 6) mk_Bank___init___0 (show 6 + 1 ≤ 7 by decide) rfl (ja_cons (je_lc (own := [("cell", 2)]) (ji_seq (je_att ⟨C.fl_Bank_extra, trivial⟩ (je_var rfl (by first | exact Or.inl rfl | exact Or.inr (Or.inl rfl) | exact Or.inr (Or.inr rfl)) rfl rfl) (fun _ => rfl))) rfl (jg_name rfl (by first | exact Or.inl rfl | exact Or.inr ⟨rfl, rfl⟩)) (jts_one (jt_c (jc_inO (by decide) ⟨⟨m_Bank___contains__, C.sf_Bank⟩, trivial⟩ (fun X F => op_gInY F) (je_var rfl (by first | exact Or.inl rfl | exact Or.inr (Or.inl rfl) | exact Or.inr (Or.inr rfl)) rfl rfl) (je_var rfl (by first | exact Or.inl rfl | exact Or.inr (Or.inl rfl) | exact Or.inr (Or.inr rfl)) rfl rfl)) rfl)) (je_var rfl (by first | exact Or.inl rfl | exact Or.inr (Or.inl rfl) | exact Or.inr (Or.inr rfl)) rfl rfl) (by decide) (fun _ _ => rfl)) ja_nil (fun _ => rfl)) rfl (fun _ => rfl) (fun _ => rfl))))
theorem sc__law_pair : FnScope ["bank", "other", "one", "two", "joined", "common", "cell", "banks", "lots", "k", "n", "within", "back", "less"] ["bank", "other", "one", "two"] (defScope (top 26)) := ⟨rfl, rfl, rfl, by decide +kernel, rfl, by decide +kernel, by decide +kernel⟩
theorem j__law_pair (C : Ctx K mg) (m_Bank___and__ : MetA P w K mg base 8 "Bank" "__and__" [] f_Bank___and__) (m_Bank___or__ : MetA P w K mg base 8 "Bank" "__or__" [] f_Bank___or__) (m_Bank___eq__ : MetA P w K mg base 8 "Bank" "__eq__" [] f_Bank___eq__) (m_Bank_inside : MetA P w K mg base 8 "Bank" "inside" [] f_Bank_inside) (mk_Bank___init___1 : MakA P w K mg base 7 "Bank" [(.ct [])] f_Bank___init__) (h__law_plain : FnAt P w K mg base 8 "_law_plain" [] f__law_plain) (h__law_members : FnAt P w K mg base 8 "_law_members" [] f__law_members) (h__law_same : FnAt P w K mg base 8 "_law_same" [] f__law_same) (h__law_within : FnAt P w K mg base 8 "_law_within" [] f__law_within) : JS ⟨P, w, K, mg, base, ["bank", "other", "one", "two", "joined", "common", "cell", "banks", "lots", "k", "n", "within", "back", "less"], defScope (top 26), 8, false, none⟩ (defBody (top 26)) b__law_pair :=
  (js_cons (j1_set rfl (by first | exact Or.inl rfl | exact Or.inr ⟨rfl, rfl⟩) (je_call h__law_plain rfl (ja_cons (je_bin (fun X F => op_gAdd F) (je_var rfl (by first | exact Or.inl rfl | exact Or.inr (Or.inl rfl) | exact Or.inr (Or.inr rfl)) rfl rfl) (je_var rfl (by first | exact Or.inl rfl | exact Or.inr (Or.inl rfl) | exact Or.inr (Or.inr rfl)) rfl rfl)) ja_nil (fun _ => rfl)) rfl (fun _ => rfl) (fun _ => rfl)) (fun _ => rfl)) (js_cons (j1_setLc rfl rfl rfl rfl (own := [("cell", 6)]) (ji_seq (je_var rfl (by first | exact Or.inl rfl | exact Or.inr (Or.inl rfl) | exact Or.inr (Or.inr rfl)) rfl rfl)) rfl (jg_name rfl (by first | exact Or.inl rfl | exact Or.inr ⟨rfl, rfl⟩)) (jts_one (jt_cmp (fun X F => op_gInY F) (je_var rfl (by first | exact Or.inl rfl | exact Or.inr (Or.inl rfl) | exact Or.inr (Or.inr rfl)) rfl rfl) (je_var rfl (by first | exact Or.inl rfl | exact Or.inr (Or.inl rfl) | exact Or.inr (Or.inr rfl)) rfl rfl) rfl)) (je_var rfl (by first | exact Or.inl rfl | exact Or.inr (Or.inl rfl) | exact Or.inr (Or.inr rfl)) rfl rfl) (by decide) (fun _ _ => rfl) rfl) (js_cons (j1_set rfl (by first | exact Or.inl rfl | exact Or.inr ⟨rfl, rfl⟩) (je_lst (ja_cons (je_var rfl (by first | exact Or.inl rfl | exact Or.inr (Or.inl rfl) | exact Or.inr (Or.inr rfl)) rfl rfl) (ja_cons (je_var rfl (by first | exact Or.inl rfl | exact Or.inr (Or.inl rfl) | exact Or.inr (Or.inr rfl)) rfl rfl) (ja_cons (je_opO rfl ⟨⟨m_Bank___or__, C.sf_Bank⟩, trivial⟩ (fun X F => op_no2) (je_var rfl (by first | exact Or.inl rfl | exact Or.inr (Or.inl rfl) | exact Or.inr (Or.inr rfl)) rfl rfl) (je_var rfl (by first | exact Or.inl rfl | exact Or.inr (Or.inl rfl) | exact Or.inr (Or.inr rfl)) rfl rfl)) (ja_cons (je_opO rfl ⟨⟨m_Bank___and__, C.sf_Bank⟩, trivial⟩ (fun X F => op_no2) (je_var rfl (by first | exact Or.inl rfl | exact Or.inr (Or.inl rfl) | exact Or.inr (Or.inr rfl)) rfl rfl) (je_var rfl (by first | exact Or.inl rfl | exact Or.inr (Or.inl rfl) | exact Or.inr (Or.inr rfl)) rfl rfl)) (ja_cons (je_make0 (k := 7) mk_Bank___init___1 (show 7 + 1 ≤ 8 by decide) rfl rfl) ja_nil (fun _ => rfl)) (fun _ => rfl)) (fun _ => rfl)) (fun _ => rfl)) (fun _ => rfl))) (fun _ => rfl)) (js_cons (j1_set rfl (by first | exact Or.inl rfl | exact Or.inr ⟨rfl, rfl⟩) (je_lst (ja_cons (je_var rfl (by first | exact Or.inl rfl | exact Or.inr (Or.inl rfl) | exact Or.inr (Or.inr rfl)) rfl rfl) (ja_cons (je_var rfl (by first | exact Or.inl rfl | exact Or.inr (Or.inl rfl) | exact Or.inr (Or.inr rfl)) rfl rfl) (ja_cons (je_var rfl (by first | exact Or.inl rfl | exact Or.inr (Or.inl rfl) | exact Or.inr (Or.inr rfl)) rfl rfl) (ja_cons (je_var rfl (by first | exact Or.inl rfl | exact Or.inr (Or.inl rfl) | exact Or.inr (Or.inr rfl)) rfl rfl) (ja_cons (je_lst ja_nil) ja_nil (fun _ => rfl)) (fun _ => rfl)) (fun _ => rfl)) (fun _ => rfl)) (fun _ => rfl))) (fun _ => rfl)) (js_cons (j1_for (ji_rg1 rfl C.n_range (ja_cons je_int ja_nil (fun _ => rfl)) (fun _ => rfl)) (jg_name rfl (by first | exact Or.inl rfl | exact Or.inr ⟨rfl, rfl⟩)) (js_cons (j1_if (jt_w (jw_or (jt_not (jt_tr (je_isiO (isoB_ok C.io_Bank) (je_ix (fun X F => ix_gIx F) (je_var rfl (by first | exact Or.inl rfl | exact Or.inr (Or.inl rfl) | exact Or.inr (Or.inr rfl)) rfl rfl) (je_var rfl (by first | exact Or.inl rfl | exact Or.inr (Or.inl rfl) | exact Or.inr (Or.inr rfl)) rfl rfl) (fun _ _ => rfl)) rfl C.n_isinstance rfl C.x_Bank rfl (fun _ => rfl)) (fun _ _ => rfl))) (jw_or1 (jt_not (jt_tr (je_call h__law_members rfl (ja_cons (je_ix (fun X F => ix_gIx F) (je_var rfl (by first | exact Or.inl rfl | exact Or.inr (Or.inl rfl) | exact Or.inr (Or.inr rfl)) rfl rfl) (je_var rfl (by first | exact Or.inl rfl | exact Or.inr (Or.inl rfl) | exact Or.inr (Or.inr rfl)) rfl rfl) (fun _ _ => rfl)) (ja_cons (je_ix (fun X F => ix_gIx F) (je_var rfl (by first | exact Or.inl rfl | exact Or.inr (Or.inl rfl) | exact Or.inr (Or.inr rfl)) rfl rfl) (je_var rfl (by first | exact Or.inl rfl | exact Or.inr (Or.inl rfl) | exact Or.inr (Or.inr rfl)) rfl rfl) (fun _ _ => rfl)) ja_nil (fun _ => rfl)) (fun _ => rfl)) rfl (fun _ => rfl) (fun _ => rfl)) (fun _ _ => rfl)))))) (js_one (j1_ret je_bl)) js_nil) (js_cons (j1_if (jt_not (jt_tr (je_call h__law_same rfl (ja_cons (je_att ⟨C.fl_Bank_extra, trivial⟩ (je_ix (fun X F => ix_gIx F) (je_var rfl (by first | exact Or.inl rfl | exact Or.inr (Or.inl rfl) | exact Or.inr (Or.inr rfl)) rfl rfl) (je_var rfl (by first | exact Or.inl rfl | exact Or.inr (Or.inl rfl) | exact Or.inr (Or.inr rfl)) rfl rfl) (fun _ _ => rfl)) (fun _ => rfl)) (ja_cons (je_prT (fun X F => call_gTuple F) rfl C.n_tuple (by decide +kernel) (ja_cons (je_ix (fun X F => ix_gIx F) (je_var rfl (by first | exact Or.inl rfl | exact Or.inr (Or.inl rfl) | exact Or.inr (Or.inr rfl)) rfl rfl) (je_var rfl (by first | exact Or.inl rfl | exact Or.inr (Or.inl rfl) | exact Or.inr (Or.inr rfl)) rfl rfl) (fun _ _ => rfl)) ja_nil (fun _ => rfl)) (by decide) rfl (fun _ => rfl) (fun _ => rfl)) ja_nil (fun _ => rfl)) (fun _ => rfl)) rfl (fun _ => rfl) (fun _ => rfl)) (fun _ _ => rfl))) (js_one (j1_ret je_bl)) js_nil) (js_cons (j1_if (jt_not (jt_tr (je_call h__law_same rfl (ja_cons (je_c (jc_eqO ⟨⟨m_Bank___eq__, nfB_ok C.nf_Bank⟩, trivial⟩ (fun X F => op_gEqY F) (je_ix (fun X F => ix_gIx F) (je_var rfl (by first | exact Or.inl rfl | exact Or.inr (Or.inl rfl) | exact Or.inr (Or.inr rfl)) rfl rfl) (je_var rfl (by first | exact Or.inl rfl | exact Or.inr (Or.inl rfl) | exact Or.inr (Or.inr rfl)) rfl rfl) (fun _ _ => rfl)) (je_prT (fun X F => call_gTuple F) rfl C.n_tuple (by decide +kernel) (ja_cons (je_ix (fun X F => ix_gIx F) (je_var rfl (by first | exact Or.inl rfl | exact Or.inr (Or.inl rfl) | exact Or.inr (Or.inr rfl)) rfl rfl) (je_var rfl (by first | exact Or.inl rfl | exact Or.inr (Or.inl rfl) | exact Or.inr (Or.inr rfl)) rfl rfl) (fun _ _ => rfl)) ja_nil (fun _ => rfl)) (by decide) rfl (fun _ => rfl) (fun _ => rfl))) rfl) (ja_cons je_bl ja_nil (fun _ => rfl)) (fun _ => rfl)) rfl (fun _ => rfl) (fun _ => rfl)) (fun _ _ => rfl))) (js_one (j1_ret je_bl)) js_nil) (js_cons (j1_if (jt_not (jt_tr (je_call h__law_same rfl (ja_cons (je_c (jc_eqO ⟨⟨m_Bank___eq__, nfB_ok C.nf_Bank⟩, trivial⟩ (fun X F => op_gEqY F) (je_ix (fun X F => ix_gIx F) (je_var rfl (by first | exact Or.inl rfl | exact Or.inr (Or.inl rfl) | exact Or.inr (Or.inr rfl)) rfl rfl) (je_var rfl (by first | exact Or.inl rfl | exact Or.inr (Or.inl rfl) | exact Or.inr (Or.inr rfl)) rfl rfl) (fun _ _ => rfl)) je_non) rfl) (ja_cons je_bl ja_nil (fun _ => rfl)) (fun _ => rfl)) rfl (fun _ => rfl) (fun _ => rfl)) (fun _ _ => rfl))) (js_one (j1_ret je_bl)) js_nil) (js_one (j1_for (ji_rg1 rfl C.n_range (ja_cons je_int ja_nil (fun _ => rfl)) (fun _ => rfl)) (jg_name rfl (by first | exact Or.inl rfl | exact Or.inr ⟨rfl, rfl⟩)) (js_cons (j1_set rfl (by first | exact Or.inl rfl | exact Or.inr ⟨rfl, rfl⟩) (je_call h__law_within rfl (ja_cons (je_ix (fun X F => ix_gIx F) (je_var rfl (by first | exact Or.inl rfl | exact Or.inr (Or.inl rfl) | exact Or.inr (Or.inr rfl)) rfl rfl) (je_var rfl (by first | exact Or.inl rfl | exact Or.inr (Or.inl rfl) | exact Or.inr (Or.inr rfl)) rfl rfl) (fun _ _ => rfl)) (ja_cons (je_ix (fun X F => ix_gIx F) (je_var rfl (by first | exact Or.inl rfl | exact Or.inr (Or.inl rfl) | exact Or.inr (Or.inr rfl)) rfl rfl) (je_var rfl (by first | exact Or.inl rfl | exact Or.inr (Or.inl rfl) | exact Or.inr (Or.inr rfl)) rfl rfl) (fun _ _ => rfl)) ja_nil (fun _ => rfl)) (fun _ => rfl)) rfl (fun _ => rfl) (fun _ => rfl)) (fun _ => rfl)) (js_cons (j1_if (jt_not (jt_tr (je_call h__law_same rfl (ja_cons (je_meth ⟨m_Bank_inside, trivial⟩ (je_ix (fun X F => ix_gIx F) (je_var rfl (by first | exact Or.inl rfl | exact Or.inr (Or.inl rfl) | exact Or.inr (Or.inr rfl)) rfl rfl) (je_var rfl (by first | exact Or.inl rfl | exact Or.inr (Or.inl rfl) | exact Or.inr (Or.inr rfl)) rfl rfl) (fun _ _ => rfl)) (ja_cons (je_ix (fun X F => ix_gIx F) (je_var rfl (by first | exact Or.inl rfl | exact Or.inr (Or.inl rfl) | exact Or.inr (Or.inr rfl)) rfl rfl) (je_var rfl (by first | exact Or.inl rfl | exact Or.inr (Or.inl rfl) | exact Or.inr (Or.inr rfl)) rfl rfl) (fun _ _ => rfl)) ja_nil (fun _ => rfl)) (fun _ => rfl) (fun _ => rfl) (fun _ => rfl)) (ja_cons (je_var rfl (by first | exact Or.inl rfl | exact Or.inr (Or.inl rfl) | exact Or.inr (Or.inr rfl)) rfl rfl) ja_nil (fun _ => rfl)) (fun _ => rfl)) rfl (fun _ => rfl) (fun _ => rfl)) (fun _ _ => rfl))) (js_one (j1_ret je_bl)) js_nil) (js_one (j1_if (jt_not (jt_tr (je_call h__law_same rfl (ja_cons (je_c (jc_eqO ⟨⟨m_Bank___eq__, nfB_ok C.nf_Bank⟩, trivial⟩ (fun X F => op_gEqY F) (je_ix (fun X F => ix_gIx F) (je_var rfl (by first | exact Or.inl rfl | exact Or.inr (Or.inl rfl) | exact Or.inr (Or.inr rfl)) rfl rfl) (je_var rfl (by first | exact Or.inl rfl | exact Or.inr (Or.inl rfl) | exact Or.inr (Or.inr rfl)) rfl rfl) (fun _ _ => rfl)) (je_ix (fun X F => ix_gIx F) (je_var rfl (by first | exact Or.inl rfl | exact Or.inr (Or.inl rfl) | exact Or.inr (Or.inr rfl)) rfl rfl) (je_var rfl (by first | exact Or.inl rfl | exact Or.inr (Or.inl rfl) | exact Or.inr (Or.inr rfl)) rfl rfl) (fun _ _ => rfl))) rfl) (ja_cons (je_cmp (fun X F => op_gEqY F) (je_ix (fun X F => ix_gIx F) (je_var rfl (by first | exact Or.inl rfl | exact Or.inr (Or.inl rfl) | exact Or.inr (Or.inr rfl)) rfl rfl) (je_var rfl (by first | exact Or.inl rfl | exact Or.inr (Or.inl rfl) | exact Or.inr (Or.inr rfl)) rfl rfl) (fun _ _ => rfl)) (je_ix (fun X F => ix_gIx F) (je_var rfl (by first | exact Or.inl rfl | exact Or.inr (Or.inl rfl) | exact Or.inr (Or.inr rfl)) rfl rfl) (je_var rfl (by first | exact Or.inl rfl | exact Or.inr (Or.inl rfl) | exact Or.inr (Or.inr rfl)) rfl rfl) (fun _ _ => rfl)) rfl) ja_nil (fun _ => rfl)) (fun _ => rfl)) rfl (fun _ => rfl) (fun _ => rfl)) (fun _ _ => rfl))) (js_one (j1_ret je_bl)) js_nil)))) (fun _ _ => rfl))))))) (fun _ _ => rfl)) (js_cons (j1_set rfl (by first | exact Or.inl rfl | exact Or.inr ⟨rfl, rfl⟩) (je_opO rfl ⟨⟨m_Bank___or__, C.sf_Bank⟩, trivial⟩ (fun X F => op_no2) (je_var rfl (by first | exact Or.inl rfl | exact Or.inr (Or.inl rfl) | exact Or.inr (Or.inr rfl)) rfl rfl) (je_var rfl (by first | exact Or.inl rfl | exact Or.inr (Or.inl rfl) | exact Or.inr (Or.inr rfl)) rfl rfl)) (fun _ => rfl)) (js_cons (j1_set rfl (by first | exact Or.inl rfl | exact Or.inr ⟨rfl, rfl⟩) (je_opO rfl ⟨⟨m_Bank___and__, C.sf_Bank⟩, trivial⟩ (fun X F => op_no2) (je_var rfl (by first | exact Or.inl rfl | exact Or.inr (Or.inl rfl) | exact Or.inr (Or.inr rfl)) rfl rfl) (je_var rfl (by first | exact Or.inl rfl | exact Or.inr (Or.inl rfl) | exact Or.inr (Or.inr rfl)) rfl rfl)) (fun _ => rfl)) (js_cons (j1_if (jt_not (jt_tr (je_call h__law_same rfl (ja_cons (je_att ⟨C.fl_Bank_extra, trivial⟩ (je_var rfl (by first | exact Or.inl rfl | exact Or.inr (Or.inl rfl) | exact Or.inr (Or.inr rfl)) rfl rfl) (fun _ => rfl)) (ja_cons (je_prT (fun X F => call_gTuple F) rfl C.n_tuple (by decide +kernel) (ja_cons (je_var rfl (by first | exact Or.inl rfl | exact Or.inr (Or.inl rfl) | exact Or.inr (Or.inr rfl)) rfl rfl) ja_nil (fun _ => rfl)) (by decide) rfl (fun _ => rfl) (fun _ => rfl)) ja_nil (fun _ => rfl)) (fun _ => rfl)) rfl (fun _ => rfl) (fun _ => rfl)) (fun _ _ => rfl))) (js_one (j1_ret je_bl)) js_nil) (js_cons (j1_if (jt_not (jt_tr (je_call h__law_same rfl (ja_cons (je_att ⟨C.fl_Bank_extra, trivial⟩ (je_var rfl (by first | exact Or.inl rfl | exact Or.inr (Or.inl rfl) | exact Or.inr (Or.inr rfl)) rfl rfl) (fun _ => rfl)) (ja_cons (je_prT (fun X F => call_gTuple F) rfl C.n_tuple (by decide +kernel) (ja_cons (je_var rfl (by first | exact Or.inl rfl | exact Or.inr (Or.inl rfl) | exact Or.inr (Or.inr rfl)) rfl rfl) ja_nil (fun _ => rfl)) (by decide) rfl (fun _ => rfl) (fun _ => rfl)) ja_nil (fun _ => rfl)) (fun _ => rfl)) rfl (fun _ => rfl) (fun _ => rfl)) (fun _ _ => rfl))) (js_one (j1_ret je_bl)) js_nil) (js_cons (j1_set rfl (by first | exact Or.inl rfl | exact Or.inr ⟨rfl, rfl⟩) (je_opO rfl ⟨⟨m_Bank___or__, C.sf_Bank⟩, trivial⟩ (fun X F => op_no2) (je_var rfl (by first | exact Or.inl rfl | exact Or.inr (Or.inl rfl) | exact Or.inr (Or.inr rfl)) rfl rfl) (je_var rfl (by first | exact Or.inl rfl | exact Or.inr (Or.inl rfl) | exact Or.inr (Or.inr rfl)) rfl rfl)) (fun _ => rfl)) (js_cons (j1_set rfl (by first | exact Or.inl rfl | exact Or.inr ⟨rfl, rfl⟩) (je_opO rfl ⟨⟨m_Bank___and__, C.sf_Bank⟩, trivial⟩ (fun X F => op_no2) (je_var rfl (by first | exact Or.inl rfl | exact Or.inr (Or.inl rfl) | exact Or.inr (Or.inr rfl)) rfl rfl) (je_var rfl (by first | exact Or.inl rfl | exact Or.inr (Or.inl rfl) | exact Or.inr (Or.inr rfl)) rfl rfl)) (fun _ => rfl)) (js_one (j1_ret (je_and (je_call h__law_same rfl (ja_cons (je_att ⟨C.fl_Bank_extra, trivial⟩ (je_var rfl (by first | exact Or.inl rfl | exact Or.inr (Or.inl rfl) | exact Or.inr (Or.inr rfl)) rfl rfl) (fun _ => rfl)) (ja_cons (je_prT (fun X F => call_gTuple F) rfl C.n_tuple (by decide +kernel) (ja_cons (je_var rfl (by first | exact Or.inl rfl | exact Or.inr (Or.inl rfl) | exact Or.inr (Or.inr rfl)) rfl rfl) ja_nil (fun _ => rfl)) (by decide) rfl (fun _ => rfl) (fun _ => rfl)) ja_nil (fun _ => rfl)) (fun _ => rfl)) rfl (fun _ => rfl) (fun _ => rfl)) (je_one (je_call h__law_same rfl (ja_cons (je_att ⟨C.fl_Bank_extra, trivial⟩ (je_var rfl (by first | exact Or.inl rfl | exact Or.inr (Or.inl rfl) | exact Or.inr (Or.inr rfl)) rfl rfl) (fun _ => rfl)) (ja_cons (je_prT (fun X F => call_gTuple F) rfl C.n_tuple (by decide +kernel) (ja_cons (je_var rfl (by first | exact Or.inl rfl | exact Or.inr (Or.inl rfl) | exact Or.inr (Or.inr rfl)) rfl rfl) ja_nil (fun _ => rfl)) (by decide) rfl (fun _ => rfl) (fun _ => rfl)) ja_nil (fun _ => rfl)) (fun _ => rfl)) rfl (fun _ => rfl) (fun _ => rfl)))))))))))))))))
theorem sc__law_joined : FnScope ["bank", "other", "both", "e"] ["bank", "other"] (defScope (top 28)) := ⟨rfl, rfl, rfl, by decide +kernel, rfl, by decide +kernel, by decide +kernel⟩
theorem j__law_joined (C : Ctx K mg) (m_Bank___or__ : MetA P w K mg base 8 "Bank" "__or__" [] f_Bank___or__) : JS ⟨P, w, K, mg, base, ["bank", "other", "both", "e"], defScope (top 28), 8, false, none⟩ (defBody (top 28)) b__law_joined :=
  (js_cons (j1_tryAs (i := 3) rfl rfl rfl (names_own rfl rfl C.x_TooMany) (exmTab_ok C.xm_TooMany) (js_one (j1_set rfl (by first | exact Or.inl rfl | exact Or.inr ⟨rfl, rfl⟩) (je_opO rfl ⟨⟨m_Bank___or__, C.sf_Bank⟩, trivial⟩ (fun X F => op_no2) (je_var rfl (by first | exact Or.inl rfl | exact Or.inr (Or.inl rfl) | exact Or.inr (Or.inr rfl)) rfl rfl) (je_var rfl (by first | exact Or.inl rfl | exact Or.inr (Or.inl rfl) | exact Or.inr (Or.inr rfl)) rfl rfl)) (fun _ => rfl))) (fun a oe c m => (js_one (j1_ret (je_tup (ja_cons je_str (ja_cons (je_xfC rfl (by first | exact Or.inl rfl | exact Or.inr (Or.inl rfl) | exact Or.inr (Or.inr rfl)) rfl rfl C.xf_most (fun _ => rfl)) (ja_cons (je_and (je_xisOC rfl (by first | exact Or.inl rfl | exact Or.inr (Or.inl rfl) | exact Or.inr (Or.inr rfl)) rfl rfl rfl C.n_isinstance rfl C.x_PlayError rfl C.xi_PlayError) (je_one (je_xisBC (T := "ValueError") rfl (by first | exact Or.inl rfl | exact Or.inr (Or.inl rfl) | exact Or.inr (Or.inr rfl)) rfl rfl rfl C.n_isinstance rfl C.n_ValueError (by decide +kernel) (by decide) rfl C.xi_ValueError))) ja_nil (fun _ => rfl)) (fun _ => rfl)) (fun _ => rfl))))))) (js_one (j1_ret (je_tup (ja_cons je_str (ja_cons (je_att ⟨C.fl_Bank_extra, trivial⟩ (je_var rfl (by first | exact Or.inl rfl | exact Or.inr (Or.inl rfl) | exact Or.inr (Or.inr rfl)) rfl rfl) (fun _ => rfl)) (ja_cons je_bl ja_nil (fun _ => rfl)) (fun _ => rfl)) (fun _ => rfl))))))
theorem sc__law_refusals : FnScope ["pool", "first", "shore", "at", "mixed", "step", "far", "which", "asked", "cell", "lot", "twice", "cells", "due", "handed"] ["pool", "first"] (defScope (top 29)) := ⟨rfl, rfl, rfl, by decide +kernel, rfl, by decide +kernel, by decide +kernel⟩
theorem j__law_refusals (C : Ctx K mg) (h__law_draw : FnAt P w K mg base 8 "_law_draw" [] f__law_draw) (h__law_plain : FnAt P w K mg base 8 "_law_plain" [] f__law_plain) (h__law_same : FnAt P w K mg base 8 "_law_same" [] f__law_same) (h__law_made : FnAt P w K mg base 8 "_law_made" [] f__law_made) : JS ⟨P, w, K, mg, base, ["pool", "first", "shore", "at", "mixed", "step", "far", "which", "asked", "cell", "lot", "twice", "cells", "due", "handed"], defScope (top 29), 8, false, none⟩ (defBody (top 29)) b__law_refusals :=
  (js_cons (j1_set rfl (by first | exact Or.inl rfl | exact Or.inr ⟨rfl, rfl⟩) (je_tup (ja_cons (je_bin (fun X F => op_gSub F) (je_un (fun X F => un_gNeg F) je_int) (je_call h__law_draw rfl (ja_cons (je_var rfl (by first | exact Or.inl rfl | exact Or.inr (Or.inl rfl) | exact Or.inr (Or.inr rfl)) rfl rfl) (ja_cons je_int ja_nil (fun _ => rfl)) (fun _ => rfl)) rfl (fun _ => rfl) (fun _ => rfl))) (ja_cons (je_bin (fun X F => op_gSub F) (je_call h__law_draw rfl (ja_cons (je_var rfl (by first | exact Or.inl rfl | exact Or.inr (Or.inl rfl) | exact Or.inr (Or.inr rfl)) rfl rfl) (ja_cons je_int ja_nil (fun _ => rfl)) (fun _ => rfl)) rfl (fun _ => rfl) (fun _ => rfl)) je_int) ja_nil (fun _ => rfl)) (fun _ => rfl))) (fun _ => rfl)) (js_cons (j1_set rfl (by first | exact Or.inl rfl | exact Or.inr ⟨rfl, rfl⟩) (je_call h__law_draw rfl (ja_cons (je_var rfl (by first | exact Or.inl rfl | exact Or.inr (Or.inl rfl) | exact Or.inr (Or.inr rfl)) rfl rfl) (ja_cons (je_bin (fun X F => op_gAdd F) (je_prB (fun X F => call_gLen F) rfl C.n_len (by decide +kernel) (ja_cons (je_var rfl (by first | exact Or.inl rfl | exact Or.inr (Or.inl rfl) | exact Or.inr (Or.inr rfl)) rfl rfl) ja_nil (fun _ => rfl)) (by decide) rfl (fun _ => rfl) (fun _ => rfl)) je_int) ja_nil (fun _ => rfl)) (fun _ => rfl)) rfl (fun _ => rfl) (fun _ => rfl)) (fun _ => rfl)) (js_cons (j1_set rfl (by first | exact Or.inl rfl | exact Or.inr ⟨rfl, rfl⟩) (je_bin (fun X F => op_gAdd F) (je_bin (fun X F => op_gAdd F) (je_bin (fun X F => op_gAdd F) (je_sl (je_var rfl (by first | exact Or.inl rfl | exact Or.inr (Or.inl rfl) | exact Or.inr (Or.inr rfl)) rfl rfl) jo_none (jo_some (je_var rfl (by first | exact Or.inl rfl | exact Or.inr (Or.inl rfl) | exact Or.inr (Or.inr rfl)) rfl rfl))) (je_lst (ja_cons (je_var rfl (by first | exact Or.inl rfl | exact Or.inr (Or.inl rfl) | exact Or.inr (Or.inr rfl)) rfl rfl) ja_nil (fun _ => rfl)))) (je_sl (je_var rfl (by first | exact Or.inl rfl | exact Or.inr (Or.inl rfl) | exact Or.inr (Or.inr rfl)) rfl rfl) (jo_some (je_var rfl (by first | exact Or.inl rfl | exact Or.inr (Or.inl rfl) | exact Or.inr (Or.inr rfl)) rfl rfl)) jo_none)) (je_lst (ja_cons (je_tup (ja_cons (je_un (fun X F => un_gNeg F) je_int) (ja_cons je_int ja_nil (fun _ => rfl)) (fun _ => rfl))) ja_nil (fun _ => rfl)))) (fun _ => rfl)) (js_cons (j1_set rfl (by first | exact Or.inl rfl | exact Or.inr ⟨rfl, rfl⟩) (je_call h__law_draw rfl (ja_cons (je_var rfl (by first | exact Or.inl rfl | exact Or.inr (Or.inl rfl) | exact Or.inr (Or.inr rfl)) rfl rfl) (ja_cons je_int ja_nil (fun _ => rfl)) (fun _ => rfl)) rfl (fun _ => rfl) (fun _ => rfl)) (fun _ => rfl)) (js_cons (j1_set rfl (by first | exact Or.inl rfl | exact Or.inr ⟨rfl, rfl⟩) (je_lst (ja_cons (je_tup (ja_cons je_int (ja_cons je_int ja_nil (fun _ => rfl)) (fun _ => rfl))) (ja_cons (je_tup (ja_cons je_int (ja_cons je_int ja_nil (fun _ => rfl)) (fun _ => rfl))) (ja_cons (je_tup (ja_cons je_int (ja_cons (je_un (fun X F => un_gNeg F) je_int) ja_nil (fun _ => rfl)) (fun _ => rfl))) (ja_cons (je_tup (ja_cons (je_un (fun X F => un_gNeg F) je_int) (ja_cons je_int ja_nil (fun _ => rfl)) (fun _ => rfl))) (ja_cons (je_tup (ja_cons (je_bin (fun X F => op_gAdd F) je_int (je_var rfl (by first | exact Or.inl rfl | exact Or.inr (Or.inl rfl) | exact Or.inr (Or.inr rfl)) rfl rfl)) (ja_cons (je_bin (fun X F => op_gSub F) (je_un (fun X F => un_gNeg F) je_int) (je_var rfl (by first | exact Or.inl rfl | exact Or.inr (Or.inl rfl) | exact Or.inr (Or.inr rfl)) rfl rfl)) ja_nil (fun _ => rfl)) (fun _ => rfl))) ja_nil (fun _ => rfl)) (fun _ => rfl)) (fun _ => rfl)) (fun _ => rfl)) (fun _ => rfl))) (fun _ => rfl)) (js_cons (j1_set rfl (by first | exact Or.inl rfl | exact Or.inr ⟨rfl, rfl⟩) (je_call h__law_draw rfl (ja_cons (je_var rfl (by first | exact Or.inl rfl | exact Or.inr (Or.inl rfl) | exact Or.inr (Or.inr rfl)) rfl rfl) (ja_cons (je_bin (fun X F => op_gAdd F) (je_prB (fun X F => call_gLen F) rfl C.n_len (by decide +kernel) (ja_cons (je_var rfl (by first | exact Or.inl rfl | exact Or.inr (Or.inl rfl) | exact Or.inr (Or.inr rfl)) rfl rfl) ja_nil (fun _ => rfl)) (by decide) rfl (fun _ => rfl) (fun _ => rfl)) je_int) ja_nil (fun _ => rfl)) (fun _ => rfl)) rfl (fun _ => rfl) (fun _ => rfl)) (fun _ => rfl)) (js_cons (j1_set rfl (by first | exact Or.inl rfl | exact Or.inr ⟨rfl, rfl⟩) (je_call h__law_draw rfl (ja_cons (je_var rfl (by first | exact Or.inl rfl | exact Or.inr (Or.inl rfl) | exact Or.inr (Or.inr rfl)) rfl rfl) (ja_cons je_int ja_nil (fun _ => rfl)) (fun _ => rfl)) rfl (fun _ => rfl) (fun _ => rfl)) (fun _ => rfl)) (js_cons (j1_set rfl (by first | exact Or.inl rfl | exact Or.inr ⟨rfl, rfl⟩) (je_lst (ja_cons (je_tup (ja_cons (je_var rfl (by first | exact Or.inl rfl | exact Or.inr (Or.inl rfl) | exact Or.inr (Or.inr rfl)) rfl rfl) (ja_cons (je_tup (ja_cons je_str (ja_cons (je_var rfl (by first | exact Or.inl rfl | exact Or.inr (Or.inl rfl) | exact Or.inr (Or.inr rfl)) rfl rfl) (ja_cons je_bl ja_nil (fun _ => rfl)) (fun _ => rfl)) (fun _ => rfl))) ja_nil (fun _ => rfl)) (fun _ => rfl))) ja_nil (fun _ => rfl))) (fun _ => rfl)) (js_cons (j1_expr (je_mt PySem.F.plainAttrs_list PySem.F.slot_list_append PySem.F.type_list_append (fun X F => mt_gAppend F) (je_var rfl (by first | exact Or.inl rfl | exact Or.inr (Or.inl rfl) | exact Or.inr (Or.inr rfl)) rfl rfl) (ja_cons (je_tup (ja_cons (je_bin (fun X F => op_gAdd F) (je_lst (ja_cons (je_tup (ja_cons (je_un (fun X F => un_gNeg F) je_int) (ja_cons je_int ja_nil (fun _ => rfl)) (fun _ => rfl))) ja_nil (fun _ => rfl))) (je_var rfl (by first | exact Or.inl rfl | exact Or.inr (Or.inl rfl) | exact Or.inr (Or.inr rfl)) rfl rfl)) (ja_cons (je_tup (ja_cons je_str (ja_cons (je_tup (ja_cons (je_un (fun X F => un_gNeg F) je_int) (ja_cons je_int ja_nil (fun _ => rfl)) (fun _ => rfl))) (ja_cons je_bl ja_nil (fun _ => rfl)) (fun _ => rfl)) (fun _ => rfl))) ja_nil (fun _ => rfl)) (fun _ => rfl))) ja_nil (fun _ => rfl)) (fun _ => rfl) (fun _ => rfl) rfl (fun _ => rfl) (fun _ => rfl)) (fun _ => rfl)) (js_cons (j1_for (ji_seq (je_var rfl (by first | exact Or.inl rfl | exact Or.inr (Or.inl rfl) | exact Or.inr (Or.inr rfl)) rfl rfl)) (jg_name rfl (by first | exact Or.inl rfl | exact Or.inr ⟨rfl, rfl⟩)) (js_cons (j1_set rfl (by first | exact Or.inl rfl | exact Or.inr ⟨rfl, rfl⟩) (je_bin (fun X F => op_gAdd F) (je_bin (fun X F => op_gAdd F) (je_sl (je_var rfl (by first | exact Or.inl rfl | exact Or.inr (Or.inl rfl) | exact Or.inr (Or.inr rfl)) rfl rfl) jo_none (jo_some (je_var rfl (by first | exact Or.inl rfl | exact Or.inr (Or.inl rfl) | exact Or.inr (Or.inr rfl)) rfl rfl))) (je_lst (ja_cons (je_var rfl (by first | exact Or.inl rfl | exact Or.inr (Or.inl rfl) | exact Or.inr (Or.inr rfl)) rfl rfl) ja_nil (fun _ => rfl)))) (je_sl (je_var rfl (by first | exact Or.inl rfl | exact Or.inr (Or.inl rfl) | exact Or.inr (Or.inr rfl)) rfl rfl) (jo_some (je_var rfl (by first | exact Or.inl rfl | exact Or.inr (Or.inl rfl) | exact Or.inr (Or.inr rfl)) rfl rfl)) jo_none)) (fun _ => rfl)) (js_cons (j1_expr (je_mt PySem.F.plainAttrs_list PySem.F.slot_list_append PySem.F.type_list_append (fun X F => mt_gAppend F) (je_var rfl (by first | exact Or.inl rfl | exact Or.inr (Or.inl rfl) | exact Or.inr (Or.inr rfl)) rfl rfl) (ja_cons (je_tup (ja_cons (je_var rfl (by first | exact Or.inl rfl | exact Or.inr (Or.inl rfl) | exact Or.inr (Or.inr rfl)) rfl rfl) (ja_cons (je_tup (ja_cons je_str (ja_cons (je_var rfl (by first | exact Or.inl rfl | exact Or.inr (Or.inl rfl) | exact Or.inr (Or.inr rfl)) rfl rfl) (ja_cons je_bl ja_nil (fun _ => rfl)) (fun _ => rfl)) (fun _ => rfl))) ja_nil (fun _ => rfl)) (fun _ => rfl))) ja_nil (fun _ => rfl)) (fun _ => rfl) (fun _ => rfl) rfl (fun _ => rfl) (fun _ => rfl)) (fun _ => rfl)) (js_one (j1_expr (je_mt PySem.F.plainAttrs_list PySem.F.slot_list_append PySem.F.type_list_append (fun X F => mt_gAppend F) (je_var rfl (by first | exact Or.inl rfl | exact Or.inr (Or.inl rfl) | exact Or.inr (Or.inr rfl)) rfl rfl) (ja_cons (je_tup (ja_cons (je_bin (fun X F => op_gAdd F) (je_var rfl (by first | exact Or.inl rfl | exact Or.inr (Or.inl rfl) | exact Or.inr (Or.inr rfl)) rfl rfl) (je_lst (ja_cons (je_var rfl (by first | exact Or.inl rfl | exact Or.inr (Or.inl rfl) | exact Or.inr (Or.inr rfl)) rfl rfl) ja_nil (fun _ => rfl)))) (ja_cons (je_tup (ja_cons je_str (ja_cons (je_var rfl (by first | exact Or.inl rfl | exact Or.inr (Or.inl rfl) | exact Or.inr (Or.inr rfl)) rfl rfl) (ja_cons je_bl ja_nil (fun _ => rfl)) (fun _ => rfl)) (fun _ => rfl))) ja_nil (fun _ => rfl)) (fun _ => rfl))) ja_nil (fun _ => rfl)) (fun _ => rfl) (fun _ => rfl) rfl (fun _ => rfl) (fun _ => rfl)) (fun _ => rfl))))) (fun _ _ => rfl)) (js_cons (j1_set rfl (by first | exact Or.inl rfl | exact Or.inr ⟨rfl, rfl⟩) (je_bin (fun X F => op_gAdd F) (je_var rfl (by first | exact Or.inl rfl | exact Or.inr (Or.inl rfl) | exact Or.inr (Or.inr rfl)) rfl rfl) (je_lst (ja_cons (je_ix (fun X F => ix_gIx F) (je_var rfl (by first | exact Or.inl rfl | exact Or.inr (Or.inl rfl) | exact Or.inr (Or.inr rfl)) rfl rfl) (je_var rfl (by first | exact Or.inl rfl | exact Or.inr (Or.inl rfl) | exact Or.inr (Or.inr rfl)) rfl rfl) (fun _ _ => rfl)) (ja_cons (je_ix (fun X F => ix_gIx F) (je_var rfl (by first | exact Or.inl rfl | exact Or.inr (Or.inl rfl) | exact Or.inr (Or.inr rfl)) rfl rfl) (je_bin (fun X F => op_gMod F) (je_bin (fun X F => op_gAdd F) (je_var rfl (by first | exact Or.inl rfl | exact Or.inr (Or.inl rfl) | exact Or.inr (Or.inr rfl)) rfl rfl) je_int) je_int) (fun _ _ => rfl)) ja_nil (fun _ => rfl)) (fun _ => rfl)))) (fun _ => rfl)) (js_cons (j1_expr (je_mt PySem.F.plainAttrs_list PySem.F.slot_list_append PySem.F.type_list_append (fun X F => mt_gAppend F) (je_var rfl (by first | exact Or.inl rfl | exact Or.inr (Or.inl rfl) | exact Or.inr (Or.inr rfl)) rfl rfl) (ja_cons (je_tup (ja_cons (je_var rfl (by first | exact Or.inl rfl | exact Or.inr (Or.inl rfl) | exact Or.inr (Or.inr rfl)) rfl rfl) (ja_cons (je_tup (ja_cons je_str (ja_cons (je_ix (fun X F => ix_gIx F) (je_var rfl (by first | exact Or.inl rfl | exact Or.inr (Or.inl rfl) | exact Or.inr (Or.inr rfl)) rfl rfl) (je_var rfl (by first | exact Or.inl rfl | exact Or.inr (Or.inl rfl) | exact Or.inr (Or.inr rfl)) rfl rfl) (fun _ _ => rfl)) (ja_cons je_bl ja_nil (fun _ => rfl)) (fun _ => rfl)) (fun _ => rfl))) ja_nil (fun _ => rfl)) (fun _ => rfl))) ja_nil (fun _ => rfl)) (fun _ => rfl) (fun _ => rfl) rfl (fun _ => rfl) (fun _ => rfl)) (fun _ => rfl)) (js_cons (j1_expr (je_mt PySem.F.plainAttrs_list PySem.F.slot_list_append PySem.F.type_list_append (fun X F => mt_gAppend F) (je_var rfl (by first | exact Or.inl rfl | exact Or.inr (Or.inl rfl) | exact Or.inr (Or.inr rfl)) rfl rfl) (ja_cons (je_tup (ja_cons (je_bin (fun X F => op_gMul F) (je_lst (ja_cons (je_var rfl (by first | exact Or.inl rfl | exact Or.inr (Or.inl rfl) | exact Or.inr (Or.inr rfl)) rfl rfl) ja_nil (fun _ => rfl))) je_int) (ja_cons (je_tup (ja_cons je_str (ja_cons je_int (ja_cons je_bl ja_nil (fun _ => rfl)) (fun _ => rfl)) (fun _ => rfl))) ja_nil (fun _ => rfl)) (fun _ => rfl))) ja_nil (fun _ => rfl)) (fun _ => rfl) (fun _ => rfl) rfl (fun _ => rfl) (fun _ => rfl)) (fun _ => rfl)) (js_cons (j1_set rfl (by first | exact Or.inl rfl | exact Or.inr ⟨rfl, rfl⟩) (je_bin (fun X F => op_gAdd F) (je_lst (ja_cons (je_ix (fun X F => ix_gIx F) (je_var rfl (by first | exact Or.inl rfl | exact Or.inr (Or.inl rfl) | exact Or.inr (Or.inr rfl)) rfl rfl) (je_var rfl (by first | exact Or.inl rfl | exact Or.inr (Or.inl rfl) | exact Or.inr (Or.inr rfl)) rfl rfl) (fun _ _ => rfl)) ja_nil (fun _ => rfl))) (je_bin (fun X F => op_gMul F) (je_lst (ja_cons (je_tup (ja_cons je_int (ja_cons je_int ja_nil (fun _ => rfl)) (fun _ => rfl))) ja_nil (fun _ => rfl))) je_int)) (fun _ => rfl)) (js_cons (j1_expr (je_mt PySem.F.plainAttrs_list PySem.F.slot_list_append PySem.F.type_list_append (fun X F => mt_gAppend F) (je_var rfl (by first | exact Or.inl rfl | exact Or.inr (Or.inl rfl) | exact Or.inr (Or.inr rfl)) rfl rfl) (ja_cons (je_tup (ja_cons (je_var rfl (by first | exact Or.inl rfl | exact Or.inr (Or.inl rfl) | exact Or.inr (Or.inr rfl)) rfl rfl) (ja_cons (je_tup (ja_cons je_str (ja_cons je_int (ja_cons je_bl ja_nil (fun _ => rfl)) (fun _ => rfl)) (fun _ => rfl))) ja_nil (fun _ => rfl)) (fun _ => rfl))) ja_nil (fun _ => rfl)) (fun _ => rfl) (fun _ => rfl) rfl (fun _ => rfl) (fun _ => rfl)) (fun _ => rfl)) (js_cons (j1_set rfl (by first | exact Or.inl rfl | exact Or.inr ⟨rfl, rfl⟩) (je_lst (ja_cons (je_tup (ja_cons je_int (ja_cons je_int ja_nil (fun _ => rfl)) (fun _ => rfl))) (ja_cons (je_tup (ja_cons je_int (ja_cons (je_un (fun X F => un_gNeg F) je_int) ja_nil (fun _ => rfl)) (fun _ => rfl))) (ja_cons (je_tup (ja_cons je_int (ja_cons (je_un (fun X F => un_gNeg F) je_int) ja_nil (fun _ => rfl)) (fun _ => rfl))) (ja_cons (je_tup (ja_cons je_int (ja_cons je_int ja_nil (fun _ => rfl)) (fun _ => rfl))) ja_nil (fun _ => rfl)) (fun _ => rfl)) (fun _ => rfl)) (fun _ => rfl))) (fun _ => rfl)) (js_cons (j1_expr (je_mt PySem.F.plainAttrs_list PySem.F.slot_list_append PySem.F.type_list_append (fun X F => mt_gAppend F) (je_var rfl (by first | exact Or.inl rfl | exact Or.inr (Or.inl rfl) | exact Or.inr (Or.inr rfl)) rfl rfl) (ja_cons (je_tup (ja_cons (je_var rfl (by first | exact Or.inl rfl | exact Or.inr (Or.inl rfl) | exact Or.inr (Or.inr rfl)) rfl rfl) (ja_cons (je_tup (ja_cons je_str (ja_cons (je_prT (fun X F => call_gTuple F) rfl C.n_tuple (by decide +kernel) (ja_cons (je_call h__law_plain rfl (ja_cons (je_var rfl (by first | exact Or.inl rfl | exact Or.inr (Or.inl rfl) | exact Or.inr (Or.inr rfl)) rfl rfl) ja_nil (fun _ => rfl)) rfl (fun _ => rfl) (fun _ => rfl)) ja_nil (fun _ => rfl)) (by decide) rfl (fun _ => rfl) (fun _ => rfl)) (ja_cons je_bl ja_nil (fun _ => rfl)) (fun _ => rfl)) (fun _ => rfl))) ja_nil (fun _ => rfl)) (fun _ => rfl))) ja_nil (fun _ => rfl)) (fun _ => rfl) (fun _ => rfl) rfl (fun _ => rfl) (fun _ => rfl)) (fun _ => rfl)) (js_cons (j1_expr (je_mt PySem.F.plainAttrs_list PySem.F.slot_list_append PySem.F.type_list_append (fun X F => mt_gAppend F) (je_var rfl (by first | exact Or.inl rfl | exact Or.inr (Or.inl rfl) | exact Or.inr (Or.inr rfl)) rfl rfl) (ja_cons (je_tup (ja_cons (je_var rfl (by first | exact Or.inl rfl | exact Or.inr (Or.inl rfl) | exact Or.inr (Or.inr rfl)) rfl rfl) (ja_cons (je_tup (ja_cons je_str (ja_cons (je_prT (fun X F => call_gTuple F) rfl C.n_tuple (by decide +kernel) (ja_cons (je_call h__law_plain rfl (ja_cons (je_var rfl (by first | exact Or.inl rfl | exact Or.inr (Or.inl rfl) | exact Or.inr (Or.inr rfl)) rfl rfl) ja_nil (fun _ => rfl)) rfl (fun _ => rfl) (fun _ => rfl)) ja_nil (fun _ => rfl)) (by decide) rfl (fun _ => rfl) (fun _ => rfl)) (ja_cons je_bl ja_nil (fun _ => rfl)) (fun _ => rfl)) (fun _ => rfl))) ja_nil (fun _ => rfl)) (fun _ => rfl))) ja_nil (fun _ => rfl)) (fun _ => rfl) (fun _ => rfl) rfl (fun _ => rfl) (fun _ => rfl)) (fun _ => rfl)) (js_cons (j1_for (ji_seq (je_var rfl (by first | exact Or.inl rfl | exact Or.inr (Or.inl rfl) | exact Or.inr (Or.inr rfl)) rfl rfl)) (jg_tup (jgs_cons (jg_name rfl (by first | exact Or.inl rfl | exact Or.inr ⟨rfl, rfl⟩)) (jgs_cons (jg_name rfl (by first | exact Or.inl rfl | exact Or.inr ⟨rfl, rfl⟩)) jgs_nil (fun _ => rfl)) (fun _ => rfl)) (fun _ => rfl) (fun _ => rfl)) (js_cons (j1_set rfl (by first | exact Or.inl rfl | exact Or.inr ⟨rfl, rfl⟩) (je_prT (fun X F => call_gList F) rfl C.n_list (by decide +kernel) (ja_cons (je_var rfl (by first | exact Or.inl rfl | exact Or.inr (Or.inl rfl) | exact Or.inr (Or.inr rfl)) rfl rfl) ja_nil (fun _ => rfl)) (by decide) rfl (fun _ => rfl) (fun _ => rfl)) (fun _ => rfl)) (js_one (j1_if (jt_w (jw_or (jt_not (jt_tr (je_call h__law_same rfl (ja_cons (je_call h__law_made rfl (ja_cons (je_var rfl (by first | exact Or.inl rfl | exact Or.inr (Or.inl rfl) | exact Or.inr (Or.inr rfl)) rfl rfl) ja_nil (fun _ => rfl)) rfl (fun _ => rfl) (fun _ => rfl)) (ja_cons (je_var rfl (by first | exact Or.inl rfl | exact Or.inr (Or.inl rfl) | exact Or.inr (Or.inr rfl)) rfl rfl) ja_nil (fun _ => rfl)) (fun _ => rfl)) rfl (fun _ => rfl) (fun _ => rfl)) (fun _ _ => rfl))) (jw_or1 (jt_cmp (fun X F => op_gNeY F) (je_var rfl (by first | exact Or.inl rfl | exact Or.inr (Or.inl rfl) | exact Or.inr (Or.inr rfl)) rfl rfl) (je_var rfl (by first | exact Or.inl rfl | exact Or.inr (Or.inl rfl) | exact Or.inr (Or.inr rfl)) rfl rfl) rfl)))) (js_one (j1_ret je_bl)) js_nil))) (fun _ _ => rfl)) (js_one (j1_ret je_bl)))))))))))))))))))))
theorem sc__law_block : FnScope ["pool", "x", "y", "cells", "k", "block", "part", "outer", "due", "less"] ["pool"] (defScope (top 30)) := ⟨rfl, rfl, rfl, by decide +kernel, rfl, by decide +kernel, by decide +kernel⟩
theorem j__law_block (C : Ctx K mg) (m_Bank___and__ : MetA P w K mg base 9 "Bank" "__and__" [] f_Bank___and__) (mk_Bank___init___0 : MakA P w K mg base 8 "Bank" [] f_Bank___init__) (h__law_draw : FnAt P w K mg base 9 "_law_draw" [] f__law_draw) (h__law_joined : FnAt P w K mg base 9 "_law_joined" [] f__law_joined) (h__law_same : FnAt P w K mg base 9 "_law_same" [] f__law_same) (h__law_made : FnAt P w K mg base 9 "_law_made" [] f__law_made) : JS ⟨P, w, K, mg, base, ["pool", "x", "y", "cells", "k", "block", "part", "outer", "due", "less"], defScope (top 30), 9, false, none⟩ (defBody (top 30)) b__law_block :=
  (js_cons (j1_set rfl (by first | exact Or.inl rfl | exact Or.inr ⟨rfl, rfl⟩) (je_call h__law_draw rfl (ja_cons (je_var rfl (by first | exact Or.inl rfl | exact Or.inr (Or.inl rfl) | exact Or.inr (Or.inr rfl)) rfl rfl) (ja_cons je_int ja_nil (fun _ => rfl)) (fun _ => rfl)) rfl (fun _ => rfl) (fun _ => rfl)) (fun _ => rfl)) (js_cons (j1_set rfl (by first | exact Or.inl rfl | exact Or.inr ⟨rfl, rfl⟩) (je_bin (fun X F => op_gSub F) (je_call h__law_draw rfl (ja_cons (je_var rfl (by first | exact Or.inl rfl | exact Or.inr (Or.inl rfl) | exact Or.inr (Or.inr rfl)) rfl rfl) (ja_cons je_int ja_nil (fun _ => rfl)) (fun _ => rfl)) rfl (fun _ => rfl) (fun _ => rfl)) je_int) (fun _ => rfl)) (js_cons (j1_setLc rfl rfl rfl rfl (own := [("k", 4)]) (ji_rg1 rfl C.n_range (ja_cons je_int ja_nil (fun _ => rfl)) (fun _ => rfl)) rfl (jg_name rfl (by first | exact Or.inl rfl | exact Or.inr ⟨rfl, rfl⟩)) jts_nil (je_tup (ja_cons (je_bin (fun X F => op_gAdd F) (je_var rfl (by first | exact Or.inl rfl | exact Or.inr (Or.inl rfl) | exact Or.inr (Or.inr rfl)) rfl rfl) (je_bin (fun X F => op_gFdiv F) (je_var rfl (by first | exact Or.inl rfl | exact Or.inr (Or.inl rfl) | exact Or.inr (Or.inr rfl)) rfl rfl) je_int)) (ja_cons (je_bin (fun X F => op_gAdd F) (je_var rfl (by first | exact Or.inl rfl | exact Or.inr (Or.inl rfl) | exact Or.inr (Or.inr rfl)) rfl rfl) (je_bin (fun X F => op_gMod F) (je_var rfl (by first | exact Or.inl rfl | exact Or.inr (Or.inl rfl) | exact Or.inr (Or.inr rfl)) rfl rfl) je_int)) ja_nil (fun _ => rfl)) (fun _ => rfl))) (by decide) (fun _ _ => rfl) rfl) (js_cons (j1_set rfl (by first | exact Or.inl rfl | exact Or.inr ⟨rfl, rfl⟩) (je_make (k := 8) mk_Bank___init___0 (show 8 + 1 ≤ 9 by decide) rfl (ja_cons (je_var rfl (by first | exact Or.inl rfl | exact Or.inr (Or.inl rfl) | exact Or.inr (Or.inr rfl)) rfl rfl) ja_nil (fun _ => rfl)) rfl (fun _ => rfl) (fun _ => rfl)) (fun _ => rfl)) (js_cons (j1_set rfl (by first | exact Or.inl rfl | exact Or.inr ⟨rfl, rfl⟩) (je_make (k := 8) mk_Bank___init___0 (show 8 + 1 ≤ 9 by decide) rfl (ja_cons (je_lst (ja_cons (je_ix (fun X F => ix_gIx F) (je_var rfl (by first | exact Or.inl rfl | exact Or.inr (Or.inl rfl) | exact Or.inr (Or.inr rfl)) rfl rfl) (je_call h__law_draw rfl (ja_cons (je_var rfl (by first | exact Or.inl rfl | exact Or.inr (Or.inl rfl) | exact Or.inr (Or.inr rfl)) rfl rfl) (ja_cons je_int ja_nil (fun _ => rfl)) (fun _ => rfl)) rfl (fun _ => rfl) (fun _ => rfl)) (fun _ _ => rfl)) (ja_cons (je_ix (fun X F => ix_gIx F) (je_var rfl (by first | exact Or.inl rfl | exact Or.inr (Or.inl rfl) | exact Or.inr (Or.inr rfl)) rfl rfl) je_int (fun _ _ => rfl)) (ja_cons (je_ix (fun X F => ix_gIx F) (je_var rfl (by first | exact Or.inl rfl | exact Or.inr (Or.inl rfl) | exact Or.inr (Or.inr rfl)) rfl rfl) je_int (fun _ _ => rfl)) ja_nil (fun _ => rfl)) (fun _ => rfl)) (fun _ => rfl))) ja_nil (fun _ => rfl)) rfl (fun _ => rfl) (fun _ => rfl)) (fun _ => rfl)) (js_cons (j1_set rfl (by first | exact Or.inl rfl | exact Or.inr ⟨rfl, rfl⟩) (je_make (k := 8) mk_Bank___init___0 (show 8 + 1 ≤ 9 by decide) rfl (ja_cons (je_lst (ja_cons (je_tup (ja_cons (je_bin (fun X F => op_gAdd F) (je_var rfl (by first | exact Or.inl rfl | exact Or.inr (Or.inl rfl) | exact Or.inr (Or.inr rfl)) rfl rfl) je_int) (ja_cons (je_var rfl (by first | exact Or.inl rfl | exact Or.inr (Or.inl rfl) | exact Or.inr (Or.inr rfl)) rfl rfl) ja_nil (fun _ => rfl)) (fun _ => rfl))) ja_nil (fun _ => rfl))) ja_nil (fun _ => rfl)) rfl (fun _ => rfl) (fun _ => rfl)) (fun _ => rfl)) (js_cons (j1_set rfl (by first | exact Or.inl rfl | exact Or.inr ⟨rfl, rfl⟩) (je_prT (fun X F => call_gTuple F) rfl C.n_tuple (by decide +kernel) (ja_cons (je_var rfl (by first | exact Or.inl rfl | exact Or.inr (Or.inl rfl) | exact Or.inr (Or.inr rfl)) rfl rfl) ja_nil (fun _ => rfl)) (by decide) rfl (fun _ => rfl) (fun _ => rfl)) (fun _ => rfl)) (js_cons (j1_if (jt_w (jw_or (jt_not (jt_tr (je_isiB (n := "tuple") isB_ok (je_att ⟨C.fl_Bank_extra, trivial⟩ (je_var rfl (by first | exact Or.inl rfl | exact Or.inr (Or.inl rfl) | exact Or.inr (Or.inr rfl)) rfl rfl) (fun _ => rfl)) rfl C.n_isinstance rfl C.n_tuple (by decide +kernel) (by decide) rfl (fun _ => rfl)) (fun _ _ => rfl))) (jw_or1 (jt_cmp (fun X F => op_gNeY F) (je_att ⟨C.fl_Bank_extra, trivial⟩ (je_var rfl (by first | exact Or.inl rfl | exact Or.inr (Or.inl rfl) | exact Or.inr (Or.inr rfl)) rfl rfl) (fun _ => rfl)) (je_var rfl (by first | exact Or.inl rfl | exact Or.inr (Or.inl rfl) | exact Or.inr (Or.inr rfl)) rfl rfl) rfl)))) (js_one (j1_ret je_bl)) js_nil) (js_cons (j1_if (jt_cmp (fun X F => op_gNeY F) (je_call h__law_joined rfl (ja_cons (je_var rfl (by first | exact Or.inl rfl | exact Or.inr (Or.inl rfl) | exact Or.inr (Or.inr rfl)) rfl rfl) (ja_cons (je_var rfl (by first | exact Or.inl rfl | exact Or.inr (Or.inl rfl) | exact Or.inr (Or.inr rfl)) rfl rfl) ja_nil (fun _ => rfl)) (fun _ => rfl)) rfl (fun _ => rfl) (fun _ => rfl)) (je_tup (ja_cons je_str (ja_cons (je_var rfl (by first | exact Or.inl rfl | exact Or.inr (Or.inl rfl) | exact Or.inr (Or.inr rfl)) rfl rfl) (ja_cons je_bl ja_nil (fun _ => rfl)) (fun _ => rfl)) (fun _ => rfl))) rfl) (js_one (j1_ret je_bl)) js_nil) (js_cons (j1_if (jt_not (jt_tr (je_call h__law_same rfl (ja_cons (je_call h__law_joined rfl (ja_cons (je_var rfl (by first | exact Or.inl rfl | exact Or.inr (Or.inl rfl) | exact Or.inr (Or.inr rfl)) rfl rfl) (ja_cons (je_var rfl (by first | exact Or.inl rfl | exact Or.inr (Or.inl rfl) | exact Or.inr (Or.inr rfl)) rfl rfl) ja_nil (fun _ => rfl)) (fun _ => rfl)) rfl (fun _ => rfl) (fun _ => rfl)) (ja_cons (je_tup (ja_cons je_str (ja_cons je_int (ja_cons je_bl ja_nil (fun _ => rfl)) (fun _ => rfl)) (fun _ => rfl))) ja_nil (fun _ => rfl)) (fun _ => rfl)) rfl (fun _ => rfl) (fun _ => rfl)) (fun _ _ => rfl))) (js_one (j1_ret je_bl)) js_nil) (js_cons (j1_if (jt_not (jt_tr (je_call h__law_same rfl (ja_cons (je_call h__law_joined rfl (ja_cons (je_var rfl (by first | exact Or.inl rfl | exact Or.inr (Or.inl rfl) | exact Or.inr (Or.inr rfl)) rfl rfl) (ja_cons (je_var rfl (by first | exact Or.inl rfl | exact Or.inr (Or.inl rfl) | exact Or.inr (Or.inr rfl)) rfl rfl) ja_nil (fun _ => rfl)) (fun _ => rfl)) rfl (fun _ => rfl) (fun _ => rfl)) (ja_cons (je_tup (ja_cons je_str (ja_cons je_int (ja_cons je_bl ja_nil (fun _ => rfl)) (fun _ => rfl)) (fun _ => rfl))) ja_nil (fun _ => rfl)) (fun _ => rfl)) rfl (fun _ => rfl) (fun _ => rfl)) (fun _ _ => rfl))) (js_one (j1_ret je_bl)) js_nil) (js_cons (j1_if (jt_not (jt_tr (je_call h__law_same rfl (ja_cons (je_call h__law_made rfl (ja_cons (je_bin (fun X F => op_gMul F) (je_lst (ja_cons (je_tup (ja_cons (je_var rfl (by first | exact Or.inl rfl | exact Or.inr (Or.inl rfl) | exact Or.inr (Or.inr rfl)) rfl rfl) (ja_cons (je_var rfl (by first | exact Or.inl rfl | exact Or.inr (Or.inl rfl) | exact Or.inr (Or.inr rfl)) rfl rfl) ja_nil (fun _ => rfl)) (fun _ => rfl))) ja_nil (fun _ => rfl))) je_int) ja_nil (fun _ => rfl)) rfl (fun _ => rfl) (fun _ => rfl)) (ja_cons (je_tup (ja_cons je_str (ja_cons (je_tup (ja_cons (je_tup (ja_cons (je_var rfl (by first | exact Or.inl rfl | exact Or.inr (Or.inl rfl) | exact Or.inr (Or.inr rfl)) rfl rfl) (ja_cons (je_var rfl (by first | exact Or.inl rfl | exact Or.inr (Or.inl rfl) | exact Or.inr (Or.inr rfl)) rfl rfl) ja_nil (fun _ => rfl)) (fun _ => rfl))) ja_nil (fun _ => rfl))) (ja_cons je_bl ja_nil (fun _ => rfl)) (fun _ => rfl)) (fun _ => rfl))) ja_nil (fun _ => rfl)) (fun _ => rfl)) rfl (fun _ => rfl) (fun _ => rfl)) (fun _ _ => rfl))) (js_one (j1_ret je_bl)) js_nil) (js_cons (j1_set rfl (by first | exact Or.inl rfl | exact Or.inr ⟨rfl, rfl⟩) (je_opO rfl ⟨⟨m_Bank___and__, C.sf_Bank⟩, trivial⟩ (fun X F => op_no2) (je_var rfl (by first | exact Or.inl rfl | exact Or.inr (Or.inl rfl) | exact Or.inr (Or.inr rfl)) rfl rfl) (je_var rfl (by first | exact Or.inl rfl | exact Or.inr (Or.inl rfl) | exact Or.inr (Or.inr rfl)) rfl rfl)) (fun _ => rfl)) (js_cons (j1_if (jt_w (jw_or (jt_cmp (fun X F => op_gNeY F) (je_att ⟨C.fl_Bank_extra, trivial⟩ (je_var rfl (by first | exact Or.inl rfl | exact Or.inr (Or.inl rfl) | exact Or.inr (Or.inr rfl)) rfl rfl) (fun _ => rfl)) (je_var rfl (by first | exact Or.inl rfl | exact Or.inr (Or.inl rfl) | exact Or.inr (Or.inr rfl)) rfl rfl) rfl) (jw_or1 (jt_cmp (fun X F => op_gNeY F) (je_att ⟨C.fl_Bank_extra, trivial⟩ (je_var rfl (by first | exact Or.inl rfl | exact Or.inr (Or.inl rfl) | exact Or.inr (Or.inr rfl)) rfl rfl) (fun _ => rfl)) (je_tup (ja_cons (je_tup (ja_cons (je_bin (fun X F => op_gAdd F) (je_var rfl (by first | exact Or.inl rfl | exact Or.inr (Or.inl rfl) | exact Or.inr (Or.inr rfl)) rfl rfl) je_int) (ja_cons (je_var rfl (by first | exact Or.inl rfl | exact Or.inr (Or.inl rfl) | exact Or.inr (Or.inr rfl)) rfl rfl) ja_nil (fun _ => rfl)) (fun _ => rfl))) ja_nil (fun _ => rfl))) rfl)))) (js_one (j1_ret je_bl)) js_nil) (js_one (j1_ret (je_call h__law_same rfl (ja_cons (je_att ⟨C.fl_Bank_extra, trivial⟩ (je_var rfl (by first | exact Or.inl rfl | exact Or.inr (Or.inl rfl) | exact Or.inr (Or.inr rfl)) rfl rfl) (fun _ => rfl)) (ja_cons (je_tup ja_nil) ja_nil (fun _ => rfl)) (fun _ => rfl)) rfl (fun _ => rfl) (fun _ => rfl))))))))))))))))))
theorem sc_law : FnScope ["script", "pool", "cell", "first", "second", "one", "two", "handed", "bank", "other"] ["script"] (defScope (top 31)) := ⟨rfl, rfl, rfl, by decide +kernel, rfl, by decide +kernel, by decide +kernel⟩
theorem j_law (C : Ctx K mg) (mk_Bank___init___0 : MakA P w K mg base 9 "Bank" [] f_Bank___init__) (h__law_draw : FnAt P w K mg base 10 "_law_draw" [] f__law_draw) (h__law_block : FnAt P w K mg base 10 "_law_block" [] f__law_block) (h__law_lot : FnAt P w K mg base 10 "_law_lot" [] f__law_lot) (h__law_second : FnAt P w K mg base 10 "_law_second" [] f__law_second) (h__law_plain : FnAt P w K mg base 10 "_law_plain" [] f__law_plain) (h__law_same : FnAt P w K mg base 10 "_law_same" [] f__law_same) (h__law_pair : FnAt P w K mg base 10 "_law_pair" [] f__law_pair) (h__law_refusals : FnAt P w K mg base 10 "_law_refusals" [] f__law_refusals) : JS ⟨P, w, K, mg, base, ["script", "pool", "cell", "first", "second", "one", "two", "handed", "bank", "other"], defScope (top 31), 10, false, none⟩ (defBody (top 31)) b_law :=
  (js_cons (j1_setLc rfl rfl rfl rfl (own := [("cell", 2)]) (ji_seq (je_sl (je_var rfl (by first | exact Or.inl rfl | exact Or.inr (Or.inl rfl) | exact Or.inr (Or.inr rfl)) rfl rfl) jo_none (jo_some je_int))) rfl (jg_name rfl (by first | exact Or.inl rfl | exact Or.inr ⟨rfl, rfl⟩)) jts_nil (je_prB (fun X F => call_gAbs F) rfl C.n_abs (by decide +kernel) (ja_cons (je_prT (fun X F => call_gInt F) rfl C.n_int (by decide +kernel) (ja_cons (je_var rfl (by first | exact Or.inl rfl | exact Or.inr (Or.inl rfl) | exact Or.inr (Or.inr rfl)) rfl rfl) ja_nil (fun _ => rfl)) (by decide) rfl (fun _ => rfl) (fun _ => rfl)) ja_nil (fun _ => rfl)) (by decide) rfl (fun _ => rfl) (fun _ => rfl)) (by decide) (fun _ _ => rfl) rfl) (js_cons (j1_if (jt_w (jw_and (jt_cmp (fun X F => op_gEqY F) (je_call h__law_draw rfl (ja_cons (je_var rfl (by first | exact Or.inl rfl | exact Or.inr (Or.inl rfl) | exact Or.inr (Or.inr rfl)) rfl rfl) (ja_cons je_int ja_nil (fun _ => rfl)) (fun _ => rfl)) rfl (fun _ => rfl) (fun _ => rfl)) je_int rfl) (jw_and1 (jt_not (jt_tr (je_call h__law_block rfl (ja_cons (je_var rfl (by first | exact Or.inl rfl | exact Or.inr (Or.inl rfl) | exact Or.inr (Or.inr rfl)) rfl rfl) ja_nil (fun _ => rfl)) rfl (fun _ => rfl) (fun _ => rfl)) (fun _ _ => rfl)))))) (js_one (j1_ret je_bl)) js_nil) (js_cons (j1_set rfl (by first | exact Or.inl rfl | exact Or.inr ⟨rfl, rfl⟩) (je_call h__law_lot rfl (ja_cons (je_var rfl (by first | exact Or.inl rfl | exact Or.inr (Or.inl rfl) | exact Or.inr (Or.inr rfl)) rfl rfl) (ja_cons (je_bin (fun X F => op_gMod F) (je_bin (fun X F => op_gAdd F) (je_call h__law_draw rfl (ja_cons (je_var rfl (by first | exact Or.inl rfl | exact Or.inr (Or.inl rfl) | exact Or.inr (Or.inr rfl)) rfl rfl) (ja_cons je_int ja_nil (fun _ => rfl)) (fun _ => rfl)) rfl (fun _ => rfl) (fun _ => rfl)) je_int) je_int) (ja_cons je_int ja_nil (fun _ => rfl)) (fun _ => rfl)) (fun _ => rfl)) rfl (fun _ => rfl) (fun _ => rfl)) (fun _ => rfl)) (js_cons (j1_set rfl (by first | exact Or.inl rfl | exact Or.inr ⟨rfl, rfl⟩) (je_call h__law_second rfl (ja_cons (je_var rfl (by first | exact Or.inl rfl | exact Or.inr (Or.inl rfl) | exact Or.inr (Or.inr rfl)) rfl rfl) (ja_cons (je_var rfl (by first | exact Or.inl rfl | exact Or.inr (Or.inl rfl) | exact Or.inr (Or.inr rfl)) rfl rfl) ja_nil (fun _ => rfl)) (fun _ => rfl)) rfl (fun _ => rfl) (fun _ => rfl)) (fun _ => rfl)) (js_cons (j1_set rfl (by first | exact Or.inl rfl | exact Or.inr ⟨rfl, rfl⟩) (je_call h__law_plain rfl (ja_cons (je_var rfl (by first | exact Or.inl rfl | exact Or.inr (Or.inl rfl) | exact Or.inr (Or.inr rfl)) rfl rfl) ja_nil (fun _ => rfl)) rfl (fun _ => rfl) (fun _ => rfl)) (fun _ => rfl)) (js_cons (j1_set rfl (by first | exact Or.inl rfl | exact Or.inr ⟨rfl, rfl⟩) (je_call h__law_plain rfl (ja_cons (je_var rfl (by first | exact Or.inl rfl | exact Or.inr (Or.inl rfl) | exact Or.inr (Or.inr rfl)) rfl rfl) ja_nil (fun _ => rfl)) rfl (fun _ => rfl) (fun _ => rfl)) (fun _ => rfl)) (js_cons (j1_set rfl (by first | exact Or.inl rfl | exact Or.inr ⟨rfl, rfl⟩) (je_prT (fun X F => call_gList F) rfl C.n_list (by decide +kernel) (ja_cons (je_var rfl (by first | exact Or.inl rfl | exact Or.inr (Or.inl rfl) | exact Or.inr (Or.inr rfl)) rfl rfl) ja_nil (fun _ => rfl)) (by decide) rfl (fun _ => rfl) (fun _ => rfl)) (fun _ => rfl)) (js_cons (j1_set rfl (by first | exact Or.inl rfl | exact Or.inr ⟨rfl, rfl⟩) (je_make (k := 9) mk_Bank___init___0 (show 9 + 1 ≤ 10 by decide) rfl (ja_cons (je_var rfl (by first | exact Or.inl rfl | exact Or.inr (Or.inl rfl) | exact Or.inr (Or.inr rfl)) rfl rfl) ja_nil (fun _ => rfl)) rfl (fun _ => rfl) (fun _ => rfl)) (fun _ => rfl)) (js_cons (j1_set rfl (by first | exact Or.inl rfl | exact Or.inr ⟨rfl, rfl⟩) (je_make (k := 9) mk_Bank___init___0 (show 9 + 1 ≤ 10 by decide) rfl (ja_cons (je_prT (fun X F => call_gTuple F) rfl C.n_tuple (by decide +kernel) (ja_cons (je_var rfl (by first | exact Or.inl rfl | exact Or.inr (Or.inl rfl) | exact Or.inr (Or.inr rfl)) rfl rfl) ja_nil (fun _ => rfl)) (by decide) rfl (fun _ => rfl) (fun _ => rfl)) ja_nil (fun _ => rfl)) rfl (fun _ => rfl) (fun _ => rfl)) (fun _ => rfl)) (js_cons (j1_if (jt_cmp (fun X F => op_gNeY F) (je_var rfl (by first | exact Or.inl rfl | exact Or.inr (Or.inl rfl) | exact Or.inr (Or.inr rfl)) rfl rfl) (je_var rfl (by first | exact Or.inl rfl | exact Or.inr (Or.inl rfl) | exact Or.inr (Or.inr rfl)) rfl rfl) rfl) (js_one (j1_ret je_bl)) js_nil) (js_cons (j1_expr (je_mt0 PySem.F.plainAttrs_list PySem.F.slot_list_reverse PySem.F.type_list_reverse (fun X F => mt_gReverse F) (je_var rfl (by first | exact Or.inl rfl | exact Or.inr (Or.inl rfl) | exact Or.inr (Or.inr rfl)) rfl rfl) (fun _ => rfl) rfl) (fun _ => rfl)) (js_cons (j1_expr (je_mt PySem.F.plainAttrs_list PySem.F.slot_list_append PySem.F.type_list_append (fun X F => mt_gAppend F) (je_var rfl (by first | exact Or.inl rfl | exact Or.inr (Or.inl rfl) | exact Or.inr (Or.inr rfl)) rfl rfl) (ja_cons (je_tup (ja_cons je_int (ja_cons je_int ja_nil (fun _ => rfl)) (fun _ => rfl))) ja_nil (fun _ => rfl)) (fun _ => rfl) (fun _ => rfl) rfl (fun _ => rfl) (fun _ => rfl)) (fun _ => rfl)) (js_cons (j1_if (jt_w (jw_or (jt_not (jt_tr (je_call h__law_same rfl (ja_cons (je_att ⟨C.fl_Bank_extra, trivial⟩ (je_make (k := 9) mk_Bank___init___0 (show 9 + 1 ≤ 10 by decide) rfl (ja_cons (je_lst ja_nil) ja_nil (fun _ => rfl)) rfl (fun _ => rfl) (fun _ => rfl)) (fun _ => rfl)) (ja_cons (je_tup ja_nil) ja_nil (fun _ => rfl)) (fun _ => rfl)) rfl (fun _ => rfl) (fun _ => rfl)) (fun _ _ => rfl))) (jw_or1 (jt_not (jt_tr (je_call h__law_pair rfl (ja_cons (je_var rfl (by first | exact Or.inl rfl | exact Or.inr (Or.inl rfl) | exact Or.inr (Or.inr rfl)) rfl rfl) (ja_cons (je_var rfl (by first | exact Or.inl rfl | exact Or.inr (Or.inl rfl) | exact Or.inr (Or.inr rfl)) rfl rfl) (ja_cons (je_var rfl (by first | exact Or.inl rfl | exact Or.inr (Or.inl rfl) | exact Or.inr (Or.inr rfl)) rfl rfl) (ja_cons (je_var rfl (by first | exact Or.inl rfl | exact Or.inr (Or.inl rfl) | exact Or.inr (Or.inr rfl)) rfl rfl) ja_nil (fun _ => rfl)) (fun _ => rfl)) (fun _ => rfl)) (fun _ => rfl)) rfl (fun _ => rfl) (fun _ => rfl)) (fun _ _ => rfl)))))) (js_one (j1_ret je_bl)) js_nil) (js_one (j1_ret (je_and (je_call h__law_refusals rfl (ja_cons (je_var rfl (by first | exact Or.inl rfl | exact Or.inr (Or.inl rfl) | exact Or.inr (Or.inr rfl)) rfl rfl) (ja_cons (je_var rfl (by first | exact Or.inl rfl | exact Or.inr (Or.inl rfl) | exact Or.inr (Or.inr rfl)) rfl rfl) ja_nil (fun _ => rfl)) (fun _ => rfl)) rfl (fun _ => rfl) (fun _ => rfl)) (je_one (je_call h__law_pair rfl (ja_cons (je_var rfl (by first | exact Or.inl rfl | exact Or.inr (Or.inl rfl) | exact Or.inr (Or.inr rfl)) rfl rfl) (ja_cons (je_var rfl (by first | exact Or.inl rfl | exact Or.inr (Or.inl rfl) | exact Or.inr (Or.inr rfl)) rfl rfl) (ja_cons (je_var rfl (by first | exact Or.inl rfl | exact Or.inr (Or.inl rfl) | exact Or.inr (Or.inr rfl)) rfl rfl) (ja_cons (je_var rfl (by first | exact Or.inl rfl | exact Or.inr (Or.inl rfl) | exact Or.inr (Or.inr rfl)) rfl rfl) ja_nil (fun _ => rfl)) (fun _ => rfl)) (fun _ => rfl)) (fun _ => rfl)) rfl (fun _ => rfl) (fun _ => rfl)))))))))))))))))))
end
/-! ### the head -/
def d__field_copy : He.DefD := ⟨("_field_copy", none), "_field_copy", "_field_copy", defArgs (top 2), defBody (top 2), defScope (top 2), [], []⟩
def d__on_shore : He.DefD := ⟨("_on_shore", none), "_on_shore", "_on_shore", defArgs (top 15), defBody (top 15), defScope (top 15), [], []⟩
def d__law_draw : He.DefD := ⟨("_law_draw", none), "_law_draw", "_law_draw", defArgs (top 19), defBody (top 19), defScope (top 19), [], []⟩
def d__law_plain : He.DefD := ⟨("_law_plain", none), "_law_plain", "_law_plain", defArgs (top 23), defBody (top 23), defScope (top 23), [], []⟩
def d__law_within : He.DefD := ⟨("_law_within", none), "_law_within", "_law_within", defArgs (top 24), defBody (top 24), defScope (top 24), [], []⟩
def d_Bank___eq__ : He.DefD := ⟨("Bank", some "__eq__"), "__eq__", "Bank.__eq__", defArgs (clsMeth (top 17) 3), defBody (clsMeth (top 17) 3), defScope (clsMeth (top 17) 3), [], []⟩
def d__law_lot : He.DefD := ⟨("_law_lot", none), "_law_lot", "_law_lot", defArgs (top 21), defBody (top 21), defScope (top 21), [], []⟩
def d_Bank___contains__ : He.DefD := ⟨("Bank", some "__contains__"), "__contains__", "Bank.__contains__", defArgs (clsMeth (top 17) 2), defBody (clsMeth (top 17) 2), defScope (clsMeth (top 17) 2), [], []⟩
def d_check_length : He.DefD := ⟨("check_length", none), "check_length", "check_length", defArgs (top 11), defBody (top 11), defScope (top 11), [], []⟩
def d__law_second : He.DefD := ⟨("_law_second", none), "_law_second", "_law_second", defArgs (top 22), defBody (top 22), defScope (top 22), [], []⟩
def d__law_members : He.DefD := ⟨("_law_members", none), "_law_members", "_law_members", defArgs (top 25), defBody (top 25), defScope (top 25), [], []⟩
def d_Bank_inside : He.DefD := ⟨("Bank", some "inside"), "inside", "Bank.inside", defArgs (clsMeth (top 17) 6), defBody (clsMeth (top 17) 6), defScope (clsMeth (top 17) 6), [], []⟩
def d_check_cell : He.DefD := ⟨("check_cell", none), "check_cell", "check_cell", defArgs (top 9), defBody (top 9), defScope (top 9), [], []⟩
def d__check_off_shore : He.DefD := ⟨("_check_off_shore", none), "_check_off_shore", "_check_off_shore", defArgs (top 16), defBody (top 16), defScope (top 16), [], []⟩
def d_check_cells : He.DefD := ⟨("check_cells", none), "check_cells", "check_cells", defArgs (top 12), defBody (top 12), defScope (top 12), [], []⟩
def d__law_same : He.DefD := ⟨("_law_same", none), "_law_same", "_law_same", defArgs (top 20), defBody (top 20), defScope (top 20), [], []⟩
def d_Bank___init__ : He.DefD := ⟨("Bank", some "__init__"), "__init__", "Bank.__init__", defArgs (clsMeth (top 17) 0), defBody (clsMeth (top 17) 0), defScope (clsMeth (top 17) 0), [.adr (He.dflAt ("Bank", some "__init__") 0)], []⟩
def d__law_made : He.DefD := ⟨("_law_made", none), "_law_made", "_law_made", defArgs (top 27), defBody (top 27), defScope (top 27), [], []⟩
def d_Bank___or__ : He.DefD := ⟨("Bank", some "__or__"), "__or__", "Bank.__or__", defArgs (clsMeth (top 17) 4), defBody (clsMeth (top 17) 4), defScope (clsMeth (top 17) 4), [], []⟩
def d_Bank___and__ : He.DefD := ⟨("Bank", some "__and__"), "__and__", "Bank.__and__", defArgs (clsMeth (top 17) 5), defBody (clsMeth (top 17) 5), defScope (clsMeth (top 17) 5), [], []⟩
def d__law_pair : He.DefD := ⟨("_law_pair", none), "_law_pair", "_law_pair", defArgs (top 26), defBody (top 26), defScope (top 26), [], []⟩
def d__law_joined : He.DefD := ⟨("_law_joined", none), "_law_joined", "_law_joined", defArgs (top 28), defBody (top 28), defScope (top 28), [], []⟩
def d__law_refusals : He.DefD := ⟨("_law_refusals", none), "_law_refusals", "_law_refusals", defArgs (top 29), defBody (top 29), defScope (top 29), [], []⟩
def d__law_block : He.DefD := ⟨("_law_block", none), "_law_block", "_law_block", defArgs (top 30), defBody (top 30), defScope (top 30), [], []⟩
def d_law : He.DefD := ⟨("law", none), "law", "law", defArgs (top 31), defBody (top 31), defScope (top 31), [], []⟩
def fn : List He.DefD := [d__field_copy, d__on_shore, d__law_draw, d__law_plain, d__law_within, d_Bank___eq__, d__law_lot, d_Bank___contains__, d_check_length, d__law_second, d__law_members, d_Bank_inside, d_check_cell, d__check_off_shore, d_check_cells, d__law_same, d_Bank___init__, d__law_made, d_Bank___or__, d_Bank___and__, d__law_pair, d__law_joined, d__law_refusals, d__law_block, d_law]
def s_BadCell : SupD := ⟨"BadCell", "__init__", "BadCell.__init__", defArgs (clsMeth (top 5) 0), defBody (clsMeth (top 5) 0), defScope (clsMeth (top 5) 0)⟩
def s_OnShore : SupD := ⟨"OnShore", "__init__", "OnShore.__init__", defArgs (clsMeth (top 6) 0), defBody (clsMeth (top 6) 0), defScope (clsMeth (top 6) 0)⟩
def s_TooMany : SupD := ⟨"TooMany", "__init__", "TooMany.__init__", defArgs (clsMeth (top 4) 0), defBody (clsMeth (top 4) 0), defScope (clsMeth (top 4) 0)⟩
def cs : List SupD := [s_BadCell, s_OnShore, s_TooMany]
abbrev file : Str := PySem.Challenge.pw_neverpenned_k34_banks.main.file
def fa : List He.Fa := [.glo "_field_copy", .glo "_on_shore", .glo "_law_draw", .glo "_law_plain", .glo "_law_within", .glo "_law_lot", .glo "check_length", .glo "_law_second", .glo "_law_members", .glo "check_cell", .glo "_check_off_shore", .glo "check_cells", .glo "_law_same", .glo "_law_made", .glo "_law_pair", .glo "_law_joined", .glo "_law_refusals", .glo "_law_block", .glo "law", .free "ValueError", .free "abs", .free "bool", .free "dict", .free "int", .free "isinstance", .free "len", .free "list", .free "range", .free "sorted", .free "str", .free "tuple", .glo "BadCell", .glo "Bank", .glo "OnShore", .glo "PlayError", .glo "TooMany", .glo "Bank", .cls "Bank", .mkr "Bank", .noat "Bank" "_places", .noat "Bank" "extra", .meth "Bank" "__eq__", .meth "Bank" "__contains__", .meth "Bank" "inside", .meth "Bank" "__init__", .meth "Bank" "__or__", .meth "Bank" "__and__"]
def pr : List PrD := []
def ck (K : PySem.W.Frag) : Bool := gvB K "REACH" (.int 120) && (gvB K "_MOST_EXTRA" (.int 10000) && (exmTab K (.ref (He.ga K "BadCell")) xt_BadCell && (exmTab K (.ref (He.ga K "OnShore")) xt_OnShore && (exmTab K (.ref (He.ga K "TooMany")) xt_TooMany && (isiTab K (.ref (He.ga K "PlayError")) it_PlayError && (isiTab K (.type "ValueError") it_ValueError && (isiTabT K ["BadCell", "OnShore"] itt0 && (isiTabT K ["TooMany", "OnShore"] itt1 && (isiTabT K ["TooMany", "BadCell"] itt2 && (xfTab K cs_cell "cell" && (xfTab K cs_most "most" && (supB K file s_BadCell && (supB K file s_OnShore && (supB K file s_TooMany && (He.eqO (PySem.W.findIn K (.ref (He.ga K "BadCell")) "cell") (some none) && (He.eqO (PySem.W.findIn K (.ref (He.ga K "OnShore")) "cell") (some none) && (He.eqO (PySem.W.findIn K (.ref (He.ga K "TooMany")) "most") (some none) && (PySem.W.selfFirst K (He.ga K "Bank") && (ctB K (.ct []) (.ref (He.dflAt ("Bank", some "__init__") 0 K)) && (isoB K (.ref (He.ga K "Bank")) io_Bank && (nfB K "Bank" eqt_Bank && (true))))))))))))))))))))))
abbrev R : PySem.W.OpenRow := PySem.W.OpenLaw.row RW
abbrev hk : PySem.W.Hook := hookX ck 6 fa fn cs
def ob (s : PySem.W.SharedT) : AlX := obsXG ck 6 fa fn (cs.map (·.cls)) (HandSHeadRun.getT s)
theorem ob_eq (s : PySem.W.SharedT) : ob s = hk.obs s.abs := obsXG_eq (HandSHeadRun.getT_eq s)
def lo0 : List Str := ["_wall", "__name__", "_field_copy", "PlayError", "TooMany", "BadCell", "OnShore", "REACH", "check_cell", "check_length", "check_cells", "_MOST_EXTRA", "_on_shore", "_check_off_shore", "Bank", "_law_draw"]
def lo1 : List Str := ["_law_same", "_law_lot", "_law_second", "_law_plain", "_law_within", "_law_members", "_law_pair", "_law_made", "_law_joined", "_law_refusals", "_law_block"]
def loose : List Str := lo0 ++ lo1
theorem run (w : World) : HandSHeadRun.RunEq R (PySem.W.view R.prog [31]) hk ob 9000 loose w := by
  intro os
  kernel_rfl
theorem ctx_of {K : PySem.W.Frag} {h : Heap} {mg : Str → Option Value} (X : K.In h) (G : h.Ns mainGlobals mg) (c1 : ck K = true) (c : He.SaysD fa fn K) : Ctx K mg := by
  have h0 := c1
  obtain ⟨a0, h1⟩ := and2 (show (_ && _) = true from h0)
  obtain ⟨a1, h2⟩ := and2 (show (_ && _) = true from h1)
  obtain ⟨a2, h3⟩ := and2 (show (_ && _) = true from h2)
  obtain ⟨a3, h4⟩ := and2 (show (_ && _) = true from h3)
  obtain ⟨a4, h5⟩ := and2 (show (_ && _) = true from h4)
  obtain ⟨a5, h6⟩ := and2 (show (_ && _) = true from h5)
  obtain ⟨a6, h7⟩ := and2 (show (_ && _) = true from h6)
  obtain ⟨a7, h8⟩ := and2 (show (_ && _) = true from h7)
  obtain ⟨a8, h9⟩ := and2 (show (_ && _) = true from h8)
  obtain ⟨a9, h10⟩ := and2 (show (_ && _) = true from h9)
  obtain ⟨a10, h11⟩ := and2 (show (_ && _) = true from h10)
  obtain ⟨a11, h12⟩ := and2 (show (_ && _) = true from h11)
  obtain ⟨a12, h13⟩ := and2 (show (_ && _) = true from h12)
  obtain ⟨a13, h14⟩ := and2 (show (_ && _) = true from h13)
  obtain ⟨a14, h15⟩ := and2 (show (_ && _) = true from h14)
  obtain ⟨a15, h16⟩ := and2 (show (_ && _) = true from h15)
  obtain ⟨a16, h17⟩ := and2 (show (_ && _) = true from h16)
  obtain ⟨a17, h18⟩ := and2 (show (_ && _) = true from h17)
  obtain ⟨a18, h19⟩ := and2 (show (_ && _) = true from h18)
  obtain ⟨a19, h20⟩ := and2 (show (_ && _) = true from h19)
  obtain ⟨a20, h21⟩ := and2 (show (_ && _) = true from h20)
  obtain ⟨a21, h22⟩ := and2 (show (_ && _) = true from h21)
  exact ⟨He.free_ok X G (c.fact 19 (f := .free "ValueError") rfl), He.free_ok X G (c.fact 20 (f := .free "abs") rfl), He.free_ok X G (c.fact 21 (f := .free "bool") rfl), He.free_ok X G (c.fact 22 (f := .free "dict") rfl), He.free_ok X G (c.fact 23 (f := .free "int") rfl), He.free_ok X G (c.fact 24 (f := .free "isinstance") rfl), He.free_ok X G (c.fact 25 (f := .free "len") rfl), He.free_ok X G (c.fact 26 (f := .free "list") rfl), He.free_ok X G (c.fact 27 (f := .free "range") rfl), He.free_ok X G (c.fact 28 (f := .free "sorted") rfl), He.free_ok X G (c.fact 29 (f := .free "str") rfl), He.free_ok X G (c.fact 30 (f := .free "tuple") rfl), gvB_ok X G a0, gvB_ok X G a1, ⟨He.cls_ok (c.fact 37 (f := .cls "Bank") rfl), He.noat_ok (c.fact 39 (f := .noat "Bank" "_places") rfl)⟩, ⟨He.cls_ok (c.fact 37 (f := .cls "Bank") rfl), He.noat_ok (c.fact 40 (f := .noat "Bank" "extra") rfl)⟩, a18, He.glo_ok X G (c.fact 31 (f := .glo "BadCell") rfl), He.glo_ok X G (c.fact 32 (f := .glo "Bank") rfl), He.glo_ok X G (c.fact 33 (f := .glo "OnShore") rfl), He.glo_ok X G (c.fact 34 (f := .glo "PlayError") rfl), He.glo_ok X G (c.fact 35 (f := .glo "TooMany") rfl), a2, a3, a4, a5, a6, a7, a8, a9, a10, a11, a21, a20⟩
theorem facts {P : Program} {w : World} {K : PySem.W.Frag} {h : Heap} {mg : Str → Option Value} {f : Addr} (X : K.In h) (G : h.Ns mainGlobals mg) (hfa : mg ("law" : Str) = some (.ref f)) (c1 : ck K = true) (c : He.SaysD fa fn K) (c2 : (cs.map (·.cls)).map (supW K) = cs.map SupD.val) (hP : P.main.file = file) (hT : (P.main.scope.names.lookup ("super" : Str)).isSome = false) :
    ∃ fd : FuncData, (∀ (s : Shared) (v : Value), BindsTo s fd ⟨[v], []⟩ [("script", v)]) ∧ ∀ base : Heap, K.In base → base.Ns mainGlobals mg → FnOk P w K mg base (L2N.CX P w) 11 f fd ["script"] (spF K f_law) := by
  have C := ctx_of X G c1 c
  obtain ⟨fd__field_copy, F__field_copy⟩ := c.def_ 0 (d := d__field_copy) rfl
  obtain ⟨fd__on_shore, F__on_shore⟩ := c.def_ 1 (d := d__on_shore) rfl
  obtain ⟨fd__law_draw, F__law_draw⟩ := c.def_ 2 (d := d__law_draw) rfl
  obtain ⟨fd__law_plain, F__law_plain⟩ := c.def_ 3 (d := d__law_plain) rfl
  obtain ⟨fd__law_within, F__law_within⟩ := c.def_ 4 (d := d__law_within) rfl
  obtain ⟨fd_Bank___eq__, F_Bank___eq__⟩ := c.def_ 5 (d := d_Bank___eq__) rfl
  obtain ⟨fd__law_lot, F__law_lot⟩ := c.def_ 6 (d := d__law_lot) rfl
  obtain ⟨fd_Bank___contains__, F_Bank___contains__⟩ := c.def_ 7 (d := d_Bank___contains__) rfl
  obtain ⟨fd_check_length, F_check_length⟩ := c.def_ 8 (d := d_check_length) rfl
  obtain ⟨fd__law_second, F__law_second⟩ := c.def_ 9 (d := d__law_second) rfl
  obtain ⟨fd__law_members, F__law_members⟩ := c.def_ 10 (d := d__law_members) rfl
  obtain ⟨fd_Bank_inside, F_Bank_inside⟩ := c.def_ 11 (d := d_Bank_inside) rfl
  obtain ⟨fd_check_cell, F_check_cell⟩ := c.def_ 12 (d := d_check_cell) rfl
  obtain ⟨fd__check_off_shore, F__check_off_shore⟩ := c.def_ 13 (d := d__check_off_shore) rfl
  obtain ⟨fd_check_cells, F_check_cells⟩ := c.def_ 14 (d := d_check_cells) rfl
  obtain ⟨fd__law_same, F__law_same⟩ := c.def_ 15 (d := d__law_same) rfl
  obtain ⟨fd_Bank___init__, F_Bank___init__⟩ := c.def_ 16 (d := d_Bank___init__) rfl
  obtain ⟨fd__law_made, F__law_made⟩ := c.def_ 17 (d := d__law_made) rfl
  obtain ⟨fd_Bank___or__, F_Bank___or__⟩ := c.def_ 18 (d := d_Bank___or__) rfl
  obtain ⟨fd_Bank___and__, F_Bank___and__⟩ := c.def_ 19 (d := d_Bank___and__) rfl
  obtain ⟨fd__law_pair, F__law_pair⟩ := c.def_ 20 (d := d__law_pair) rfl
  obtain ⟨fd__law_joined, F__law_joined⟩ := c.def_ 21 (d := d__law_joined) rfl
  obtain ⟨fd__law_refusals, F__law_refusals⟩ := c.def_ 22 (d := d__law_refusals) rfl
  obtain ⟨fd__law_block, F__law_block⟩ := c.def_ 23 (d := d__law_block) rfl
  obtain ⟨fd_law, F_law⟩ := c.def_ 24 (d := d_law) rfl
  have e := hfa.symm.trans (He.glo_ok X G (c.fact 18 (f := .glo "law") rfl))
  cases e
  have b := FunD.bindsA (ps := ["script"]) F_law fun _ _ _ _ _ _ us hl => match us, hl with | [_], _ => rfl
  refine ⟨fd_law, fun s v => b s [v] rfl, fun base _ _ => ?_⟩
  have h0 := c1
  obtain ⟨a0, h1⟩ := and2 (show (_ && _) = true from h0)
  obtain ⟨a1, h2⟩ := and2 (show (_ && _) = true from h1)
  obtain ⟨a2, h3⟩ := and2 (show (_ && _) = true from h2)
  obtain ⟨a3, h4⟩ := and2 (show (_ && _) = true from h3)
  obtain ⟨a4, h5⟩ := and2 (show (_ && _) = true from h4)
  obtain ⟨a5, h6⟩ := and2 (show (_ && _) = true from h5)
  obtain ⟨a6, h7⟩ := and2 (show (_ && _) = true from h6)
  obtain ⟨a7, h8⟩ := and2 (show (_ && _) = true from h7)
  obtain ⟨a8, h9⟩ := and2 (show (_ && _) = true from h8)
  obtain ⟨a9, h10⟩ := and2 (show (_ && _) = true from h9)
  obtain ⟨a10, h11⟩ := and2 (show (_ && _) = true from h10)
  obtain ⟨a11, h12⟩ := and2 (show (_ && _) = true from h11)
  obtain ⟨a12, h13⟩ := and2 (show (_ && _) = true from h12)
  obtain ⟨a13, h14⟩ := and2 (show (_ && _) = true from h13)
  obtain ⟨a14, h15⟩ := and2 (show (_ && _) = true from h14)
  obtain ⟨a15, h16⟩ := and2 (show (_ && _) = true from h15)
  obtain ⟨a16, h17⟩ := and2 (show (_ && _) = true from h16)
  obtain ⟨a17, h18⟩ := and2 (show (_ && _) = true from h17)
  obtain ⟨a18, h19⟩ := and2 (show (_ && _) = true from h18)
  obtain ⟨a19, h20⟩ := and2 (show (_ && _) = true from h19)
  obtain ⟨a20, h21⟩ := and2 (show (_ && _) = true from h20)
  obtain ⟨a21, h22⟩ := and2 (show (_ && _) = true from h21)
  simp only [cs, List.map_cons, List.map_nil, List.cons.injEq, and_true] at c2
  obtain ⟨u_BadCell, u_OnShore, u_TooMany⟩ := c2
  have hc__field_copy : FnAtC P w K mg base 1 "_field_copy" := fnAtC F__field_copy rfl sc__field_copy rfl rfl rfl C.n_isinstance rfl C.n_list rfl C.n_dict (He.glo_ok X G (c.fact 0 (f := .glo "_field_copy") rfl)) (F__field_copy.bindsN fun _ _ _ _ _ _ us hl => match us, hl with | [_], _ => rfl) (by decide)
  have r_BadCell : RaisesB P w K mg base 2 "BadCell" "cell" := raisesB_of (d := s_BadCell) (p := "cell") hP hT ⟨_, rfl, rfl⟩ u_BadCell a12 (He.eqO_ok a15) (He.glo_ok X G (c.fact 31 (f := .glo "BadCell") rfl)) rfl ⟨rfl, rfl, rfl, by decide +kernel, rfl, by decide +kernel, by decide +kernel, by decide +kernel, rfl, rfl⟩ rfl rfl rfl hc__field_copy rfl (fun _ => rfl) (fun _ _ _ _ _ _ _ us hl => match us, hl with | [_, _], _ => rfl)
  have r_OnShore : RaisesB P w K mg base 2 "OnShore" "cell" := raisesB_of (d := s_OnShore) (p := "cell") hP hT ⟨_, rfl, rfl⟩ u_OnShore a13 (He.eqO_ok a16) (He.glo_ok X G (c.fact 33 (f := .glo "OnShore") rfl)) rfl ⟨rfl, rfl, rfl, by decide +kernel, rfl, by decide +kernel, by decide +kernel, by decide +kernel, rfl, rfl⟩ rfl rfl rfl hc__field_copy rfl (fun _ => rfl) (fun _ _ _ _ _ _ _ us hl => match us, hl with | [_, _], _ => rfl)
  have r_TooMany : RaisesA P w K mg base 1 "TooMany" "most" := raisesA_of (d := s_TooMany) (p := "most") hP hT ⟨_, rfl, rfl⟩ u_TooMany a14 (He.eqO_ok a17) (He.glo_ok X G (c.fact 35 (f := .glo "TooMany") rfl)) rfl ⟨rfl, rfl, rfl, by decide +kernel, rfl, by decide +kernel, by decide +kernel, by decide +kernel, rfl, rfl⟩ rfl rfl (fun _ => rfl) (fun _ _ _ _ _ _ _ us hl => match us, hl with | [_, _], _ => rfl)
  have g0 := c1
  obtain ⟨b0, g1⟩ := and2 (show (_ && _) = true from g0)
  obtain ⟨b1, g2⟩ := and2 (show (_ && _) = true from g1)
  obtain ⟨b2, g3⟩ := and2 (show (_ && _) = true from g2)
  obtain ⟨b3, g4⟩ := and2 (show (_ && _) = true from g3)
  obtain ⟨b4, g5⟩ := and2 (show (_ && _) = true from g4)
  obtain ⟨b5, g6⟩ := and2 (show (_ && _) = true from g5)
  obtain ⟨b6, g7⟩ := and2 (show (_ && _) = true from g6)
  obtain ⟨b7, g8⟩ := and2 (show (_ && _) = true from g7)
  obtain ⟨b8, g9⟩ := and2 (show (_ && _) = true from g8)
  obtain ⟨b9, g10⟩ := and2 (show (_ && _) = true from g9)
  obtain ⟨b10, g11⟩ := and2 (show (_ && _) = true from g10)
  obtain ⟨b11, g12⟩ := and2 (show (_ && _) = true from g11)
  obtain ⟨b12, g13⟩ := and2 (show (_ && _) = true from g12)
  obtain ⟨b13, g14⟩ := and2 (show (_ && _) = true from g13)
  obtain ⟨b14, g15⟩ := and2 (show (_ && _) = true from g14)
  obtain ⟨b15, g16⟩ := and2 (show (_ && _) = true from g15)
  obtain ⟨b16, g17⟩ := and2 (show (_ && _) = true from g16)
  obtain ⟨b17, g18⟩ := and2 (show (_ && _) = true from g17)
  obtain ⟨b18, g19⟩ := and2 (show (_ && _) = true from g18)
  obtain ⟨b19, g20⟩ := and2 (show (_ && _) = true from g19)
  obtain ⟨b20, g21⟩ := and2 (show (_ && _) = true from g20)
  obtain ⟨b21, g22⟩ := and2 (show (_ && _) = true from g21)
  have h__on_shore : ∀ k', 1 ≤ k' → FnAt P w K mg base k' "_on_shore" [] f__on_shore := fun k' hk => fnAt F__on_shore sc__on_shore (j__on_shore C) (He.glo_ok X G (c.fact 1 (f := .glo "_on_shore") rfl)) (F__on_shore.bindsN fun _ _ _ _ _ _ us hl => match us, hl with | [_], _ => rfl) hk
  have h__law_draw : ∀ k', 1 ≤ k' → FnAt P w K mg base k' "_law_draw" [] f__law_draw := fun k' hk => fnAt F__law_draw sc__law_draw (j__law_draw C) (He.glo_ok X G (c.fact 2 (f := .glo "_law_draw") rfl)) (F__law_draw.bindsN fun _ _ _ _ _ _ us hl => match us, hl with | [_, _], _ => rfl) hk
  have h__law_plain : ∀ k', 1 ≤ k' → FnAt P w K mg base k' "_law_plain" [] f__law_plain := fun k' hk => fnAt F__law_plain sc__law_plain (j__law_plain C) (He.glo_ok X G (c.fact 3 (f := .glo "_law_plain") rfl)) (F__law_plain.bindsN fun _ _ _ _ _ _ us hl => match us, hl with | [_], _ => rfl) hk
  have h__law_within : ∀ k', 1 ≤ k' → FnAt P w K mg base k' "_law_within" [] f__law_within := fun k' hk => fnAt F__law_within sc__law_within (j__law_within C) (He.glo_ok X G (c.fact 4 (f := .glo "_law_within") rfl)) (F__law_within.bindsN fun _ _ _ _ _ _ us hl => match us, hl with | [_, _], _ => rfl) hk
  have J_Bank___eq__ := fun k' (hk : 1 ≤ k') => (fn_np (mg := mg) (base := base) (P := P) (w := w) F_Bank___eq__ sc_Bank___eq__ (j_Bank___eq__ C)).mono hk
  have m_Bank___eq__ : ∀ k', 1 ≤ k' → MetA P w K mg base k' "Bank" "__eq__" [] f_Bank___eq__ := fun k' hk => ⟨(He.cls_ok (c.fact 37 (f := .cls "Bank") rfl)), _, _, _, [], [], ((He.meth_ok (c.fact 41 (f := .meth "Bank" "__eq__") rfl))).at_, ((He.meth_ok (c.fact 41 (f := .meth "Bank" "__eq__") rfl))).fn, ((He.meth_ok (c.fact 41 (f := .meth "Bank" "__eq__") rfl))).kp, F_Bank___eq__.bindsN fun _ _ _ _ _ _ us hl => match us, hl with | [_, _], _ => rfl, .nil, fun _ _ => .nil, J_Bank___eq__ k' hk⟩
  have h__law_lot : ∀ k', 2 ≤ k' → FnAt P w K mg base k' "_law_lot" [] f__law_lot := fun k' hk => fnAt F__law_lot sc__law_lot (j__law_lot C (h__law_draw 1 (by decide))) (He.glo_ok X G (c.fact 5 (f := .glo "_law_lot") rfl)) (F__law_lot.bindsN fun _ _ _ _ _ _ us hl => match us, hl with | [_, _, _], _ => rfl) hk
  have J_Bank___contains__ := fun k' (hk : 2 ≤ k') => (fn_np (mg := mg) (base := base) (P := P) (w := w) F_Bank___contains__ sc_Bank___contains__ (j_Bank___contains__ C (h__on_shore 1 (by decide)))).mono hk
  have m_Bank___contains__ : ∀ k', 2 ≤ k' → MetA P w K mg base k' "Bank" "__contains__" [] f_Bank___contains__ := fun k' hk => ⟨(He.cls_ok (c.fact 37 (f := .cls "Bank") rfl)), _, _, _, [], [], ((He.meth_ok (c.fact 42 (f := .meth "Bank" "__contains__") rfl))).at_, ((He.meth_ok (c.fact 42 (f := .meth "Bank" "__contains__") rfl))).fn, ((He.meth_ok (c.fact 42 (f := .meth "Bank" "__contains__") rfl))).kp, F_Bank___contains__.bindsN fun _ _ _ _ _ _ us hl => match us, hl with | [_, _], _ => rfl, .nil, fun _ _ => .nil, J_Bank___contains__ k' hk⟩
  have h_check_length : ∀ k', 3 ≤ k' → FnAt P w K mg base k' "check_length" [] f_check_length := fun k' hk => fnAt F_check_length sc_check_length (j_check_length C r_TooMany) (He.glo_ok X G (c.fact 6 (f := .glo "check_length") rfl)) (F_check_length.bindsN fun _ _ _ _ _ _ us hl => match us, hl with | [_, _], _ => rfl) hk
  have h__law_second : ∀ k', 3 ≤ k' → FnAt P w K mg base k' "_law_second" [] f__law_second := fun k' hk => fnAt F__law_second sc__law_second (j__law_second C (h__law_draw 2 (by decide)) (h__law_lot 2 (by decide))) (He.glo_ok X G (c.fact 7 (f := .glo "_law_second") rfl)) (F__law_second.bindsN fun _ _ _ _ _ _ us hl => match us, hl with | [_, _], _ => rfl) hk
  have h__law_members : ∀ k', 3 ≤ k' → FnAt P w K mg base k' "_law_members" [] f__law_members := fun k' hk => fnAt F__law_members sc__law_members (j__law_members C (m_Bank___contains__ 2 (by decide))) (He.glo_ok X G (c.fact 8 (f := .glo "_law_members") rfl)) (F__law_members.bindsN fun _ _ _ _ _ _ us hl => match us, hl with | [_, _], _ => rfl) hk
  have J_Bank_inside := fun k' (hk : 3 ≤ k') => (fn_np (mg := mg) (base := base) (P := P) (w := w) F_Bank_inside sc_Bank_inside (j_Bank_inside C (m_Bank___contains__ 2 (by decide)))).mono hk
  have m_Bank_inside : ∀ k', 3 ≤ k' → MetA P w K mg base k' "Bank" "inside" [] f_Bank_inside := fun k' hk => ⟨(He.cls_ok (c.fact 37 (f := .cls "Bank") rfl)), _, _, _, [], [], ((He.meth_ok (c.fact 43 (f := .meth "Bank" "inside") rfl))).at_, ((He.meth_ok (c.fact 43 (f := .meth "Bank" "inside") rfl))).fn, ((He.meth_ok (c.fact 43 (f := .meth "Bank" "inside") rfl))).kp, F_Bank_inside.bindsN fun _ _ _ _ _ _ us hl => match us, hl with | [_, _], _ => rfl, .nil, fun _ _ => .nil, J_Bank_inside k' hk⟩
  have h_check_cell : ∀ k', 4 ≤ k' → FnAt P w K mg base k' "check_cell" [] f_check_cell := fun k' hk => fnAt F_check_cell sc_check_cell (j_check_cell C r_BadCell) (He.glo_ok X G (c.fact 9 (f := .glo "check_cell") rfl)) (F_check_cell.bindsN fun _ _ _ _ _ _ us hl => match us, hl with | [_], _ => rfl) hk
  have h__check_off_shore : ∀ k', 4 ≤ k' → FnAt P w K mg base k' "_check_off_shore" [] f__check_off_shore := fun k' hk => fnAt F__check_off_shore sc__check_off_shore (j__check_off_shore C (h__on_shore 3 (by decide)) r_OnShore) (He.glo_ok X G (c.fact 10 (f := .glo "_check_off_shore") rfl)) (F__check_off_shore.bindsN fun _ _ _ _ _ _ us hl => match us, hl with | [_], _ => rfl) hk
  have h_check_cells : ∀ k', 5 ≤ k' → FnAt P w K mg base k' "check_cells" [] f_check_cells := fun k' hk => fnAt F_check_cells sc_check_cells (j_check_cells C (h_check_length 4 (by decide)) (h_check_cell 4 (by decide))) (He.glo_ok X G (c.fact 11 (f := .glo "check_cells") rfl)) (F_check_cells.bindsN fun _ _ _ _ _ _ us hl => match us, hl with | [_, _], _ => rfl) hk
  have h__law_same_0 : ∀ k', 1 ≤ k' → FnAt P w K mg base k' "_law_same" [] f__law_same_0 := fun k' hk => fnAt (k := 0) F__law_same sc__law_same js_never (He.glo_ok X G (c.fact 12 (f := .glo "_law_same") rfl)) (F__law_same.bindsN fun _ _ _ _ _ _ us hl => match us, hl with | [_, _], _ => rfl) hk
  have h__law_same_1 : ∀ k', 2 ≤ k' → FnAt P w K mg base k' "_law_same" [] f__law_same_1 := fun k' hk => fnAt F__law_same sc__law_same (j__law_same (k := 1) C _ (h__law_same_0 1 (by decide))) (He.glo_ok X G (c.fact 12 (f := .glo "_law_same") rfl)) (F__law_same.bindsN fun _ _ _ _ _ _ us hl => match us, hl with | [_, _], _ => rfl) hk
  have h__law_same_2 : ∀ k', 3 ≤ k' → FnAt P w K mg base k' "_law_same" [] f__law_same_2 := fun k' hk => fnAt F__law_same sc__law_same (j__law_same (k := 2) C _ (h__law_same_1 2 (by decide))) (He.glo_ok X G (c.fact 12 (f := .glo "_law_same") rfl)) (F__law_same.bindsN fun _ _ _ _ _ _ us hl => match us, hl with | [_, _], _ => rfl) hk
  have h__law_same_3 : ∀ k', 4 ≤ k' → FnAt P w K mg base k' "_law_same" [] f__law_same_3 := fun k' hk => fnAt F__law_same sc__law_same (j__law_same (k := 3) C _ (h__law_same_2 3 (by decide))) (He.glo_ok X G (c.fact 12 (f := .glo "_law_same") rfl)) (F__law_same.bindsN fun _ _ _ _ _ _ us hl => match us, hl with | [_, _], _ => rfl) hk
  have h__law_same_4 : ∀ k', 5 ≤ k' → FnAt P w K mg base k' "_law_same" [] f__law_same_4 := fun k' hk => fnAt F__law_same sc__law_same (j__law_same (k := 4) C _ (h__law_same_3 4 (by decide))) (He.glo_ok X G (c.fact 12 (f := .glo "_law_same") rfl)) (F__law_same.bindsN fun _ _ _ _ _ _ us hl => match us, hl with | [_, _], _ => rfl) hk
  have h__law_same : ∀ k', 5 ≤ k' → FnAt P w K mg base k' "_law_same" [] f__law_same := h__law_same_4
  have J_Bank___init__ := fun k' (hk : 6 ≤ k') => (fn_np (mg := mg) (base := base) (P := P) (w := w) F_Bank___init__ sc_Bank___init__ (j_Bank___init__ C (h_check_cells 5 (by decide)) (h__check_off_shore 5 (by decide)))).mono hk
  obtain ⟨ds_Bank___init___0, v_Bank___init___0, B_Bank___init___0⟩ := F_Bank___init__.binds1 (ps := ["self", "extra"]) 2 1 (by simp [d_Bank___init__, He.DefD.dvs]) (by simp [d_Bank___init__, He.DefD.dvs]) (fun _ _ _ _ _ _ _ us its h1 h2 => match us, its, h1, h2 with | [_, _], [_], _, _ => ⟨_, rfl, rfl⟩)
  have mk_Bank___init___0 : ∀ k', 6 ≤ k' → MakA P w K mg base k' "Bank" [] f_Bank___init__ := fun k' hk => makA_of (He.glo_ok X G (c.fact 36 (f := .glo "Bank") rfl)) (He.mkr_ok (c.fact 38 (f := .mkr "Bank") rfl)) ⟨(He.cls_ok (c.fact 37 (f := .cls "Bank") rfl)), _, _, _, ds_Bank___init___0, _, ((He.meth_ok (c.fact 44 (f := .meth "Bank" "__init__") rfl))).at_, ((He.meth_ok (c.fact 44 (f := .meth "Bank" "__init__") rfl))).fn, ((He.meth_ok (c.fact 44 (f := .meth "Bank" "__init__") rfl))).kp, B_Bank___init___0, v_Bank___init___0, fun _ _ => .nil, J_Bank___init__ k' hk⟩
  obtain ⟨ds_Bank___init___1, v_Bank___init___1, B_Bank___init___1⟩ := F_Bank___init__.binds1 (ps := ["self", "extra"]) 1 0 (by simp [d_Bank___init__, He.DefD.dvs]) (by simp [d_Bank___init__, He.DefD.dvs]) (fun _ _ _ _ _ _ _ us its h1 h2 => match us, its, h1, h2 with | [_], [_], _, _ => ⟨_, rfl, rfl⟩)
  obtain ⟨z_Bank___init___1, y_Bank___init___1, w_Bank___init___1⟩ := ctB_ok b19
  cases (show z_Bank___init___1 = .ref _ from by cases z_Bank___init___1 <;> first | exact congrArg V.ref (Value.ref.inj (show Value.ref _ = Value.ref _ from y_Bank___init___1).symm) | exact absurd y_Bank___init___1 (by rintro ⟨_, h⟩; cases h) | exact absurd y_Bank___init___1 (by rintro h; cases h))
  have mk_Bank___init___1 : ∀ k', 6 ≤ k' → MakA P w K mg base k' "Bank" [(.ct [])] f_Bank___init__ := fun k' hk => makA_of (He.glo_ok X G (c.fact 36 (f := .glo "Bank") rfl)) (He.mkr_ok (c.fact 38 (f := .mkr "Bank") rfl)) ⟨(He.cls_ok (c.fact 37 (f := .cls "Bank") rfl)), _, _, _, ds_Bank___init___1, _, ((He.meth_ok (c.fact 44 (f := .meth "Bank" "__init__") rfl))).at_, ((He.meth_ok (c.fact 44 (f := .meth "Bank" "__init__") rfl))).fn, ((He.meth_ok (c.fact 44 (f := .meth "Bank" "__init__") rfl))).kp, B_Bank___init___1, v_Bank___init___1, fun ρ H => .cons (w_Bank___init___1 ρ H) .nil, J_Bank___init__ k' hk⟩
  have h__law_made : ∀ k', 8 ≤ k' → FnAt P w K mg base k' "_law_made" [] f__law_made := fun k' hk => fnAt F__law_made sc__law_made (j__law_made C (mk_Bank___init___0 6 (by decide))) (He.glo_ok X G (c.fact 13 (f := .glo "_law_made") rfl)) (F__law_made.bindsN fun _ _ _ _ _ _ us hl => match us, hl with | [_], _ => rfl) hk
  have J_Bank___or__ := fun k' (hk : 8 ≤ k') => (fn_np (mg := mg) (base := base) (P := P) (w := w) F_Bank___or__ sc_Bank___or__ (j_Bank___or__ C (mk_Bank___init___0 6 (by decide)))).mono hk
  have m_Bank___or__ : ∀ k', 8 ≤ k' → MetA P w K mg base k' "Bank" "__or__" [] f_Bank___or__ := fun k' hk => ⟨(He.cls_ok (c.fact 37 (f := .cls "Bank") rfl)), _, _, _, [], [], ((He.meth_ok (c.fact 45 (f := .meth "Bank" "__or__") rfl))).at_, ((He.meth_ok (c.fact 45 (f := .meth "Bank" "__or__") rfl))).fn, ((He.meth_ok (c.fact 45 (f := .meth "Bank" "__or__") rfl))).kp, F_Bank___or__.bindsN fun _ _ _ _ _ _ us hl => match us, hl with | [_, _], _ => rfl, .nil, fun _ _ => .nil, J_Bank___or__ k' hk⟩
  have J_Bank___and__ := fun k' (hk : 8 ≤ k') => (fn_np (mg := mg) (base := base) (P := P) (w := w) F_Bank___and__ sc_Bank___and__ (j_Bank___and__ C (m_Bank___contains__ 7 (by decide)) (mk_Bank___init___0 6 (by decide)))).mono hk
  have m_Bank___and__ : ∀ k', 8 ≤ k' → MetA P w K mg base k' "Bank" "__and__" [] f_Bank___and__ := fun k' hk => ⟨(He.cls_ok (c.fact 37 (f := .cls "Bank") rfl)), _, _, _, [], [], ((He.meth_ok (c.fact 46 (f := .meth "Bank" "__and__") rfl))).at_, ((He.meth_ok (c.fact 46 (f := .meth "Bank" "__and__") rfl))).fn, ((He.meth_ok (c.fact 46 (f := .meth "Bank" "__and__") rfl))).kp, F_Bank___and__.bindsN fun _ _ _ _ _ _ us hl => match us, hl with | [_, _], _ => rfl, .nil, fun _ _ => .nil, J_Bank___and__ k' hk⟩
  have h__law_pair : ∀ k', 9 ≤ k' → FnAt P w K mg base k' "_law_pair" [] f__law_pair := fun k' hk => fnAt F__law_pair sc__law_pair (j__law_pair C (m_Bank___and__ 8 (by decide)) (m_Bank___or__ 8 (by decide)) (m_Bank___eq__ 8 (by decide)) (m_Bank_inside 8 (by decide)) (mk_Bank___init___1 7 (by decide)) (h__law_plain 8 (by decide)) (h__law_members 8 (by decide)) (h__law_same 8 (by decide)) (h__law_within 8 (by decide))) (He.glo_ok X G (c.fact 14 (f := .glo "_law_pair") rfl)) (F__law_pair.bindsN fun _ _ _ _ _ _ us hl => match us, hl with | [_, _, _, _], _ => rfl) hk
  have h__law_joined : ∀ k', 9 ≤ k' → FnAt P w K mg base k' "_law_joined" [] f__law_joined := fun k' hk => fnAt F__law_joined sc__law_joined (j__law_joined C (m_Bank___or__ 8 (by decide))) (He.glo_ok X G (c.fact 15 (f := .glo "_law_joined") rfl)) (F__law_joined.bindsN fun _ _ _ _ _ _ us hl => match us, hl with | [_, _], _ => rfl) hk
  have h__law_refusals : ∀ k', 9 ≤ k' → FnAt P w K mg base k' "_law_refusals" [] f__law_refusals := fun k' hk => fnAt F__law_refusals sc__law_refusals (j__law_refusals C (h__law_draw 8 (by decide)) (h__law_plain 8 (by decide)) (h__law_same 8 (by decide)) (h__law_made 8 (by decide))) (He.glo_ok X G (c.fact 16 (f := .glo "_law_refusals") rfl)) (F__law_refusals.bindsN fun _ _ _ _ _ _ us hl => match us, hl with | [_, _], _ => rfl) hk
  have h__law_block : ∀ k', 10 ≤ k' → FnAt P w K mg base k' "_law_block" [] f__law_block := fun k' hk => fnAt F__law_block sc__law_block (j__law_block C (m_Bank___and__ 9 (by decide)) (mk_Bank___init___0 8 (by decide)) (h__law_draw 9 (by decide)) (h__law_joined 9 (by decide)) (h__law_same 9 (by decide)) (h__law_made 9 (by decide))) (He.glo_ok X G (c.fact 17 (f := .glo "_law_block") rfl)) (F__law_block.bindsN fun _ _ _ _ _ _ us hl => match us, hl with | [_], _ => rfl) hk
  exact fn_np F_law sc_law (j_law C (mk_Bank___init___0 9 (by decide)) (h__law_draw 10 (by decide)) (h__law_block 10 (by decide)) (h__law_lot 10 (by decide)) (h__law_second 10 (by decide)) (h__law_plain 10 (by decide)) (h__law_same 10 (by decide)) (h__law_pair 10 (by decide)) (h__law_refusals 10 (by decide)))
end Lk34
open PySem
open PySem PySem.W PySem.Calls PyProof.Rows
theorem Lk34_end (pure : ∀ ns : List Int, ns.length ≤ 63 → ∃ Λ', Lk34.f_law [.cl (ns.map .int)] [] = .ok (.bl true) Λ') : PySem.Challenge.rw_neverpenned_k34_banks.Holds := by
  w_on; o_law
  refine HandSHeadRun.head_any (r := OpenLaw.row PySem.Challenge.rw_neverpenned_k34_banks) (q := view (OpenLaw.row PySem.Challenge.rw_neverpenned_k34_banks).prog [31]) (H := Lk34.hk) (ob := Lk34.ob) (M := 9000) (loose := Lk34.loose) (d := HandSHeadRun.topDef (OpenLaw.row PySem.Challenge.rw_neverpenned_k34_banks).prog 31) (kwd := []) Lk34.ob_eq
    (by kernel_rfl) (fun s => by kernel_rfl) Lk34.run (by kernel_rfl) (by kernel_rfl) (by kernel_rfl) (by rfl) (by first | assumption | decide +kernel) (by decide +kernel) ⟨rfl, rfl, rfl, rfl, rfl, by decide +kernel⟩ ?hw ?hc
  case hw => w_witness2
  case hc =>
    refine NP.walk_np (l := PySem.Challenge.rw_neverpenned_k34_banks) (n := 63) (k := 11) (x := "script") (m := Lk34.f_law) rfl (by decide) (by kernel_rfl) ⟨rfl, by decide, by decide⟩ pure ?F
    intro w mg fa h Y G hmg0
    obtain ⟨K, KX, c1, c, c2⟩ := Y
    have hmg : mg ("law" : PySem.Str) = some (.ref fa) := by
      have e : (HandSHeadRun.topDef (OpenLaw.row PySem.Challenge.rw_neverpenned_k34_banks).prog 31).name = ("law" : PySem.Str) := by kernel_rfl
      rw [← e]
      exact hmg0
    obtain ⟨fd, hb, hF⟩ := Lk34.facts (P := (PySem.Challenge.rw_neverpenned_k34_banks).prog) (w := w) KX G hmg c1 c c2 (by rfl) (by kernel_rfl)
    exact ⟨K, fd, KX, hb, hF⟩


set_option Elab.async false
set_option linter.all false
set_option maxRecDepth 100000
set_option maxHeartbeats 4000000
namespace Lk34
open PySem PySem.Spec PyProof.Rows L2 NP
abbrev Cell := Int × Int
abbrev bf (d : Nat) (l : List Cell) : List (Str × AV) := [("_places", .ref d), ("extra", .tup (cvs (sortP l)))]
theorem lk_f : List.lookup ("Bank" : Str) [("Bank", (none : Option MF))] = some none := rfl
theorem lk_m {m : MF} : List.lookup ("Bank" : Str) [("Bank", m)] = some m := rfl
theorem lk_p {m : MF} : List.lookup ("Bank" : Str) [("Bank", some m)] = some (some m) := rfl
theorem lk_pl {d : Nat} {l : List Cell} : List.lookup ("_places" : Str) (bf d l) = some (.ref d) := rfl
theorem lk_ex {d : Nat} {l : List Cell} : List.lookup ("extra" : Str) (bf d l) = some (.tup (cvs (sortP l))) := rfl
theorem draw_at {many : Int} {Λ : AH} {p : Nat} {X : XQ} (h : PoolD Λ p) (hm : 0 < many) (hm2 : many ≤ 1000000) :
    RQ (f__law_draw [.ref p, .int many] Λ) (fun v Λ' => ∃ d, v = .int d ∧ 0 ≤ d ∧ d < many ∧ PoolD Λ' p ∧ Keeps p Λ Λ') X := drawD_ok h hm hm2
theorem plain_at {Λ : AH} {n : Nat} {l : List Cell} {X : XQ} (h : Λ[n]? = some (.lst (cvs l))) (hl : l.length ≤ 100000) :
    RQ (f__law_plain [.ref n] Λ) (fun v Λ' => ∃ m, v = .ref m ∧ Λ.length ≤ m ∧ Λ <+: Λ' ∧ Λ'[m]? = some (.lst (cvs (plainP l)))) X := plainB_ok h hl
theorem same_i {Λ : AH} {i j : Int} {P : AV → AH → Prop} {X : XQ} (h : P (.bl (decide (i = j))) Λ) : RQ (f__law_same [.int i, .int j] Λ) P X :=
  show RQ (runF 2 3 (sameB f__law_same_3) [.int i, .int j] Λ) P X from same_int h
theorem same_c {Λ : AH} {l : List Cell} {P : AV → AH → Prop} {X : XQ} (hl : (l.length : Int) ≤ 1000000) (h : P (.bl true) Λ) : RQ (f__law_same [.tup (cvs l), .tup (cvs l)] Λ) P X :=
  (show SameR (runF 2 3 (sameB (runF 2 3 (sameB (runF 2 3 (sameB f__law_same_1)))))) (.tup (cvs l)) (.tup (cvs l)) from same_cvs hl).run Λ P X h
/-! ### cells -/
def nbN (c : Cell) : List Cell := [(c.1 + 1, c.2), (c.1, c.2 + 1), (c.1 - 1, c.2), (c.1, c.2 - 1)]
theorem ckc_gt {Λ : AH} {c : Cell} {P : AV → AH → Prop} {X : XQ} (h : far c ≤ 120) : RQ (f_check_cell [cv c] Λ) P X = P .non Λ := by
  obtain ⟨⟨h1, h2⟩, h3, h4⟩ := far_le.mp h
  unfold f_check_cell b_check_cell
  rw [rq_run (by rfl)]
  simp [startA, List.replicate, h1, h2, h3, h4]
theorem shore_gt {Λ : AH} {c : Cell} {P : AV → AH → Prop} {X : XQ} : RQ (f__on_shore [cv c] Λ) P X = P (.bl (decide (c.1 < 0))) Λ := by
  unfold f__on_shore b__on_shore
  rw [rq_run (by rfl)]
  simp [startA, List.replicate, at0]
theorem ckl_gt {Λ : AH} {a : AV} {K most : Int} {P : AV → AH → Prop} {X : XQ} (h : gLen [a] Λ = some (.int K, Λ)) (hk : K ≤ most) : RQ (f_check_length [a, .int most] Λ) P X = P .non Λ := by
  unfold f_check_length b_check_length
  rw [rq_run (by rfl)]
  have hn : ¬ most < K := by omega
  simp [startA, h, hn]
theorem ckcs_gt {Λ : AH} {a : AV} {l : List Cell} {P : AV → AH → Prop} {X : XQ} (h : CS2 Λ a l) (hl : l.length ≤ 10000) (hf : ∀ c ∈ l, far c ≤ 120) (p : P .non Λ) : RQ (f_check_cells [a, .int 10000] Λ) P X := by
  unfold f_check_cells b_check_cells
  rw [rq_run (by rfl)]
  simp only [startA, List.map_cons, List.map_nil, List.length_cons, List.length_nil, List.cons_append, List.nil_append, Nat.reduceAdd, Nat.reduceSub, List.replicate]
  refine sq_cut (fun δ Λ' => δ = [some a, some (.int 10000), none] ∧ Λ' = Λ) (fun N kN => ?_) ?_
  · simp only [sq_ex_, rq_call, rq_cons, rq_nil, rq_var, List.getElem?_cons_zero, List.getElem?_cons_succ, List.append_nil]
    rw [ckl_gt h.len (by omega)]
    exact kN _ _ ⟨rfl, rfl⟩
  rintro δ Λ1 ⟨rfl, rfl⟩
  obtain ⟨src, e1, e2⟩ := h.src
  simp only [sq_for, rq_it, rq_var, List.getElem?_cons_zero, (e2 Λ1 List.prefix_rfl).2, e1]
  refine forL_inv (fun i δ Λ' => (∃ o, δ = [some a, some (.int 10000), o]) ∧ Λ' = Λ1) ⟨⟨_, rfl⟩, rfl⟩ (fun _ _ _ _ q => by rw [q.2]; exact (e2 _ List.prefix_rfl).1) ?_ (fun δ Λ' q => by rw [q.2]; exact p)
  rintro i x δ Λ' hx ⟨⟨o, rfl⟩, rfl⟩
  obtain ⟨c, hc, rfl⟩ := cvs_at hx
  refine ⟨_, rfl, ?_⟩
  generalize hI : (fun δ Λ'' => (∃ o, δ = [some a, some (AV.int 10000), o]) ∧ Λ'' = Λ') = I
  simp only [sq_ex_, rq_call, rq_cons, rq_nil, rq_var, List.set_cons_zero, List.set_cons_succ, List.getElem?_cons_zero, List.getElem?_cons_succ, List.append_nil]
  rw [ckc_gt (hf c hc), ← hI]
  exact ⟨⟨_, rfl⟩, rfl⟩
theorem ckos_gt {Λ : AH} {a : AV} {l : List Cell} {P : AV → AH → Prop} {X : XQ} (h : CS2 Λ a l) (hf : ∀ c ∈ l, 0 ≤ c.1) (p : P .non Λ) : RQ (f__check_off_shore [a] Λ) P X := by
  unfold f__check_off_shore b__check_off_shore
  rw [rq_run (by rfl)]
  simp only [startA, List.map_cons, List.map_nil, List.length_cons, List.length_nil, List.cons_append, List.nil_append, Nat.reduceAdd, Nat.reduceSub, List.replicate]
  obtain ⟨src, e1, e2⟩ := h.src
  simp only [sq_for, rq_it, rq_var, List.getElem?_cons_zero, (e2 Λ List.prefix_rfl).2, e1]
  refine forL_inv (fun i δ Λ' => (∃ o, δ = [some a, o]) ∧ Λ' = Λ) ⟨⟨_, rfl⟩, rfl⟩ (fun _ _ _ _ q => by rw [q.2]; exact (e2 _ List.prefix_rfl).1) ?_ (fun δ Λ' q => by rw [q.2]; exact p)
  rintro i x δ Λ' hx ⟨⟨o, rfl⟩, rfl⟩
  obtain ⟨c, hc, rfl⟩ := cvs_at hx
  refine ⟨_, rfl, ?_⟩
  generalize hI : (fun δ Λ'' => (∃ o, δ = [some a, o]) ∧ Λ'' = Λ') = I
  have hn : ¬ c.1 < 0 := by have := hf c hc; omega
  rw [sq_ifS]
  simp only [rq_tr, rq_call, rq_cons, rq_nil, rq_var, List.set_cons_zero, List.set_cons_succ, List.getElem?_cons_zero, List.getElem?_cons_succ, List.append_nil, shore_gt, hn, decide_false, rq_truR, truA_bl, Bool.false_eq_true, false_implies, true_implies, true_and, sq_dNx]
  rw [← hI]
  exact ⟨⟨_, rfl⟩, rfl⟩
/-! ### Bank -/
/-- within the reach, off the shore -/
def Off (l : List Cell) : Prop := ∀ c ∈ l, far c ≤ 120 ∧ 0 ≤ c.1
theorem init_ok {Λ : AH} {r : Nat} {a : AV} {l : List Cell} {X : XQ} (hr : Λ[r]? = some (.ins "Bank" [])) (h : CS2 Λ a l) (hl : l.length ≤ 10000) (hf : Off l) :
    RQ (f_Bank___init__ [.ref r, a] Λ) (fun v Λ' => v = .non ∧ Keeps r Λ Λ' ∧ BkR Λ' r (dd l)) X := by
  refine RQ.cps fun P kP => ?_
  have hrl := get_lt hr
  unfold f_Bank___init__ b_Bank___init__
  rw [rq_run (by rfl)]
  simp only [startA, List.map_cons, List.map_nil, List.length_cons, List.length_nil, List.cons_append, List.nil_append, Nat.reduceAdd, Nat.reduceSub, List.replicate]
  refine sq_cut (fun δ Λ' => δ = [some (.ref r), some a, none] ∧ Λ' = Λ) (fun N kN => ?_) ?_
  · simp only [sq_ex_, rq_call, rq_cons, rq_nil, rq_c, rq_var, List.getElem?_cons_zero, List.getElem?_cons_succ, List.append_nil]
    exact ckcs_gt h hl (fun c hc => (hf c hc).1) (kN _ _ ⟨rfl, rfl⟩)
  rintro δ Λ1 ⟨rfl, rfl⟩
  refine sq_cut (fun δ Λ' => δ = [some (.ref r), some a, none] ∧ Λ' = Λ1) (fun N kN => ?_) ?_
  · simp only [sq_ex_, rq_call, rq_cons, rq_nil, rq_var, List.getElem?_cons_zero, List.getElem?_cons_succ, List.append_nil]
    exact ckos_gt h (fun c hc => (hf c hc).2) (kN _ _ ⟨rfl, rfl⟩)
  rintro δ Λ2 ⟨rfl, rfl⟩
  refine sq_cut (fun δ Λ' => δ = [some (.ref r), some a, none] ∧ Λ' = (Λ2 ++ [AO.dt (dtOf l)]).set r (.ins "Bank" [("_places", .ref Λ2.length)])) (fun N kN => ?_) ?_
  · obtain ⟨src, e1, e2⟩ := h.src
    simp only [sq_setF, rq_dt2, rq_it, rq_var, List.getElem?_cons_zero, List.getElem?_cons_succ, (e2 Λ2 List.prefix_rfl).2]
    refine rq_dta l cv (fun c => [some (.ref r), some a, some (cv c)]) (fun c => [.int c.1, .int c.2]) keyC (fun _ => .bl true) e1 (fun _ _ => rfl) (fun acc => (e2 _ (List.prefix_append _ _)).1) (fun c _ acc => ?_) (fun _ _ => rfl) (fun c _ acc => ?_) (sz_le (by omega)) ?_
    · simp only [rq_var, List.getElem?_cons_zero, List.getElem?_cons_succ]
      exact ⟨trivial, trivial⟩
    · exact ⟨rfl, rfl⟩
    · rw [setF_r (get_old hr _) (by decide +kernel) (by simp)]
      exact kN _ _ ⟨rfl, rfl⟩
  rintro δ Λ4 ⟨rfl, rfl⟩
  have g1 : ((Λ2 ++ [AO.dt (dtOf l)]).set r (.ins "Bank" [("_places", .ref Λ2.length)]))[Λ2.length]? = some (.dt (dtOf l)) := by
    rw [get_setNe (by omega), get_new0]; rfl
  have gr : ((Λ2 ++ [AO.dt (dtOf l)]).set r (.ins "Bank" [("_places", .ref Λ2.length)]))[r]? = some (.ins "Bank" [("_places", .ref Λ2.length)]) := get_set (get_old hr _)
  generalize hΛ4 : (Λ2 ++ [AO.dt (dtOf l)]).set r (.ins "Bank" [("_places", .ref Λ2.length)]) = Λ4 at g1 gr
  have hk4 : Keeps r Λ2 Λ4 := by
    rw [← hΛ4]
    exact (Keeps.pre (List.prefix_append _ _)).trans set_keeps
  have hs : (dtOf l).map (fun p => AV.tup (p.1.map kA)) = cvs (dd l) := keys_dt
  simp only [sq_setF, rq_pr, rq_cons, rq_nil, rq_att, rq_var, List.getElem?_cons_zero, List.getElem?_cons_succ, att_f gr lk_f (show List.lookup ("_places" : Str) [("_places", AV.ref Λ2.length)] = some (.ref Λ2.length) from rfl), gList_r, g1, hs, oq_some, sorted_ok (l := dd l) (Λ := Λ4 ++ [AO.lst (cvs (dd l))]) (n := Λ4.length) (by rw [get_new0]; rfl)]
  have g2 : ((Λ4 ++ [AO.lst (cvs (dd l))]) ++ [AO.lst (cvs (sortP (dd l)))])[(Λ4 ++ [AO.lst (cvs (dd l))]).length]? = some (.lst (cvs (sortP (dd l)))) := by rw [get_new0]; rfl
  simp only [gTuple_r, g2, oq_some]
  rw [setF_r (get_old (get_old gr _) _) (by decide +kernel) (by simp)]
  refine kP _ _ ⟨rfl, hk4.trans ((Keeps.pre ((List.prefix_append _ _).trans (List.prefix_append _ _))).trans set_keeps), Λ2.length, l, ?_, ?_, dd_nd, fun c => dd_mem⟩
  · rw [get_set (get_old (get_old gr _) _), putFl_ne (by decide +kernel)]
    rfl
  · rw [get_setNe (by omega)]
    exact get_old (get_old g1 _) _
theorem make_ok {Λ : AH} {a : AV} {l : List Cell} {X : XQ} (h : CS2 Λ a l) (hl : l.length ≤ 10000) (hf : Off l) :
    RQ (mkR "Bank" (fun as => f_Bank___init__ (as ++ [])) [a] Λ) (fun v Λ' => v = .ref Λ.length ∧ Λ <+: Λ' ∧ BkR Λ' Λ.length (dd l)) X := by
  refine mk_r ?_
  simp only [List.cons_append, List.nil_append, List.append_nil]
  exact (init_ok (r := Λ.length) (by rw [get_new0]; rfl) (h.pre (List.prefix_append _ _)) hl hf).and fun v Λ' ⟨e1, e2, e3⟩ => ⟨e1, trivial, e2.prefix_, e3⟩
theorem has_gt {Λ : AH} {r : Nat} {l : List Cell} {c : Cell} {P : AV → AH → Prop} {X : XQ} (h : BkR Λ r l) : RQ (f_Bank___contains__ [.ref r, cv c] Λ) P X = P (.bl (decide (c.1 < 0 ∨ c ∈ l))) Λ := by
  obtain ⟨d, l', h1, h2, h3, h4⟩ := h
  unfold f_Bank___contains__ b_Bank___contains__
  rw [rq_run (by rfl)]
  simp only [startA, List.map_cons, List.map_nil, List.length_cons, List.length_nil, List.cons_append, List.nil_append, Nat.reduceAdd, Nat.reduceSub, List.replicate, List.append_nil, sq_ret, rq_or, rq_call, rq_cons, rq_nil, rq_bin, rq_att, rq_var, List.getElem?_cons_zero, List.getElem?_cons_succ, shore_gt, rq_truR, truA_bl, att_f h1 lk_f (show List.lookup ("_places" : Str) [("_places", AV.ref d), ("extra", AV.tup (cvs (sortP l)))] = some (.ref d) from rfl), dt_inY h2, oq_some]
  by_cases hc : c.1 < 0
  · simp [hc]
  · simp [hc, (h4 c).symm]
theorem or_red {Λ : AH} {r s : Nat} {l m : List Cell} {P : AV → AH → Prop} {X : XQ} (hr : BkR Λ r l) (hs : BkR Λ s m) (hl : l.length ≤ 10000) (hm0 : m.length ≤ 10000)
    (kP : ∀ (Λ1 : AH) (n : Nat) (K : List Cell), Λ <+: Λ1 → Λ1[n]? = some (.lst (cvs K)) → K.length = l.length + (m.filter fun c => !decide (c ∈ l)).length → (∀ c, c ∈ K ↔ c ∈ l ∨ c ∈ m) → RQ (mkR "Bank" (fun as => f_Bank___init__ (as ++ [])) [.ref n] Λ1) P X) :
    RQ (f_Bank___or__ [.ref r, .ref s] Λ) P X := by
  obtain ⟨d, l', h1, h2, h3, h4⟩ := id hr
  obtain ⟨d', m', g1, g2, g3, g4⟩ := id hs
  unfold f_Bank___or__ b_Bank___or__
  rw [rq_run (by rfl)]
  simp only [startA, List.map_cons, List.map_nil, List.length_cons, List.length_nil, List.cons_append, List.nil_append, Nat.reduceAdd, Nat.reduceSub, List.replicate]
  have hsl : (sortP l).length = l.length := (sortP_perm l).length_eq
  have hsm : (sortP m).length = m.length := (sortP_perm m).length_eq
  refine sq_cut (fun δ Λ' => (∃ o, δ = [some (.ref r), some (.ref s), some (.ref Λ.length), o]) ∧ Λ' = Λ ++ [.lst (cvs ((sortP m).filter fun c => !decide (c ∈ l')))]) (fun N kN => ?_) ?_
  · simp only [sq_set, rq_lc, rq_it, rq_att, rq_var, List.getElem?_cons_zero, List.getElem?_cons_succ, att_f g1 lk_f lk_ex, rq_srcA_t]
    refine rq_lcg (sortP m) cv (fun c => [some (.ref r), some (.ref s), none, some (cv c)]) (fun c => !decide (c ∈ l')) cv rfl (fun _ _ => rfl) (fun _ => trivial) (fun c _ acc => ?_) (fun c _ _ acc => ?_) (by rw [hsm]; exact sz_le (by omega)) ?_
    · simp only [rq_tb, rq_bin, rq_att, rq_var, List.getElem?_cons_zero, List.getElem?_cons_succ, att_f (get_old h1 _) lk_f lk_pl, dt_notInY (get_old h2 _), oq_some, rq_blA]
      exact ⟨trivial, trivial⟩
    · simp only [rq_var, List.getElem?_cons_zero, List.getElem?_cons_succ]
      exact ⟨trivial, trivial⟩
    · exact kN _ _ ⟨⟨_, rfl⟩, rfl⟩
  rintro δ Λ1 ⟨⟨o, rfl⟩, rfl⟩
  have hz : (cvs (sortP l)).length + (cvs ((sortP m).filter fun c => !decide (c ∈ l'))).length ≤ sizeLine := by
    rw [cvs_len, cvs_len]
    have := List.length_filter_le (fun c => !decide (c ∈ l')) (sortP m)
    exact sz_le (by omega)
  have w1 : (Λ ++ [AO.lst (cvs ((sortP m).filter fun c => !decide (c ∈ l')))] ++ [AO.lst (cvs (sortP l))])[(Λ ++ [AO.lst (cvs ((sortP m).filter fun c => !decide (c ∈ l')))]).length]? = some (.lst (cvs (sortP l))) := by rw [get_new0]; rfl
  have w2 : (Λ ++ [AO.lst (cvs ((sortP m).filter fun c => !decide (c ∈ l')))] ++ [AO.lst (cvs (sortP l))])[Λ.length]? = some (.lst (cvs ((sortP m).filter fun c => !decide (c ∈ l')))) := get_old (by rw [get_new0]; rfl) _
  simp only [sq_ret, rq_call, rq_cons, rq_nil, rq_bin, rq_pr, rq_att, rq_var, List.getElem?_cons_zero, List.getElem?_cons_succ, att_f (get_old h1 _) lk_f lk_ex, gList_t, oq_some, gAdd_rr, w1, w2, if_pos hz]
  have eapp : cvs (sortP l) ++ cvs ((sortP m).filter fun c => !decide (c ∈ l')) = cvs (sortP l ++ (sortP m).filter fun c => !decide (c ∈ l')) := by rw [cvs, cvs, ← List.map_append]
  rw [eapp]
  have hmem : ∀ c, c ∈ (sortP l ++ (sortP m).filter fun c => !decide (c ∈ l')) ↔ c ∈ l ∨ c ∈ m := fun c => by
    rw [List.mem_append, List.mem_filter, sortP_mem, sortP_mem]
    by_cases hc : c ∈ l
    · simp [hc]
    · have : ¬ c ∈ l' := fun z => hc ((h4 c).mpr z)
      simp [hc, this]
  refine kP _ _ (sortP l ++ (sortP m).filter fun c => !decide (c ∈ l')) (((List.prefix_append _ _).trans (List.prefix_append _ _)).trans (List.prefix_append _ _)) (by rw [get_new0]; rfl) ?_ hmem
  rw [List.length_append, hsl]
  congr 1
  rw [show (fun c => !decide (c ∈ l')) = fun c => !decide (c ∈ l) from funext fun c => by rw [decide_eq_decide.mpr (h4 c)]]
  exact ((sortP_perm m).filter _).length_eq
theorem or_ok {Λ : AH} {r s : Nat} {l m : List Cell} {X : XQ} (hr : BkR Λ r l) (hs : BkR Λ s m) (hl : l.length ≤ 10000) (hm0 : m.length ≤ 10000) (hlm : l.length + (m.filter fun c => !decide (c ∈ l)).length ≤ 10000) (hf : Off l) (hf2 : Off m) :
    RQ (f_Bank___or__ [.ref r, .ref s] Λ) (fun v Λ' => ∃ n, v = .ref n ∧ Λ.length ≤ n ∧ Λ <+: Λ' ∧ ∀ k, k.Nodup → (∀ c, c ∈ k ↔ c ∈ l ∨ c ∈ m) → BkR Λ' n k) X := by
  refine RQ.cps fun P kP => or_red hr hs hl hm0 fun Λ1 n K p1 h1 h2 h3 => ?_
  refine (make_ok (l := K) (.inl (.inl ⟨_, rfl, h1⟩)) (by omega) fun c hc => ((h3 c).mp hc).elim (hf c) (hf2 c)).and fun v Λ' ⟨e1, e2, e3⟩ => ?_
  exact kP _ _ ⟨_, e1, p1.length_le, p1.trans e2, fun k hk hkm => e3.congr hk fun c => by rw [dd_mem, h3, hkm]⟩
theorem and_ok {Λ : AH} {r s : Nat} {l m : List Cell} {X : XQ} (hr : BkR Λ r l) (hs : BkR Λ s m) (hl : l.length ≤ 10000) (hf : Off l) :
    RQ (f_Bank___and__ [.ref r, .ref s] Λ) (fun v Λ' => ∃ n, v = .ref n ∧ Λ.length ≤ n ∧ Λ <+: Λ' ∧ ∀ k, k.Nodup → (∀ c, c ∈ k ↔ c ∈ l ∧ c ∈ m) → BkR Λ' n k) X := by
  refine RQ.cps fun P kP => ?_
  obtain ⟨d, l', h1, h2, h3, h4⟩ := id hr
  obtain ⟨d', m', g1, g2, g3, g4⟩ := id hs
  unfold f_Bank___and__ b_Bank___and__
  rw [rq_run (by rfl)]
  simp only [startA, List.map_cons, List.map_nil, List.length_cons, List.length_nil, List.cons_append, List.nil_append, Nat.reduceAdd, Nat.reduceSub, List.replicate]
  have hsl : (sortP l).length = l.length := (sortP_perm l).length_eq
  simp only [sq_ret, rq_call, rq_cons, rq_nil, rq_lc, rq_it, rq_att, rq_var, List.getElem?_cons_zero, List.getElem?_cons_succ, att_f h1 lk_f lk_ex, rq_srcA_t]
  refine rq_lcg (sortP l) cv (fun c => [some (.ref r), some (.ref s), some (cv c)]) (fun c => decide (c ∈ m)) cv rfl (fun _ _ => rfl) (fun _ => trivial) (fun c hc acc => ?_) (fun c _ _ acc => ?_) (by rw [hsl]; exact sz_le (by omega)) ?_
  · have hn : ¬ c.1 < 0 := by have := (hf c (sortP_mem.mp hc)).2; omega
    simp only [rq_tb, rq_inO, rq_var, List.getElem?_cons_zero, List.getElem?_cons_succ, inO_r (get_old g1 _) lk_m, has_gt (hs.pre (List.prefix_append _ _)), rq_blA, hn, false_or]
    exact ⟨by cases decide (c ∈ m) <;> rfl, trivial⟩
  · simp only [rq_var, List.getElem?_cons_zero, List.getElem?_cons_succ]
    exact ⟨trivial, trivial⟩
  refine (make_ok (l := (sortP l).filter fun c => decide (c ∈ m)) (.inl (.inl ⟨_, rfl, by rw [get_new0]; rfl⟩)) ?_ fun c hc => ?_).and fun v Λ' ⟨e1, e2, e3⟩ => ?_
  · exact Nat.le_trans (List.length_filter_le _ _) (by omega)
  · rw [List.mem_filter, sortP_mem] at hc
    exact hf c hc.1
  · exact kP _ _ ⟨_, e1, by simp only [List.length_append]; omega, (List.prefix_append _ _).trans e2, fun k hk hkm => e3.congr hk fun c => by rw [dd_mem, List.mem_filter, sortP_mem, hkm]; simp⟩
end Lk34

set_option Elab.async false
set_option linter.all false
set_option maxRecDepth 100000
set_option maxHeartbeats 4000000
namespace Lk34
open PySem PySem.Spec PyProof.Rows L2 NP
theorem ref_ex {Λ : AH} {r : Nat} {l : List Cell} (h : BkR Λ r l) : ∃ d, Λ[r]? = some (.ins "Bank" (bf d l)) := let ⟨d, _, h1, _⟩ := h; ⟨d, h1⟩
theorem three' : 3 ≤ sizeLine := sz_le (by decide)
theorem sq_tryM {hs : List HdD} {fb : MS} {δ : AEnv} {Λ : AH} {D : DQ} : SQ (dTryM hs fb δ Λ) D = SQ (fb δ Λ) { D with ex := fun δ' c m Λ' => SQ (handleM hs δ' c m Λ') D } := by
  unfold dTryM
  cases fb δ Λ <;> rfl
theorem hd_yes {tab : Str → Option Bool} {i : Nat} {fs : Str → Option Nat → MS} {r : List HdD} {δ : AEnv} {c : Str} {m : Option Nat} {Λ : AH} {D : DQ} (h : tab c = some true) (hi : i < δ.length) : SQ (handleM ((tab, i, fs) :: r) δ c m Λ) D = SQ (fs c m (δ.set i none) Λ) (D.un i) := by
  unfold handleM
  rw [h]
  show SQ (if i < δ.length then unS i (fs c m (δ.set i none) Λ) else .bad) D = _
  rw [if_pos hi, sq_unS]
theorem hd_no {tab : Str → Option Bool} {i : Nat} {fs : Str → Option Nat → MS} {r : List HdD} {δ : AEnv} {c : Str} {m : Option Nat} {Λ : AH} {D : DQ} (h : tab c = some false) : SQ (handleM ((tab, i, fs) :: r) δ c m Λ) D = SQ (handleM r δ c m Λ) D := by
  rw [handleM.eq_def]
  simp only [h]
/-! ### parts compared -/
theorem gEqY_str {Λ : AH} {x y : Str} (hx : PyData.strOk x = true) (hy : PyData.strOk y = true) : gEqY (.str x) (.str y) Λ = some (.bl (x == y), Λ) := by
  rw [gEqY_no rfl]
  unfold gEq
  simp only [toD, hx, hy, if_true]
  rfl
theorem sk_many : PyData.strOk ("TooMany" : Str) = true := by decide +kernel
theorem sk_cell : PyData.strOk ("BadCell" : Str) = true := by decide +kernel
theorem sk_shore : PyData.strOk ("OnShore" : Str) = true := by decide +kernel
theorem sk_bank : PyData.strOk ("bank" : Str) = true := by decide +kernel
theorem same_strA {Rec : MF} {b : AV} {z : Str} (eb : b = .str z) (hz : PyData.strOk z = true) : SameR (runF 2 3 (sameB Rec)) b b := by
  refine ⟨fun Λ P X kP => ?_⟩
  unfold sameB
  rw [rq_run (by rfl)]
  have h1 : gIsi (isB "int") b Λ = some (.bl false, Λ) := by rw [eb]; rfl
  have h2 : gIsi (isB "str") b Λ = some (.bl true, Λ) := by rw [eb]; rfl
  have n1 : gIs b .non Λ = some (.bl false, Λ) := by rw [eb]; rfl
  have n2 : ∀ q : Bool, gIsX b (.bl q) Λ = some (.bl false, Λ) := fun q => by rw [eb]; rfl
  have h4 : gEqY b b Λ = some (.bl true, Λ) := by rw [eb, gEqY_str hz hz, beq_self_eq_true]
  clear eb hz
  simp only [startA, List.map_cons, List.map_nil, List.length_cons, List.length_nil, List.cons_append, List.nil_append, Nat.reduceAdd, Nat.reduceSub, List.replicate]
  simp only [sq_seq, sq_ifS, rq_tb, rq_tr, rq_bin, rq_un, rq_c, rq_var, rq_and, List.getElem?_cons_zero, List.getElem?_cons_succ, n1, n2, h1, h2, h4, oq_some, rq_blA, rq_truR, truA_bl, Bool.false_eq_true, Bool.true_eq_false, false_implies, true_implies, true_and, and_true, sq_dNx, sq_ret]
  exact kP
theorem same_str {Rec : MF} {z : Str} (hz : PyData.strOk z = true) : SameR (runF 2 3 (sameB Rec)) (.str z) (.str z) := same_strA rfl hz
theorem same_bb {Rec : MF} {a b : Bool} {Λ : AH} {P : AV → AH → Prop} {X : XQ} (kP : P (.bl (decide (a = b))) Λ) : RQ (runF 2 3 (sameB Rec) [.bl a, .bl b] Λ) P X := by
  unfold sameB
  rw [rq_run (by rfl)]
  have h3 : ∀ (a b : Bool), gIsX (.bl a) (.bl b) Λ = some (.bl (a == b), Λ) := fun _ _ => rfl
  simp only [startA, List.map_cons, List.map_nil, List.length_cons, List.length_nil, List.cons_append, List.nil_append, Nat.reduceAdd, Nat.reduceSub, List.replicate]
  cases a <;> cases b <;> (simp [h3]; simpa using kP)
theorem same_b {Λ : AH} {a b : Bool} {P : AV → AH → Prop} {X : XQ} (h : P (.bl (decide (a = b))) Λ) : RQ (f__law_same [.bl a, .bl b] Λ) P X :=
  show RQ (runF 2 3 (sameB f__law_same_3) [.bl a, .bl b] Λ) P X from same_bb h
theorem same_t {Rec : MF} : SameR (runF 2 3 (sameB Rec)) (.bl true) (.bl true) := ⟨fun Λ P X k => same_bb (by rw [decide_eq_true rfl]; exact k)⟩
/-- a tuple of three -/
theorem same_3 {Rec : MF} {x y z : AV} (hx : SameR Rec x x) (hy : SameR Rec y y) (hz : SameR Rec z z) : SameR (runF 2 3 (sameB Rec)) (.tup [x, y, z]) (.tup [x, y, z]) := by
  refine same_tup rfl (by show ((3 : Nat) : Int) ≤ 1000000; omega) fun i a b h1 h2 => ?_
  rw [h1] at h2
  cases h2
  match i, h1 with
  | 0, h1 => cases h1; exact hx
  | 1, h1 => cases h1; exact hy
  | 2, h1 => cases h1; exact hz
  | n + 3, h1 => cases h1
/-! ### refusals -/
theorem ckl_ex {Λ : AH} {a : AV} {K most : Int} {P : AV → AH → Prop} {X : XQ} (h : gLen [a] Λ = some (.int K, Λ)) (hk : most < K) : RQ (f_check_length [a, .int most] Λ) P X = X "TooMany" (some Λ.length) (Λ ++ [.xd [("most", .int most)]]) := by
  unfold f_check_length b_check_length
  rw [rq_run (by rfl)]
  simp [startA, h, hk]
theorem ckc_ex {Λ : AH} {c : Cell} {P : AV → AH → Prop} {X : XQ} (h : ¬ far c ≤ 120) : RQ (f_check_cell [cv c] Λ) P X = X "BadCell" (some Λ.length) (Λ ++ [.xd [("cell", cv c)]]) := by
  rw [far_le] at h
  unfold f_check_cell b_check_cell
  rw [rq_run (by rfl)]
  by_cases h1 : -120 ≤ c.1
  · by_cases h2 : c.1 ≤ 120
    · by_cases h3 : -120 ≤ c.2
      · have h4 : ¬ c.2 ≤ 120 := fun z => h ⟨⟨h1, h2⟩, h3, z⟩
        simp [startA, List.replicate, sq_raiseB, flatFC, h1, h2, h3, h4]
      · simp [startA, List.replicate, sq_raiseB, flatFC, h1, h2, h3]
    · simp [startA, List.replicate, sq_raiseB, flatFC, h1, h2]
  · simp [startA, List.replicate, sq_raiseB, flatFC, h1]
/-- the first cell that is not let -/
theorem first_ex {p : Cell → Bool} {l : List Cell} {c : Cell} (h : l.find? p = some c) : ∃ k : Nat, l[k]? = some c ∧ p c = true ∧ ∀ (i : Nat) (x : Cell), i < k → l[i]? = some x → p x = false := by
  obtain ⟨h1, as, bs, rfl, h2⟩ := List.find?_eq_some_iff_append.mp h
  refine ⟨as.length, by simp, h1, fun i x hi hx => ?_⟩
  rw [List.getElem?_append_left hi] at hx
  have := h2 x (List.mem_of_getElem? hx)
  simpa using this
/-- the first cell beyond the reach -/
theorem ckcs_ex {Λ : AH} {a : AV} {l : List Cell} {c : Cell} {k : Nat} {P : AV → AH → Prop} {X : XQ} (h : CS2 Λ a l) (hl : l.length ≤ 10000) (hk : l[k]? = some c) (hb : ∀ i x, i < k → l[i]? = some x → far x ≤ 120) (hc : ¬ far c ≤ 120) (p : X "BadCell" (some Λ.length) (Λ ++ [.xd [("cell", cv c)]])) : RQ (f_check_cells [a, .int 10000] Λ) P X := by
  unfold f_check_cells b_check_cells
  rw [rq_run (by rfl)]
  simp only [startA, List.map_cons, List.map_nil, List.length_cons, List.length_nil, List.cons_append, List.nil_append, Nat.reduceAdd, Nat.reduceSub, List.replicate]
  refine sq_cut (fun δ Λ' => δ = [some a, some (.int 10000), none] ∧ Λ' = Λ) (fun N kN => ?_) ?_
  · simp only [sq_ex_, rq_call, rq_cons, rq_nil, rq_var, List.getElem?_cons_zero, List.getElem?_cons_succ, List.append_nil]
    rw [ckl_gt h.len (by omega)]
    exact kN _ _ ⟨rfl, rfl⟩
  rintro δ Λ1 ⟨rfl, rfl⟩
  obtain ⟨src, e1, e2⟩ := h.src
  simp only [sq_for, rq_it, rq_var, List.getElem?_cons_zero, (e2 Λ1 List.prefix_rfl).2, e1]
  have hkl := (List.getElem?_eq_some_iff.mp hk).1
  refine forL_inv (fun i δ Λ' => i ≤ k ∧ (∃ o, δ = [some a, some (.int 10000), o]) ∧ Λ' = Λ1) ⟨Nat.zero_le _, ⟨_, rfl⟩, rfl⟩ (fun _ _ _ _ q => by rw [q.2.2]; exact (e2 _ List.prefix_rfl).1) ?_ (fun δ Λ' q => ?_)
  · rintro i x δ Λ' hx ⟨hik, ⟨o, rfl⟩, rfl⟩
    obtain ⟨c', hc', rfl⟩ := cvs_ix hx
    refine ⟨_, rfl, ?_⟩
    generalize hI : (fun δ Λ'' => i + 1 ≤ k ∧ (∃ o, δ = [some a, some (AV.int 10000), o]) ∧ Λ'' = Λ') = I
    simp only [sq_ex_, rq_call, rq_cons, rq_nil, rq_var, List.set_cons_zero, List.set_cons_succ, List.getElem?_cons_zero, List.getElem?_cons_succ, List.append_nil]
    by_cases he : i = k
    · subst he
      rw [hk] at hc'
      cases hc'
      rw [ckc_ex hc]
      exact p
    · rw [ckc_gt (hb i c' (by omega) hc'), ← hI]
      exact ⟨by omega, ⟨_, rfl⟩, rfl⟩
  · rw [cvs_len] at q
    omega
/-- the first cell on the shore -/
theorem ckos_ex {Λ : AH} {a : AV} {l : List Cell} {c : Cell} {k : Nat} {P : AV → AH → Prop} {X : XQ} (h : CS2 Λ a l) (hk : l[k]? = some c) (hb : ∀ i x, i < k → l[i]? = some x → ¬ x.1 < 0) (hc : c.1 < 0) (p : X "OnShore" (some Λ.length) (Λ ++ [.xd [("cell", cv c)]])) : RQ (f__check_off_shore [a] Λ) P X := by
  unfold f__check_off_shore b__check_off_shore
  rw [rq_run (by rfl)]
  simp only [startA, List.map_cons, List.map_nil, List.length_cons, List.length_nil, List.cons_append, List.nil_append, Nat.reduceAdd, Nat.reduceSub, List.replicate]
  obtain ⟨src, e1, e2⟩ := h.src
  simp only [sq_for, rq_it, rq_var, List.getElem?_cons_zero, (e2 Λ List.prefix_rfl).2, e1]
  have hkl := (List.getElem?_eq_some_iff.mp hk).1
  refine forL_inv (fun i δ Λ' => i ≤ k ∧ (∃ o, δ = [some a, o]) ∧ Λ' = Λ) ⟨Nat.zero_le _, ⟨_, rfl⟩, rfl⟩ (fun _ _ _ _ q => by rw [q.2.2]; exact (e2 _ List.prefix_rfl).1) ?_ (fun δ Λ' q => ?_)
  · rintro i x δ Λ' hx ⟨hik, ⟨o, rfl⟩, rfl⟩
    obtain ⟨c', hc', rfl⟩ := cvs_ix hx
    refine ⟨_, rfl, ?_⟩
    generalize hI : (fun δ Λ'' => i + 1 ≤ k ∧ (∃ o, δ = [some a, o]) ∧ Λ'' = Λ') = I
    rw [sq_ifS]
    simp only [rq_tr, rq_call, rq_cons, rq_nil, rq_var, List.set_cons_zero, List.set_cons_succ, List.getElem?_cons_zero, List.getElem?_cons_succ, List.append_nil, shore_gt, rq_truR, truA_bl]
    by_cases he : i = k
    · subst he
      rw [hk] at hc'
      cases hc'
      simp only [hc, decide_true, true_implies, Bool.true_eq_false, false_implies, and_true, sq_raiseB, rq_var, List.getElem?_cons_zero, List.getElem?_cons_succ]
      exact ⟨rfl, p⟩
    · simp only [hb i c' (by omega) hc', decide_false, Bool.false_eq_true, false_implies, true_implies, true_and, sq_dNx]
      rw [← hI]
      exact ⟨by omega, ⟨_, rfl⟩, rfl⟩
  · rw [cvs_len] at q
    omega
def farB (c : Cell) : Bool := !decide (far c ≤ 120)
def shB (c : Cell) : Bool := decide (c.1 < 0)
theorem off_of {l : List Cell} (h1 : l.find? farB = none) (h2 : l.find? shB = none) : Off l := fun c hc => by
  have a := List.find?_eq_none.mp h1 c hc
  have b := List.find?_eq_none.mp h2 c hc
  unfold farB at a
  unfold shB at b
  simp at a b
  exact ⟨a, b⟩
theorem far_of {l : List Cell} (h1 : l.find? farB = none) : ∀ c ∈ l, far c ≤ 120 := fun c hc => by
  have a := List.find?_eq_none.mp h1 c hc
  unfold farB at a
  simpa using a
/-- Bank of a list that is refused -/
theorem make_exM {Λ : AH} {a : AV} {l : List Cell} {P : AV → AH → Prop} {X : XQ} (h : CS2 Λ a l) (hl : 10000 < l.length) (p : ∀ Λ' j, Λ <+: Λ' → Λ'[j]? = some (.xd [("most", .int 10000)]) → X "TooMany" (some j) Λ') : RQ (mkR "Bank" (fun as => f_Bank___init__ (as ++ [])) [a] Λ) P X := by
  refine mk_r ?_
  have h' : CS2 (Λ ++ [AO.ins "Bank" []]) a l := h.pre (List.prefix_append _ _)
  simp only [List.cons_append, List.nil_append, List.append_nil]
  unfold f_Bank___init__ b_Bank___init__
  rw [rq_run (by rfl)]
  simp only [startA, List.map_cons, List.map_nil, List.length_cons, List.length_nil, List.cons_append, List.nil_append, Nat.reduceAdd, Nat.reduceSub, List.replicate]
  refine sq_mid (fun _ _ => False) ?_ fun _ _ z => z.elim
  simp only [sq_ex_, rq_call, rq_cons, rq_nil, rq_c, rq_var, List.getElem?_cons_zero, List.getElem?_cons_succ, List.append_nil]
  unfold f_check_cells b_check_cells
  rw [rq_run (by rfl)]
  simp only [startA, List.map_cons, List.map_nil, List.length_cons, List.length_nil, List.cons_append, List.nil_append, Nat.reduceAdd, Nat.reduceSub, List.replicate]
  refine sq_mid (fun _ _ => False) ?_ fun _ _ z => z.elim
  simp only [sq_ex_, rq_call, rq_cons, rq_nil, rq_var, List.getElem?_cons_zero, List.getElem?_cons_succ, List.append_nil]
  rw [ckl_ex h'.len (by omega)]
  exact p _ _ ((List.prefix_append _ _).trans (List.prefix_append _ _)) (by rw [get_new0]; rfl)
theorem make_exC {Λ : AH} {a : AV} {l : List Cell} {c : Cell} {P : AV → AH → Prop} {X : XQ} (h : CS2 Λ a l) (hl : l.length ≤ 10000) (hc : l.find? farB = some c) (p : ∀ Λ' j, Λ <+: Λ' → Λ'[j]? = some (.xd [("cell", cv c)]) → X "BadCell" (some j) Λ') : RQ (mkR "Bank" (fun as => f_Bank___init__ (as ++ [])) [a] Λ) P X := by
  refine mk_r ?_
  have h' : CS2 (Λ ++ [AO.ins "Bank" []]) a l := h.pre (List.prefix_append _ _)
  simp only [List.cons_append, List.nil_append, List.append_nil]
  unfold f_Bank___init__ b_Bank___init__
  rw [rq_run (by rfl)]
  simp only [startA, List.map_cons, List.map_nil, List.length_cons, List.length_nil, List.cons_append, List.nil_append, Nat.reduceAdd, Nat.reduceSub, List.replicate]
  refine sq_mid (fun _ _ => False) ?_ fun _ _ z => z.elim
  simp only [sq_ex_, rq_call, rq_cons, rq_nil, rq_c, rq_var, List.getElem?_cons_zero, List.getElem?_cons_succ, List.append_nil]
  obtain ⟨k, h1, h2, h3⟩ := first_ex hc
  refine ckcs_ex h' hl h1 (fun i x hi hx => by have := h3 i x hi hx; unfold farB at this; simpa using this) (by unfold farB at h2; simpa using h2) ?_
  exact p _ _ ((List.prefix_append _ _).trans (List.prefix_append _ _)) (by rw [get_new0]; rfl)
theorem make_exS {Λ : AH} {a : AV} {l : List Cell} {c : Cell} {P : AV → AH → Prop} {X : XQ} (h : CS2 Λ a l) (hl : l.length ≤ 10000) (hf : l.find? farB = none) (hc : l.find? shB = some c) (p : ∀ Λ' j, Λ <+: Λ' → Λ'[j]? = some (.xd [("cell", cv c)]) → X "OnShore" (some j) Λ') : RQ (mkR "Bank" (fun as => f_Bank___init__ (as ++ [])) [a] Λ) P X := by
  refine mk_r ?_
  have h' : CS2 (Λ ++ [AO.ins "Bank" []]) a l := h.pre (List.prefix_append _ _)
  simp only [List.cons_append, List.nil_append, List.append_nil]
  unfold f_Bank___init__ b_Bank___init__
  rw [rq_run (by rfl)]
  simp only [startA, List.map_cons, List.map_nil, List.length_cons, List.length_nil, List.cons_append, List.nil_append, Nat.reduceAdd, Nat.reduceSub, List.replicate]
  refine sq_cut (fun δ Λ' => δ = [some (.ref Λ.length), some a, none] ∧ Λ' = Λ ++ [AO.ins "Bank" []]) (fun N kN => ?_) ?_
  · simp only [sq_ex_, rq_call, rq_cons, rq_nil, rq_c, rq_var, List.getElem?_cons_zero, List.getElem?_cons_succ, List.append_nil]
    exact ckcs_gt h' hl (far_of hf) (kN _ _ ⟨rfl, rfl⟩)
  rintro δ Λ1 ⟨rfl, rfl⟩
  refine sq_mid (fun _ _ => False) ?_ fun _ _ z => z.elim
  simp only [sq_ex_, rq_call, rq_cons, rq_nil, rq_c, rq_var, List.getElem?_cons_zero, List.getElem?_cons_succ, List.append_nil]
  obtain ⟨k, h1, h2, h3⟩ := first_ex hc
  refine ckos_ex h' h1 (fun i x hi hx => by have := h3 i x hi hx; unfold shB at this; simpa using this) (by unfold shB at h2; simpa using h2) ?_
  exact p _ _ ((List.prefix_append _ _).trans (List.prefix_append _ _)) (by rw [get_new0]; rfl)
/-- what becomes of a list -/
def madeP (l : List Cell) : AV := if 10000 < l.length then .tup [.str "TooMany", .int 10000, .bl true] else
  match l.find? farB with
  | some c => .tup [.str "BadCell", cv c, .bl true]
  | none => match l.find? shB with
    | some c => .tup [.str "OnShore", cv c, .bl true]
    | none => .tup [.str "bank", .tup (cvs (plainP l)), .bl true]
theorem same_made {l : List Cell} : SameR f__law_same (madeP l) (madeP l) := by
  unfold madeP
  split
  · exact same_3 (Rec := f__law_same_3) (same_str sk_many) (show SameR (runF 2 3 (sameB f__law_same_2)) _ _ from same_ii) (show SameR (runF 2 3 (sameB f__law_same_2)) _ _ from same_t)
  · rename_i hl
    split
    · exact same_3 (Rec := f__law_same_3) (same_str sk_cell) (show SameR (runF 2 3 (sameB (runF 2 3 (sameB f__law_same_1)))) _ _ from same_cv) (show SameR (runF 2 3 (sameB f__law_same_2)) _ _ from same_t)
    · split
      · exact same_3 (Rec := f__law_same_3) (same_str sk_shore) (show SameR (runF 2 3 (sameB (runF 2 3 (sameB f__law_same_1)))) _ _ from same_cv) (show SameR (runF 2 3 (sameB f__law_same_2)) _ _ from same_t)
      · have := plain_len l
        exact same_3 (Rec := f__law_same_3) (same_str sk_bank) (show SameR (runF 2 3 (sameB (runF 2 3 (sameB (runF 2 3 (sameB f__law_same_0)))))) _ _ from same_cvs (by omega)) (show SameR (runF 2 3 (sameB f__law_same_2)) _ _ from same_t)
theorem hand_many {k : Nat} {a : AV} {Λ : AH} {D : DQ} {n : Int} (hk : Λ[k]? = some (.xd [("most", .int n)])) (p : D.rt (.tup [.str "TooMany", .int n, .bl true]) Λ) :
    SQ (handleM [((fun c => xt_TooMany.lookup c), 2, (fun c m => (dSeq (dSet 3 (dAnd (dXisC c m it_PlayError) (dXisC c m it_ValueError))) (dRet (dTup (dCons (dC (.str "TooMany")) (dCons (dXfC c m cs_most "most") (dCons (dAnd (dVar 3) (dNot (dXisC c m itt0))) dNil)))))))), ((fun c => xt_BadCell.lookup c), 2, (fun c m => (dSeq (dSet 3 (dAnd (dXisC c m it_PlayError) (dXisC c m it_ValueError))) (dRet (dTup (dCons (dC (.str "BadCell")) (dCons (dXfC c m cs_cell "cell") (dCons (dAnd (dVar 3) (dNot (dXisC c m itt1))) dNil)))))))), ((fun c => xt_OnShore.lookup c), 2, (fun c m => (dSeq (dSet 3 (dAnd (dXisC c m it_PlayError) (dXisC c m it_ValueError))) (dRet (dTup (dCons (dC (.str "OnShore")) (dCons (dXfC c m cs_cell "cell") (dCons (dAnd (dVar 3) (dNot (dXisC c m itt2))) dNil))))))))] [some a, none, none, none] "TooMany" (some k) Λ) D := by
  rw [hd_yes rfl (by simp)]
  have a1 : ∀ (δ : AEnv) (P : AV → AH → Prop) (X : XQ), RQ (dXisC "TooMany" (some k) it_PlayError δ Λ) P X = P (.bl true) Λ := fun δ P X => rq_xis rfl hk
  have a2 : ∀ (δ : AEnv) (P : AV → AH → Prop) (X : XQ), RQ (dXisC "TooMany" (some k) it_ValueError δ Λ) P X = P (.bl true) Λ := fun δ P X => rq_xis rfl hk
  have a3 : ∀ (δ : AEnv) (P : AV → AH → Prop) (X : XQ), RQ (dXisC "TooMany" (some k) itt0 δ Λ) P X = P (.bl false) Λ := fun δ P X => rq_xis rfl hk
  have a4 : ∀ (δ : AEnv) (P : AV → AH → Prop) (X : XQ), RQ (dXfC "TooMany" (some k) cs_most "most" δ Λ) P X = P (.int n) Λ := fun δ P X => rq_xf (by unfold cs_most; simp) hk rfl
  simp only [sq_seq, sq_set, rq_and, a1, a2, a3, a4, rq_truR, truA_bl, true_implies, Bool.true_eq_false, false_implies, and_true, sq_ret, rq_tup, rq_cons, rq_nil, rq_c, rq_var, rq_not, List.set_cons_zero, List.set_cons_succ, List.getElem?_cons_zero, List.getElem?_cons_succ, Bool.not_false, List.length_cons, List.length_nil]
  exact ⟨three', p⟩
theorem hand_cell {k : Nat} {a : AV} {Λ : AH} {D : DQ} {c : Cell} (hk : Λ[k]? = some (.xd [("cell", cv c)])) (p : D.rt (.tup [.str "BadCell", cv c, .bl true]) Λ) :
    SQ (handleM [((fun c => xt_TooMany.lookup c), 2, (fun c m => (dSeq (dSet 3 (dAnd (dXisC c m it_PlayError) (dXisC c m it_ValueError))) (dRet (dTup (dCons (dC (.str "TooMany")) (dCons (dXfC c m cs_most "most") (dCons (dAnd (dVar 3) (dNot (dXisC c m itt0))) dNil)))))))), ((fun c => xt_BadCell.lookup c), 2, (fun c m => (dSeq (dSet 3 (dAnd (dXisC c m it_PlayError) (dXisC c m it_ValueError))) (dRet (dTup (dCons (dC (.str "BadCell")) (dCons (dXfC c m cs_cell "cell") (dCons (dAnd (dVar 3) (dNot (dXisC c m itt1))) dNil)))))))), ((fun c => xt_OnShore.lookup c), 2, (fun c m => (dSeq (dSet 3 (dAnd (dXisC c m it_PlayError) (dXisC c m it_ValueError))) (dRet (dTup (dCons (dC (.str "OnShore")) (dCons (dXfC c m cs_cell "cell") (dCons (dAnd (dVar 3) (dNot (dXisC c m itt2))) dNil))))))))] [some a, none, none, none] "BadCell" (some k) Λ) D := by
  rw [hd_no rfl, hd_yes rfl (by simp)]
  have a1 : ∀ (δ : AEnv) (P : AV → AH → Prop) (X : XQ), RQ (dXisC "BadCell" (some k) it_PlayError δ Λ) P X = P (.bl true) Λ := fun δ P X => rq_xis rfl hk
  have a2 : ∀ (δ : AEnv) (P : AV → AH → Prop) (X : XQ), RQ (dXisC "BadCell" (some k) it_ValueError δ Λ) P X = P (.bl true) Λ := fun δ P X => rq_xis rfl hk
  have a3 : ∀ (δ : AEnv) (P : AV → AH → Prop) (X : XQ), RQ (dXisC "BadCell" (some k) itt1 δ Λ) P X = P (.bl false) Λ := fun δ P X => rq_xis rfl hk
  have a4 : ∀ (δ : AEnv) (P : AV → AH → Prop) (X : XQ), RQ (dXfC "BadCell" (some k) cs_cell "cell" δ Λ) P X = P (cv c) Λ := fun δ P X => rq_xf (by unfold cs_cell; simp) hk rfl
  simp only [sq_seq, sq_set, rq_and, a1, a2, a3, a4, rq_truR, truA_bl, true_implies, Bool.true_eq_false, false_implies, and_true, sq_ret, rq_tup, rq_cons, rq_nil, rq_c, rq_var, rq_not, List.set_cons_zero, List.set_cons_succ, List.getElem?_cons_zero, List.getElem?_cons_succ, Bool.not_false, List.length_cons, List.length_nil]
  exact ⟨three', p⟩
theorem hand_shore {k : Nat} {a : AV} {Λ : AH} {D : DQ} {c : Cell} (hk : Λ[k]? = some (.xd [("cell", cv c)])) (p : D.rt (.tup [.str "OnShore", cv c, .bl true]) Λ) :
    SQ (handleM [((fun c => xt_TooMany.lookup c), 2, (fun c m => (dSeq (dSet 3 (dAnd (dXisC c m it_PlayError) (dXisC c m it_ValueError))) (dRet (dTup (dCons (dC (.str "TooMany")) (dCons (dXfC c m cs_most "most") (dCons (dAnd (dVar 3) (dNot (dXisC c m itt0))) dNil)))))))), ((fun c => xt_BadCell.lookup c), 2, (fun c m => (dSeq (dSet 3 (dAnd (dXisC c m it_PlayError) (dXisC c m it_ValueError))) (dRet (dTup (dCons (dC (.str "BadCell")) (dCons (dXfC c m cs_cell "cell") (dCons (dAnd (dVar 3) (dNot (dXisC c m itt1))) dNil)))))))), ((fun c => xt_OnShore.lookup c), 2, (fun c m => (dSeq (dSet 3 (dAnd (dXisC c m it_PlayError) (dXisC c m it_ValueError))) (dRet (dTup (dCons (dC (.str "OnShore")) (dCons (dXfC c m cs_cell "cell") (dCons (dAnd (dVar 3) (dNot (dXisC c m itt2))) dNil))))))))] [some a, none, none, none] "OnShore" (some k) Λ) D := by
  rw [hd_no rfl, hd_no rfl, hd_yes rfl (by simp)]
  have a1 : ∀ (δ : AEnv) (P : AV → AH → Prop) (X : XQ), RQ (dXisC "OnShore" (some k) it_PlayError δ Λ) P X = P (.bl true) Λ := fun δ P X => rq_xis rfl hk
  have a2 : ∀ (δ : AEnv) (P : AV → AH → Prop) (X : XQ), RQ (dXisC "OnShore" (some k) it_ValueError δ Λ) P X = P (.bl true) Λ := fun δ P X => rq_xis rfl hk
  have a3 : ∀ (δ : AEnv) (P : AV → AH → Prop) (X : XQ), RQ (dXisC "OnShore" (some k) itt2 δ Λ) P X = P (.bl false) Λ := fun δ P X => rq_xis rfl hk
  have a4 : ∀ (δ : AEnv) (P : AV → AH → Prop) (X : XQ), RQ (dXfC "OnShore" (some k) cs_cell "cell" δ Λ) P X = P (cv c) Λ := fun δ P X => rq_xf (by unfold cs_cell; simp) hk rfl
  simp only [sq_seq, sq_set, rq_and, a1, a2, a3, a4, rq_truR, truA_bl, true_implies, Bool.true_eq_false, false_implies, and_true, sq_ret, rq_tup, rq_cons, rq_nil, rq_c, rq_var, rq_not, List.set_cons_zero, List.set_cons_succ, List.getElem?_cons_zero, List.getElem?_cons_succ, Bool.not_false, List.length_cons, List.length_nil]
  exact ⟨three', p⟩
theorem made_ok {Λ : AH} {a : AV} {l : List Cell} {X : XQ} (h : CS2 Λ a l) : RQ (f__law_made [a] Λ) (fun v Λ' => v = madeP l ∧ Λ <+: Λ') X := by
  refine RQ.cps fun P kP => ?_
  unfold f__law_made b__law_made
  rw [rq_run (by rfl)]
  simp only [startA, List.map_cons, List.map_nil, List.length_cons, List.length_nil, List.cons_append, List.nil_append, Nat.reduceAdd, Nat.reduceSub, List.replicate]
  by_cases hl : 10000 < l.length
  · rw [sq_seq, sq_tryM, sq_set]
    simp only [rq_call, rq_cons, rq_nil, rq_var, List.getElem?_cons_zero, List.getElem?_cons_succ]
    refine make_exM h hl fun Λ' j e1 e2 => hand_many e2 (kP _ _ ⟨?_, e1⟩)
    unfold madeP
    rw [if_pos hl]
  rcases hf : l.find? farB with _ | c
  · rcases hs : l.find? shB with _ | c
    · have ho := off_of hf hs
      refine sq_cut (fun δ Λ' => ∃ m, δ = [some a, some (.ref m), none, none] ∧ Λ <+: Λ' ∧ BkR Λ' m (dd l)) (fun N kN => ?_) ?_
      · rw [sq_tryM, sq_set]
        simp only [rq_call, rq_cons, rq_nil, rq_var, List.getElem?_cons_zero, List.getElem?_cons_succ]
        refine (make_ok h (by omega) ho).and fun v Λ' ⟨e1, e2, e3⟩ => ?_
        subst e1
        exact kN _ _ ⟨_, rfl, e2, e3⟩
      rintro δ Λ1 ⟨m, rfl, p1, hm⟩
      obtain ⟨d, h1⟩ := ref_ex hm
      simp only [sq_ret, rq_tup, rq_cons, rq_nil, rq_c, rq_att, rq_var, List.getElem?_cons_zero, List.getElem?_cons_succ, att_f h1 lk_f lk_ex, List.length_cons, List.length_nil]
      refine ⟨three', kP _ _ ⟨?_, p1⟩⟩
      unfold madeP
      rw [if_neg hl, hf]
      dsimp only
      rw [hs]
      dsimp only
      rw [plain_eq]
    · rw [sq_seq, sq_tryM, sq_set]
      simp only [rq_call, rq_cons, rq_nil, rq_var, List.getElem?_cons_zero, List.getElem?_cons_succ]
      refine make_exS h (by omega) hf hs fun Λ' j e1 e2 => hand_shore e2 (kP _ _ ⟨?_, e1⟩)
      unfold madeP
      rw [if_neg hl, hf]
      dsimp only
      rw [hs]
  · rw [sq_seq, sq_tryM, sq_set]
    simp only [rq_call, rq_cons, rq_nil, rq_var, List.getElem?_cons_zero, List.getElem?_cons_succ]
    refine make_exC h (by omega) hf fun Λ' j e1 e2 => hand_cell e2 (kP _ _ ⟨?_, e1⟩)
    unfold madeP
    rw [if_neg hl, hf]
end Lk34

set_option Elab.async false
set_option linter.all false
set_option maxRecDepth 100000
set_option maxHeartbeats 4000000
namespace Lk34
open PySem PySem.Spec PyProof.Rows L2 NP
def Win (b : Int) (l : List Cell) : Prop := ∀ c ∈ l, (0 ≤ c.1 ∧ c.1 ≤ b) ∧ -3 ≤ c.2 ∧ c.2 ≤ b - 1
theorem Win.mono {b b' : Int} {l : List Cell} (h : Win b l) (e : b ≤ b') : Win b' l := fun c hc => by have := h c hc; omega
theorem lot_ok {Λ : AH} {p : Nat} {n wide : Int} {X : XQ} (h : PoolD Λ p) (hn : 0 ≤ n) (hn2 : n < 15) (hw : 0 < wide) (hw2 : wide < 10) :
    RQ (f__law_lot [.ref p, .int n, .int wide] Λ) (fun v Λ' => ∃ q l, v = .ref q ∧ Λ.length ≤ q ∧ PoolD Λ' p ∧ Keeps p Λ Λ' ∧ Λ'[q]? = some (.lst (cvs l)) ∧ l.length ≤ 14 ∧ Win 5 l) X := by
  refine RQ.cps fun P kP => ?_
  have hpl := h.lt
  have hlog := logOk hw (by omega)
  unfold f__law_lot b__law_lot
  rw [rq_run (by rfl)]
  simp only [startA, List.map_cons, List.map_nil, List.length_cons, List.length_nil, List.cons_append, List.nil_append, Nat.reduceAdd, Nat.reduceSub, List.replicate]
  refine sq_cut (fun δ Λ' => δ = [some (.ref p), some (.int n), some (.int wide), some (.ref Λ.length), none, none, none] ∧ Λ' = Λ ++ [.lst []]) (fun N kN => ?_) ?_
  · simp only [sq_set, rq_lst, rq_nil, List.length_nil, List.set_cons_zero, List.set_cons_succ]
    exact ⟨Nat.zero_le _, kN _ _ ⟨rfl, rfl⟩⟩
  rintro δ Λ1 ⟨rfl, rfl⟩
  refine sq_cut (fun δ Λ' => ∃ l o4 o5 o6, δ = [some (.ref p), some (.int n), some (.int wide), some (.ref Λ.length), o4, o5, o6] ∧ PoolD Λ' p ∧ Keeps p Λ Λ' ∧ Λ'[Λ.length]? = some (.lst (cvs l)) ∧ l.length ≤ 14 ∧ Win 5 l) (fun N kN => ?_) ?_
  · simp only [sq_for, rq_rg1, rq_cons, rq_nil, rq_var, List.getElem?_cons_zero, List.getElem?_cons_succ, rq_rgR1]
    refine ⟨rgOk_of (by omega) (by omega), ?_⟩
    refine forL_inv (fun i δ Λ' => ∃ l o4 o5 o6, δ = [some (.ref p), some (.int n), some (.int wide), some (.ref Λ.length), o4, o5, o6] ∧ PoolD Λ' p ∧ Keeps p Λ Λ' ∧ Λ'[Λ.length]? = some (.lst (cvs l)) ∧ l.length = i ∧ Win 5 l)
      ⟨[], none, none, none, rfl, h.pre (List.prefix_append _ _), Keeps.pre (List.prefix_append _ _), by rw [get_new0]; rfl, rfl, fun c hc => by cases hc⟩ (fun _ _ _ _ _ => trivial) ?_ (fun δ Λ' q => ?_)
    · rintro i x0 δ Λ2 hx ⟨l, o4, o5, o6, rfl, hp2, hk2, hl2, hli, hf2⟩
      obtain ⟨hi, rfl⟩ := rgA_at hx
      have hi12 : i < 14 := by omega
      refine ⟨_, rfl, ?_⟩
      generalize hI : (fun δ Λ' => ∃ l o4 o5 o6, δ = [some (AV.ref p), some (AV.int n), some (AV.int wide), some (AV.ref Λ.length), o4, o5, o6] ∧ PoolD Λ' p ∧ Keeps p Λ Λ' ∧ Λ'[Λ.length]? = some (AO.lst (cvs l)) ∧ l.length = i + 1 ∧ Win 5 l) = I
      obtain ⟨kk, hkk⟩ : ∃ kk : Int, kk = 0 + (i : Int) := ⟨_, rfl⟩
      rw [← hkk]
      refine sq_cut (fun δ Λ' => ∃ x, δ = [some (.ref p), some (.int n), some (.int wide), some (.ref Λ.length), some (.int kk), some (.int x), o6] ∧ (0 ≤ x ∧ x ≤ 5) ∧ PoolD Λ' p ∧ Keeps p Λ Λ' ∧ Λ'[Λ.length]? = some (.lst (cvs l))) (fun N2 kN2 => ?_) ?_
      · simp only [sq_set, rq_bin, rq_call, rq_cons, rq_nil, rq_c, rq_var, List.set_cons_zero, List.set_cons_succ, List.getElem?_cons_zero, List.getElem?_cons_succ, List.append_nil, gFdiv_ii, if_pos (And.intro hw hlog), oq_some]
        refine (draw_at hp2 (by omega) (by omega)).and fun v Λ3 ⟨d, e1, e2, e3, e4, e5⟩ => ?_
        subst e1
        simp only [gAdd_ii, oq_some, gMod_ii, if_pos (show (0 : Int) < 6 by omega)]
        have m1 := Int.emod_nonneg (kk / wide + d) (show (6 : Int) ≠ 0 by omega)
        have m2 := Int.emod_lt_of_pos (kk / wide + d) (show (0 : Int) < 6 by omega)
        exact kN2 _ _ ⟨_, rfl, by omega, e4, hk2.trans e5, e5.get _ (by omega) _ hl2⟩
      rintro δ Λ3 ⟨x, rfl, hx3, hp3, hk3, hl3⟩
      refine sq_cut (fun δ Λ' => ∃ y, δ = [some (.ref p), some (.int n), some (.int wide), some (.ref Λ.length), some (.int kk), some (.int x), some (.int y)] ∧ (-3 ≤ y ∧ y ≤ 4) ∧ PoolD Λ' p ∧ Keeps p Λ Λ' ∧ Λ'[Λ.length]? = some (.lst (cvs l))) (fun N2 kN2 => ?_) ?_
      · simp only [sq_set, rq_bin, rq_call, rq_cons, rq_nil, rq_c, rq_var, List.set_cons_zero, List.set_cons_succ, List.getElem?_cons_zero, List.getElem?_cons_succ, List.append_nil, gMod_ii, if_pos hw, oq_some]
        refine (draw_at hp3 (by omega) (by omega)).and fun v Λ4 ⟨d, e1, e2, e3, e4, e5⟩ => ?_
        subst e1
        simp only [gAdd_ii, oq_some, gMod_ii, if_pos (show (0 : Int) < 8 by omega), gSub_ii]
        have m1 := Int.emod_nonneg (kk % wide + d) (show (8 : Int) ≠ 0 by omega)
        have m2 := Int.emod_lt_of_pos (kk % wide + d) (show (0 : Int) < 8 by omega)
        exact kN2 _ _ ⟨_, rfl, by omega, e4, hk3.trans e5, e5.get _ (by omega) _ hl3⟩
      rintro δ Λ4 ⟨y, rfl, hy4, hp4, hk4, hl4⟩
      have hz : (cvs l).length < sizeLine := by rw [cvs_len]; exact sz_lt (by omega)
      simp only [sq_ex_, rq_mt, rq_var, List.getElem?_cons_zero, List.getElem?_cons_succ, oq_some, rq_cons, rq_nil, rq_tup, List.length_cons, List.length_nil, gAppend_r, hl4, if_pos hz]
      refine ⟨by rw [tyA_r, hl4]; rfl, two', ?_⟩
      rw [← hI]
      refine ⟨l ++ [(x, y)], _, _, _, rfl, poolD_set hp4 (by omega), keeps_set hk4 (Nat.le_refl _), by rw [get_set hl4]; simp, by simp [hli], fun c hc => ?_⟩
      rcases List.mem_append.mp hc with hc | hc
      · exact hf2 c hc
      · rw [List.mem_singleton.mp hc]
        exact ⟨hx3, by show -3 ≤ y ∧ y ≤ 5 - 1; omega⟩
    · obtain ⟨l, o4, o5, o6, rfl, h1, h2, h3, h4, h5⟩ := q
      refine kN _ _ ⟨l, _, _, _, rfl, h1, h2, h3, ?_, h5⟩
      rw [h4, src_fix]
      simp [rgA]
      omega
  rintro δ Λ2 ⟨l, o4, o5, o6, rfl, h1, h2, h3, h4, h5⟩
  simp only [sq_ret, rq_var, List.getElem?_cons_zero, List.getElem?_cons_succ]
  exact kP _ _ ⟨_, l, rfl, Nat.le_refl _, h1, h2, h3, h4, h5⟩
theorem cut_take {xs : List AV} {k : Int} : ∃ m, cutA xs none (some k) = xs.take m := by
  unfold cutA
  exact ⟨_, by rw [show HT.sIx xs.length 0 none = 0 from rfl, List.drop_zero]⟩
theorem cvs_take {l : List Cell} {m : Nat} : (cvs l).take m = cvs (l.take m) := by simp [cvs]
/-- a list of cells, each moved -/
theorem moved_lc {Λ : AH} {f : Nat} {l : List Cell} {vs : List Nat} {j : Nat} {δ : AEnv} {fe : ME} {m : Cell → Cell} {P : AV → AH → Prop} {X : XQ} (hf : Λ[f]? = some (.lst (cvs l))) (hl : l.length ≤ 1000)
    (he : ∀ c acc, RQ (fe ((wipeA δ vs).set j (some (cv c))) (Λ ++ [.lst acc])) (fun b Λ' => b = cv (m c) ∧ Λ' = Λ ++ [.lst acc]) X0)
    (q : P (.ref Λ.length) (Λ ++ [.lst (cvs (l.map m))])) : RQ (lcR vs (.nm j) dYes fe δ (.lst f (cvs l)) Λ) P X := by
  refine rq_lca l cv (fun c => (wipeA δ vs).set j (some (cv c))) (fun c => cv (m c)) rfl (fun _ _ => rfl) (fun acc => get_old hf _) (fun c _ acc => he c acc) (sz_le (by omega)) ?_
  rw [show l.map (fun c => cv (m c)) = cvs (l.map m) from by simp [cvs]]
  exact q
theorem win_off {b : Int} {l : List Cell} (h : Win b l) (hb : b ≤ 100) : Off l := fun c hc => by
  have := h c hc
  rw [far_le]
  omega
/-- a list turned about -/
theorem rev_lc {Λ : AH} {C : List Cell} {fe : ME} {δ : AEnv} {vs : List Nat} {j : Nat} {K : Int} {P : AV → AH → Prop} {X : XQ} (hl : C.length ≤ 1000) (hK : K = (C.length : Int))
    (he : ∀ (k : Nat) (acc : List AV), k < C.length → RQ (fe ((wipeA δ vs).set j (some (.int (0 + (k : Int))))) (Λ ++ [.lst acc])) (fun b Λ' => b = ((cvs C.reverse)[k]?).getD .non ∧ Λ' = Λ ++ [.lst acc]) X0)
    (q : P (.ref Λ.length) (Λ ++ [.lst (cvs C.reverse)])) : RQ (lcR vs (.nm j) dYes fe δ (.fix (rgA 0 K.toNat)) Λ) P X := by
  have hkn : K.toNat = C.length := by omega
  refine rq_lca (List.range C.length) (fun k => .int (0 + (k : Int))) (fun k => (wipeA δ vs).set j (some (.int (0 + (k : Int))))) (fun k => ((cvs C.reverse)[k]?).getD .non) ?_ (fun _ _ => rfl) (fun _ => trivial) (fun k hk acc => he k acc (List.mem_range.mp hk)) (by rw [List.length_range]; exact sz_le (by omega)) ?_
  · rw [src_fix, hkn]
    rfl
  · have e : (List.range C.length).map (fun k => ((cvs C.reverse)[k]?).getD .non) = cvs C.reverse := by
      apply List.ext_getElem?
      intro k
      rw [List.getElem?_map]
      by_cases hk : k < C.length
      · rw [List.getElem?_range hk, Option.map_some]
        have : k < (cvs C.reverse).length := by rw [cvs_len, List.length_reverse]; exact hk
        rw [List.getElem?_eq_getElem this]
        rfl
      · rw [List.getElem?_eq_none (by rw [List.length_range]; omega), List.getElem?_eq_none (by rw [cvs_len, List.length_reverse]; omega)]
        rfl
    rw [e]
    exact q
theorem rev_at {C : List Cell} {k : Nat} {K : Int} (hk : k < C.length) (hK : K = (C.length : Int)) : atA (cvs C) (K - 1 - (0 + (k : Int))) = some (((cvs C.reverse)[k]?).getD .non) := by
  rw [at_nat (by omega) (by rw [cvs_len]; omega)]
  have e : (K - 1 - (0 + (k : Int))).toNat = C.length - 1 - k := by omega
  rw [e]
  have h1 : (cvs C.reverse)[k]? = (cvs C)[C.length - 1 - k]? := by
    rw [show cvs C.reverse = (cvs C).reverse from by simp [cvs], List.getElem?_reverse (by rw [cvs_len]; exact hk), cvs_len]
  rw [h1, List.getElem?_eq_getElem (by rw [cvs_len]; omega)]
  rfl
theorem add_cc {Λ : AH} {x y : Nat} {l m : List Cell} {P : AV → AH → Prop} (g1 : Λ[x]? = some (.lst (cvs l))) (g2 : Λ[y]? = some (.lst (cvs m))) (h : l.length + m.length ≤ 100000) (q : P (.ref Λ.length) (Λ ++ [.lst (cvs (l ++ m))])) : OQ (gAdd (.ref x) (.ref y) Λ) P := by
  have hz : (cvs l).length + (cvs m).length ≤ sizeLine := by rw [cvs_len, cvs_len]; exact sz_le (by omega)
  rw [gAdd_rr, g1, g2]
  simp only [if_pos hz, oq_some]
  rw [show cvs l ++ cvs m = cvs (l ++ m) from by simp [cvs]]
  exact q
theorem cut_drop {xs : List AV} {k : Int} : ∃ m, cutA xs (some k) none = xs.drop m := by
  unfold cutA
  exact ⟨_, List.take_of_length_le (by rw [List.length_drop]; exact Nat.le_of_eq rfl)⟩
theorem second_ok {Λ : AH} {p f : Nat} {first : List Cell} {X : XQ} (h : PoolD Λ p) (hf : Λ[f]? = some (.lst (cvs first))) (hfp : f ≠ p) (hl : first.length ≤ 14) (hw : Win 5 first) :
    RQ (f__law_second [.ref p, .ref f] Λ) (fun v Λ' => ∃ q l, v = .ref q ∧ PoolD Λ' p ∧ Keeps p Λ Λ' ∧ Λ'[q]? = some (.lst (cvs l)) ∧ q ≠ p ∧ l.length ≤ 28 ∧ Off l) X := by
  refine RQ.cps fun P kP => ?_
  have hpl := h.lt
  unfold f__law_second b__law_second
  rw [rq_run (by rfl)]
  simp only [startA, List.map_cons, List.map_nil, List.length_cons, List.length_nil, List.cons_append, List.nil_append, Nat.reduceAdd, Nat.reduceSub, List.replicate]
  refine sq_cut (fun δ Λ' => ∃ mode, δ = [some (.ref p), some (.ref f), some (.int mode), none, none, none] ∧ PoolD Λ' p ∧ Keeps p Λ Λ') (fun N kN => ?_) ?_
  · simp only [sq_set, rq_call, rq_cons, rq_nil, rq_c, rq_var, List.set_cons_zero, List.set_cons_succ, List.getElem?_cons_zero, List.getElem?_cons_succ, List.append_nil]
    refine (draw_at h (by omega) (by omega)).and fun v Λ1 ⟨d, e1, e2, e3, e4, e5⟩ => ?_
    subst e1
    exact kN _ _ ⟨d, rfl, e4, e5⟩
  rintro δ Λ1 ⟨mode, rfl, hp1, hk1⟩
  refine sq_cut (fun δ Λ' => ∃ q lot, δ = [some (.ref p), some (.ref f), some (.int mode), some (.ref q), none, none] ∧ PoolD Λ' p ∧ Keeps p Λ Λ' ∧ Λ'[q]? = some (.lst (cvs lot)) ∧ q ≠ p ∧ lot.length ≤ 14 ∧ Win 5 lot) (fun N kN => ?_) ?_
  · simp only [sq_set, rq_call, rq_cons, rq_nil, rq_c, rq_bin, rq_var, List.set_cons_zero, List.set_cons_succ, List.getElem?_cons_zero, List.getElem?_cons_succ, List.append_nil]
    refine (draw_at hp1 (by omega) (by omega)).and fun v Λ2 ⟨d, e1, e2, e3, e4, e5⟩ => ?_
    subst e1
    simp only [gAdd_ii, oq_some, gMod_ii, if_pos (show (0 : Int) < 15 by omega)]
    refine (lot_ok e4 (Int.emod_nonneg _ (by omega)) (Int.emod_lt_of_pos _ (by omega)) (by omega) (by omega)).and fun v Λ3 ⟨q, l, f1, f2, f3, f4, f5, f6, f7⟩ => ?_
    subst f1
    exact kN _ _ ⟨q, l, rfl, f3, (hk1.trans e5).trans f4, f5, by have := e4.lt; omega, f6, f7⟩
  rintro δ Λ2 ⟨q, lot, rfl, hp2, hk2, hq2, hqp, hlot, hwl⟩
  have hf2 := hk2.get f hfp _ hf
  have hplt := hp2.lt
  have fin : ∀ (Λ' : AH) (n : Nat) (l : List Cell), Λ2 <+: Λ' → Λ2.length ≤ n → Λ'[n]? = some (.lst (cvs l)) → l.length ≤ 28 → Off l → P (.ref n) Λ' := fun Λ' n l e h0 h1 h2 h3 => kP _ _ ⟨n, l, rfl, hp2.pre e, hk2.trans (Keeps.pre e), h1, by omega, h2, h3⟩
  have o1 : Off first := win_off hw (by omega)
  have o2 : Off lot := win_off hwl (by omega)
  obtain ⟨K, hK⟩ : ∃ K : Int, K = (first.length : Int) := ⟨_, rfl⟩
  have gl : ∀ {Λ' : AH}, Λ'[f]? = some (.lst (cvs first)) → gLen [.ref f] Λ' = some (.int K, Λ') := fun {Λ'} h => by rw [hK, CSeq.len (cs := first) (.inl ⟨f, rfl, h⟩)]
  have skip : ∀ (n : Int) (g h : MS) (D : DQ), decide (mode = n) = false → SQ (h [some (.ref p), some (.ref f), some (.int mode), some (.ref q), none, none] Λ2) D → SQ (dSeq (dIfS (dTB (dBin gEqY (dVar 2) (dC (.int n)))) g dNx) h [some (.ref p), some (.ref f), some (.int mode), some (.ref q), none, none] Λ2) D := fun n g h D hd k => by
    rw [sq_seq, sq_ifS]
    simp only [rq_tb, rq_bin, rq_c, rq_var, List.getElem?_cons_zero, List.getElem?_cons_succ, gEqY_ii, oq_some, hd, rq_blA, Bool.false_eq_true, false_implies, true_implies, true_and, sq_dNx]
    exact k
  have take : ∀ (n : Int) (g : ME) (h : MS) (D : DQ), decide (mode = n) = true → RQ (g [some (.ref p), some (.ref f), some (.int mode), some (.ref q), none, none] Λ2) D.rt (D.ex [some (.ref p), some (.ref f), some (.int mode), some (.ref q), none, none]) → SQ (dSeq (dIfS (dTB (dBin gEqY (dVar 2) (dC (.int n)))) (dRet g) dNx) h [some (.ref p), some (.ref f), some (.int mode), some (.ref q), none, none] Λ2) D := fun n g h D hd k => by
    rw [sq_seq, sq_ifS]
    simp only [rq_tb, rq_bin, rq_c, rq_var, List.getElem?_cons_zero, List.getElem?_cons_succ, gEqY_ii, oq_some, hd, rq_blA, true_implies, Bool.true_eq_false, false_implies, and_true, sq_ret]
    exact k
  rcases m1 : decide (mode = 1) with _ | _
  case true =>
    refine take 1 _ _ _ m1 ?_
    simp only [rq_bin, rq_lc, rq_rg1, rq_pr, rq_cons, rq_nil, rq_var, List.getElem?_cons_zero, List.getElem?_cons_succ, gl hf2, oq_some, rq_rgR1]
    refine ⟨rgOk_of (by omega) (by omega), ?_⟩
    refine rev_lc (C := first) (by omega) hK (fun k acc hk => ?_) ?_
    · simp only [wipeA, List.foldl_cons, List.foldl_nil, List.set_cons_zero, List.set_cons_succ, rq_bin, rq_pr, rq_cons, rq_nil, rq_c, rq_var, List.getElem?_cons_zero, List.getElem?_cons_succ, gl (get_old hf2 _), oq_some, gSub_ii, gIx_ri, get_old hf2 _, rev_at hk hK, Option.map_some]
      exact ⟨trivial, trivial⟩
    · obtain ⟨m, hm⟩ := cut_take (xs := cvs first) (k := 2)
      simp only [rq_sl, rq_nop, rq_part, rq_c, rq_intO, rq_var, List.getElem?_cons_zero, List.getElem?_cons_succ, rq_slA_r, get_old hf2 _, hm, cvs_take]
      refine add_cc (l := first.reverse) (m := first.take m) (get_old (by rw [get_new0]; rfl) _) (by rw [get_new0]; rfl) (by rw [List.length_reverse, List.length_take]; omega) ?_
      refine fin _ _ _ (((List.prefix_append _ _).trans (List.prefix_append _ _)).trans (List.prefix_append _ _)) (by rw [List.length_append, List.length_append]; omega) (by rw [get_new0]; rfl) (by rw [List.length_append, List.length_reverse, List.length_take]; omega) fun c hc => ?_
      rcases List.mem_append.mp hc with hc | hc
      · exact o1 c (List.mem_reverse.mp hc)
      · exact o1 c (List.mem_of_mem_take hc)
  refine skip 1 _ _ _ m1 ?_
  rcases m2 : decide (mode = 2) with _ | _
  case true =>
    refine take 2 _ _ _ m2 ?_
    simp only [rq_bin, rq_var, List.getElem?_cons_zero, List.getElem?_cons_succ]
    refine add_cc hq2 hf2 (by omega) ?_
    refine fin _ _ _ (List.prefix_append _ _) (Nat.le_refl _) (by rw [get_new0]; rfl) (by rw [List.length_append]; omega) fun c hc => ?_
    exact (List.mem_append.mp hc).elim (o2 c) (o1 c)
  refine skip 2 _ _ _ m2 ?_
  rcases m3 : decide (mode = 3) with _ | _
  case true =>
    refine take 3 _ _ _ m3 ?_
    obtain ⟨m, hm⟩ := cut_take (xs := cvs lot) (k := 3)
    simp only [rq_lc, rq_it, rq_var, List.getElem?_cons_zero, List.getElem?_cons_succ, rq_srcA_r, hf2]
    refine lc_inv (fun i acc Λ' => acc = cvs ((first.take i).filter fun c => !decide (c ∈ lot.take m)) ∧ Λ2 <+: Λ' ∧ Λ'[Λ2.length]? = some (.lst acc)) ⟨rfl, List.prefix_append _ _, by rw [get_new0]; rfl⟩ (fun i acc Λ' _ z => get_pre z.2.1 hf2) ?_ ?_
    · rintro i x acc Λ' hx ⟨ea, p1, hacc⟩
      obtain ⟨c, hc, rfl⟩ := cvs_ix hx
      refine ⟨_, rfl, ?_⟩
      have hal : acc.length ≤ 14 := by
        rw [ea, cvs_len]
        have := List.length_filter_le (fun c => !decide (c ∈ lot.take m)) (first.take i)
        rw [List.length_take] at this
        omega
      have hstep : (first.take (i + 1)).filter (fun c => !decide (c ∈ lot.take m)) = (first.take i).filter (fun c => !decide (c ∈ lot.take m)) ++ [c].filter (fun c => !decide (c ∈ lot.take m)) := by rw [List.take_add_one, hc, Option.toList_some, List.filter_append]
      simp only [wipeA, List.foldl_cons, List.foldl_nil, List.set_cons_zero, List.set_cons_succ, rq_tb, rq_bin, rq_sl, rq_nop, rq_part, rq_c, rq_intO, rq_var, List.getElem?_cons_zero, List.getElem?_cons_succ, rq_slA_r, get_pre p1 hq2, hm, cvs_take]
      rw [CSeq.notInY (cs := lot.take m) (.inl ⟨_, rfl, by rw [get_new0]; rfl⟩)]
      simp only [oq_some, rq_blA, rq_var, List.getElem?_cons_zero, List.getElem?_cons_succ]
      refine ⟨fun hin => ⟨get_old hacc _, sz_lt (by omega), ?_, pre_set (p1.trans (List.prefix_append _ _)) (Nat.le_refl _), get_set (get_old hacc _)⟩, fun hin => ⟨?_, p1.trans (List.prefix_append _ _), get_old hacc _⟩⟩
      · rw [hstep, List.filter_cons, if_pos hin, List.filter_nil, ea]
        simp
      · rw [hstep, List.filter_cons, if_neg (by rw [hin]; decide), List.filter_nil, ea, List.append_nil]
    · rintro acc Λ' ⟨ea, p1, hacc⟩
      rw [src_lst, cvs_len, List.take_length] at ea
      rw [ea] at hacc
      exact fin _ _ _ p1 (Nat.le_refl _) hacc (Nat.le_trans (List.length_filter_le _ _) (by omega)) fun c hc => o1 c (List.mem_filter.mp hc).1
  refine skip 3 _ _ _ m3 ?_
  rcases m4 : decide (mode = 4) with _ | _
  case true =>
    refine take 4 _ _ _ m4 ?_
    simp only [rq_lc, rq_it, rq_var, List.getElem?_cons_zero, List.getElem?_cons_succ, rq_srcA_r, hq2]
    refine moved_lc (m := fun c => (c.1 + 6, c.2)) hq2 (by omega) (fun c acc => ?_) ?_
    · simp only [wipeA, List.foldl_cons, List.foldl_nil, List.set_cons_zero, List.set_cons_succ, rq_tup, rq_cons, rq_nil, rq_bin, rq_c, rq_var, List.getElem?_cons_zero, List.getElem?_cons_succ, gIx_ti, at0, at1, Option.map_some, oq_some, gAdd_ii, List.length_cons, List.length_nil]
      exact ⟨two', by trivial, trivial⟩
    · refine fin _ _ _ (List.prefix_append _ _) (Nat.le_refl _) (by rw [get_new0]; rfl) (by rw [List.length_map]; omega) fun c hc => ?_
      obtain ⟨d, hd, rfl⟩ := List.mem_map.mp hc
      have := hwl d hd
      rw [far_le]
      dsimp only
      omega
  refine skip 4 _ _ _ m4 ?_
  simp only [sq_ret, rq_var, List.getElem?_cons_zero, List.getElem?_cons_succ]
  exact kP _ _ ⟨q, lot, rfl, hp2, hk2, hq2, hqp, by omega, o2⟩
end Lk34

set_option Elab.async false
set_option linter.all false
set_option maxRecDepth 100000
set_option maxHeartbeats 4000000
namespace Lk34
open PySem PySem.Spec PyProof.Rows L2 NP
structure Good (C : List Cell) : Prop where
  nd : C.Nodup
  so : sortP C = C
  off : Off C
  len : C.length ≤ 10000
theorem plain_good {L : List Cell} (h : Off L) (hl : L.length ≤ 10000) : Good (plainP L) := ⟨plain_nd, sort_plain L, fun c hc => h c (plain_mem.mp hc), Nat.le_trans (plain_len L) hl⟩
theorem good_filter {C : List Cell} (h : Good C) (p : Cell → Bool) : Good (C.filter p) := by
  refine ⟨h.nd.filter _, ?_, fun c hc => h.off c (List.mem_filter.mp hc).1, Nat.le_trans (List.length_filter_le _ _) h.len⟩
  refine sortP_eq ?_ (List.Perm.refl _)
  have hs := sortP_sorted C
  rw [h.so] at hs
  exact hs.sublist List.filter_sublist
theorem good_nil : Good [] := ⟨List.nodup_nil, (by decide +kernel), (fun c hc => by cases hc), Nat.zero_le _⟩
theorem good_dd {C : List Cell} (h : Good C) : dd C = C := dd_of_nd h.nd
theorem good_plain {C : List Cell} (hC : Good C) : plainP C = C := by rw [plain_eq, good_dd hC, hC.so]
theorem good_ext {C D : List Cell} (hC : Good C) (hD : Good D) (h : ∀ c, c ∈ C ↔ c ∈ D) : C = D := by rw [← good_plain hC, ← good_plain hD]; exact plain_congr h
theorem isi_bank {Λ : AH} {r : Nat} {C : List Cell} (h : BkR Λ r C) : gIsi (isO io_Bank) (.ref r) Λ = some (.bl true, Λ) := by
  obtain ⟨d, h1⟩ := ref_ex h
  unfold gIsi tnA
  simp only [h1]
  rfl
theorem eq_gt {Λ : AH} {r s : Nat} {C D : List Cell} {P : AV → AH → Prop} {X : XQ} (hr : BkR Λ r C) (hs : BkR Λ s D) (hC : Good C) (hD : Good D) : RQ (f_Bank___eq__ [.ref r, .ref s] Λ) P X = P (.bl (decide (C = D))) Λ := by
  obtain ⟨d, l', h1, h2, h3, h4⟩ := id hr
  obtain ⟨d', m', g1, g2, g3, g4⟩ := id hs
  have e1 : gEqY (.tup (cvs C)) (.tup (cvs D)) Λ = some (.bl (decide (C = D)), Λ) := by
    rw [gEqY_no rfl]
    unfold gEq
    simp only [toD, toD_cvs, Option.map_some]
    rw [PyData.eqv, eqvAll_dCell]
  unfold f_Bank___eq__ b_Bank___eq__
  rw [rq_run (by rfl)]
  simp only [startA, List.map_cons, List.map_nil, List.length_cons, List.length_nil, List.cons_append, List.nil_append, Nat.reduceAdd, Nat.reduceSub, List.replicate, List.append_nil, sq_ret, rq_and, rq_un, rq_bin, rq_att, rq_var, List.getElem?_cons_zero, List.getElem?_cons_succ, isi_bank hs, oq_some, rq_truR, truA_bl, true_implies, Bool.true_eq_false, false_implies, and_true, att_f h1 lk_f lk_ex, att_f g1 lk_f lk_ex, hC.so, hD.so, e1]
theorem eqO_bank {Λ : AH} {r s : Nat} {C D : List Cell} {P : AV → AH → Prop} {X : XQ} (hr : BkR Λ r C) (hs : BkR Λ s D) (hC : Good C) (hD : Good D) : RQ (eqO' gEqY (("Bank", f_Bank___eq__, eqt_Bank) :: []) (.ref r) (.ref s) Λ) P X = P (.bl (decide (C = D))) Λ := by
  obtain ⟨d, l', h1, _⟩ := id hr
  obtain ⟨d', m', g1, _⟩ := id hs
  have ht : tnE (.ref s) Λ = some (.inr "Bank") := by unfold tnE; simp only [g1]
  rw [eqO_r h1 (m := f_Bank___eq__) (ts := eqt_Bank) rfl ht (by unfold eqt_Bank; simp), eq_gt hr hs hC hD]
theorem eqO_no {Λ : AH} {r : Nat} {b : AV} {t : TyN} {C : List Cell} {P : AV → AH → Prop} {X : XQ} (hr : BkR Λ r C) (ht : tnE b Λ = some t) (hm : t ∈ eqt_Bank) (hi : gIsi (isO io_Bank) b Λ = some (.bl false, Λ)) : RQ (eqO' gEqY (("Bank", f_Bank___eq__, eqt_Bank) :: []) (.ref r) b Λ) P X = P (.bl false) Λ := by
  obtain ⟨d, l', h1, _⟩ := id hr
  rw [eqO_r h1 (m := f_Bank___eq__) (ts := eqt_Bank) rfl ht hm]
  unfold f_Bank___eq__ b_Bank___eq__
  rw [rq_run (by rfl)]
  simp only [startA, List.map_cons, List.map_nil, List.length_cons, List.length_nil, List.cons_append, List.nil_append, Nat.reduceAdd, Nat.reduceSub, List.replicate, List.append_nil, sq_ret, rq_and, rq_un, rq_var, List.getElem?_cons_zero, List.getElem?_cons_succ, hi, oq_some, rq_truR, truA_bl, true_implies, Bool.false_eq_true, false_implies, true_and]
theorem eqO_tup {Λ : AH} {r : Nat} {xs : List AV} {C : List Cell} {P : AV → AH → Prop} {X : XQ} (hr : BkR Λ r C) : RQ (eqO' gEqY (("Bank", f_Bank___eq__, eqt_Bank) :: []) (.ref r) (.tup xs) Λ) P X = P (.bl false) Λ := eqO_no hr (t := .inl "tuple") rfl (by unfold eqt_Bank; simp) rfl
theorem eqO_non {Λ : AH} {r : Nat} {C : List Cell} {P : AV → AH → Prop} {X : XQ} (hr : BkR Λ r C) : RQ (eqO' gEqY (("Bank", f_Bank___eq__, eqt_Bank) :: []) (.ref r) .non Λ) P X = P (.bl false) Λ := eqO_no hr (t := .inl "NoneType") rfl (by unfold eqt_Bank; simp) rfl
/-- every cell of D is in C -/
def subB (D C : List Cell) : Bool := D.all fun c => decide (c ∈ C)
theorem sub_false {D C : List Cell} {c : Cell} (h : c ∈ D) (h2 : ¬ c ∈ C) : subB D C = false := by
  unfold subB
  rw [List.all_eq_false]
  exact ⟨c, h, by simpa using h2⟩
theorem sub_true {D C : List Cell} (h : ∀ (i : Nat) c, i < D.length → D[i]? = some c → c ∈ C) : subB D C = true := by
  unfold subB
  rw [List.all_eq_true]
  intro c hc
  obtain ⟨i, hi⟩ := List.getElem?_of_mem hc
  simpa using h i c (List.getElem?_eq_some_iff.mp hi).1 hi
theorem inside_gt {Λ : AH} {r q : Nat} {C D : List Cell} {P : AV → AH → Prop} {X : XQ} (hr : BkR Λ r D) (hq : BkR Λ q C) (hD : Good D) (k : P (.bl (subB D C)) Λ) : RQ (f_Bank_inside [.ref r, .ref q] Λ) P X := by
  obtain ⟨d, h1⟩ := ref_ex hr
  obtain ⟨d2, h2⟩ := ref_ex hq
  unfold f_Bank_inside b_Bank_inside
  rw [rq_run (by rfl)]
  simp only [startA, List.map_cons, List.map_nil, List.length_cons, List.length_nil, List.cons_append, List.nil_append, Nat.reduceAdd, Nat.reduceSub, List.replicate]
  refine sq_cut (fun δ Λ' => Λ' = Λ ∧ subB D C = true) (fun N kN => ?_) (fun δ Λ' e => by rw [e.1]; simp only [sq_ret, rq_c]; rw [← e.2]; exact k)
  simp only [sq_for, rq_it, rq_att, rq_var, List.getElem?_cons_zero, List.getElem?_cons_succ, att_f h1 lk_f lk_ex, rq_srcA_t, hD.so]
  refine forL_inv (fun i δ Λ' => (∃ o, δ = [some (.ref r), some (.ref q), o]) ∧ Λ' = Λ ∧ ∀ (j : Nat) c, j < i → D[j]? = some c → c ∈ C) ⟨⟨_, rfl⟩, rfl, fun j c hj => absurd hj (by omega)⟩ (fun _ _ _ _ _ => trivial) ?_ (fun δ Λ' q => kN _ _ ⟨q.2.1, sub_true fun i c hi => q.2.2 i c (by rw [src_fix, cvs_len]; exact hi)⟩)
  rintro i x δ Λ' hx ⟨⟨o, rfl⟩, e, hall⟩
  rw [e]
  clear e Λ'
  obtain ⟨c, hc, rfl⟩ := cvs_ix hx
  refine ⟨_, rfl, ?_⟩
  generalize hI : (fun δ Λ'' => (∃ o, δ = [some (AV.ref r), some (AV.ref q), o]) ∧ Λ'' = Λ ∧ ∀ (j : Nat) c, j < i + 1 → D[j]? = some c → c ∈ C) = I
  have hn : ¬ c.1 < 0 := by have := (hD.off c (List.mem_of_getElem? hc)).2; omega
  rw [sq_ifS]
  simp only [rq_tb, rq_inO, rq_var, List.set_cons_zero, List.set_cons_succ, List.getElem?_cons_zero, List.getElem?_cons_succ]
  rw [inO_r (m := f_Bank___contains__) h2 rfl, has_gt hq]
  by_cases hm : c ∈ C
  · simp only [hm, or_true, decide_true, rq_blA, bne_self_eq_false, Bool.false_eq_true, false_implies, true_implies, true_and, sq_dNx]
    rw [← hI]
    refine ⟨⟨_, rfl⟩, rfl, fun j c' hj hj2 => ?_⟩
    by_cases e : j = i
    · rw [e, hc] at hj2
      cases hj2
      exact hm
    · exact hall j c' (by omega) hj2
  · simp only [hm, hn, or_self, decide_false, rq_blA, show (false != true) = true from rfl, true_implies, Bool.true_eq_false, false_implies, and_true, sq_ret, rq_c]
    rw [← sub_false (List.mem_of_getElem? hc) hm]
    exact k
theorem within_gt {Λ : AH} {a b : Nat} {C D : List Cell} {P : AV → AH → Prop} {X : XQ} (ha : Λ[a]? = some (.lst (cvs D))) (hb : Λ[b]? = some (.lst (cvs C))) (k : P (.bl (subB D C)) Λ) : RQ (f__law_within [.ref a, .ref b] Λ) P X := by
  unfold f__law_within b__law_within
  rw [rq_run (by rfl)]
  simp only [startA, List.map_cons, List.map_nil, List.length_cons, List.length_nil, List.cons_append, List.nil_append, Nat.reduceAdd, Nat.reduceSub, List.replicate]
  refine sq_cut (fun δ Λ' => Λ' = Λ ∧ subB D C = true) (fun N kN => ?_) (fun δ Λ' e => by rw [e.1]; simp only [sq_ret, rq_c]; rw [← e.2]; exact k)
  simp only [sq_for, rq_it, rq_var, List.getElem?_cons_zero, List.getElem?_cons_succ, rq_srcA_r, ha]
  show SQ (forL (Src.lst a (cvs D)).here _ _ (cvs D) _ _) _
  refine forL_inv (fun i δ Λ' => (∃ o, δ = [some (.ref a), some (.ref b), o]) ∧ Λ' = Λ ∧ ∀ (j : Nat) c, j < i → D[j]? = some c → c ∈ C) ⟨⟨_, rfl⟩, rfl, fun j c hj => absurd hj (by omega)⟩ (fun _ _ _ _ q => by rw [q.2.1]; exact ha) ?_ (fun δ Λ' q => kN _ _ ⟨q.2.1, sub_true fun i c hi => q.2.2 i c (by rw [cvs_len]; exact hi)⟩)
  rintro i x δ Λ' hx ⟨⟨o, rfl⟩, e, hall⟩
  rw [e]
  clear e Λ'
  obtain ⟨c, hc, rfl⟩ := cvs_ix hx
  refine ⟨_, rfl, ?_⟩
  generalize hI : (fun δ Λ'' => (∃ o, δ = [some (AV.ref a), some (AV.ref b), o]) ∧ Λ'' = Λ ∧ ∀ (j : Nat) c, j < i + 1 → D[j]? = some c → c ∈ C) = I
  rw [sq_ifS]
  simp only [rq_tb, rq_bin, rq_var, List.set_cons_zero, List.set_cons_succ, List.getElem?_cons_zero, List.getElem?_cons_succ, CSeq.notInY (cs := C) (.inl ⟨_, rfl, hb⟩), oq_some, rq_blA]
  by_cases hm : c ∈ C
  · simp only [hm, decide_true, Bool.not_true, Bool.false_eq_true, false_implies, true_implies, true_and, sq_dNx]
    rw [← hI]
    refine ⟨⟨_, rfl⟩, rfl, fun j c' hj hj2 => ?_⟩
    by_cases e : j = i
    · rw [e, hc] at hj2
      cases hj2
      exact hm
    · exact hall j c' (by omega) hj2
  · simp only [hm, decide_false, Bool.not_false, true_implies, Bool.true_eq_false, false_implies, and_true, sq_ret, rq_c]
    rw [← sub_false (List.mem_of_getElem? hc) hm]
    exact k
theorem gNeY_bb {Λ : AH} {a b : Bool} : gNeY (.bl a) (.bl b) Λ = some (.bl (!decide (a = b)), Λ) := by rw [gNeY_no rfl, gNe_bb]
theorem members_ok {Λ : AH} {r n : Nat} {C : List Cell} {X : XQ} (hr : BkR Λ r C) (hn : Λ[n]? = some (.lst (cvs C))) (hC : Good C) :
    RQ (f__law_members [.ref r, .ref n] Λ) (fun v Λ' => v = .bl true ∧ Λ <+: Λ') X := by
  refine RQ.cps fun P kP => ?_
  unfold f__law_members b__law_members
  rw [rq_run (by rfl)]
  simp only [startA, List.map_cons, List.map_nil, List.length_cons, List.length_nil, List.cons_append, List.nil_append, Nat.reduceAdd, Nat.reduceSub, List.replicate]
  refine sq_cut (fun δ Λ' => (∃ o2 o3, δ = [some (.ref r), some (.ref n), o2, o3, none]) ∧ Λ' = Λ) (fun N kN => ?_) ?_
  · simp only [sq_for, rq_rg2, rq_cons, rq_nil, rq_un, rq_c, gNeg_i, oq_some, rq_rgR2]
    refine ⟨⟨rgOk_of (by omega) (by omega), rgOk_of (by omega) (by omega)⟩, ?_⟩
    refine forL_inv (fun _ δ Λ' => (∃ o2 o3, δ = [some (.ref r), some (.ref n), o2, o3, none]) ∧ Λ' = Λ) ⟨⟨_, _, rfl⟩, rfl⟩ (fun _ _ _ _ _ => trivial) ?_ (fun δ Λ' q => kN _ _ q)
    rintro i x0 δ Λ' hx ⟨⟨o2, o3, rfl⟩, e⟩
    rw [e]
    clear e Λ'
    obtain ⟨hi, rfl⟩ := rgA_at hx
    refine ⟨_, rfl, ?_⟩
    generalize -2 + (i : Int) = x
    simp only [List.set_cons_zero, List.set_cons_succ, sq_for, rq_rg2, rq_cons, rq_nil, rq_un, rq_c, gNeg_i, oq_some, rq_rgR2]
    refine ⟨⟨rgOk_of (by omega) (by omega), rgOk_of (by omega) (by omega)⟩, ?_⟩
    refine forL_inv (fun _ δ Λ' => (∃ o3, δ = [some (.ref r), some (.ref n), some (.int x), o3, none]) ∧ Λ' = Λ) ⟨⟨_, rfl⟩, rfl⟩ (fun _ _ _ _ _ => trivial) ?_ (fun δ Λ' q => ?_)
    · rintro j y0 δ Λ' hy ⟨⟨o3, rfl⟩, e⟩
      rw [e]
      clear e Λ'
      obtain ⟨hj, rfl⟩ := rgA_at hy
      refine ⟨_, rfl, ?_⟩
      generalize -5 + (j : Int) = y
      generalize hI : (fun δ Λ'' => (∃ o3, δ = [some (AV.ref r), some (AV.ref n), some (AV.int x), o3, none]) ∧ Λ'' = Λ) = I
      obtain ⟨d, h1⟩ := ref_ex hr
      rw [sq_ifS]
      simp only [rq_tb, rq_bin, rq_inO, rq_or, rq_tup, rq_cons, rq_nil, rq_c, rq_var, List.set_cons_zero, List.set_cons_succ, List.getElem?_cons_zero, List.getElem?_cons_succ, List.length_cons, List.length_nil]
      refine ⟨two', ?_⟩
      rw [inO_r (m := f_Bank___contains__) (a := .tup [.int x, .int y]) h1 rfl, show AV.tup [.int x, .int y] = cv (x, y) from rfl, has_gt hr]
      simp only [gLt_ii, oq_some, rq_truR, truA_bl, CSeq.inY (cs := C) (.inl ⟨_, rfl, hn⟩), Bool.bne_false]
      have key : I [some (.ref r), some (.ref n), some (.int x), some (.int y), none] Λ := by rw [← hI]; exact ⟨⟨_, rfl⟩, rfl⟩
      by_cases h0 : x < 0
      · simp only [h0, true_or, decide_true, gNeY_bb, oq_some, rq_blA, Bool.not_true, Bool.true_eq_false, Bool.false_eq_true, false_implies, true_implies, and_true, true_and, sq_dNx]
        exact key
      · simp only [h0, false_or, decide_false, gNeY_bb, oq_some, rq_blA, decide_true, Bool.not_true, Bool.false_eq_true, false_implies, true_implies, true_and, sq_dNx]
        exact ⟨two', key⟩
    · obtain ⟨⟨o3, rfl⟩, rfl⟩ := q
      exact ⟨⟨_, _, rfl⟩, rfl⟩
  rintro δ Λ1 ⟨⟨o2, o3, rfl⟩, e⟩
  rw [e]
  clear e Λ1
  obtain ⟨W, hW⟩ : ∃ W : Int, W = 10 ^ (30 : Int).toNat := ⟨_, rfl⟩
  have hW1 : 1000 < W := by rw [hW]; decide +kernel
  have pw : ∀ Λ : AH, gPow (.int 10) (.int 30) Λ = some (.int W, Λ) := fun Λ => by
    rw [gPow_ii, if_pos (by decide +kernel), hW]
  have loop : ∀ (cs : List Cell) (b : Bool) (Λ1 : AH) (m : Nat) (f : MS) (D : DQ), Λ <+: Λ1 → Λ1[m]? = some (.lst (cvs cs)) → (∃ o4, D.nx [some (.ref r), some (.ref n), o2, o3, o4] Λ1) → True := fun _ _ _ _ _ _ _ _ _ => trivial
  clear loop
  refine sq_cut (fun δ Λ' => (∃ o4, δ = [some (.ref r), some (.ref n), o2, o3, o4]) ∧ Λ <+: Λ') (fun N kN => ?_) ?_
  · simp only [sq_for, rq_it, rq_lst, rq_tup, rq_cons, rq_nil, rq_un, rq_bin, rq_c, gNeg_i, pw, oq_some, List.length_cons, List.length_nil]
    refine ⟨two', two', two', three', ?_⟩
    rw [rq_srcA_r, get_new0, show [AV.tup [.int (-1), .int 121], .tup [.int (-121), .int (-500)], .tup [.int (-W), .int W]] = cvs [(-1, 121), (-121, -500), (-W, W)] from rfl]
    have hm : (Λ ++ [AO.lst (cvs [(-1, 121), (-121, -500), (-W, W)])])[Λ.length]? = some (.lst (cvs [(-1, 121), (-121, -500), (-W, W)])) := by rw [get_new0]; rfl
    have hall : ∀ c ∈ ([(-1, 121), (-121, -500), (-W, W)] : List Cell), c.1 < 0 := fun c hc => by
      simp only [List.mem_cons, List.not_mem_nil, or_false] at hc
      rcases hc with rfl | rfl | rfl <;> dsimp only <;> omega
    generalize ([(-1, 121), (-121, -500), (-W, W)] : List Cell) = cs at *
    show SQ (forL (Src.lst Λ.length (cvs cs)).here _ _ (cvs cs) _ _) _
    refine forL_inv (fun _ δ Λ' => (∃ o4, δ = [some (.ref r), some (.ref n), o2, o3, o4]) ∧ Λ' = Λ ++ [.lst (cvs cs)]) ⟨⟨_, rfl⟩, rfl⟩ (fun _ _ _ _ q => by rw [q.2]; exact hm) ?_ (fun δ Λ' q => kN _ _ ⟨q.1, by rw [q.2]; exact List.prefix_append _ _⟩)
    rintro i x δ Λ' hx ⟨⟨o4, rfl⟩, rfl⟩
    obtain ⟨c, hc, rfl⟩ := cvs_at hx
    refine ⟨_, rfl, ?_⟩
    generalize hI : (fun δ Λ'' => (∃ o4, δ = [some (AV.ref r), some (AV.ref n), o2, o3, o4]) ∧ Λ'' = Λ ++ [AO.lst (cvs cs)]) = I
    have hr' := hr.pre (List.prefix_append Λ [AO.lst (cvs cs)])
    obtain ⟨d, h1⟩ := ref_ex hr'
    rw [sq_ifS]
    simp only [rq_tb, rq_inO, rq_var, List.set_cons_zero, List.set_cons_succ, List.getElem?_cons_zero, List.getElem?_cons_succ]
    rw [inO_r (m := f_Bank___contains__) h1 rfl, has_gt hr']
    simp only [hall c hc, true_or, decide_true, rq_blA, bne_self_eq_false, Bool.false_eq_true, false_implies, true_implies, true_and, sq_dNx]
    rw [← hI]
    exact ⟨⟨_, rfl⟩, rfl⟩
  rintro δ Λ1 ⟨⟨o4, rfl⟩, p1⟩
  refine sq_cut (fun δ Λ' => (∃ o4, δ = [some (.ref r), some (.ref n), o2, o3, o4]) ∧ Λ <+: Λ') (fun N kN => ?_) ?_
  · simp only [sq_for, rq_it, rq_lst, rq_tup, rq_cons, rq_nil, rq_un, rq_bin, rq_c, gNeg_i, pw, oq_some, List.length_cons, List.length_nil]
    refine ⟨two', two', two', two', sz_le (by decide), ?_⟩
    rw [rq_srcA_r, get_new0, show [AV.tup [.int 121, .int 0], .tup [.int 0, .int (-121)], .tup [.int 0, .int W], .tup [.int W, .int (-1)]] = cvs [(121, 0), (0, -121), (0, W), (W, -1)] from rfl]
    have hm : (Λ1 ++ [AO.lst (cvs [(121, 0), (0, -121), (0, W), (W, -1)])])[Λ1.length]? = some (.lst (cvs [(121, 0), (0, -121), (0, W), (W, -1)])) := by rw [get_new0]; rfl
    have hall : ∀ c ∈ ([(121, 0), (0, -121), (0, W), (W, -1)] : List Cell), ¬ (c.1 < 0 ∨ c ∈ C) := fun c hc => by
      have : ¬ c.1 < 0 ∧ ¬ far c ≤ 120 := by
        rw [far_le]
        simp only [List.mem_cons, List.not_mem_nil, or_false] at hc
        rcases hc with rfl | rfl | rfl | rfl <;> dsimp only <;> omega
      rintro (h | h)
      · exact this.1 h
      · exact this.2 (hC.off c h).1
    generalize ([(121, 0), (0, -121), (0, W), (W, -1)] : List Cell) = cs at *
    show SQ (forL (Src.lst Λ1.length (cvs cs)).here _ _ (cvs cs) _ _) _
    refine forL_inv (fun _ δ Λ' => (∃ o4, δ = [some (.ref r), some (.ref n), o2, o3, o4]) ∧ Λ' = Λ1 ++ [.lst (cvs cs)]) ⟨⟨_, rfl⟩, rfl⟩ (fun _ _ _ _ q => by rw [q.2]; exact hm) ?_ (fun δ Λ' q => kN _ _ ⟨q.1, by rw [q.2]; exact p1.trans (List.prefix_append _ _)⟩)
    rintro i x δ Λ' hx ⟨⟨o4, rfl⟩, rfl⟩
    obtain ⟨c, hc, rfl⟩ := cvs_at hx
    refine ⟨_, rfl, ?_⟩
    generalize hI : (fun δ Λ'' => (∃ o4, δ = [some (AV.ref r), some (AV.ref n), o2, o3, o4]) ∧ Λ'' = Λ1 ++ [AO.lst (cvs cs)]) = I
    have hr' := hr.pre (p1.trans (List.prefix_append Λ1 [AO.lst (cvs cs)]))
    obtain ⟨d, h1⟩ := ref_ex hr'
    rw [sq_ifS]
    simp only [rq_tb, rq_inO, rq_var, List.set_cons_zero, List.set_cons_succ, List.getElem?_cons_zero, List.getElem?_cons_succ]
    rw [inO_r (m := f_Bank___contains__) h1 rfl, has_gt hr']
    simp only [hall c hc, decide_false, rq_blA, bne_self_eq_false, Bool.false_eq_true, false_implies, true_implies, true_and, sq_dNx]
    rw [← hI]
    exact ⟨⟨_, rfl⟩, rfl⟩
  rintro δ Λ2 ⟨⟨o4, rfl⟩, p2⟩
  simp only [sq_ret, rq_c]
  exact kP _ _ ⟨rfl, p2⟩
/-! ### pairs -/
abbrev Tri := Nat × Nat × List Cell
structure Ent (Λ : AH) (e : Tri) : Prop where
  b : BkR Λ e.1 e.2.2
  l : Λ[e.2.1]? = some (.lst (cvs e.2.2))
  g : Good e.2.2
theorem Ent.pre {Λ Λ' : AH} {e : Tri} (h : Ent Λ e) (p : Λ <+: Λ') : Ent Λ' e := ⟨h.b.pre p, get_pre p h.l, h.g⟩
theorem ix_map {Λ : AH} {q : Nat} {BS : List Tri} {f : Tri → AV} {k : Int} {i : Nat} (h : Λ[q]? = some (.lst (BS.map f))) (hk : k = (i : Int)) (hi : i < BS.length) : gIx (.ref q) (.int k) Λ = some (f BS[i], Λ) := by
  rw [gIx_ri, h]
  dsimp only
  rw [at_nat (by omega) (by rw [List.length_map]; omega), show k.toNat = i from by omega, List.getElem?_map, List.getElem?_eq_getElem hi]
  rfl
theorem make0 {Λ : AH} {X : XQ} : RQ (mkR "Bank" (fun as => f_Bank___init__ (as ++ [(.ct [])])) [] Λ) (fun v Λ' => v = .ref Λ.length ∧ Λ <+: Λ' ∧ BkR Λ' Λ.length []) X := by
  refine mk_r ?_
  simp only [List.cons_append, List.nil_append, List.append_nil]
  exact (init_ok (r := Λ.length) (by rw [get_new0]; rfl) (.inr ⟨rfl, rfl⟩) (Nat.zero_le _) (fun c hc => by cases hc)).and fun v Λ' ⟨e1, e2, e3⟩ => ⟨e1, trivial, e2.prefix_, e3⟩
theorem pair_ok {Λ : AH} {b o n1 n2 : Nat} {A B : List Cell} {X : XQ} (hb : BkR Λ b A) (ho : BkR Λ o B) (h1 : Λ[n1]? = some (.lst (cvs A))) (h2 : Λ[n2]? = some (.lst (cvs B))) (hA : Good A) (hB : Good B) (lA : A.length ≤ 100) (lB : B.length ≤ 100) :
    RQ (f__law_pair [.ref b, .ref o, .ref n1, .ref n2] Λ) (fun v Λ' => v = .bl true ∧ Λ <+: Λ') X := by
  refine RQ.cps fun P kP => ?_
  obtain ⟨J, hJ⟩ : ∃ J, J = plainP (A ++ B) := ⟨_, rfl⟩
  obtain ⟨M, hM⟩ : ∃ M, M = A.filter fun c => decide (c ∈ B) := ⟨_, rfl⟩
  have mJ : ∀ c, c ∈ J ↔ c ∈ A ∨ c ∈ B := fun c => by rw [hJ, plain_mem, List.mem_append]
  have mM : ∀ c, c ∈ M ↔ c ∈ A ∧ c ∈ B := fun c => by rw [hM, List.mem_filter, decide_eq_true_eq]
  have gJ : Good J := by
    rw [hJ]
    refine plain_good (fun c hc => ?_) (by rw [List.length_append]; omega)
    exact (List.mem_append.mp hc).elim (hA.off c) (hB.off c)
  have gM : Good M := hM ▸ good_filter hA _
  have flt : ∀ (U V : List Cell), (V.filter fun c => !decide (c ∈ U)).length ≤ V.length := fun U V => List.length_filter_le _ _
  unfold f__law_pair b__law_pair
  rw [rq_run (by rfl)]
  simp only [startA, List.map_cons, List.map_nil, List.length_cons, List.length_nil, List.cons_append, List.nil_append, Nat.reduceAdd, Nat.reduceSub, List.replicate]
  refine sq_cut (fun δ Λ' => ∃ n4, δ = [some (.ref b), some (.ref o), some (.ref n1), some (.ref n2), some (.ref n4), none, none, none, none, none, none, none, none, none] ∧ Λ <+: Λ' ∧ Λ'[n4]? = some (.lst (cvs J))) (fun N kN => ?_) ?_
  · simp only [sq_set, rq_call, rq_cons, rq_nil, rq_bin, rq_var, List.set_cons_zero, List.set_cons_succ, List.getElem?_cons_zero, List.getElem?_cons_succ, List.append_nil]
    refine add_cc h1 h2 (by omega) ?_
    refine (plain_at (l := A ++ B) (by rw [get_new0]; rfl) (by rw [List.length_append]; omega)).and fun v Λ1 ⟨q, e1, e2, e3, e4⟩ => ?_
    subst e1
    exact kN _ _ ⟨q, rfl, (List.prefix_append _ _).trans e3, hJ ▸ e4⟩
  rintro δ Λ1 ⟨n4, rfl, p1, h4⟩
  refine sq_cut (fun δ Λ' => ∃ n5 o6, δ = [some (.ref b), some (.ref o), some (.ref n1), some (.ref n2), some (.ref n4), some (.ref n5), o6, none, none, none, none, none, none, none] ∧ Λ <+: Λ' ∧ Λ'[n4]? = some (.lst (cvs J)) ∧ Λ'[n5]? = some (.lst (cvs M))) (fun N kN => ?_) ?_
  · have h11 := get_pre p1 h1
    have h21 := get_pre p1 h2
    simp only [sq_set, rq_lc, rq_it, rq_var, List.getElem?_cons_zero, List.getElem?_cons_succ, rq_srcA_r, h11]
    refine rq_lcg A cv (fun c => [some (.ref b), some (.ref o), some (.ref n1), some (.ref n2), some (.ref n4), none, some (cv c), none, none, none, none, none, none, none]) (fun c => decide (c ∈ B)) cv rfl (fun _ _ => rfl) (fun acc => get_old h11 _) (fun c _ acc => ?_) (fun c _ _ acc => ?_) (sz_le (by omega)) ?_
    · simp only [rq_tb, rq_bin, rq_var, List.getElem?_cons_zero, List.getElem?_cons_succ, CSeq.inY (cs := B) (.inl ⟨n2, rfl, get_old h21 _⟩), oq_some, rq_blA]
      exact ⟨trivial, trivial⟩
    · simp only [rq_var, List.getElem?_cons_zero, List.getElem?_cons_succ]
      exact ⟨trivial, trivial⟩
    · rw [show (A.filter fun c => decide (c ∈ B)).map cv = cvs M from by rw [hM]]
      exact kN _ _ ⟨_, _, rfl, p1.trans (List.prefix_append _ _), get_old h4 _, by rw [get_new0]; rfl⟩
  rintro δ Λ2 ⟨n5, o6, rfl, p2, h4, h5⟩
  refine sq_cut (fun δ Λ' => ∃ qb j m z, δ = [some (.ref b), some (.ref o), some (.ref n1), some (.ref n2), some (.ref n4), some (.ref n5), o6, some (.ref qb), none, none, none, none, none, none] ∧ (Λ <+: Λ' ∧ Λ'[n4]? = some (.lst (cvs J)) ∧ Λ'[n5]? = some (.lst (cvs M))) ∧ Λ'[qb]? = some (.lst [.ref b, .ref o, .ref j, .ref m, .ref z]) ∧ BkR Λ' j J ∧ BkR Λ' m M ∧ BkR Λ' z []) (fun N kN => ?_) ?_
  · obtain ⟨d1, g1⟩ := ref_ex (hb.pre p2)
    obtain ⟨d2, g2⟩ := ref_ex (ho.pre p2)
    simp only [sq_set, rq_lst, rq_cons, rq_nil, rq_opO, rq_call, rq_var, List.set_cons_zero, List.set_cons_succ, List.getElem?_cons_zero, List.getElem?_cons_succ, opO_r g1 g2 lk_m]
    refine (or_ok (hb.pre p2) (ho.pre p2) (by omega) (by omega) (by have := flt A B; omega) hA.off hB.off).and fun v Λ3 ⟨j, e1, e2, e3, e4⟩ => ?_
    subst e1
    have e4 := e4 J gJ.nd mJ
    obtain ⟨d3, g3⟩ := ref_ex ((hb.pre p2).pre e3)
    obtain ⟨d4, g4⟩ := ref_ex ((ho.pre p2).pre e3)
    simp only [opO_r g3 g4 lk_m]
    refine (and_ok ((hb.pre p2).pre e3) ((ho.pre p2).pre e3) (by omega) hA.off).and fun v Λ4 ⟨m, u1, u2, u3, u4⟩ => ?_
    subst u1
    have u4 := u4 M gM.nd mM
    refine make0.and fun v Λ5 ⟨w1, w2, w3⟩ => ?_
    subst w1
    refine ⟨sz_le (by simp), ?_⟩
    have pp := (e3.trans u3).trans (w2.trans (List.prefix_append Λ5 [AO.lst [.ref b, .ref o, .ref j, .ref m, .ref Λ4.length]]))
    exact kN _ _ ⟨_, j, m, _, rfl, ⟨p2.trans pp, get_pre pp h4, get_pre pp h5⟩, by rw [get_new0]; rfl, e4.pre (u3.trans (w2.trans (List.prefix_append _ _))), u4.pre (w2.trans (List.prefix_append _ _)), w3.pre (List.prefix_append _ _)⟩
  rintro δ Λ3 ⟨qb, j, m, z, rfl, ⟨p3, h4, h5⟩, hqb, hj, hm, hz⟩
  refine sq_cut (fun δ Λ' => ∃ ql e, δ = [some (.ref b), some (.ref o), some (.ref n1), some (.ref n2), some (.ref n4), some (.ref n5), o6, some (.ref qb), some (.ref ql), none, none, none, none, none] ∧ (Λ <+: Λ' ∧ Λ'[n4]? = some (.lst (cvs J)) ∧ Λ'[n5]? = some (.lst (cvs M))) ∧ Λ3 <+: Λ' ∧ Λ'[ql]? = some (.lst [.ref n1, .ref n2, .ref n4, .ref n5, .ref e]) ∧ Λ'[e]? = some (.lst (cvs []))) (fun N kN => ?_) ?_
  · simp only [sq_set, rq_lst, rq_cons, rq_nil, rq_var, List.set_cons_zero, List.set_cons_succ, List.getElem?_cons_zero, List.getElem?_cons_succ, List.length_nil]
    refine ⟨Nat.zero_le _, sz_le (by simp), ?_⟩
    have pp : Λ3 <+: Λ3 ++ [AO.lst []] ++ [AO.lst [.ref n1, .ref n2, .ref n4, .ref n5, .ref Λ3.length]] := (List.prefix_append _ _).trans (List.prefix_append _ _)
    exact kN _ _ ⟨_, _, rfl, ⟨p3.trans pp, get_pre pp h4, get_pre pp h5⟩, pp, by rw [get_new0]; rfl, get_old (by rw [get_new0]; rfl) _⟩
  rintro δ Λ4 ⟨ql, e, rfl, ⟨p4, h4, h5⟩, p34, hql, he⟩
  have hb4 := hb.pre p4
  have ho4 := ho.pre p4
  obtain ⟨BS, hBS⟩ : ∃ BS : List Tri, BS = [(b, n1, A), (o, n2, B), (j, n4, J), (m, n5, M), (z, e, [])] := ⟨_, rfl⟩
  have hent : ∀ t ∈ BS, Ent Λ4 t := fun t ht => by
    rw [hBS] at ht
    simp only [List.mem_cons, List.not_mem_nil, or_false] at ht
    rcases ht with rfl | rfl | rfl | rfl | rfl
    · exact ⟨hb4, get_pre p4 h1, hA⟩
    · exact ⟨ho4, get_pre p4 h2, hB⟩
    · exact ⟨hj.pre p34, h4, gJ⟩
    · exact ⟨hm.pre p34, h5, gM⟩
    · exact ⟨hz.pre p34, he, good_nil⟩
  have hqb4 : Λ4[qb]? = some (.lst (BS.map fun t => .ref t.1)) := by rw [get_pre p34 hqb, hBS]; rfl
  have hql4 : Λ4[ql]? = some (.lst (BS.map fun t => .ref t.2.1)) := by rw [hql, hBS]; rfl
  have hlen : BS.length = 5 := by rw [hBS]; rfl
  clear hBS hqb hql
  refine sq_cut (fun δ Λ' => (∃ o9 o10 o11, δ = [some (.ref b), some (.ref o), some (.ref n1), some (.ref n2), some (.ref n4), some (.ref n5), o6, some (.ref qb), some (.ref ql), o9, o10, o11, none, none]) ∧ Λ4 <+: Λ') (fun N kN => ?_) ?_
  · simp only [sq_for, rq_rg1, rq_cons, rq_nil, rq_c, rq_rgR1]
    refine ⟨rgOk_of (by omega) (by omega), ?_⟩
    refine forL_inv (fun _ δ Λ' => (∃ o9 o10 o11, δ = [some (.ref b), some (.ref o), some (.ref n1), some (.ref n2), some (.ref n4), some (.ref n5), o6, some (.ref qb), some (.ref ql), o9, o10, o11, none, none]) ∧ Λ4 <+: Λ') ⟨⟨_, _, _, rfl⟩, List.prefix_rfl⟩ (fun _ _ _ _ _ => trivial) ?_ (fun δ Λ' q => kN _ _ q)
    rintro i x δ Λ5 hx ⟨⟨o9, o10, o11, rfl⟩, p5⟩
    obtain ⟨hi, rfl⟩ := rgA_at hx
    have hi5 : i < BS.length := by rw [hlen]; exact hi
    refine ⟨_, rfl, ?_⟩
    obtain ⟨kk, hkk⟩ : ∃ kk : Int, kk = 0 + (i : Int) := ⟨_, rfl⟩
    rw [← hkk]
    simp only [List.set_cons_zero, List.set_cons_succ]
    obtain ⟨t, ht⟩ : ∃ t, t = BS[i] := ⟨_, rfl⟩
    have hmem : t ∈ BS := ht ▸ List.getElem_mem hi5
    have ib : ∀ Λ', Λ4 <+: Λ' → gIx (.ref qb) (.int kk) Λ' = some (.ref t.1, Λ') := fun Λ' pp => by rw [ix_map (get_pre pp hqb4) (show kk = (i : Int) by omega) hi5, ht]
    have il : ∀ Λ', Λ4 <+: Λ' → gIx (.ref ql) (.int kk) Λ' = some (.ref t.2.1, Λ') := fun Λ' pp => by rw [ix_map (get_pre pp hql4) (show kk = (i : Int) by omega) hi5, ht]
    have et : ∀ Λ', Λ4 <+: Λ' → Ent Λ' t := fun Λ' pp => (hent t hmem).pre pp
    have gt := (hent t hmem).g
    clear ht hx
    refine sq_cut (fun δ Λ' => δ = [some (.ref b), some (.ref o), some (.ref n1), some (.ref n2), some (.ref n4), some (.ref n5), o6, some (.ref qb), some (.ref ql), some (.int kk), o10, o11, none, none] ∧ Λ4 <+: Λ') (fun K kK => ?_) ?_
    · rw [sq_ifS]
      simp only [rq_orT, rq_notT, rq_tr, rq_un, rq_bin, rq_call, rq_cons, rq_nil, rq_var, List.getElem?_cons_zero, List.getElem?_cons_succ, List.append_nil, ib Λ5 p5, il Λ5 p5, oq_some, isi_bank (et Λ5 p5).b, rq_truR, truA_bl, Bool.not_true, Bool.false_eq_true, false_implies, true_implies, true_and]
      refine (members_ok (et Λ5 p5).b (et Λ5 p5).l gt).and fun v Λ6 ⟨u1, u2⟩ => ?_
      subst u1
      simp only [rq_truR, truA_bl, Bool.not_true, Bool.false_eq_true, false_implies, true_implies, true_and, sq_dNx]
      exact kK _ _ ⟨rfl, p5.trans u2⟩
    rintro δ Λ5 ⟨rfl, p5⟩
    refine sq_cut (fun δ Λ' => δ = [some (.ref b), some (.ref o), some (.ref n1), some (.ref n2), some (.ref n4), some (.ref n5), o6, some (.ref qb), some (.ref ql), some (.int kk), o10, o11, none, none] ∧ Λ4 <+: Λ') (fun K kK => ?_) ?_
    · rw [sq_ifS]
      obtain ⟨d, hd⟩ := ref_ex (et Λ5 p5).b
      simp only [rq_notT, rq_tr, rq_bin, rq_call, rq_cons, rq_nil, rq_att, rq_pr, rq_var, List.getElem?_cons_zero, List.getElem?_cons_succ, List.append_nil, ib Λ5 p5, il Λ5 p5, oq_some, att_f hd lk_f lk_ex, gt.so, gTuple_r, (et Λ5 p5).l]
      refine same_c (by have := gt.len; omega) ?_
      simp only [rq_truR, truA_bl, Bool.not_true, Bool.false_eq_true, false_implies, true_implies, true_and, sq_dNx]
      exact kK _ _ ⟨rfl, p5⟩
    rintro δ Λ5 ⟨rfl, p5⟩
    refine sq_cut (fun δ Λ' => δ = [some (.ref b), some (.ref o), some (.ref n1), some (.ref n2), some (.ref n4), some (.ref n5), o6, some (.ref qb), some (.ref ql), some (.int kk), o10, o11, none, none] ∧ Λ4 <+: Λ') (fun K kK => ?_) ?_
    · rw [sq_ifS]
      simp only [rq_notT, rq_tr, rq_bin, rq_call, rq_cons, rq_nil, rq_eqO, rq_pr, rq_c, rq_var, List.getElem?_cons_zero, List.getElem?_cons_succ, List.append_nil, ib Λ5 p5, il Λ5 p5, oq_some, gTuple_r, (et Λ5 p5).l, eqO_tup (et Λ5 p5).b]
      refine same_b ?_
      simp only [decide_true, rq_truR, truA_bl, Bool.not_true, Bool.false_eq_true, false_implies, true_implies, true_and, sq_dNx]
      exact kK _ _ ⟨rfl, p5⟩
    rintro δ Λ5 ⟨rfl, p5⟩
    refine sq_cut (fun δ Λ' => δ = [some (.ref b), some (.ref o), some (.ref n1), some (.ref n2), some (.ref n4), some (.ref n5), o6, some (.ref qb), some (.ref ql), some (.int kk), o10, o11, none, none] ∧ Λ4 <+: Λ') (fun K kK => ?_) ?_
    · rw [sq_ifS]
      simp only [rq_notT, rq_tr, rq_bin, rq_call, rq_cons, rq_nil, rq_eqO, rq_c, rq_var, List.getElem?_cons_zero, List.getElem?_cons_succ, List.append_nil, ib Λ5 p5, oq_some, eqO_non (et Λ5 p5).b]
      refine same_b ?_
      simp only [decide_true, rq_truR, truA_bl, Bool.not_true, Bool.false_eq_true, false_implies, true_implies, true_and, sq_dNx]
      exact kK _ _ ⟨rfl, p5⟩
    rintro δ Λ5 ⟨rfl, p5⟩
    simp only [sq_for, rq_rg1, rq_cons, rq_nil, rq_c, rq_rgR1]
    refine ⟨rgOk_of (by omega) (by omega), ?_⟩
    refine forL_inv (fun _ δ Λ' => (∃ o10 o11, δ = [some (.ref b), some (.ref o), some (.ref n1), some (.ref n2), some (.ref n4), some (.ref n5), o6, some (.ref qb), some (.ref ql), some (.int kk), o10, o11, none, none]) ∧ Λ4 <+: Λ') ⟨⟨_, _, rfl⟩, p5⟩ (fun _ _ _ _ _ => trivial) ?_ (fun δ Λ' q => ?_)
    · rintro i2 x δ Λ6 hx ⟨⟨o10, o11, rfl⟩, p6⟩
      obtain ⟨hi2, rfl⟩ := rgA_at hx
      have hi25 : i2 < BS.length := by rw [hlen]; exact hi2
      refine ⟨_, rfl, ?_⟩
      obtain ⟨nn, hnn⟩ : ∃ nn : Int, nn = 0 + (i2 : Int) := ⟨_, rfl⟩
      rw [← hnn]
      simp only [List.set_cons_zero, List.set_cons_succ]
      obtain ⟨s, hs⟩ : ∃ s, s = BS[i2] := ⟨_, rfl⟩
      have hmem2 : s ∈ BS := hs ▸ List.getElem_mem hi25
      have ib2 : ∀ Λ', Λ4 <+: Λ' → gIx (.ref qb) (.int nn) Λ' = some (.ref s.1, Λ') := fun Λ' pp => by rw [ix_map (get_pre pp hqb4) (show nn = (i2 : Int) by omega) hi25, hs]
      have il2 : ∀ Λ', Λ4 <+: Λ' → gIx (.ref ql) (.int nn) Λ' = some (.ref s.2.1, Λ') := fun Λ' pp => by rw [ix_map (get_pre pp hql4) (show nn = (i2 : Int) by omega) hi25, hs]
      have es : ∀ Λ', Λ4 <+: Λ' → Ent Λ' s := fun Λ' pp => (hent s hmem2).pre pp
      have gs := (hent s hmem2).g
      clear hs hx
      generalize hI : (fun δ Λ' => (∃ o10 o11, δ = [some (AV.ref b), some (AV.ref o), some (AV.ref n1), some (AV.ref n2), some (AV.ref n4), some (AV.ref n5), o6, some (AV.ref qb), some (AV.ref ql), some (AV.int kk), o10, o11, none, none]) ∧ Λ4 <+: Λ') = I
      refine sq_cut (fun δ Λ' => δ = [some (.ref b), some (.ref o), some (.ref n1), some (.ref n2), some (.ref n4), some (.ref n5), o6, some (.ref qb), some (.ref ql), some (.int kk), some (.int nn), some (.bl (subB t.2.2 s.2.2)), none, none] ∧ Λ4 <+: Λ') (fun K kK => ?_) ?_
      · simp only [sq_set, rq_bin, rq_call, rq_cons, rq_nil, rq_var, List.set_cons_zero, List.set_cons_succ, List.getElem?_cons_zero, List.getElem?_cons_succ, List.append_nil, il Λ6 p6, il2 Λ6 p6, oq_some]
        exact within_gt (et Λ6 p6).l (es Λ6 p6).l (kK _ _ ⟨rfl, p6⟩)
      rintro δ Λ7 ⟨rfl, p7⟩
      refine sq_cut (fun δ Λ' => δ = [some (.ref b), some (.ref o), some (.ref n1), some (.ref n2), some (.ref n4), some (.ref n5), o6, some (.ref qb), some (.ref ql), some (.int kk), some (.int nn), some (.bl (subB t.2.2 s.2.2)), none, none] ∧ Λ4 <+: Λ') (fun K kK => ?_) ?_
      · rw [sq_ifS]
        obtain ⟨d, hd⟩ := ref_ex (et Λ7 p7).b
        simp only [rq_notT, rq_tr, rq_bin, rq_call, rq_cons, rq_nil, rq_meth, rq_var, List.getElem?_cons_zero, List.getElem?_cons_succ, List.append_nil, ib Λ7 p7, oq_some]
        rw [meth_r hd rfl rfl]
        simp only [rq_bind, rq_cons, rq_nil, rq_bin, rq_var, List.getElem?_cons_zero, List.getElem?_cons_succ, ib2 Λ7 p7, oq_some, List.append_nil]
        refine inside_gt (et Λ7 p7).b (es Λ7 p7).b gt ?_
        refine same_b ?_
        simp only [decide_true, rq_truR, truA_bl, Bool.not_true, Bool.false_eq_true, false_implies, true_implies, true_and, sq_dNx]
        exact kK _ _ ⟨rfl, p7⟩
      rintro δ Λ8 ⟨rfl, p8⟩
      rw [sq_ifS]
      simp only [rq_notT, rq_tr, rq_bin, rq_call, rq_cons, rq_nil, rq_eqO, rq_var, List.getElem?_cons_zero, List.getElem?_cons_succ, List.append_nil, ib Λ8 p8, ib2 Λ8 p8, il Λ8 p8, il2 Λ8 p8, oq_some, eqO_bank (et Λ8 p8).b (es Λ8 p8).b gt gs, gEqY_cvs (et Λ8 p8).l (es Λ8 p8).l]
      refine same_b ?_
      simp only [decide_true, rq_truR, truA_bl, Bool.not_true, Bool.false_eq_true, false_implies, true_implies, true_and, sq_dNx]
      rw [← hI]
      exact ⟨⟨_, _, rfl⟩, p8⟩
    · obtain ⟨⟨o10, o11, rfl⟩, p6⟩ := q
      exact ⟨⟨_, _, _, rfl⟩, p6⟩
  rintro δ Λ5 ⟨⟨o9, o10, o11, rfl⟩, p5⟩
  have p45 := p4.trans p5
  have h45 := get_pre p5 h4
  have h55 := get_pre p5 h5
  refine sq_cut (fun δ Λ' => ∃ u, δ = [some (.ref b), some (.ref o), some (.ref n1), some (.ref n2), some (.ref n4), some (.ref n5), o6, some (.ref qb), some (.ref ql), o9, o10, o11, some (.ref u), none] ∧ Λ5 <+: Λ' ∧ BkR Λ' u J) (fun K kK => ?_) ?_
  · obtain ⟨d1, g1⟩ := ref_ex (ho.pre p45)
    obtain ⟨d2, g2⟩ := ref_ex (hb.pre p45)
    simp only [sq_set, rq_opO, rq_var, List.set_cons_zero, List.set_cons_succ, List.getElem?_cons_zero, List.getElem?_cons_succ, opO_r g1 g2 lk_m]
    refine (or_ok (ho.pre p45) (hb.pre p45) (by omega) (by omega) (by have := flt B A; omega) hB.off hA.off).and fun v Λ6 ⟨u, e1, e2, e3, e4⟩ => ?_
    subst e1
    exact kK _ _ ⟨u, rfl, e3, e4 J gJ.nd fun c => by rw [mJ, or_comm]⟩
  rintro δ Λ6 ⟨u, rfl, p6, hu⟩
  refine sq_cut (fun δ Λ' => ∃ w, δ = [some (.ref b), some (.ref o), some (.ref n1), some (.ref n2), some (.ref n4), some (.ref n5), o6, some (.ref qb), some (.ref ql), o9, o10, o11, some (.ref u), some (.ref w)] ∧ Λ6 <+: Λ' ∧ BkR Λ' w M) (fun K kK => ?_) ?_
  · obtain ⟨d1, g1⟩ := ref_ex (ho.pre (p45.trans p6))
    obtain ⟨d2, g2⟩ := ref_ex (hb.pre (p45.trans p6))
    simp only [sq_set, rq_opO, rq_var, List.set_cons_zero, List.set_cons_succ, List.getElem?_cons_zero, List.getElem?_cons_succ, opO_r g1 g2 lk_m]
    refine (and_ok (ho.pre (p45.trans p6)) (hb.pre (p45.trans p6)) (by omega) hB.off).and fun v Λ7 ⟨w, e1, e2, e3, e4⟩ => ?_
    subst e1
    exact kK _ _ ⟨w, rfl, e3, e4 M gM.nd fun c => by rw [mM, and_comm]⟩
  rintro δ Λ7 ⟨w, rfl, p7, hw⟩
  have hu7 := hu.pre p7
  have h47 := get_pre (p6.trans p7) h45
  have h57 := get_pre (p6.trans p7) h55
  refine sq_cut (fun δ Λ' => δ = [some (.ref b), some (.ref o), some (.ref n1), some (.ref n2), some (.ref n4), some (.ref n5), o6, some (.ref qb), some (.ref ql), o9, o10, o11, some (.ref u), some (.ref w)] ∧ Λ' = Λ7) (fun K kK => ?_) ?_
  · rw [sq_ifS]
    obtain ⟨d, hd⟩ := ref_ex hu7
    simp only [rq_notT, rq_tr, rq_call, rq_cons, rq_nil, rq_att, rq_pr, rq_var, List.getElem?_cons_zero, List.getElem?_cons_succ, List.append_nil, oq_some, att_f hd lk_f lk_ex, gJ.so, gTuple_r, h47]
    refine same_c (by have := gJ.len; omega) ?_
    simp only [rq_truR, truA_bl, Bool.not_true, Bool.false_eq_true, false_implies, true_implies, true_and, sq_dNx]
    exact kK _ _ ⟨rfl, rfl⟩
  rintro δ Λ8 ⟨rfl, e8⟩
  rw [e8]
  clear e8 Λ8
  refine sq_cut (fun δ Λ' => δ = [some (.ref b), some (.ref o), some (.ref n1), some (.ref n2), some (.ref n4), some (.ref n5), o6, some (.ref qb), some (.ref ql), o9, o10, o11, some (.ref u), some (.ref w)] ∧ Λ' = Λ7) (fun K kK => ?_) ?_
  · rw [sq_ifS]
    obtain ⟨d, hd⟩ := ref_ex hw
    simp only [rq_notT, rq_tr, rq_call, rq_cons, rq_nil, rq_att, rq_pr, rq_var, List.getElem?_cons_zero, List.getElem?_cons_succ, List.append_nil, oq_some, att_f hd lk_f lk_ex, gM.so, gTuple_r, h57]
    refine same_c (by have := gM.len; omega) ?_
    simp only [rq_truR, truA_bl, Bool.not_true, Bool.false_eq_true, false_implies, true_implies, true_and, sq_dNx]
    exact kK _ _ ⟨rfl, rfl⟩
  rintro δ Λ8 ⟨rfl, e8⟩
  rw [e8]
  clear e8 Λ8 hu hw hu7 h47 h57
  have p07 := (p45.trans p6).trans p7
  refine sq_cut (fun δ Λ' => ∃ u w, δ = [some (.ref b), some (.ref o), some (.ref n1), some (.ref n2), some (.ref n4), some (.ref n5), o6, some (.ref qb), some (.ref ql), o9, o10, o11, some (.ref u), some (.ref w)] ∧ Λ7 <+: Λ' ∧ BkR Λ' u A) (fun K kK => ?_) ?_
  · obtain ⟨d1, g1⟩ := ref_ex (hb.pre p07)
    simp only [sq_set, rq_opO, rq_var, List.set_cons_zero, List.set_cons_succ, List.getElem?_cons_zero, List.getElem?_cons_succ, opO_r g1 g1 lk_m]
    refine (or_ok (hb.pre p07) (hb.pre p07) (by omega) (by omega) (by have := flt A A; omega) hA.off hA.off).and fun v Λ8 ⟨u2, e1, e2, e3, e4⟩ => ?_
    subst e1
    exact kK _ _ ⟨u2, w, rfl, e3, e4 A hA.nd fun c => by rw [or_self]⟩
  rintro δ Λ8 ⟨u, w, rfl, p8, hu⟩
  refine sq_cut (fun δ Λ' => ∃ w, δ = [some (.ref b), some (.ref o), some (.ref n1), some (.ref n2), some (.ref n4), some (.ref n5), o6, some (.ref qb), some (.ref ql), o9, o10, o11, some (.ref u), some (.ref w)] ∧ Λ8 <+: Λ' ∧ BkR Λ' w A) (fun K kK => ?_) ?_
  · obtain ⟨d1, g1⟩ := ref_ex (hb.pre (p07.trans p8))
    simp only [sq_set, rq_opO, rq_var, List.set_cons_zero, List.set_cons_succ, List.getElem?_cons_zero, List.getElem?_cons_succ, opO_r g1 g1 lk_m]
    refine (and_ok (hb.pre (p07.trans p8)) (hb.pre (p07.trans p8)) (by omega) hA.off).and fun v Λ9 ⟨w, e1, e2, e3, e4⟩ => ?_
    subst e1
    exact kK _ _ ⟨w, rfl, e3, e4 A hA.nd fun c => by rw [and_self]⟩
  rintro δ Λ9 ⟨w, rfl, p9, hw⟩
  have hu9 := hu.pre p9
  have h19 := get_pre ((p07.trans p8).trans p9) h1
  obtain ⟨d, hd⟩ := ref_ex hu9
  obtain ⟨d2, hd2⟩ := ref_ex hw
  simp only [sq_ret, rq_and, rq_call, rq_cons, rq_nil, rq_att, rq_pr, rq_var, List.getElem?_cons_zero, List.getElem?_cons_succ, List.append_nil, oq_some, att_f hd lk_f lk_ex, hA.so, gTuple_r, h19]
  refine same_c (by omega) ?_
  simp only [rq_truR, truA_bl, true_implies, Bool.true_eq_false, false_implies, and_true, rq_call, rq_cons, rq_nil, rq_att, rq_pr, rq_var, List.getElem?_cons_zero, List.getElem?_cons_succ, List.append_nil, oq_some, att_f hd2 lk_f lk_ex, hA.so, gTuple_r, h19]
  refine same_c (by omega) ?_
  exact kP _ _ ⟨rfl, (p07.trans p8).trans p9⟩
end Lk34

set_option Elab.async false
set_option linter.all false
set_option maxRecDepth 100000
set_option maxHeartbeats 4000000
namespace Lk34
open PySem PySem.Spec PyProof.Rows L2 NP
/-! ### what lists become -/
theorem made_many {l : List Cell} (h : 10000 < l.length) : madeP l = .tup [.str "TooMany", .int 10000, .bl true] := by unfold madeP; rw [if_pos h]
theorem made_cell {a b : List Cell} {c : Cell} (hl : (a ++ c :: b).length ≤ 10000) (ha : ∀ x ∈ a, far x ≤ 120) (hc : ¬ far c ≤ 120) : madeP (a ++ c :: b) = .tup [.str "BadCell", cv c, .bl true] := by
  have e : (a ++ c :: b).find? farB = some c := by
    rw [List.find?_append, List.find?_eq_none.mpr fun x hx => by unfold farB; simpa using ha x hx, Option.none_or, List.find?_cons]
    have : farB c = true := by unfold farB; simpa using hc
    rw [this]
  unfold madeP
  rw [if_neg (by omega), e]
theorem made_shore {a b : List Cell} {c : Cell} (hl : (a ++ c :: b).length ≤ 10000) (hf : ∀ x ∈ a ++ c :: b, far x ≤ 120) (ha : ∀ x ∈ a, 0 ≤ x.1) (hc : c.1 < 0) : madeP (a ++ c :: b) = .tup [.str "OnShore", cv c, .bl true] := by
  have e0 : (a ++ c :: b).find? farB = none := List.find?_eq_none.mpr fun x hx => by unfold farB; simpa using hf x hx
  have e : (a ++ c :: b).find? shB = some c := by
    rw [List.find?_append, List.find?_eq_none.mpr fun x hx => by unfold shB; simpa using ha x hx, Option.none_or, List.find?_cons]
    have : shB c = true := by unfold shB; simpa using hc
    rw [this]
  unfold madeP
  rw [if_neg (by omega), e0]
  dsimp only
  rw [e]
theorem made_bank {l : List Cell} (hl : l.length ≤ 10000) (h : Off l) : madeP l = .tup [.str "bank", .tup (cvs (plainP l)), .bl true] := by
  have e0 : l.find? farB = none := List.find?_eq_none.mpr fun x hx => by unfold farB; simpa using (h x hx).1
  have e1 : l.find? shB = none := List.find?_eq_none.mpr fun x hx => by unfold shB; simpa using (h x hx).2
  unfold madeP
  rw [if_neg (by omega), e0]
  dsimp only
  rw [e1]
/-! ### what is asked -/
def AsE (q : Nat) (Λ : AH) (v : AV) : Prop := ∃ n l, v = .tup [.ref n, madeP l] ∧ Λ[n]? = some (.lst (cvs l)) ∧ n ≠ q
theorem AsE.keep {q : Nat} {Λ Λ' : AH} {v : AV} (h : AsE q Λ v) (k : Keeps q Λ Λ') : AsE q Λ' v := let ⟨n, l, h1, h2, h3⟩ := h; ⟨n, l, h1, k.get n h3 _ h2, h3⟩
def As (q : Nat) (Λ : AH) (k : Nat) : Prop := ∃ vs, Λ[q]? = some (.lst vs) ∧ vs.length ≤ k ∧ ∀ v ∈ vs, AsE q Λ v
theorem As.pre {q k : Nat} {Λ Λ' : AH} (h : As q Λ k) (p : Λ <+: Λ') : As q Λ' k := let ⟨vs, h1, h2, h3⟩ := h; ⟨vs, get_pre p h1, h2, fun v hv => (h3 v hv).keep (Keeps.pre p)⟩
theorem As.lt {q k : Nat} {Λ : AH} (h : As q Λ k) : q < Λ.length := let ⟨vs, h1, _⟩ := h; get_lt h1
theorem As.ty {q k : Nat} {Λ : AH} (h : As q Λ k) : tyA "list" (.ref q) Λ = true := let ⟨vs, h1, _⟩ := h; by rw [tyA_r, h1]; rfl
theorem as_push {q k : Nat} {Λ : AH} {v : AV} {P : AV → AH → Prop} (h : As q Λ k) (hk : k ≤ 1000) (he : AsE q Λ v) (kP : ∀ Λ', Keeps q Λ Λ' → As q Λ' (k + 1) → P .non Λ') : OQ (gAppend (.ref q) [v] Λ) P := by
  obtain ⟨vs, h1, h2, h3⟩ := h
  rw [gAppend_r, h1]
  dsimp only
  rw [if_pos (sz_lt (by omega))]
  simp only [oq_some]
  refine kP _ set_keeps ⟨vs ++ [v], get_set h1, by rw [List.length_append]; show vs.length + 1 ≤ _; omega, fun w hw => ?_⟩
  rcases List.mem_append.mp hw with hw | hw
  · exact (h3 w hw).keep set_keeps
  · rw [List.mem_singleton.mp hw]
    exact he.keep set_keeps
theorem made_as {q n : Nat} {Λ : AH} {l : List Cell} {D : AV} (h : Λ[n]? = some (.lst (cvs l))) (hq : n ≠ q) (hD : D = madeP l) : AsE q Λ (.tup [.ref n, D]) := ⟨n, l, by rw [hD], h, hq⟩
theorem off_corners : Off [(120, 120), (0, -120), (120, -120), (0, 120)] := fun c hc => by
  rw [far_le]
  simp only [List.mem_cons, List.not_mem_nil, or_false] at hc
  rcases hc with rfl | rfl | rfl | rfl <;> dsimp only <;> omega
theorem rep_cvs {c : Cell} {k : Nat} : List.replicate k (cv c) = cvs (List.replicate k c) := by unfold cvs; rw [List.map_replicate]
/-- some list taken as often as is said -/
theorem mul_cc {Λ : AH} {n : Nat} {c : Cell} {k : Int} {P : AV → AH → Prop} (h : Λ[n]? = some (.lst (cvs [c]))) (h0 : 0 ≤ k) (hk : k ≤ 20000) (q : P (.ref Λ.length) (Λ ++ [.lst (cvs (List.replicate k.toNat c))])) : OQ (gMul (.ref n) (.int k) Λ) P := by
  rw [gMul_r h (by omega) (by omega) (by rw [cvs_len]; simp only [List.length_cons, List.length_nil]; omega)]
  simp only [oq_some]
  rw [show (List.replicate k.toNat (cvs [c])).flatten = cvs (List.replicate k.toNat c) from by
    rw [← rep_cvs, show cvs [c] = [cv c] from rfl]
    generalize k.toNat = m
    induction m with
    | zero => rfl
    | succ m ih => rw [List.replicate_succ, List.flatten_cons, ih, List.replicate_succ]; rfl]
  exact q
theorem refusals_ok {Λ : AH} {p f : Nat} {F : List Cell} {X : XQ} (hp : PoolD Λ p) (hf : Λ[f]? = some (.lst (cvs F))) (hfp : f ≠ p) (hl : F.length ≤ 14) (hF : Off F) :
    RQ (f__law_refusals [.ref p, .ref f] Λ) (fun v Λ' => v = .bl true ∧ Keeps p Λ Λ') X := by
  refine RQ.cps fun P kP => ?_
  have hpl := hp.lt
  unfold f__law_refusals b__law_refusals
  rw [rq_run (by rfl)]
  simp only [startA, List.map_cons, List.map_nil, List.length_cons, List.length_nil, List.cons_append, List.nil_append, Nat.reduceAdd, Nat.reduceSub, List.replicate]
  refine sq_cut (fun δ Λ' => ∃ sh : Cell, δ = [some (.ref p), some (.ref f), some (cv sh), none, none, none, none, none, none, none, none, none, none, none, none] ∧ PoolD Λ' p ∧ Keeps p Λ Λ' ∧ (sh.1 < 0 ∧ far sh ≤ 120)) (fun N kN => ?_) ?_
  · simp only [sq_set, rq_tup, rq_bin, rq_un, rq_call, rq_cons, rq_nil, rq_c, rq_var, List.set_cons_zero, List.set_cons_succ, List.getElem?_cons_zero, List.getElem?_cons_succ, List.append_nil, gNeg_i, oq_some]
    refine (draw_at hp (by omega) (by omega)).and fun v Λ1 ⟨d, e1, e2, e3, e4, e5⟩ => ?_
    subst e1
    simp only [gSub_ii, oq_some]
    refine (draw_at e4 (by omega) (by omega)).and fun v Λ2 ⟨d2, u1, u2, u3, u4, u5⟩ => ?_
    subst u1
    simp only [gSub_ii, oq_some, List.length_cons, List.length_nil]
    exact ⟨two', kN _ _ ⟨(-1 - d, d2 - 3), rfl, u4, e5.trans u5, by dsimp only; omega, by rw [far_le]; dsimp only; omega⟩⟩
  rintro δ Λ1 ⟨sh, rfl, hp1, hk1, hs1, hs2⟩
  have hf1 := hk1.get f hfp _ hf
  obtain ⟨K, hK⟩ : ∃ K : Int, K = (F.length : Int) := ⟨_, rfl⟩
  have gl : ∀ {Λ' : AH}, Λ'[f]? = some (.lst (cvs F)) → gLen [.ref f] Λ' = some (.int K, Λ') := fun {Λ'} h => by rw [hK, CSeq.len (cs := F) (.inl ⟨f, rfl, h⟩)]
  refine sq_cut (fun δ Λ' => ∃ at1, δ = [some (.ref p), some (.ref f), some (cv sh), some (.int at1), none, none, none, none, none, none, none, none, none, none, none] ∧ PoolD Λ' p ∧ Keeps p Λ Λ') (fun N kN => ?_) ?_
  · simp only [sq_set, rq_bin, rq_pr, rq_call, rq_cons, rq_nil, rq_c, rq_var, List.set_cons_zero, List.set_cons_succ, List.getElem?_cons_zero, List.getElem?_cons_succ, List.append_nil, gl hf1, gAdd_ii, oq_some]
    refine (draw_at hp1 (by omega) (by omega)).and fun v Λ2 ⟨d, e1, e2, e3, e4, e5⟩ => ?_
    subst e1
    exact kN _ _ ⟨d, rfl, e4, hk1.trans e5⟩
  rintro δ Λ2 ⟨at1, rfl, hp2, hk2⟩
  have hf2 := hk2.get f hfp _ hf
  obtain ⟨m1, hm1⟩ := cut_take (xs := cvs F) (k := at1)
  obtain ⟨m2, hm2⟩ := cut_drop (xs := cvs F) (k := at1)
  obtain ⟨A1, hA1⟩ : ∃ A1, A1 = F.take m1 := ⟨_, rfl⟩
  obtain ⟨A2, hA2⟩ : ∃ A2, A2 = F.drop m2 := ⟨_, rfl⟩
  have lA1 : A1.length ≤ 14 := by rw [hA1, List.length_take]; omega
  have lA2 : A2.length ≤ 14 := by rw [hA2, List.length_drop]; omega
  have oA1 : ∀ c ∈ A1, c ∈ F := fun c hc => List.mem_of_mem_take (hA1 ▸ hc)
  have oA2 : ∀ c ∈ A2, c ∈ F := fun c hc => List.mem_of_mem_drop (hA2 ▸ hc)
  obtain ⟨MX, hMX⟩ : ∃ MX, MX = A1 ++ [sh] ++ A2 ++ [(-7, 0)] := ⟨_, rfl⟩
  have lMX : MX.length ≤ 30 := by rw [hMX]; simp only [List.length_append, List.length_cons, List.length_nil]; omega
  have fMX : ∀ c ∈ MX, far c ≤ 120 := fun c hc => by
    rw [hMX] at hc
    simp only [List.mem_append, List.mem_singleton] at hc
    rcases hc with ((hc | rfl) | hc) | rfl
    · exact (hF c (oA1 c hc)).1
    · exact hs2
    · exact (hF c (oA2 c hc)).1
    · rw [far_le]; dsimp only; omega
  have cvt : ∀ m, (cvs F).take m = cvs (F.take m) := fun m => cvs_take
  have cvd : ∀ (L : List Cell) m, (cvs L).drop m = cvs (L.drop m) := fun L m => by simp [cvs]
  refine sq_cut (fun δ Λ' => ∃ mx, δ = [some (.ref p), some (.ref f), some (cv sh), some (.int at1), some (.ref mx), none, none, none, none, none, none, none, none, none, none] ∧ PoolD Λ' p ∧ Keeps p Λ Λ' ∧ mx ≠ p ∧ Λ'[mx]? = some (.lst (cvs MX))) (fun N kN => ?_) ?_
  · have hp2l := hp2.lt
    simp only [sq_set, rq_bin, rq_sl, rq_nop, rq_part, rq_lst, rq_cons, rq_nil, rq_tup, rq_un, rq_c, rq_intO, rq_var, List.set_cons_zero, List.set_cons_succ, List.getElem?_cons_zero, List.getElem?_cons_succ, rq_slA_r, hf2, hm1, cvt, List.length_cons, List.length_nil]
    refine ⟨sz_le (by decide), ?_⟩
    rw [← hA1]
    refine add_cc (l := A1) (m := [sh]) (get_old (by rw [get_new0]; rfl) _) (by rw [get_new0]; rfl) (by simp only [List.length_cons, List.length_nil]; omega) ?_
    rw [show (Λ2 ++ [AO.lst (cvs A1)] ++ [AO.lst [cv sh]] ++ [AO.lst (cvs (A1 ++ [sh]))])[f]? = some (.lst (cvs F)) from get_old (get_old (get_old hf2 _) _) _]
    dsimp only
    rw [hm2, cvd, ← hA2]
    refine add_cc (l := A1 ++ [sh]) (m := A2) (get_old (by rw [get_new0]; rfl) _) (by rw [get_new0]; rfl) (by simp only [List.length_append, List.length_cons, List.length_nil]; omega) ?_
    simp only [gNeg_i, oq_some]
    refine ⟨two', sz_le (by decide), ?_⟩
    refine add_cc (l := A1 ++ [sh] ++ A2) (m := [(-7, 0)]) (get_old (by rw [get_new0]; rfl) _) (by rw [get_new0]; rfl) (by simp only [List.length_append, List.length_cons, List.length_nil]; omega) ?_
    rw [← hMX]
    have pp : Λ2 <+: Λ2 ++ [AO.lst (cvs A1)] ++ [AO.lst [cv sh]] ++ [AO.lst (cvs (A1 ++ [sh]))] ++ [AO.lst (cvs A2)] ++ [AO.lst (cvs (A1 ++ [sh] ++ A2))] ++ [AO.lst [.tup [.int (-7), .int 0]]] ++ [AO.lst (cvs MX)] := by simp only [List.append_assoc]; exact List.prefix_append _ _
    exact kN _ _ ⟨_, rfl, hp2.pre pp, hk2.trans (Keeps.pre pp), by simp only [List.length_append]; omega, by rw [get_new0]; rfl⟩
  rintro δ Λ3 ⟨mx, rfl, hp3, hk3, hmxp, hmx3⟩
  refine sq_cut (fun δ Λ' => ∃ st, δ = [some (.ref p), some (.ref f), some (cv sh), some (.int at1), some (.ref mx), some (.int st), none, none, none, none, none, none, none, none, none] ∧ 0 ≤ st ∧ PoolD Λ' p ∧ Keeps p Λ Λ' ∧ Λ'[mx]? = some (.lst (cvs MX))) (fun N kN => ?_) ?_
  · simp only [sq_set, rq_call, rq_cons, rq_nil, rq_c, rq_var, List.set_cons_zero, List.set_cons_succ, List.getElem?_cons_zero, List.getElem?_cons_succ, List.append_nil]
    refine (draw_at hp3 (by omega) (by omega)).and fun v Λ4 ⟨d, e1, e2, e3, e4, e5⟩ => ?_
    subst e1
    exact kN _ _ ⟨d, rfl, e2, e4, hk3.trans e5, e5.get mx hmxp _ hmx3⟩
  rintro δ Λ4 ⟨st, rfl, hst, hp4, hk4, hmx4⟩
  obtain ⟨FA, hFA⟩ : ∃ FA : List Cell, FA = [(121, 0), (3, 121), (2, -121), (-121, 4), (121 + st, -121 - st)] := ⟨_, rfl⟩
  have fFA : ∀ c ∈ FA, ¬ far c ≤ 120 := fun c hc => by
    rw [hFA] at hc
    rw [far_le]
    simp only [List.mem_cons, List.not_mem_nil, or_false] at hc
    rcases hc with rfl | rfl | rfl | rfl | rfl <;> dsimp only <;> omega
  have lFA : FA.length = 5 := by rw [hFA]; rfl
  refine sq_cut (fun δ Λ' => ∃ fa, δ = [some (.ref p), some (.ref f), some (cv sh), some (.int at1), some (.ref mx), some (.int st), some (.ref fa), none, none, none, none, none, none, none, none] ∧ PoolD Λ' p ∧ Keeps p Λ Λ' ∧ Λ'[mx]? = some (.lst (cvs MX)) ∧ Λ'[fa]? = some (.lst (cvs FA)) ∧ fa ≠ p) (fun N kN => ?_) ?_
  · have hp4l := hp4.lt
    simp only [sq_set, rq_lst, rq_tup, rq_bin, rq_un, rq_cons, rq_nil, rq_c, rq_var, List.set_cons_zero, List.set_cons_succ, List.getElem?_cons_zero, List.getElem?_cons_succ, gNeg_i, gAdd_ii, gSub_ii, oq_some, List.length_cons, List.length_nil]
    refine ⟨two', two', two', two', two', sz_le (by decide), kN _ _ ⟨_, rfl, hp4.pre (List.prefix_append _ _), hk4.trans (Keeps.pre (List.prefix_append _ _)), get_old hmx4 _, ?_, by omega⟩⟩
    rw [get_new0, hFA]; rfl
  rintro δ Λ5 ⟨fa, rfl, hp5, hk5, hmx5, hfa5, hfap⟩
  obtain ⟨KM, hKM⟩ : ∃ KM : Int, KM = (MX.length : Int) := ⟨_, rfl⟩
  refine sq_cut (fun δ Λ' => ∃ at2, δ = [some (.ref p), some (.ref f), some (cv sh), some (.int at2), some (.ref mx), some (.int st), some (.ref fa), none, none, none, none, none, none, none, none] ∧ PoolD Λ' p ∧ Keeps p Λ Λ' ∧ Λ'[mx]? = some (.lst (cvs MX)) ∧ Λ'[fa]? = some (.lst (cvs FA))) (fun N kN => ?_) ?_
  · simp only [sq_set, rq_bin, rq_pr, rq_call, rq_cons, rq_nil, rq_c, rq_var, List.set_cons_zero, List.set_cons_succ, List.getElem?_cons_zero, List.getElem?_cons_succ, List.append_nil, CSeq.len (cs := MX) (.inl ⟨mx, rfl, hmx5⟩), gAdd_ii, oq_some]
    refine (draw_at hp5 (by omega) (by omega)).and fun v Λ6 ⟨d, e1, e2, e3, e4, e5⟩ => ?_
    subst e1
    exact kN _ _ ⟨d, rfl, e4, hk5.trans e5, e5.get mx hmxp _ hmx5, e5.get fa hfap _ hfa5⟩
  rintro δ Λ6 ⟨at2, rfl, hp6, hk6, hmx6, hfa6⟩
  refine sq_cut (fun δ Λ' => ∃ wh, δ = [some (.ref p), some (.ref f), some (cv sh), some (.int at2), some (.ref mx), some (.int st), some (.ref fa), some (.int wh), none, none, none, none, none, none, none] ∧ (0 ≤ wh ∧ wh < 5) ∧ Keeps p Λ Λ' ∧ Λ'[f]? = some (.lst (cvs F)) ∧ Λ'[mx]? = some (.lst (cvs MX)) ∧ Λ'[fa]? = some (.lst (cvs FA))) (fun N kN => ?_) ?_
  · simp only [sq_set, rq_call, rq_cons, rq_nil, rq_c, rq_var, List.set_cons_zero, List.set_cons_succ, List.getElem?_cons_zero, List.getElem?_cons_succ, List.append_nil]
    refine (draw_at hp6 (by omega) (by omega)).and fun v Λ7 ⟨d, e1, e2, e3, e4, e5⟩ => ?_
    subst e1
    exact kN _ _ ⟨d, rfl, ⟨e2, e3⟩, hk6.trans e5, (hk6.trans e5).get f hfp _ hf, e5.get mx hmxp _ hmx6, e5.get fa hfap _ hfa6⟩
  rintro δ Λ7 ⟨wh, rfl, hwh, hk7, hf7, hmx7, hfa7⟩
  clear hp6 hp5 hp4 hp3 hp2 hp1
  have hfar : ∀ (Λ' : AH) (k : Int), Λ'[fa]? = some (.lst (cvs FA)) → 0 ≤ k → k < 5 → ∃ c ∈ FA, gIx (.ref fa) (.int k) Λ' = some (cv c, Λ') := fun Λ' k h h0 h1 => by
    have hlt : k.toNat < FA.length := by omega
    refine ⟨FA[k.toNat], List.getElem_mem hlt, ?_⟩
    rw [gIx_ri, h]
    dsimp only
    rw [at_nat h0 (by rw [cvs_len]; omega)]
    unfold cvs
    rw [List.getElem?_map, List.getElem?_eq_getElem hlt]
    rfl
  refine sq_cut (fun δ Λ' => ∃ q, δ = [some (.ref p), some (.ref f), some (cv sh), some (.int at2), some (.ref mx), some (.int st), some (.ref fa), some (.int wh), some (.ref q), none, none, none, none, none, none] ∧ (Keeps p Λ Λ' ∧ Λ'[f]? = some (.lst (cvs F)) ∧ Λ'[mx]? = some (.lst (cvs MX)) ∧ Λ'[fa]? = some (.lst (cvs FA))) ∧ (q ≠ f ∧ q ≠ mx ∧ q ≠ fa ∧ Λ.length ≤ q) ∧ As q Λ' 1) (fun N kN => ?_) ?_
  · have b1 := get_lt hf7
    have b2 := get_lt hmx7
    have b3 := get_lt hfa7
    have b4 := hk7.len
    simp only [sq_set, rq_lst, rq_tup, rq_cons, rq_nil, rq_c, rq_var, List.set_cons_zero, List.set_cons_succ, List.getElem?_cons_zero, List.getElem?_cons_succ, List.length_cons, List.length_nil]
    refine ⟨three', two', sz_le (by decide), kN _ _ ⟨_, rfl, ⟨hk7.trans (Keeps.pre (List.prefix_append _ _)), get_old hf7 _, get_old hmx7 _, get_old hfa7 _⟩, ⟨by omega, by omega, by omega, by omega⟩, [_], by rw [get_new0]; rfl, by simp, fun v hv => ?_⟩⟩
    rw [List.mem_singleton.mp hv]
    refine made_as (l := MX) (get_old hmx7 _) (by omega) ?_
    rw [hMX, show A1 ++ [sh] ++ A2 ++ [(-7, 0)] = A1 ++ sh :: (A2 ++ [(-7, 0)]) from by simp]
    rw [hMX, show A1 ++ [sh] ++ A2 ++ [(-7, 0)] = A1 ++ sh :: (A2 ++ [(-7, 0)]) from by simp] at lMX fMX
    exact (made_shore (by omega) fMX (fun x hx => (hF x (oA1 x hx)).2) hs1).symm
  rintro δ Λ8 ⟨q, rfl, ⟨hk8, hf8, hmx8, hfa8⟩, ⟨q1, q2, q3, q4⟩, ha8⟩
  have kk : ∀ {Λ1 Λ2 : AH}, Keeps p Λ Λ1 → Keeps q Λ1 Λ2 → Keeps p Λ Λ2 := fun {Λ1 Λ2} a b => ⟨Nat.le_trans a.len b.len, fun m hm o' h => b.get m (by have := get_lt h; omega) _ (a.get m hm _ h)⟩
  refine sq_cut (fun δ Λ' => δ = [some (.ref p), some (.ref f), some (cv sh), some (.int at2), some (.ref mx), some (.int st), some (.ref fa), some (.int wh), some (.ref q), none, none, none, none, none, none] ∧ (Keeps p Λ Λ' ∧ Λ'[f]? = some (.lst (cvs F)) ∧ Λ'[mx]? = some (.lst (cvs MX)) ∧ Λ'[fa]? = some (.lst (cvs FA))) ∧ As q Λ' 2) (fun N kN => ?_) ?_
  · simp only [sq_ex_, rq_mt, rq_var, List.set_cons_zero, List.set_cons_succ, List.getElem?_cons_zero, List.getElem?_cons_succ, ha8.ty, true_and, rq_cons, rq_nil, rq_tup, rq_bin, rq_lst, rq_un, rq_c, gNeg_i, oq_some, List.length_cons, List.length_nil]
    refine ⟨two', sz_le (by decide), ?_⟩
    refine add_cc (l := [(-120, 5)]) (m := F) (by rw [get_new0]; rfl) (get_old hf8 _) (by simp only [List.length_cons, List.length_nil]; omega) ?_
    have PP : Λ8 <+: Λ8 ++ [AO.lst [.tup [.int (-120), .int 5]]] ++ [AO.lst (cvs ([(-120, 5)] ++ F))] := (List.prefix_append _ _).trans (List.prefix_append _ _)
    have hq := ha8.lt
    refine ⟨two', three', two', ?_⟩
    refine as_push (ha8.pre PP) (by omega) (made_as (l := [(-120, 5)] ++ F) (by rw [get_new0]; rfl) (by rw [List.length_append]; omega) ?_) (fun Λ' k' as' => kN _ _ ⟨rfl, ⟨kk (hk8.trans (Keeps.pre PP)) k', k'.get f (Ne.symm q1) _ (get_pre PP hf8), k'.get mx (Ne.symm q2) _ (get_pre PP hmx8), k'.get fa (Ne.symm q3) _ (get_pre PP hfa8)⟩, as'⟩)
    refine (made_shore (a := []) (b := F) (c := (-120, 5)) (by simp only [List.nil_append, List.length_cons]; omega) (fun x hx => ?_) (fun x hx => by cases hx) (by dsimp only; omega)).symm
    rcases List.mem_cons.mp hx with rfl | hx
    · rw [far_le]; dsimp only; omega
    · exact (hF x hx).1
  rintro δ Λ9 ⟨rfl, ⟨hk9, hf9, hmx9, hfa9⟩, ha9⟩
  refine sq_cut (fun δ Λ' => (∃ o9 o10, δ = [some (.ref p), some (.ref f), some (cv sh), some (.int at2), some (.ref mx), some (.int st), some (.ref fa), some (.int wh), some (.ref q), o9, o10, none, none, none, none]) ∧ (Keeps p Λ Λ' ∧ Λ'[f]? = some (.lst (cvs F)) ∧ Λ'[mx]? = some (.lst (cvs MX)) ∧ Λ'[fa]? = some (.lst (cvs FA))) ∧ As q Λ' 12) (fun N0 kN0 => ?_) ?_
  · simp only [sq_for, rq_it, rq_var, List.getElem?_cons_zero, List.getElem?_cons_succ, rq_srcA_r, hfa9]
    show SQ (forL (Src.lst fa (cvs FA)).here _ _ (cvs FA) _ _) _
    refine forL_inv (fun i δ Λ' => (∃ o9 o10, δ = [some (.ref p), some (.ref f), some (cv sh), some (.int at2), some (.ref mx), some (.int st), some (.ref fa), some (.int wh), some (.ref q), o9, o10, none, none, none, none]) ∧ (Keeps p Λ Λ' ∧ Λ'[f]? = some (.lst (cvs F)) ∧ Λ'[mx]? = some (.lst (cvs MX)) ∧ Λ'[fa]? = some (.lst (cvs FA))) ∧ As q Λ' (2 + 2 * i)) ⟨⟨_, _, rfl⟩, ⟨hk9, hf9, hmx9, hfa9⟩, ha9⟩ (fun _ _ _ _ z => z.2.1.2.2.2) ?_ (fun δ Λ' z => kN0 _ _ ⟨z.1, z.2.1, by have := z.2.2; rw [cvs_len, lFA] at this; exact this⟩)
    rintro i x δ Λ8 hx ⟨⟨o9, o10, rfl⟩, ⟨hk8, hf8, hmx8, hfa8⟩, ha8⟩
    obtain ⟨c, hc, rfl⟩ := cvs_at hx
    have hi : i < 5 := by have := (List.getElem?_eq_some_iff.mp hx).1; rw [cvs_len] at this; omega
    refine ⟨_, rfl, ?_⟩
    simp only [List.set_cons_zero, List.set_cons_succ]
    generalize hI : (fun δ Λ' => (∃ o9 o10, δ = [some (AV.ref p), some (AV.ref f), some (cv sh), some (AV.int at2), some (AV.ref mx), some (AV.int st), some (AV.ref fa), some (AV.int wh), some (AV.ref q), o9, o10, none, none, none, none]) ∧ (Keeps p Λ Λ' ∧ Λ'[f]? = some (AO.lst (cvs F)) ∧ Λ'[mx]? = some (AO.lst (cvs MX)) ∧ Λ'[fa]? = some (AO.lst (cvs FA))) ∧ As q Λ' (2 + 2 * (i + 1))) = I
    obtain ⟨m3, hm3⟩ := cut_take (xs := cvs MX) (k := at2)
    obtain ⟨m4, hm4⟩ := cut_drop (xs := cvs MX) (k := at2)
    obtain ⟨B1, hB1⟩ : ∃ B1, B1 = MX.take m3 := ⟨_, rfl⟩
    obtain ⟨B2, hB2⟩ : ∃ B2, B2 = MX.drop m4 := ⟨_, rfl⟩
    have lB1 : B1.length ≤ 30 := by rw [hB1, List.length_take]; omega
    have lB2 : B2.length ≤ 30 := by rw [hB2, List.length_drop]; omega
    have oB1 : ∀ x ∈ B1, far x ≤ 120 := fun x hx => fMX x (List.mem_of_mem_take (hB1 ▸ hx))
    refine sq_cut (fun δ Λ' => ∃ lo, δ = [some (.ref p), some (.ref f), some (cv sh), some (.int at2), some (.ref mx), some (.int st), some (.ref fa), some (.int wh), some (.ref q), some (cv c), some (.ref lo), none, none, none, none] ∧ (Keeps p Λ Λ' ∧ Λ'[f]? = some (.lst (cvs F)) ∧ Λ'[mx]? = some (.lst (cvs MX)) ∧ Λ'[fa]? = some (.lst (cvs FA))) ∧ As q Λ' (2 + 2 * i) ∧ Λ'[lo]? = some (.lst (cvs (B1 ++ c :: B2))) ∧ lo ≠ q) (fun N kN => ?_) ?_
    · simp only [sq_set, rq_bin, rq_sl, rq_nop, rq_part, rq_lst, rq_cons, rq_nil, rq_intO, rq_var, List.set_cons_zero, List.set_cons_succ, List.getElem?_cons_zero, List.getElem?_cons_succ, rq_slA_r, hmx8, hm3, cvs_take, List.length_cons, List.length_nil]
      refine ⟨sz_le (by decide), ?_⟩
      rw [← hB1]
      refine add_cc (l := B1) (m := [c]) (get_old (by rw [get_new0]; rfl) _) (by rw [get_new0]; rfl) (by simp only [List.length_cons, List.length_nil]; omega) ?_
      rw [show (Λ8 ++ [AO.lst (cvs B1)] ++ [AO.lst [cv c]] ++ [AO.lst (cvs (B1 ++ [c]))])[mx]? = some (.lst (cvs MX)) from get_old (get_old (get_old hmx8 _) _) _]
      dsimp only
      rw [hm4, cvd, ← hB2]
      refine add_cc (l := B1 ++ [c]) (m := B2) (get_old (by rw [get_new0]; rfl) _) (by rw [get_new0]; rfl) (by simp only [List.length_append, List.length_cons, List.length_nil]; omega) ?_
      rw [show B1 ++ [c] ++ B2 = B1 ++ c :: B2 from by simp]
      have PP : Λ8 <+: Λ8 ++ [AO.lst (cvs B1)] ++ [AO.lst [cv c]] ++ [AO.lst (cvs (B1 ++ [c]))] ++ [AO.lst (cvs B2)] ++ [AO.lst (cvs (B1 ++ c :: B2))] := by simp only [List.append_assoc]; exact List.prefix_append _ _
      have hq := ha8.lt
      exact kN _ _ ⟨_, rfl, ⟨hk8.trans (Keeps.pre PP), get_pre PP hf8, get_pre PP hmx8, get_pre PP hfa8⟩, ha8.pre PP, by rw [get_new0]; rfl, by simp only [List.length_append]; omega⟩
    rintro δ Λ9 ⟨lo, rfl, ⟨hk9, hf9, hmx9, hfa9⟩, ha9, hlo, hloq⟩
    refine sq_cut (fun δ Λ' => δ = [some (.ref p), some (.ref f), some (cv sh), some (.int at2), some (.ref mx), some (.int st), some (.ref fa), some (.int wh), some (.ref q), some (cv c), some (.ref lo), none, none, none, none] ∧ (Keeps p Λ Λ' ∧ Λ'[f]? = some (.lst (cvs F)) ∧ Λ'[mx]? = some (.lst (cvs MX)) ∧ Λ'[fa]? = some (.lst (cvs FA))) ∧ As q Λ' (2 + 2 * i + 1)) (fun N kN => ?_) ?_
    · simp only [sq_ex_, rq_mt, rq_var, List.set_cons_zero, List.set_cons_succ, List.getElem?_cons_zero, List.getElem?_cons_succ, ha9.ty, true_and, rq_cons, rq_nil, rq_tup, rq_c, List.length_cons, List.length_nil]
      refine ⟨three', two', ?_⟩
      refine as_push ha9 (by omega) (made_as hlo hloq ?_) (fun Λ' k' as' => kN _ _ ⟨rfl, ⟨kk hk9 k', k'.get f (Ne.symm q1) _ hf9, k'.get mx (Ne.symm q2) _ hmx9, k'.get fa (Ne.symm q3) _ hfa9⟩, as'⟩)
      exact (made_cell (by simp only [List.length_append, List.length_cons]; omega) oB1 (fFA c hc)).symm
    rintro δ Λ10 ⟨rfl, ⟨hk10, hf10, hmx10, hfa10⟩, ha10⟩
    simp only [sq_ex_, rq_mt, rq_var, List.set_cons_zero, List.set_cons_succ, List.getElem?_cons_zero, List.getElem?_cons_succ, ha10.ty, true_and, rq_cons, rq_nil, rq_tup, rq_bin, rq_lst, rq_c, List.length_cons, List.length_nil]
    refine ⟨sz_le (by decide), ?_⟩
    refine add_cc (l := F) (m := [c]) (get_old hf10 _) (by rw [get_new0]; rfl) (by simp only [List.length_cons, List.length_nil]; omega) ?_
    have PP : Λ10 <+: Λ10 ++ [AO.lst [cv c]] ++ [AO.lst (cvs (F ++ [c]))] := (List.prefix_append _ _).trans (List.prefix_append _ _)
    have hq := ha10.lt
    refine ⟨three', two', ?_⟩
    refine as_push (ha10.pre PP) (by omega) (made_as (l := F ++ [c]) (by rw [get_new0]; rfl) (by rw [List.length_append]; omega) ?_) (fun Λ' k' as' => ?_)
    · exact (made_cell (a := F) (b := []) (by simp only [List.length_append, List.length_cons, List.length_nil]; omega) (fun x hx => (hF x hx).1) (fFA c hc)).symm
    · rw [← hI]
      exact ⟨⟨_, _, rfl⟩, ⟨kk (hk10.trans (Keeps.pre PP)) k', k'.get f (Ne.symm q1) _ (get_pre PP hf10), k'.get mx (Ne.symm q2) _ (get_pre PP hmx10), k'.get fa (Ne.symm q3) _ (get_pre PP hfa10)⟩, as'⟩
  rintro δ Λ10 ⟨⟨o9, o10, rfl⟩, ⟨hk10, hf10, hmx10, hfa10⟩, ha10⟩
  obtain ⟨c1, hc1, ec1⟩ := hfar Λ10 wh hfa10 hwh.1 hwh.2
  have hmod1 := Int.emod_nonneg (wh + 1) (show (5 : Int) ≠ 0 by omega)
  have hmod2 := Int.emod_lt_of_pos (wh + 1) (show (0 : Int) < 5 by omega)
  obtain ⟨c2, hc2, ec2⟩ := hfar Λ10 ((wh + 1) % 5) hfa10 hmod1 hmod2
  refine sq_cut (fun δ Λ' => ∃ tw, δ = [some (.ref p), some (.ref f), some (cv sh), some (.int at2), some (.ref mx), some (.int st), some (.ref fa), some (.int wh), some (.ref q), o9, o10, some (.ref tw), none, none, none] ∧ (Keeps p Λ Λ' ∧ Λ'[f]? = some (.lst (cvs F)) ∧ Λ'[mx]? = some (.lst (cvs MX)) ∧ Λ'[fa]? = some (.lst (cvs FA))) ∧ As q Λ' 12 ∧ Λ'[tw]? = some (.lst (cvs (MX ++ [c1, c2]))) ∧ tw ≠ q) (fun N kN => ?_) ?_
  · simp only [sq_set, rq_bin, rq_lst, rq_cons, rq_nil, rq_c, rq_var, List.set_cons_zero, List.set_cons_succ, List.getElem?_cons_zero, List.getElem?_cons_succ, ec1, gAdd_ii, gMod_ii, if_pos (show (0 : Int) < 5 by omega), ec2, oq_some, List.length_cons, List.length_nil]
    refine ⟨sz_le (by decide), ?_⟩
    refine add_cc (l := MX) (m := [c1, c2]) (get_old hmx10 _) (by rw [get_new0]; rfl) (by simp only [List.length_cons, List.length_nil]; omega) ?_
    have PP : Λ10 <+: Λ10 ++ [AO.lst [cv c1, cv c2]] ++ [AO.lst (cvs (MX ++ [c1, c2]))] := (List.prefix_append _ _).trans (List.prefix_append _ _)
    have hq := ha10.lt
    exact kN _ _ ⟨_, rfl, ⟨hk10.trans (Keeps.pre PP), get_pre PP hf10, get_pre PP hmx10, get_pre PP hfa10⟩, ha10.pre PP, by rw [get_new0]; rfl, by rw [List.length_append]; omega⟩
  rintro δ Λ11 ⟨tw, rfl, ⟨hk11, hf11, hmx11, hfa11⟩, ha11, htw, htwq⟩
  refine sq_cut (fun δ Λ' => δ = [some (.ref p), some (.ref f), some (cv sh), some (.int at2), some (.ref mx), some (.int st), some (.ref fa), some (.int wh), some (.ref q), o9, o10, some (.ref tw), none, none, none] ∧ (Keeps p Λ Λ' ∧ Λ'[f]? = some (.lst (cvs F)) ∧ Λ'[mx]? = some (.lst (cvs MX)) ∧ Λ'[fa]? = some (.lst (cvs FA))) ∧ As q Λ' 13) (fun N kN => ?_) ?_
  · obtain ⟨c, hcF, ec⟩ := hfar Λ11 wh hfa11 hwh.1 hwh.2
    have ecc : c = c1 := by
      have e := ec
      have hlt : wh.toNat < FA.length := by omega
      rw [gIx_ri, hfa11] at e
      rw [gIx_ri, hfa10] at ec1
      dsimp only at e ec1
      rw [Option.map_eq_some_iff] at e ec1
      obtain ⟨a, ea, ea2⟩ := e
      obtain ⟨b, eb, eb2⟩ := ec1
      rw [ea] at eb
      cases eb
      rw [Prod.mk.injEq] at ea2 eb2
      have h3 := ea2.1.symm.trans eb2.1
      unfold cv at h3
      simp only [AV.tup.injEq, List.cons.injEq, AV.int.injEq, and_true] at h3
      exact Prod.ext h3.1 h3.2
    simp only [sq_ex_, rq_mt, rq_var, List.set_cons_zero, List.set_cons_succ, List.getElem?_cons_zero, List.getElem?_cons_succ, ha11.ty, true_and, rq_cons, rq_nil, rq_tup, rq_bin, rq_c, ec, oq_some, List.length_cons, List.length_nil]
    refine ⟨three', two', ?_⟩
    have PP : Λ11 <+: Λ11 := List.prefix_rfl
    refine as_push ha11 (by omega) (made_as htw htwq ?_) (fun Λ' k' as' => kN _ _ ⟨rfl, ⟨kk (hk11.trans (Keeps.pre PP)) k', k'.get f (Ne.symm q1) _ (get_pre PP hf11), k'.get mx (Ne.symm q2) _ (get_pre PP hmx11), k'.get fa (Ne.symm q3) _ (get_pre PP hfa11)⟩, as'⟩)
    rw [ecc]
    exact (made_cell (a := MX) (b := [c2]) (by simp only [List.length_append, List.length_cons, List.length_nil]; omega) fMX (fFA c1 hc1)).symm
  rintro δ Λ12 ⟨rfl, ⟨hk12, hf12, hmx12, hfa12⟩, ha12⟩
  refine sq_cut (fun δ Λ' => δ = [some (.ref p), some (.ref f), some (cv sh), some (.int at2), some (.ref mx), some (.int st), some (.ref fa), some (.int wh), some (.ref q), o9, o10, some (.ref tw), none, none, none] ∧ (Keeps p Λ Λ' ∧ Λ'[f]? = some (.lst (cvs F)) ∧ Λ'[mx]? = some (.lst (cvs MX)) ∧ Λ'[fa]? = some (.lst (cvs FA))) ∧ As q Λ' 14) (fun N kN => ?_) ?_
  · simp only [sq_ex_, rq_mt, rq_var, List.set_cons_zero, List.set_cons_succ, List.getElem?_cons_zero, List.getElem?_cons_succ, ha12.ty, true_and, rq_cons, rq_nil, rq_tup, rq_bin, rq_lst, rq_c, List.length_cons, List.length_nil]
    refine ⟨sz_le (by decide), ?_⟩
    refine mul_cc (c := sh) (by rw [get_new0]; rfl) (by omega) (by omega) ?_
    have hrl : (List.replicate (10001 : Int).toNat sh).length = 10001 := by rw [List.length_replicate]; rfl
    generalize List.replicate (10001 : Int).toNat sh = RR at *
    have PP : Λ12 <+: Λ12 ++ [AO.lst [cv sh]] ++ [AO.lst (cvs RR)] := (List.prefix_append _ _).trans (List.prefix_append _ _)
    have hq := ha12.lt
    refine ⟨three', two', ?_⟩
    refine as_push (ha12.pre PP) (by omega) (made_as (l := RR) (by rw [get_new0]; rfl) (by rw [List.length_append]; omega) ?_) (fun Λ' k' as' => kN _ _ ⟨rfl, ⟨kk (hk12.trans (Keeps.pre PP)) k', k'.get f (Ne.symm q1) _ (get_pre PP hf12), k'.get mx (Ne.symm q2) _ (get_pre PP hmx12), k'.get fa (Ne.symm q3) _ (get_pre PP hfa12)⟩, as'⟩)
    exact (made_many (by omega)).symm
  rintro δ Λ13 ⟨rfl, ⟨hk13, hf13, hmx13, hfa13⟩, ha13⟩
  refine sq_cut (fun δ Λ' => ∃ lo RR, δ = [some (.ref p), some (.ref f), some (cv sh), some (.int at2), some (.ref mx), some (.int st), some (.ref fa), some (.int wh), some (.ref q), o9, some (.ref lo), some (.ref tw), none, none, none] ∧ (Keeps p Λ Λ' ∧ Λ'[f]? = some (.lst (cvs F)) ∧ Λ'[mx]? = some (.lst (cvs MX)) ∧ Λ'[fa]? = some (.lst (cvs FA))) ∧ As q Λ' 14 ∧ Λ'[lo]? = some (.lst (cvs RR)) ∧ lo ≠ q ∧ 10000 < RR.length) (fun N kN => ?_) ?_
  · obtain ⟨c, hcF, ec⟩ := hfar Λ13 wh hfa13 hwh.1 hwh.2
    simp only [sq_set, rq_bin, rq_lst, rq_tup, rq_cons, rq_nil, rq_c, rq_var, List.set_cons_zero, List.set_cons_succ, List.getElem?_cons_zero, List.getElem?_cons_succ, ec, oq_some, List.length_cons, List.length_nil]
    refine ⟨sz_le (by decide), two', sz_le (by decide), ?_⟩
    refine mul_cc (c := (0, 0)) (by rw [get_new0]; rfl) (by omega) (by omega) ?_
    have hrl : (List.replicate (10000 : Int).toNat ((0, 0) : Cell)).length = 10000 := by rw [List.length_replicate]; rfl
    generalize List.replicate (10000 : Int).toNat ((0, 0) : Cell) = RR at *
    refine add_cc (l := [c]) (m := RR) (get_old (get_old (by rw [get_new0]; rfl) _) _) (by rw [get_new0]; rfl) (by simp only [List.length_cons, List.length_nil]; omega) ?_
    have PP : Λ13 <+: Λ13 ++ [AO.lst [cv c]] ++ [AO.lst [.tup [.int 0, .int 0]]] ++ [AO.lst (cvs RR)] ++ [AO.lst (cvs ([c] ++ RR))] := by simp only [List.append_assoc]; exact List.prefix_append _ _
    have hq := ha13.lt
    exact kN _ _ ⟨_, [c] ++ RR, rfl, ⟨hk13.trans (Keeps.pre PP), get_pre PP hf13, get_pre PP hmx13, get_pre PP hfa13⟩, ha13.pre PP, by rw [get_new0]; rfl, by simp only [List.length_append]; omega, by rw [List.length_append, hrl]; simp only [List.length_cons, List.length_nil]; omega⟩
  rintro δ Λ14 ⟨lo, RR, rfl, ⟨hk14, hf14, hmx14, hfa14⟩, ha14, hlo, hloq, hRR⟩
  refine sq_cut (fun δ Λ' => δ = [some (.ref p), some (.ref f), some (cv sh), some (.int at2), some (.ref mx), some (.int st), some (.ref fa), some (.int wh), some (.ref q), o9, some (.ref lo), some (.ref tw), none, none, none] ∧ (Keeps p Λ Λ' ∧ Λ'[f]? = some (.lst (cvs F)) ∧ Λ'[mx]? = some (.lst (cvs MX)) ∧ Λ'[fa]? = some (.lst (cvs FA))) ∧ As q Λ' 15) (fun N kN => ?_) ?_
  · simp only [sq_ex_, rq_mt, rq_var, List.set_cons_zero, List.set_cons_succ, List.getElem?_cons_zero, List.getElem?_cons_succ, ha14.ty, true_and, rq_cons, rq_nil, rq_tup, rq_c, List.length_cons, List.length_nil]
    refine ⟨three', two', ?_⟩
    have PP : Λ14 <+: Λ14 := List.prefix_rfl
    exact as_push ha14 (by omega) (made_as hlo hloq (made_many hRR).symm) (fun Λ' k' as' => kN _ _ ⟨rfl, ⟨kk (hk14.trans (Keeps.pre PP)) k', k'.get f (Ne.symm q1) _ (get_pre PP hf14), k'.get mx (Ne.symm q2) _ (get_pre PP hmx14), k'.get fa (Ne.symm q3) _ (get_pre PP hfa14)⟩, as'⟩)
  rintro δ Λ15 ⟨rfl, ⟨hk15, hf15, hmx15, hfa15⟩, ha15⟩
  clear hlo hloq hRR
  obtain ⟨CC, hCC⟩ : ∃ CC : List Cell, CC = [(120, 120), (0, -120), (120, -120), (0, 120)] := ⟨_, rfl⟩
  have oCC : Off CC := hCC ▸ off_corners
  have lCC : CC.length = 4 := by rw [hCC]; rfl
  refine sq_cut (fun δ Λ' => ∃ lo, δ = [some (.ref p), some (.ref f), some (cv sh), some (.int at2), some (.ref mx), some (.int st), some (.ref fa), some (.int wh), some (.ref q), o9, some (.ref lo), some (.ref tw), none, none, none] ∧ (Keeps p Λ Λ' ∧ Λ'[f]? = some (.lst (cvs F)) ∧ Λ'[mx]? = some (.lst (cvs MX)) ∧ Λ'[fa]? = some (.lst (cvs FA))) ∧ As q Λ' 15 ∧ Λ'[lo]? = some (.lst (cvs CC)) ∧ lo ≠ q) (fun N kN => ?_) ?_
  · simp only [sq_set, rq_lst, rq_tup, rq_un, rq_cons, rq_nil, rq_c, gNeg_i, oq_some, List.length_cons, List.length_nil, List.set_cons_zero, List.set_cons_succ]
    have hq := ha15.lt
    have PP := List.prefix_append Λ15 [AO.lst (cvs CC)]
    refine ⟨two', two', two', two', sz_le (by decide), ?_⟩
    rw [show [AV.tup [.int 120, .int 120], .tup [.int 0, .int (-120)], .tup [.int 120, .int (-120)], .tup [.int 0, .int 120]] = cvs CC from by rw [hCC]; rfl]
    exact kN _ _ ⟨_, rfl, ⟨hk15.trans (Keeps.pre PP), get_pre PP hf15, get_pre PP hmx15, get_pre PP hfa15⟩, ha15.pre PP, by rw [get_new0]; rfl, by omega⟩
  rintro δ Λ16 ⟨lo2, rfl, ⟨hk16, hf16, hmx16, hfa16⟩, ha16, hlo2, hlo2q⟩
  refine sq_cut (fun δ Λ' => δ = [some (.ref p), some (.ref f), some (cv sh), some (.int at2), some (.ref mx), some (.int st), some (.ref fa), some (.int wh), some (.ref q), o9, some (.ref lo2), some (.ref tw), none, none, none] ∧ (Keeps p Λ Λ' ∧ Λ'[f]? = some (.lst (cvs F)) ∧ Λ'[mx]? = some (.lst (cvs MX)) ∧ Λ'[fa]? = some (.lst (cvs FA))) ∧ As q Λ' 16) (fun N kN => ?_) ?_
  · simp only [sq_ex_, rq_mt, rq_var, List.set_cons_zero, List.set_cons_succ, List.getElem?_cons_zero, List.getElem?_cons_succ, ha16.ty, true_and, rq_cons, rq_nil, rq_tup, rq_pr, rq_call, rq_c, List.append_nil]
    refine (plain_at hlo2 (by omega)).and fun v Λ' ⟨n, e1, e2, e3, e4⟩ => ?_
    subst e1
    have PP := e3
    simp only [gTuple_r, e4, oq_some, List.length_cons, List.length_nil]
    refine ⟨three', two', ?_⟩
    refine as_push (ha16.pre PP) (by omega) (made_as (get_pre PP hlo2) hlo2q (made_bank (by omega) oCC).symm) (fun Λ' k' as' => kN _ _ ⟨rfl, ⟨kk (hk16.trans (Keeps.pre PP)) k', k'.get f (Ne.symm q1) _ (get_pre PP hf16), k'.get mx (Ne.symm q2) _ (get_pre PP hmx16), k'.get fa (Ne.symm q3) _ (get_pre PP hfa16)⟩, as'⟩)
  rintro δ Λ17 ⟨rfl, ⟨hk17, hf17, hmx17, hfa17⟩, ha17⟩
  refine sq_cut (fun δ Λ' => δ = [some (.ref p), some (.ref f), some (cv sh), some (.int at2), some (.ref mx), some (.int st), some (.ref fa), some (.int wh), some (.ref q), o9, some (.ref lo2), some (.ref tw), none, none, none] ∧ (Keeps p Λ Λ' ∧ Λ'[f]? = some (.lst (cvs F)) ∧ Λ'[mx]? = some (.lst (cvs MX)) ∧ Λ'[fa]? = some (.lst (cvs FA))) ∧ As q Λ' 17) (fun N kN => ?_) ?_
  · simp only [sq_ex_, rq_mt, rq_var, List.set_cons_zero, List.set_cons_succ, List.getElem?_cons_zero, List.getElem?_cons_succ, ha17.ty, true_and, rq_cons, rq_nil, rq_tup, rq_pr, rq_call, rq_c, List.append_nil]
    refine (plain_at hf17 (by omega)).and fun v Λ' ⟨n, e1, e2, e3, e4⟩ => ?_
    subst e1
    have PP := e3
    simp only [gTuple_r, e4, oq_some, List.length_cons, List.length_nil]
    refine ⟨three', two', ?_⟩
    refine as_push (ha17.pre PP) (by omega) (made_as (get_pre PP hf17) (Ne.symm q1) (made_bank (by omega) hF).symm) (fun Λ' k' as' => kN _ _ ⟨rfl, ⟨kk (hk17.trans (Keeps.pre PP)) k', k'.get f (Ne.symm q1) _ (get_pre PP hf17), k'.get mx (Ne.symm q2) _ (get_pre PP hmx17), k'.get fa (Ne.symm q3) _ (get_pre PP hfa17)⟩, as'⟩)
  rintro δ Λ18 ⟨rfl, ⟨hk18, hf18, hmx18, hfa18⟩, ha18⟩
  obtain ⟨vs, hvs, hvl, hve⟩ := ha18
  refine sq_cut (fun δ Λ' => Keeps p Λ Λ') (fun N kN => ?_) (fun δ Λ' k => by simp only [sq_ret, rq_c]; exact kP _ _ ⟨rfl, k⟩)
  simp only [sq_for, rq_it, rq_var, List.getElem?_cons_zero, List.getElem?_cons_succ, rq_srcA_r, hvs]
  show SQ (forL (Src.lst q vs).here _ _ vs _ _) _
  refine forL_inv (fun i δ Λ' => (∃ o12 o13 o14, δ = [some (.ref p), some (.ref f), some (cv sh), some (.int at2), some (.ref mx), some (.int st), some (.ref fa), some (.int wh), some (.ref q), o9, some (.ref lo2), some (.ref tw), o12, o13, o14]) ∧ Λ18 <+: Λ') ⟨⟨_, _, _, rfl⟩, List.prefix_rfl⟩ (fun _ _ _ _ z => get_pre z.2 hvs) ?_ (fun δ Λ' z => kN _ _ (hk18.trans (Keeps.pre z.2)))
  rintro i x δ Λ19 hx ⟨⟨o12, o13, o14, rfl⟩, p19⟩
  obtain ⟨n, l, rfl, hn, _⟩ := hve x (List.mem_of_getElem? hx)
  have hn19 := get_pre p19 hn
  obtain ⟨D, hD⟩ : ∃ D, D = madeP l := ⟨_, rfl⟩
  have hsame : SameR f__law_same D D := hD ▸ same_made
  refine ⟨[some (.ref p), some (.ref f), some (cv sh), some (.int at2), some (.ref mx), some (.int st), some (.ref fa), some (.int wh), some (.ref q), o9, some (.ref lo2), some (.ref tw), some (.ref n), some D, o14], by rw [← hD]; rfl, ?_⟩
  generalize hI : (fun δ Λ' => (∃ o12 o13 o14, δ = [some (AV.ref p), some (AV.ref f), some (cv sh), some (AV.int at2), some (AV.ref mx), some (AV.int st), some (AV.ref fa), some (AV.int wh), some (AV.ref q), o9, some (AV.ref lo2), some (AV.ref tw), o12, o13, o14]) ∧ Λ18 <+: Λ') = I
  refine sq_cut (fun δ Λ' => ∃ h, δ = [some (.ref p), some (.ref f), some (cv sh), some (.int at2), some (.ref mx), some (.int st), some (.ref fa), some (.int wh), some (.ref q), o9, some (.ref lo2), some (.ref tw), some (.ref n), some D, some (.ref h)] ∧ Λ18 <+: Λ' ∧ Λ'[h]? = some (.lst (cvs l)) ∧ Λ'[n]? = some (.lst (cvs l))) (fun K kK => ?_) ?_
  · simp only [sq_set, rq_pr, rq_cons, rq_nil, rq_var, List.set_cons_zero, List.set_cons_succ, List.getElem?_cons_zero, List.getElem?_cons_succ, gList_r, hn19, oq_some]
    exact kK _ _ ⟨_, rfl, p19.trans (List.prefix_append _ _), by rw [get_new0]; rfl, get_old hn19 _⟩
  rintro δ Λ20 ⟨h, rfl, p20, hh, hn20⟩
  rw [sq_ifS]
  simp only [rq_orT, rq_notT, rq_tr, rq_tb, rq_bin, rq_call, rq_cons, rq_nil, rq_var, List.getElem?_cons_zero, List.getElem?_cons_succ, List.append_nil]
  refine (made_ok (l := l) (.inl (.inl ⟨h, rfl, hh⟩))).and fun v Λ21 ⟨e1, e2⟩ => ?_
  subst e1
  rw [← hD]
  refine hsame.run _ _ _ ?_
  simp only [rq_truR, truA_bl, Bool.not_true, Bool.false_eq_true, false_implies, true_implies, true_and, gNeY_cvs (get_pre e2 hh) (get_pre e2 hn20), decide_true, oq_some, rq_blA, sq_dNx]
  rw [← hI]
  exact ⟨⟨_, _, _, rfl⟩, p20.trans e2⟩
end Lk34

set_option Elab.async false
set_option linter.all false
set_option maxRecDepth 100000
set_option maxHeartbeats 4000000
namespace Lk34
open PySem PySem.Spec PyProof.Rows L2 NP
theorem drawn_pool {ns : List Int} {n : Nat} {δ : AEnv} {P : AV → AH → Prop} {X : XQ} (hn : ns.length ≤ 63) (h0 : δ[0]? = some (some (.cl (ns.map .int)))) (hw : ∀ v, ((wipeA δ [2]).set 2 v)[2]? = some v) (k : ∀ Λ' p, PoolD Λ' p → P (.ref p) Λ') :
    RQ (dLc [2] (dIt (dSl (dVar 0) dNoP (dPart (dC (.int 63))))) (.nm 2) dYes (dPr gAbs (dCons (dPr gInt (dCons (dVar 2) dNil)) dNil)) δ []) P X := by
  have hcut : cutA (ns.map AV.int) none (some 63) = ns.map AV.int := by
    unfold cutA
    have h1 : HT.sIx (ns.map AV.int).length 0 none = 0 := rfl
    rw [h1, List.drop_zero, List.take_of_length_le]
    unfold HT.sIx
    simp
    omega
  have hsl : ∀ (Q : AV → AH → Prop) (X : XQ) (Λ : AH), RQ (slA (.cl (ns.map .int)) none (some 63) Λ) Q X = Q (.ref Λ.length) (Λ ++ [.lst (ns.map .int)]) := fun Q X Λ => by
    unfold slA
    simp [hcut]
  simp only [rq_lc, rq_it, rq_sl, rq_var, h0, rq_nop, rq_part, rq_c, rq_intO, hsl, rq_srcA_r, get_new0, List.getElem?_cons_zero]
  refine rq_lca ns AV.int (fun i => (wipeA δ [2]).set 2 (some (.int i))) (fun i => .int (absI i)) rfl (fun _ _ => rfl) (fun acc => ?_) (fun i _ acc => ?_) (sz_le (by omega)) ?_
  · exact get_old rfl _
  · simp only [rq_pr, rq_cons, rq_nil, rq_var, hw, gInt_i, oq_some, gAbs_a]
    exact ⟨trivial, trivial⟩
  · refine k _ _ ⟨ns.map absI, ?_, fun r hr => ?_⟩
    · rw [get_new0]
      simp [iv]
    · obtain ⟨x, _, rfl⟩ := List.mem_map.mp hr
      exact absI_nonneg x
/-! ### two banks together -/
abbrev bankD (C : List Cell) : AV := .tup [.str "bank", .tup (cvs C), .bl true]
abbrev manyD : AV := .tup [.str "TooMany", .int 10000, .bl true]
theorem joined_ok {Λ : AH} {r s : Nat} {l m k : List Cell} {X : XQ} (hr : BkR Λ r l) (hs : BkR Λ s m) (hl : l.length ≤ 10000) (hm0 : m.length ≤ 10000) (hlm : l.length + (m.filter fun c => !decide (c ∈ l)).length ≤ 10000) (hf : Off l) (hf2 : Off m) (hk : Good k) (hkm : ∀ c, c ∈ k ↔ c ∈ l ∨ c ∈ m) :
    RQ (f__law_joined [.ref r, .ref s] Λ) (fun v Λ' => v = bankD k ∧ Λ <+: Λ') X := by
  refine RQ.cps fun P kP => ?_
  unfold f__law_joined b__law_joined
  rw [rq_run (by rfl)]
  simp only [startA, List.map_cons, List.map_nil, List.length_cons, List.length_nil, List.cons_append, List.nil_append, Nat.reduceAdd, Nat.reduceSub, List.replicate]
  refine sq_cut (fun δ Λ' => ∃ n, δ = [some (.ref r), some (.ref s), some (.ref n), none] ∧ Λ <+: Λ' ∧ BkR Λ' n k) (fun N kN => ?_) ?_
  · rw [sq_try, sq_set]
    obtain ⟨d1, g1⟩ := ref_ex hr
    obtain ⟨d2, g2⟩ := ref_ex hs
    simp only [rq_opO, rq_var, List.getElem?_cons_zero, List.getElem?_cons_succ, opO_r g1 g2 lk_m]
    refine (or_ok hr hs hl hm0 hlm hf hf2).and fun v Λ1 ⟨n, e1, e2, e3, e4⟩ => ?_
    subst e1
    exact kN _ _ ⟨n, rfl, e3, e4 k hk.nd hkm⟩
  rintro δ Λ1 ⟨n, rfl, p1, hn⟩
  obtain ⟨d, h1⟩ := ref_ex hn
  simp only [sq_ret, rq_tup, rq_cons, rq_nil, rq_c, rq_att, rq_var, List.getElem?_cons_zero, List.getElem?_cons_succ, att_f h1 lk_f lk_ex, hk.so, List.length_cons, List.length_nil]
  exact ⟨three', kP _ _ ⟨rfl, p1⟩⟩
theorem joined_ex {Λ : AH} {r s : Nat} {l m : List Cell} {X : XQ} (hr : BkR Λ r l) (hs : BkR Λ s m) (hl : l.length ≤ 10000) (hm0 : m.length ≤ 10000) (hlm : 10000 < l.length + (m.filter fun c => !decide (c ∈ l)).length) :
    RQ (f__law_joined [.ref r, .ref s] Λ) (fun v Λ' => v = manyD ∧ Λ <+: Λ') X := by
  refine RQ.cps fun P kP => ?_
  unfold f__law_joined b__law_joined
  rw [rq_run (by rfl)]
  simp only [startA, List.map_cons, List.map_nil, List.length_cons, List.length_nil, List.cons_append, List.nil_append, Nat.reduceAdd, Nat.reduceSub, List.replicate]
  rw [sq_seq, sq_try, sq_set]
  obtain ⟨d1, g1⟩ := ref_ex hr
  obtain ⟨d2, g2⟩ := ref_ex hs
  simp only [rq_opO, rq_var, List.getElem?_cons_zero, List.getElem?_cons_succ, opO_r g1 g2 lk_m]
  refine or_red hr hs hl hm0 fun Λ1 n K p1 h1 h2 h3 => ?_
  refine make_exM (l := K) (.inl (.inl ⟨_, rfl, h1⟩)) (by omega) fun Λ' j e1 e2 => ?_
  rw [show xt_TooMany.lookup ("TooMany" : Str) = some true from rfl]
  dsimp only
  refine ⟨by simp, ?_⟩
  have a1 : ∀ (δ : AEnv) (P : AV → AH → Prop) (X : XQ), RQ (dXisC "TooMany" (some j) it_PlayError δ Λ') P X = P (.bl true) Λ' := fun δ P X => rq_xis rfl e2
  have a2 : ∀ (δ : AEnv) (P : AV → AH → Prop) (X : XQ), RQ (dXisC "TooMany" (some j) it_ValueError δ Λ') P X = P (.bl true) Λ' := fun δ P X => rq_xis rfl e2
  have a4 : ∀ (δ : AEnv) (P : AV → AH → Prop) (X : XQ), RQ (dXfC "TooMany" (some j) cs_most "most" δ Λ') P X = P (.int 10000) Λ' := fun δ P X => rq_xf (by unfold cs_most; simp) e2 rfl
  simp only [sq_ret, rq_tup, rq_cons, rq_nil, rq_c, rq_and, a1, a2, a4, rq_truR, truA_bl, true_implies, Bool.true_eq_false, false_implies, and_true, List.length_cons, List.length_nil]
  exact ⟨three', kP _ _ ⟨rfl, p1.trans e1⟩⟩
theorem same_many : SameR f__law_same manyD manyD := same_3 (Rec := f__law_same_3) (same_str sk_many) (show SameR (runF 2 3 (sameB f__law_same_2)) _ _ from same_ii) (show SameR (runF 2 3 (sameB f__law_same_2)) _ _ from same_t)
theorem gNeY_tt {Λ : AH} {C : List Cell} : gNeY (.tup (cvs C)) (.tup (cvs C)) Λ = some (.bl false, Λ) := by
  rw [gNeY_no rfl]
  unfold gNe
  simp only [toD, toD_cvs, Option.map_some]
  rw [PyData.eqv, eqvAll_dCell, decide_eq_true rfl]
  rfl
theorem gNeY_bank {Λ : AH} {C : List Cell} : gNeY (bankD C) (bankD C) Λ = some (.bl false, Λ) := by
  have e : ∀ k, toD Λ (k + 4) (bankD C) = some (.tuple [.str "bank", .tuple (C.map dCell), .bool true]) := fun k => by
    simp only [bankD, toD, List.map_cons, List.map_nil, sk_bank, if_true, toD_cvs, Option.map_some, allO]
  have e2 : PyData.eqv (.tuple [.str "bank", .tuple (C.map dCell), .bool true]) (.tuple [.str "bank", .tuple (C.map dCell), .bool true]) = true := by
    have h1 : PyData.eqvAll (C.map dCell) (C.map dCell) = true := by rw [eqvAll_dCell, decide_eq_true rfl]
    simp [PyData.eqv, PyData.eqvAll, h1]
  rw [gNeY_no rfl]
  unfold gNe
  simp only [e, e2]
  rfl
/-! ### the block -/
def bk (x y : Int) (k : Nat) : Cell := (x + (0 + (k : Int)) / 100, y + (0 + (k : Int)) % 100)
def bks (x y : Int) (n : Nat) : List Cell := (List.range n).map (bk x y)
theorem bks_mem {x y : Int} {n : Nat} {c : Cell} : c ∈ bks x y n ↔ ∃ k, k < n ∧ bk x y k = c := by
  unfold bks
  rw [List.mem_map]
  simp only [List.mem_range]
theorem bks_good {x y : Int} {n : Nat} (hn : n ≤ 10000) (hx : 0 ≤ x ∧ x ≤ 20) (hy : -110 ≤ y ∧ y ≤ 0) : Good (bks x y n) := by
  have hp : (bks x y n).Pairwise fun a b => a.1 < b.1 ∨ (a.1 = b.1 ∧ a.2 < b.2) := by
    unfold bks
    refine List.Pairwise.map (bk x y) (fun a b hab => ?_) List.pairwise_lt_range
    unfold bk
    dsimp only
    omega
  refine ⟨hp.imp fun {a b} h e => ?_, sortP_eq (hp.imp fun {a b} h => ?_) (List.Perm.refl _), fun c hc => ?_, by unfold bks; rw [List.length_map, List.length_range]; exact hn⟩
  · subst e
    omega
  · rw [leP_iff]
    omega
  · obtain ⟨k, hk, rfl⟩ := bks_mem.mp hc
    rw [far_le]
    unfold bk
    dsimp only
    omega
theorem ix_cc {Λ : AH} {q : Nat} {C : List Cell} {d : Int} (h : Λ[q]? = some (.lst (cvs C))) (h0 : 0 ≤ d) (h1 : d < C.length) : ∃ c ∈ C, gIx (.ref q) (.int d) Λ = some (cv c, Λ) := by
  have hlt : d.toNat < C.length := by omega
  refine ⟨C[d.toNat], List.getElem_mem hlt, ?_⟩
  rw [gIx_ri, h]
  dsimp only
  rw [at_nat h0 (by rw [cvs_len]; omega)]
  unfold cvs
  rw [List.getElem?_map, List.getElem?_eq_getElem hlt]
  rfl
theorem dd_sub3 {a b c : Cell} {C : List Cell} (ha : a ∈ C) (hb : b ∈ C) (hc : c ∈ C) : ∀ x ∈ dd [a, b, c], x ∈ C := fun x hx => by
  rw [dd_mem] at hx
  simp only [List.mem_cons, List.not_mem_nil, or_false] at hx
  rcases hx with rfl | rfl | rfl <;> assumption
theorem plain_one {c : Cell} : plainP [c] = [c] := by
  rw [plain_eq, dd_of_nd (by simp)]
  exact sortP_eq (List.pairwise_singleton _ _) (List.Perm.refl _)
theorem good_one {c : Cell} (h : far c ≤ 120 ∧ 0 ≤ c.1) : Good [c] := by
  rw [← plain_one]
  refine plain_good (fun x hx => ?_) (by simp)
  rw [List.mem_singleton.mp hx]
  exact h
theorem made_rep {n : Nat} {c : Cell} (h0 : 0 < n) (hn : n ≤ 10000) (hc : far c ≤ 120 ∧ 0 ≤ c.1) : madeP (List.replicate n c) = bankD [c] := by
  have om : Off (List.replicate n c) := fun x hx => by
    rw [(List.mem_replicate.mp hx).2]
    exact hc
  have epl : plainP (List.replicate n c) = [c] := by
    rw [← plain_one]
    refine plain_congr fun x => ?_
    rw [List.mem_replicate, List.mem_singleton]
    exact ⟨fun h => h.2, fun h => ⟨by omega, h⟩⟩
  have em := made_bank (l := List.replicate n c) (by rw [List.length_replicate]; omega) om
  rw [epl] at em
  exact em
theorem same_bk1 {c : Cell} : SameR f__law_same (bankD [c]) (bankD [c]) := same_3 (Rec := f__law_same_3) (same_str sk_bank) (show SameR (runF 2 3 (sameB (runF 2 3 (sameB (runF 2 3 (sameB f__law_same_0)))))) _ _ from same_cvs (by simp)) (show SameR (runF 2 3 (sameB f__law_same_2)) _ _ from same_t)
theorem block_ok {Λ : AH} {p : Nat} {X : XQ} (hp : PoolD Λ p) : RQ (f__law_block [.ref p] Λ) (fun v Λ' => v = .bl true ∧ PoolD Λ' p) X := by
  refine RQ.cps fun P kP => ?_
  unfold f__law_block b__law_block
  rw [rq_run (by rfl)]
  simp only [startA, List.map_cons, List.map_nil, List.length_cons, List.length_nil, List.cons_append, List.nil_append, Nat.reduceAdd, Nat.reduceSub, List.replicate]
  refine sq_cut (fun δ Λ' => ∃ x, δ = [some (.ref p), some (.int x), none, none, none, none, none, none, none, none] ∧ (0 ≤ x ∧ x ≤ 20) ∧ PoolD Λ' p) (fun N kN => ?_) ?_
  · simp only [sq_set, rq_call, rq_cons, rq_nil, rq_c, rq_var, List.set_cons_zero, List.set_cons_succ, List.getElem?_cons_zero, List.getElem?_cons_succ, List.append_nil]
    refine (draw_at hp (by omega) (by omega)).and fun v Λ1 ⟨d, e1, e2, e3, e4, e5⟩ => ?_
    subst e1
    exact kN _ _ ⟨d, rfl, by omega, e4⟩
  rintro δ Λ1 ⟨x, rfl, hx, hp1⟩
  refine sq_cut (fun δ Λ' => ∃ y, δ = [some (.ref p), some (.int x), some (.int y), none, none, none, none, none, none, none] ∧ (-110 ≤ y ∧ y ≤ 0) ∧ PoolD Λ' p) (fun N kN => ?_) ?_
  · simp only [sq_set, rq_bin, rq_call, rq_cons, rq_nil, rq_c, rq_var, List.set_cons_zero, List.set_cons_succ, List.getElem?_cons_zero, List.getElem?_cons_succ, List.append_nil]
    refine (draw_at hp1 (by omega) (by omega)).and fun v Λ1 ⟨d, e1, e2, e3, e4, e5⟩ => ?_
    subst e1
    simp only [gSub_ii, oq_some]
    exact kN _ _ ⟨_, rfl, by omega, e4⟩
  rintro δ Λ2 ⟨y, rfl, hy, hp2⟩
  obtain ⟨n, hn⟩ : ∃ n : Nat, (n : Int) = 10000 := ⟨(10000 : Int).toNat, by omega⟩
  obtain ⟨CS, hCS⟩ : ∃ CS, CS = bks x y n := ⟨_, rfl⟩
  have gC : Good CS := hCS ▸ bks_good (by omega) hx hy
  have lC : CS.length = n := by rw [hCS]; unfold bks; rw [List.length_map, List.length_range]
  have hlog := logOk (many := 100) (by omega) (by omega)
  refine sq_cut (fun δ Λ' => ∃ cl o4, δ = [some (.ref p), some (.int x), some (.int y), some (.ref cl), o4, none, none, none, none, none] ∧ PoolD Λ' p ∧ cl ≠ p ∧ Λ'[cl]? = some (.lst (cvs CS))) (fun N kN => ?_) ?_
  · have hp2l := hp2.lt
    simp only [sq_set, rq_lc, rq_rg1, rq_cons, rq_nil, rq_c, rq_rgR1]
    refine ⟨rgOk_of (by omega) (by omega), ?_⟩
    rw [show (10000 : Int).toNat = n from by omega]
    refine rq_lca (List.range n) (fun k => .int (0 + (k : Int))) (fun k => [some (.ref p), some (.int x), some (.int y), none, some (.int (0 + (k : Int))), none, none, none, none, none]) (fun k => cv (bk x y k)) rfl (fun _ _ => rfl) (fun _ => trivial) (fun k _ acc => ?_) (by rw [List.length_range]; exact sz_le (by omega)) ?_
    · simp only [rq_tup, rq_cons, rq_nil, rq_bin, rq_c, rq_var, List.getElem?_cons_zero, List.getElem?_cons_succ, gFdiv_ii, if_pos (And.intro (show (0 : Int) < 100 by omega) hlog), gMod_ii, if_pos (show (0 : Int) < 100 by omega), gAdd_ii, oq_some, List.length_cons, List.length_nil]
      exact ⟨two', by trivial, trivial⟩
    · rw [show (List.range n).map (fun k => cv (bk x y k)) = cvs CS from by rw [hCS]; unfold bks cvs; rw [List.map_map]; rfl]
      exact kN _ _ ⟨_, _, rfl, hp2.pre (List.prefix_append _ _), by omega, by rw [get_new0]; rfl⟩
  rintro δ Λ3 ⟨cl, o4, rfl, hp3, hclp, hcl⟩
  refine sq_cut (fun δ Λ' => ∃ b, δ = [some (.ref p), some (.int x), some (.int y), some (.ref cl), o4, some (.ref b), none, none, none, none] ∧ PoolD Λ' p ∧ Λ'[cl]? = some (.lst (cvs CS)) ∧ BkR Λ' b CS) (fun N kN => ?_) ?_
  · simp only [sq_set, rq_call, rq_cons, rq_nil, rq_var, List.set_cons_zero, List.set_cons_succ, List.getElem?_cons_zero, List.getElem?_cons_succ]
    refine (make_ok (l := CS) (.inl (.inl ⟨_, rfl, hcl⟩)) gC.len gC.off).and fun v Λ4 ⟨e1, e2, e3⟩ => ?_
    subst e1
    rw [good_dd gC] at e3
    exact kN _ _ ⟨_, rfl, hp3.pre e2, get_pre e2 hcl, e3⟩
  rintro δ Λ4 ⟨b, rfl, hp4, hcl, hb⟩
  refine sq_cut (fun δ Λ' => ∃ pa D, δ = [some (.ref p), some (.int x), some (.int y), some (.ref cl), o4, some (.ref b), some (.ref pa), none, none, none] ∧ PoolD Λ' p ∧ Λ'[cl]? = some (.lst (cvs CS)) ∧ BkR Λ' b CS ∧ BkR Λ' pa D ∧ D.length ≤ 3 ∧ ∀ c ∈ D, c ∈ CS) (fun N kN => ?_) ?_
  · simp only [sq_set, rq_call, rq_cons, rq_nil, rq_lst, rq_bin, rq_c, rq_var, List.set_cons_zero, List.set_cons_succ, List.getElem?_cons_zero, List.getElem?_cons_succ, List.append_nil]
    refine (draw_at hp4 (by omega) (by omega)).and fun v Λ5 ⟨d, e1, e2, e3, e4, e5⟩ => ?_
    subst e1
    have hcl5 := e5.get cl hclp _ hcl
    obtain ⟨c1, hc1, ec1⟩ := ix_cc hcl5 e2 (by omega)
    obtain ⟨c2, hc2, ec2⟩ := ix_cc hcl5 (d := 0) (by omega) (by omega)
    obtain ⟨c3, hc3, ec3⟩ := ix_cc hcl5 (d := 9999) (by omega) (by omega)
    simp only [ec1, ec2, ec3, oq_some, List.length_cons, List.length_nil]
    refine ⟨three', ?_⟩
    have hb5 : BkR Λ5 b CS := by
      obtain ⟨rs, h1, _⟩ := hp4
      exact hb.keepsL e5 h1
    refine (make_ok (l := [c1, c2, c3]) (.inl (.inl ⟨_, rfl, by rw [get_new0]; rfl⟩)) (by simp) (fun z hz => ?_)).and fun v Λ6 ⟨u1, u2, u3⟩ => ?_
    · simp only [List.mem_cons, List.not_mem_nil, or_false] at hz
      rcases hz with rfl | rfl | rfl
      · exact gC.off _ hc1
      · exact gC.off _ hc2
      · exact gC.off _ hc3
    · subst u1
      have pp := (List.prefix_append _ _).trans u2
      exact kN _ _ ⟨_, _, rfl, e4.pre pp, get_pre pp hcl5, hb5.pre pp, u3, dd_len [c1, c2, c3], dd_sub3 hc1 hc2 hc3⟩
  rintro δ Λ5 ⟨pa, D, rfl, hp5, hcl, hb, hpa, lD, sD⟩
  obtain ⟨o, ho⟩ : ∃ o : Cell, o = (x + 100, y) := ⟨_, rfl⟩
  have oo : far o ≤ 120 ∧ 0 ≤ o.1 := by
    rw [far_le, ho]
    dsimp only
    omega
  have go : Good [o] := good_one oo
  have no : ¬ o ∈ CS := fun z => by
    rw [hCS, bks_mem] at z
    obtain ⟨k, hk, e⟩ := z
    rw [ho] at e
    have e1 : (bk x y k).1 = x + 100 := by rw [e]
    unfold bk at e1
    dsimp only at e1
    omega
  refine sq_cut (fun δ Λ' => ∃ ou, δ = [some (.ref p), some (.int x), some (.int y), some (.ref cl), o4, some (.ref b), some (.ref pa), some (.ref ou), none, none] ∧ PoolD Λ' p ∧ Λ'[cl]? = some (.lst (cvs CS)) ∧ BkR Λ' b CS ∧ BkR Λ' pa D ∧ BkR Λ' ou [o]) (fun N kN => ?_) ?_
  · simp only [sq_set, rq_call, rq_cons, rq_nil, rq_lst, rq_tup, rq_bin, rq_c, rq_var, List.set_cons_zero, List.set_cons_succ, List.getElem?_cons_zero, List.getElem?_cons_succ, gAdd_ii, oq_some, List.length_cons, List.length_nil]
    refine ⟨two', sz_le (by decide), ?_⟩
    refine (make_ok (l := [o]) (.inl (.inl ⟨_, rfl, by rw [get_new0, ho]; rfl⟩)) (by simp) go.off).and fun v Λ6 ⟨u1, u2, u3⟩ => ?_
    subst u1
    rw [good_dd go] at u3
    have pp := (List.prefix_append _ _).trans u2
    exact kN _ _ ⟨_, rfl, hp5.pre pp, get_pre pp hcl, hb.pre pp, hpa.pre pp, u3⟩
  rintro δ Λ6 ⟨ou, rfl, hp6, hcl, hb, hpa, hou⟩
  refine sq_cut (fun δ Λ' => δ = [some (.ref p), some (.int x), some (.int y), some (.ref cl), o4, some (.ref b), some (.ref pa), some (.ref ou), some (.tup (cvs CS)), none] ∧ Λ' = Λ6) (fun N kN => ?_) ?_
  · simp only [sq_set, rq_pr, rq_cons, rq_nil, rq_var, List.set_cons_zero, List.set_cons_succ, List.getElem?_cons_zero, List.getElem?_cons_succ, gTuple_r, hcl, oq_some]
    exact kN _ _ ⟨rfl, rfl⟩
  rintro δ Λ7 ⟨rfl, e⟩
  rw [e]
  clear e Λ7
  refine sq_cut (fun δ Λ' => δ = [some (.ref p), some (.int x), some (.int y), some (.ref cl), o4, some (.ref b), some (.ref pa), some (.ref ou), some (.tup (cvs CS)), none] ∧ Λ' = Λ6) (fun N kN => ?_) ?_
  · obtain ⟨d, h1⟩ := ref_ex hb
    rw [sq_ifS]
    simp only [rq_orT, rq_notT, rq_tr, rq_tb, rq_un, rq_bin, rq_att, rq_var, List.getElem?_cons_zero, List.getElem?_cons_succ, att_f h1 lk_f lk_ex, gC.so, show ∀ Λ, gIsi (isB "tuple") (.tup (cvs CS)) Λ = some (.bl true, Λ) from fun _ => rfl, oq_some, rq_truR, truA_bl, Bool.not_true, Bool.false_eq_true, false_implies, true_implies, true_and, gNeY_tt, rq_blA, sq_dNx]
    exact kN _ _ ⟨rfl, rfl⟩
  rintro δ Λ7 ⟨rfl, e⟩
  rw [e]
  clear e Λ7
  have f1 : (D.filter fun c => !decide (c ∈ CS)).length = 0 := by
    rw [List.length_eq_zero_iff, List.filter_eq_nil_iff]
    intro c hc
    simp [sD c hc]
  have f2 : ([o].filter fun c => !decide (c ∈ CS)).length = 1 := by
    rw [List.filter_cons, if_pos (by simp [no]), List.filter_nil]
    rfl
  have f3 : (CS.filter fun c => !decide (c ∈ [o])).length = CS.length := by
    rw [List.filter_eq_self.mpr]
    intro c hc
    have : ¬ c = o := fun e => no (e ▸ hc)
    simp [this]
  have lC2 : CS.length = 10000 := by omega
  refine sq_cut (fun δ Λ' => δ = [some (.ref p), some (.int x), some (.int y), some (.ref cl), o4, some (.ref b), some (.ref pa), some (.ref ou), some (.tup (cvs CS)), none] ∧ PoolD Λ' p ∧ BkR Λ' b CS ∧ BkR Λ' ou [o]) (fun N kN => ?_) ?_
  · rw [sq_ifS]
    simp only [rq_tb, rq_bin, rq_call, rq_cons, rq_nil, rq_tup, rq_c, rq_var, List.getElem?_cons_zero, List.getElem?_cons_succ, List.append_nil]
    refine (joined_ok hb hpa (by omega) (by omega) (by omega) gC.off (fun c hc => gC.off c (sD c hc)) gC (fun c => ⟨.inl, fun h => h.elim id (sD c)⟩)).and fun v Λ7 ⟨u1, u2⟩ => ?_
    subst u1
    simp only [List.length_cons, List.length_nil, gNeY_bank, oq_some, rq_blA, Bool.false_eq_true, false_implies, true_implies, true_and, sq_dNx]
    exact ⟨three', kN _ _ ⟨rfl, hp6.pre u2, hb.pre u2, hou.pre u2⟩⟩
  rintro δ Λ7 ⟨rfl, hp7, hb, hou⟩
  refine sq_cut (fun δ Λ' => δ = [some (.ref p), some (.int x), some (.int y), some (.ref cl), o4, some (.ref b), some (.ref pa), some (.ref ou), some (.tup (cvs CS)), none] ∧ PoolD Λ' p ∧ BkR Λ' b CS ∧ BkR Λ' ou [o]) (fun N kN => ?_) ?_
  · rw [sq_ifS]
    simp only [rq_notT, rq_tr, rq_call, rq_cons, rq_nil, rq_tup, rq_c, rq_var, List.getElem?_cons_zero, List.getElem?_cons_succ, List.append_nil]
    refine (joined_ex hb hou (by omega) (by simp) (by omega)).and fun v Λ8 ⟨u1, u2⟩ => ?_
    subst u1
    simp only [List.length_cons, List.length_nil]
    refine ⟨three', same_many.run _ _ _ ?_⟩
    simp only [rq_truR, truA_bl, Bool.not_true, Bool.false_eq_true, false_implies, true_implies, true_and, sq_dNx]
    exact kN _ _ ⟨rfl, hp7.pre u2, hb.pre u2, hou.pre u2⟩
  rintro δ Λ8 ⟨rfl, hp8, hb, hou⟩
  refine sq_cut (fun δ Λ' => δ = [some (.ref p), some (.int x), some (.int y), some (.ref cl), o4, some (.ref b), some (.ref pa), some (.ref ou), some (.tup (cvs CS)), none] ∧ PoolD Λ' p ∧ BkR Λ' b CS ∧ BkR Λ' ou [o]) (fun N kN => ?_) ?_
  · rw [sq_ifS]
    simp only [rq_notT, rq_tr, rq_call, rq_cons, rq_nil, rq_tup, rq_c, rq_var, List.getElem?_cons_zero, List.getElem?_cons_succ, List.append_nil]
    refine (joined_ex hou hb (by simp) (by omega) (by rw [f3]; simp only [List.length_cons, List.length_nil]; omega)).and fun v Λ9 ⟨u1, u2⟩ => ?_
    subst u1
    simp only [List.length_cons, List.length_nil]
    refine ⟨three', same_many.run _ _ _ ?_⟩
    simp only [rq_truR, truA_bl, Bool.not_true, Bool.false_eq_true, false_implies, true_implies, true_and, sq_dNx]
    exact kN _ _ ⟨rfl, hp8.pre u2, hb.pre u2, hou.pre u2⟩
  rintro δ Λ9 ⟨rfl, hp9, hb, hou⟩
  refine sq_cut (fun δ Λ' => δ = [some (.ref p), some (.int x), some (.int y), some (.ref cl), o4, some (.ref b), some (.ref pa), some (.ref ou), some (.tup (cvs CS)), none] ∧ PoolD Λ' p ∧ BkR Λ' b CS ∧ BkR Λ' ou [o]) (fun N kN => ?_) ?_
  · rw [sq_ifS]
    simp only [rq_notT, rq_tr, rq_call, rq_cons, rq_nil, rq_bin, rq_lst, rq_tup, rq_c, rq_var, List.getElem?_cons_zero, List.getElem?_cons_succ, List.append_nil, List.length_cons, List.length_nil]
    refine ⟨two', sz_le (by decide), ?_⟩
    obtain ⟨c0, hc0⟩ : ∃ c0 : Cell, c0 = (x, y) := ⟨_, rfl⟩
    have fc0 : far c0 ≤ 120 ∧ 0 ≤ c0.1 := by rw [far_le, hc0]; dsimp only; omega
    have ec0 : AV.tup [.int x, .int y] = cv c0 := by rw [hc0]
    rw [ec0]
    clear ec0 hc0
    refine mul_cc (c := c0) (by rw [get_new0]; rfl) (by omega) (by omega) ?_
    have hRR := made_rep (n := n) (c := c0) (by omega) (by omega) fc0
    rw [show (10000 : Int).toNat = n from by omega]
    generalize List.replicate n c0 = RR at *
    refine (made_ok (l := RR) (.inl (.inl ⟨_, rfl, by rw [get_new0]; rfl⟩))).and fun v Λ10 ⟨u1, u2⟩ => ?_
    subst u1
    rw [show madeP RR = AV.tup [.str "bank", .tup (cvs [c0]), .bl true] from hRR]
    have pp := ((List.prefix_append _ _).trans (List.prefix_append _ _)).trans u2
    have fin := kN _ _ ⟨rfl, hp9.pre pp, hb.pre pp, hou.pre pp⟩
    clear kN u2 pp
    refine ⟨two', sz_le (Nat.le_of_ble_eq_true rfl), three', ?_⟩
    rw [show [cv c0] = cvs [c0] from rfl]
    have h0 : SameR f__law_same (.tup [.str "bank", .tup (cvs [c0]), .bl true]) (.tup [.str "bank", .tup (cvs [c0]), .bl true]) := same_bk1
    generalize AV.tup [.str "bank", .tup (cvs [c0]), .bl true] = D at h0 ⊢
    refine h0.run _ _ _ ?_
    simp only [rq_truR, truA_bl, Bool.not_true, Bool.false_eq_true, false_implies, true_implies, true_and, sq_dNx]
    exact fin
  rintro δ Λ10 ⟨rfl, hp10, hb, hou⟩
  refine sq_cut (fun δ Λ' => ∃ le, δ = [some (.ref p), some (.int x), some (.int y), some (.ref cl), o4, some (.ref b), some (.ref pa), some (.ref ou), some (.tup (cvs CS)), some (.ref le)] ∧ PoolD Λ' p ∧ BkR Λ' b CS ∧ BkR Λ' ou [o] ∧ BkR Λ' le []) (fun N kN => ?_) ?_
  · obtain ⟨d1, g1⟩ := ref_ex hb
    obtain ⟨d2, g2⟩ := ref_ex hou
    simp only [sq_set, rq_opO, rq_var, List.set_cons_zero, List.set_cons_succ, List.getElem?_cons_zero, List.getElem?_cons_succ, opO_r g1 g2 lk_m]
    refine (and_ok hb hou (by omega) gC.off).and fun v Λ11 ⟨le, u1, u2, u3, u4⟩ => ?_
    subst u1
    refine kN _ _ ⟨le, rfl, hp10.pre u3, hb.pre u3, hou.pre u3, u4 [] List.nodup_nil fun c => ⟨(fun h => by cases h), fun h => ?_⟩⟩
    rw [List.mem_singleton] at h
    exact absurd (h.2 ▸ h.1) no
  rintro δ Λ11 ⟨le, rfl, hp11, hb, hou, hle⟩
  refine sq_cut (fun δ Λ' => δ = [some (.ref p), some (.int x), some (.int y), some (.ref cl), o4, some (.ref b), some (.ref pa), some (.ref ou), some (.tup (cvs CS)), some (.ref le)] ∧ Λ' = Λ11) (fun N kN => ?_) ?_
  · obtain ⟨d1, g1⟩ := ref_ex hb
    obtain ⟨d2, g2⟩ := ref_ex hou
    rw [sq_ifS]
    simp only [rq_orT, rq_tb, rq_bin, rq_att, rq_tup, rq_cons, rq_nil, rq_c, rq_var, List.getElem?_cons_zero, List.getElem?_cons_succ, att_f g1 lk_f lk_ex, att_f g2 lk_f lk_ex, gC.so, go.so, gNeY_tt, gAdd_ii, oq_some, rq_blA, Bool.false_eq_true, false_implies, true_implies, true_and, List.length_cons, List.length_nil]
    refine ⟨two', sz_le (by decide), ?_⟩
    rw [show [AV.tup [.int (x + 100), .int y]] = cvs [o] from by rw [ho]; rfl, gNeY_tt]
    simp only [oq_some, rq_blA, Bool.false_eq_true, false_implies, true_implies, true_and, sq_dNx]
    exact kN _ _ ⟨rfl, rfl⟩
  rintro δ Λ12 ⟨rfl, e⟩
  rw [e]
  clear e Λ12
  obtain ⟨d3, g3⟩ := ref_ex hle
  simp only [sq_ret, rq_call, rq_cons, rq_nil, rq_att, rq_tup, rq_var, List.getElem?_cons_zero, List.getElem?_cons_succ, att_f g3 lk_f lk_ex, good_nil.so, List.append_nil, List.length_nil]
  refine ⟨Nat.zero_le _, ?_⟩
  exact same_c (l := []) (by simp) (kP _ _ ⟨rfl, hp11⟩)
theorem law_ok {ns : List Int} {X : XQ} (hn : ns.length ≤ 63) : RQ (f_law [.cl (ns.map .int)] []) (fun v _ => v = .bl true) X := by
  refine RQ.cps fun P kP => ?_
  unfold f_law b_law
  rw [rq_run (by rfl)]
  simp only [startA, List.map_cons, List.map_nil, List.length_cons, List.length_nil, List.cons_append, List.nil_append, Nat.reduceAdd, Nat.reduceSub, List.replicate]
  generalize hs0 : AV.cl (ns.map .int) = s0
  refine sq_cut (fun δ Λ' => ∃ p, δ = [some s0, some (.ref p), none, none, none, none, none, none, none, none] ∧ PoolD Λ' p) (fun N kN => ?_) ?_
  · simp only [sq_set]
    refine drawn_pool (n := 0) hn (by rw [← hs0]; rfl) (fun _ => rfl) fun Λ' p hp => ?_
    exact kN _ _ ⟨p, rfl, hp⟩
  rintro δ Λ1 ⟨p, rfl, hp1⟩
  refine sq_cut (fun δ Λ' => δ = [some s0, some (.ref p), none, none, none, none, none, none, none, none] ∧ PoolD Λ' p) (fun N kN => ?_) ?_
  · rw [sq_ifS]
    simp only [rq_andT, rq_notT, rq_tr, rq_tb, rq_bin, rq_call, rq_cons, rq_nil, rq_c, rq_var, List.getElem?_cons_zero, List.getElem?_cons_succ, List.append_nil]
    refine (draw_at hp1 (by omega) (by omega)).and fun v Λ2 ⟨d, e1, e2, e3, e4, e5⟩ => ?_
    subst e1
    simp only [gEqY_ii, oq_some, rq_blA]
    refine ⟨fun _ => ?_, fun _ => ⟨(fun z => by cases z), fun _ => by rw [sq_dNx]; exact kN _ _ ⟨rfl, e4⟩⟩⟩
    refine (block_ok e4).and fun v Λ3 ⟨u1, u2⟩ => ?_
    subst u1
    simp only [rq_truR, truA_bl, Bool.not_true, Bool.false_eq_true, false_implies, true_implies, true_and, sq_dNx]
    exact kN _ _ ⟨rfl, u2⟩
  rintro δ Λ2 ⟨rfl, hp2⟩
  refine sq_cut (fun δ Λ' => ∃ f F, δ = [some s0, some (.ref p), none, some (.ref f), none, none, none, none, none, none] ∧ PoolD Λ' p ∧ Λ'[f]? = some (.lst (cvs F)) ∧ f ≠ p ∧ F.length ≤ 14 ∧ Win 5 F) (fun N kN => ?_) ?_
  · simp only [sq_set, rq_call, rq_cons, rq_nil, rq_c, rq_bin, rq_var, List.set_cons_zero, List.set_cons_succ, List.getElem?_cons_zero, List.getElem?_cons_succ, List.append_nil]
    refine (draw_at hp2 (by omega) (by omega)).and fun v Λ3 ⟨d, e1, e2, e3, e4, e5⟩ => ?_
    subst e1
    simp only [gAdd_ii, oq_some, gMod_ii, if_pos (show (0 : Int) < 15 by omega)]
    refine (lot_ok e4 (Int.emod_nonneg _ (by omega)) (Int.emod_lt_of_pos _ (by omega)) (by omega) (by omega)).and fun v Λ4 ⟨q, l, w1, w2, w3, w4, w5, w6, w7⟩ => ?_
    subst w1
    exact kN _ _ ⟨q, l, rfl, w3, w5, by have := e4.lt; omega, w6, w7⟩
  rintro δ Λ3 ⟨f, F, rfl, hp3, hf, hfp, lF, wF⟩
  have oF : Off F := win_off wF (by omega)
  refine sq_cut (fun δ Λ' => ∃ g E, δ = [some s0, some (.ref p), none, some (.ref f), some (.ref g), none, none, none, none, none] ∧ PoolD Λ' p ∧ Λ'[f]? = some (.lst (cvs F)) ∧ Λ'[g]? = some (.lst (cvs E)) ∧ g ≠ p ∧ E.length ≤ 28 ∧ Off E) (fun N kN => ?_) ?_
  · simp only [sq_set, rq_call, rq_cons, rq_nil, rq_var, List.set_cons_zero, List.set_cons_succ, List.getElem?_cons_zero, List.getElem?_cons_succ, List.append_nil]
    refine (second_ok hp3 hf hfp lF wF).and fun v Λ4 ⟨q, l, w1, w2, w3, w4, w5, w6, w7⟩ => ?_
    subst w1
    exact kN _ _ ⟨q, l, rfl, w2, w3.get f hfp _ hf, w4, w5, w6, w7⟩
  rintro δ Λ4 ⟨g, E, rfl, hp4, hf, hg, hgp, lE, oE⟩
  have gA : Good (plainP F) := plain_good oF (by omega)
  have gB : Good (plainP E) := plain_good oE (by omega)
  have lA := plain_len F
  have lB := plain_len E
  refine sq_cut (fun δ Λ' => ∃ n1, δ = [some s0, some (.ref p), none, some (.ref f), some (.ref g), some (.ref n1), none, none, none, none] ∧ PoolD Λ' p ∧ Λ'[f]? = some (.lst (cvs F)) ∧ Λ'[g]? = some (.lst (cvs E)) ∧ Λ'[n1]? = some (.lst (cvs (plainP F))) ∧ n1 ≠ p) (fun N kN => ?_) ?_
  · simp only [sq_set, rq_call, rq_cons, rq_nil, rq_var, List.set_cons_zero, List.set_cons_succ, List.getElem?_cons_zero, List.getElem?_cons_succ, List.append_nil]
    refine (plain_at hf (by omega)).and fun v Λ5 ⟨q, e1, e2, e3, e4⟩ => ?_
    subst e1
    exact kN _ _ ⟨q, rfl, hp4.pre e3, get_pre e3 hf, get_pre e3 hg, e4, by have := hp4.lt; omega⟩
  rintro δ Λ5 ⟨n1, rfl, hp5, hf, hg, h1, h1p⟩
  refine sq_cut (fun δ Λ' => ∃ n2, δ = [some s0, some (.ref p), none, some (.ref f), some (.ref g), some (.ref n1), some (.ref n2), none, none, none] ∧ PoolD Λ' p ∧ Λ'[f]? = some (.lst (cvs F)) ∧ Λ'[g]? = some (.lst (cvs E)) ∧ Λ'[n1]? = some (.lst (cvs (plainP F))) ∧ Λ'[n2]? = some (.lst (cvs (plainP E))) ∧ n2 ≠ p) (fun N kN => ?_) ?_
  · simp only [sq_set, rq_call, rq_cons, rq_nil, rq_var, List.set_cons_zero, List.set_cons_succ, List.getElem?_cons_zero, List.getElem?_cons_succ, List.append_nil]
    refine (plain_at hg (by omega)).and fun v Λ6 ⟨q, e1, e2, e3, e4⟩ => ?_
    subst e1
    exact kN _ _ ⟨q, rfl, hp5.pre e3, get_pre e3 hf, get_pre e3 hg, get_pre e3 h1, e4, by have := hp5.lt; omega⟩
  rintro δ Λ6 ⟨n2, rfl, hp6, hf, hg, h1, h2, h2p⟩
  refine sq_cut (fun δ Λ' => ∃ h, δ = [some s0, some (.ref p), none, some (.ref f), some (.ref g), some (.ref n1), some (.ref n2), some (.ref h), none, none] ∧ PoolD Λ' p ∧ Λ'[f]? = some (.lst (cvs F)) ∧ Λ'[g]? = some (.lst (cvs E)) ∧ Λ'[n1]? = some (.lst (cvs (plainP F))) ∧ Λ'[n2]? = some (.lst (cvs (plainP E))) ∧ Λ'[h]? = some (.lst (cvs F)) ∧ (h ≠ p ∧ h ≠ f ∧ h ≠ n1 ∧ h ≠ n2)) (fun N kN => ?_) ?_
  · have b1 := hp6.lt
    have b2 := get_lt hf
    have b3 := get_lt h1
    have b4 := get_lt h2
    simp only [sq_set, rq_pr, rq_cons, rq_nil, rq_var, List.set_cons_zero, List.set_cons_succ, List.getElem?_cons_zero, List.getElem?_cons_succ, gList_r, hf, oq_some]
    have pp := List.prefix_append Λ6 [AO.lst (cvs F)]
    exact kN _ _ ⟨_, rfl, hp6.pre pp, get_pre pp hf, get_pre pp hg, get_pre pp h1, get_pre pp h2, by rw [get_new0]; rfl, by omega, by omega, by omega, by omega⟩
  rintro δ Λ7 ⟨h, rfl, hp7, hf, hg, h1, h2, hh, hhp, hhf, hh1, hh2⟩
  refine sq_cut (fun δ Λ' => ∃ b, δ = [some s0, some (.ref p), none, some (.ref f), some (.ref g), some (.ref n1), some (.ref n2), some (.ref h), some (.ref b), none] ∧ PoolD Λ' p ∧ Λ'[f]? = some (.lst (cvs F)) ∧ Λ'[g]? = some (.lst (cvs E)) ∧ Λ'[n1]? = some (.lst (cvs (plainP F))) ∧ Λ'[n2]? = some (.lst (cvs (plainP E))) ∧ Λ'[h]? = some (.lst (cvs F)) ∧ BkR Λ' b (plainP F)) (fun N kN => ?_) ?_
  · simp only [sq_set, rq_call, rq_cons, rq_nil, rq_var, List.set_cons_zero, List.set_cons_succ, List.getElem?_cons_zero, List.getElem?_cons_succ]
    refine (make_ok (l := F) (.inl (.inl ⟨_, rfl, hh⟩)) (by omega) oF).and fun v Λ8 ⟨e1, e2, e3⟩ => ?_
    subst e1
    exact kN _ _ ⟨_, rfl, hp7.pre e2, get_pre e2 hf, get_pre e2 hg, get_pre e2 h1, get_pre e2 h2, get_pre e2 hh, e3.congr gA.nd fun x => by rw [dd_mem, plain_mem]⟩
  rintro δ Λ8 ⟨b, rfl, hp8, hf, hg, h1, h2, hh, hb⟩
  refine sq_cut (fun δ Λ' => ∃ o, δ = [some s0, some (.ref p), none, some (.ref f), some (.ref g), some (.ref n1), some (.ref n2), some (.ref h), some (.ref b), some (.ref o)] ∧ PoolD Λ' p ∧ Λ'[f]? = some (.lst (cvs F)) ∧ Λ'[n1]? = some (.lst (cvs (plainP F))) ∧ Λ'[n2]? = some (.lst (cvs (plainP E))) ∧ Λ'[h]? = some (.lst (cvs F)) ∧ BkR Λ' b (plainP F) ∧ BkR Λ' o (plainP E)) (fun N kN => ?_) ?_
  · simp only [sq_set, rq_call, rq_pr, rq_cons, rq_nil, rq_var, List.set_cons_zero, List.set_cons_succ, List.getElem?_cons_zero, List.getElem?_cons_succ, gTuple_r, hg, oq_some]
    refine (make_ok (l := E) (.inl (.inr rfl)) (by omega) oE).and fun v Λ9 ⟨e1, e2, e3⟩ => ?_
    subst e1
    exact kN _ _ ⟨_, rfl, hp8.pre e2, get_pre e2 hf, get_pre e2 h1, get_pre e2 h2, get_pre e2 hh, hb.pre e2, e3.congr gB.nd fun x => by rw [dd_mem, plain_mem]⟩
  rintro δ Λ9 ⟨o, rfl, hp9, hf, h1, h2, hh, hb, ho⟩
  refine sq_cut (fun δ Λ' => δ = [some s0, some (.ref p), none, some (.ref f), some (.ref g), some (.ref n1), some (.ref n2), some (.ref h), some (.ref b), some (.ref o)] ∧ Λ' = Λ9) (fun N kN => ?_) ?_
  · rw [sq_ifS]
    simp only [rq_tb, rq_bin, rq_var, List.getElem?_cons_zero, List.getElem?_cons_succ, gNeY_cvs hh hf, decide_true, Bool.not_true, oq_some, rq_blA, Bool.false_eq_true, false_implies, true_implies, true_and, sq_dNx]
    exact kN _ _ ⟨rfl, rfl⟩
  rintro δ Λ10 ⟨rfl, e⟩
  rw [e]
  clear e Λ10
  have ST : ∀ {Λ1 Λ2 : AH} {xs : List AV}, Λ1[h]? = some (.lst xs) → Keeps h Λ1 Λ2 → PoolD Λ1 p → Λ1[f]? = some (.lst (cvs F)) → Λ1[n1]? = some (.lst (cvs (plainP F))) → Λ1[n2]? = some (.lst (cvs (plainP E))) → BkR Λ1 b (plainP F) → BkR Λ1 o (plainP E) →
      PoolD Λ2 p ∧ Λ2[f]? = some (.lst (cvs F)) ∧ Λ2[n1]? = some (.lst (cvs (plainP F))) ∧ Λ2[n2]? = some (.lst (cvs (plainP E))) ∧ BkR Λ2 b (plainP F) ∧ BkR Λ2 o (plainP E) := fun {Λ1 Λ2 xs} a k c1 c2 c3 c4 c5 c6 =>
    ⟨let ⟨rs, rr1, rr2⟩ := c1; ⟨rs, k.get p (Ne.symm hhp) _ rr1, rr2⟩, k.get f (Ne.symm hhf) _ c2, k.get n1 (Ne.symm hh1) _ c3, k.get n2 (Ne.symm hh2) _ c4, c5.keepsL k a, c6.keepsL k a⟩
  refine sq_cut (fun δ Λ' => δ = [some s0, some (.ref p), none, some (.ref f), some (.ref g), some (.ref n1), some (.ref n2), some (.ref h), some (.ref b), some (.ref o)] ∧ Λ'[h]? = some (.lst (cvs F.reverse)) ∧ PoolD Λ' p ∧ Λ'[f]? = some (.lst (cvs F)) ∧ Λ'[n1]? = some (.lst (cvs (plainP F))) ∧ Λ'[n2]? = some (.lst (cvs (plainP E))) ∧ BkR Λ' b (plainP F) ∧ BkR Λ' o (plainP E)) (fun N kN => ?_) ?_
  · simp only [sq_ex_, rq_mt, rq_nil, rq_var, List.getElem?_cons_zero, List.getElem?_cons_succ, gReverse, hh, oq_some]
    refine ⟨by rw [tyA_r, hh]; rfl, kN _ _ ⟨rfl, by rw [get_set hh]; simp [cvs], ST hh set_keeps hp9 hf h1 h2 hb ho⟩⟩
  rintro δ Λ10 ⟨rfl, hh, hp10, hf, h1, h2, hb, ho⟩
  refine sq_cut (fun δ Λ' => δ = [some s0, some (.ref p), none, some (.ref f), some (.ref g), some (.ref n1), some (.ref n2), some (.ref h), some (.ref b), some (.ref o)] ∧ PoolD Λ' p ∧ Λ'[f]? = some (.lst (cvs F)) ∧ Λ'[n1]? = some (.lst (cvs (plainP F))) ∧ Λ'[n2]? = some (.lst (cvs (plainP E))) ∧ BkR Λ' b (plainP F) ∧ BkR Λ' o (plainP E)) (fun N kN => ?_) ?_
  · have hz : (cvs F.reverse).length < sizeLine := by rw [cvs_len, List.length_reverse]; exact sz_lt (by omega)
    simp only [sq_ex_, rq_mt, rq_cons, rq_nil, rq_tup, rq_c, rq_var, List.getElem?_cons_zero, List.getElem?_cons_succ, gAppend_r, hh, if_pos hz, oq_some, List.length_cons, List.length_nil]
    exact ⟨by rw [tyA_r, hh]; rfl, two', kN _ _ ⟨rfl, ST hh set_keeps hp10 hf h1 h2 hb ho⟩⟩
  rintro δ Λ11 ⟨rfl, hp11, hf, h1, h2, hb, ho⟩
  refine sq_cut (fun δ Λ' => δ = [some s0, some (.ref p), none, some (.ref f), some (.ref g), some (.ref n1), some (.ref n2), some (.ref h), some (.ref b), some (.ref o)] ∧ PoolD Λ' p ∧ Λ'[f]? = some (.lst (cvs F)) ∧ Λ'[n1]? = some (.lst (cvs (plainP F))) ∧ Λ'[n2]? = some (.lst (cvs (plainP E))) ∧ BkR Λ' b (plainP F) ∧ BkR Λ' o (plainP E)) (fun N kN => ?_) ?_
  · rw [sq_ifS]
    simp only [rq_orT, rq_notT, rq_tr, rq_call, rq_cons, rq_nil, rq_att, rq_lst, rq_tup, rq_var, List.getElem?_cons_zero, List.getElem?_cons_succ, List.append_nil, List.length_nil]
    refine ⟨Nat.zero_le _, ?_⟩
    refine (make_ok (l := []) (.inl (.inl ⟨_, rfl, by rw [get_new0]; rfl⟩)) (by simp) (fun c hc => by cases hc)).and fun v Λ12 ⟨e1, e2, e3⟩ => ?_
    subst e1
    obtain ⟨d, hd⟩ := ref_ex e3
    have ed : sortP (dd ([] : List Cell)) = [] := by decide +kernel
    simp only [att_f hd lk_f lk_ex, ed]
    refine ⟨Nat.zero_le _, ?_⟩
    refine same_c (l := []) (by simp) ?_
    simp only [rq_truR, truA_bl, Bool.not_true, Bool.false_eq_true, false_implies, true_implies, true_and]
    have pp := (List.prefix_append _ _).trans e2
    refine (pair_ok (hb.pre pp) (ho.pre pp) (get_pre pp h1) (get_pre pp h2) gA gB (by omega) (by omega)).and fun v Λ13 ⟨u1, u2⟩ => ?_
    subst u1
    simp only [rq_truR, truA_bl, Bool.not_true, Bool.false_eq_true, false_implies, true_implies, true_and, sq_dNx]
    have p2 := pp.trans u2
    exact kN _ _ ⟨rfl, hp11.pre p2, get_pre p2 hf, get_pre p2 h1, get_pre p2 h2, hb.pre p2, ho.pre p2⟩
  rintro δ Λ12 ⟨rfl, hp12, hf, h1, h2, hb, ho⟩
  simp only [sq_ret, rq_and, rq_call, rq_cons, rq_nil, rq_var, List.getElem?_cons_zero, List.getElem?_cons_succ, List.append_nil]
  refine (refusals_ok hp12 hf hfp lF oF).and fun v Λ13 ⟨u1, u2⟩ => ?_
  subst u1
  simp only [rq_truR, truA_bl, true_implies, Bool.true_eq_false, false_implies, and_true]
  have hb13 : BkR Λ13 b (plainP F) := by
    obtain ⟨rs, h1, _⟩ := hp12
    exact hb.keepsL u2 h1
  have ho13 : BkR Λ13 o (plainP E) := by
    obtain ⟨rs, h1, _⟩ := hp12
    exact ho.keepsL u2 h1
  refine (pair_ok hb13 ho13 (u2.get n1 h1p _ h1) (u2.get n2 h2p _ h2) gA gB (by omega) (by omega)).and fun v Λ14 ⟨w1, w2⟩ => ?_
  subst w1
  exact kP _ _ rfl
theorem pure_ok (ns : List Int) (hn : ns.length ≤ 63) : ∃ Λ', f_law [.cl (ns.map .int)] [] = .ok (.bl true) Λ' := by
  obtain ⟨v, Λ', e, rfl⟩ := (law_ok (X := X0) hn).get
  exact ⟨Λ', e⟩
end Lk34
theorem PySem.Challenge.cw_neverpenned_k34_banks_holds : PySem.Challenge.rw_neverpenned_k34_banks.Holds :=
  Lk34_end Lk34.pure_ok

