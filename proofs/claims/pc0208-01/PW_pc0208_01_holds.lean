import PyProof.Rows.All
import Wide.All
import OpenK.AllK
import Wide.FinOn
import KE.KDictOf
import KE.KRevSl
import KE.KPop
import OpenK.KWalk
import PyProof.WalksMore
import PyProof.Rows.ZipGen
import KE.KIntText
import Open.Boot
import Open.Tree
import Lean
import PySem.Challenge.RW_pc0208_01
noncomputable section
open PySem PySem.W PyProof.Rows
set_option Elab.async false
set_option maxRecDepth 100000
namespace Mine

/-- values without addresses: a tuple is its items; a mutable thing is a place in the store -/
inductive AV where
  | none
  | bool (b : Bool)
  | int (i : Int)
  | str (s : Str)
  | tup (l : List AV)
  | ref (i : Nat)
  | val (v : Value)

inductive Cell where
  | lst (l : List AV)
  | edct
  | sdct (l : List (Str × AV))
  | idct (l : List (Int × AV))
  | attrs (l : List (Str × AV))
  | inst (C : Addr) (d : Nat)
  | rol (vs : Array Value) (n : Nat)

noncomputable abbrev Loc := List (Str × AV)
noncomputable abbrev Sto := List Cell

noncomputable def setL : Loc → Str → AV → Loc
  | [], x, v => [(x, v)]
  | (y, w) :: r, x, v => if x == y then (x, v) :: r else (y, w) :: setL r x v

theorem lookup_setL (x y : Str) (v : AV) : ∀ ρ : Loc, (setL ρ x v).lookup y = if y = x then some v else ρ.lookup y
  | [] => by
    unfold setL
    by_cases h : y = x
    · subst h; simp
    · have : (y == x) = false := beq_eq_false_iff_ne.mpr h
      simp [List.lookup_cons, this, h]
  | (z, w) :: r => by
    unfold setL
    have ih := lookup_setL x y v r
    by_cases hxz : x = z
    · subst hxz
      simp only [beq_self_eq_true, if_true]
      by_cases h : y = x
      · subst h; simp
      · have : (y == x) = false := beq_eq_false_iff_ne.mpr h
        simp [List.lookup_cons, this, h]
    · have h1 : (x == z) = false := beq_eq_false_iff_ne.mpr hxz
      simp only [h1, Bool.false_eq_true, if_false]
      by_cases h : y = z
      · subst h
        have : ¬ y = x := fun e => hxz e.symm
        simp [this]
      · have h2 : (y == z) = false := beq_eq_false_iff_ne.mpr h
        simp only [List.lookup_cons, h2]
        exact ih

mutual
noncomputable def rep (X : List Addr) (h : Heap) (α : List Addr) : AV → Value → Prop
  | .none, v => v = .none
  | .bool b, v => v = .bool b
  | .int i, v => ∃ t, v = .int i t
  | .str s, v => ∃ t, v = .str s t
  | .tup l, v => ∃ a vs n, v = .ref a ∧ a ∉ X ∧ IsT h a vs n ∧ reps X h α l vs.toList
  | .ref i, v => ∃ a, α[i]? = some a ∧ v = .ref a
  | .val w, v => v = w
noncomputable def reps (X : List Addr) (h : Heap) (α : List Addr) : List AV → List Value → Prop
  | [], vs => vs = []
  | x :: l, vs => ∃ v vs', vs = v :: vs' ∧ rep X h α x v ∧ reps X h α l vs'
end

noncomputable def TupKeep (X : List Addr) (h h' : Heap) : Prop := ∀ a vs n, a ∉ X → IsT h a vs n → IsT h' a vs n

section
variable {X : List Addr} {h h' : Heap} {α α' : List Addr}
mutual
theorem rep_mono (hk : TupKeep X h h') (he : ∃ β, α' = α ++ β) : ∀ (x : AV) (v : Value), rep X h α x v → rep X h' α' x v
  | .none, _, r => by simpa [rep] using r
  | .bool _, _, r => by simpa [rep] using r
  | .int _, _, r => by simpa [rep] using r
  | .str _, _, r => by simpa [rep] using r
  | .tup l, v, r => by
    simp only [rep] at r ⊢
    obtain ⟨a, vs, n, e, x, t, q⟩ := r
    exact ⟨a, vs, n, e, x, hk _ _ _ x t, reps_mono hk he l _ q⟩
  | .ref i, v, r => by
    simp only [rep] at r ⊢
    obtain ⟨a, e, q⟩ := r
    obtain ⟨β, rfl⟩ := he
    refine ⟨a, ?_, q⟩
    have : i < α.length := (List.getElem?_eq_some_iff.mp e).1
    rw [List.getElem?_append_left this]; exact e
  | .val _, _, r => by simpa [rep] using r
theorem reps_mono (hk : TupKeep X h h') (he : ∃ β, α' = α ++ β) : ∀ (l : List AV) (vs : List Value), reps X h α l vs → reps X h' α' l vs
  | [], _, r => by simpa [reps] using r
  | x :: l, vs, r => by
    simp only [reps] at r ⊢
    obtain ⟨v, vs', e, q, p⟩ := r
    exact ⟨v, vs', e, rep_mono hk he x v q, reps_mono hk he l vs' p⟩
end
theorem reps_length : ∀ (l : List AV) (vs : List Value), reps X h α l vs → l.length = vs.length
  | [], vs, r => by simp only [reps] at r; subst r; rfl
  | x :: l, vs, r => by
    simp only [reps] at r
    obtain ⟨v, vs', e, q, p⟩ := r
    subst e
    simp [reps_length l vs' p]
theorem reps_get : ∀ (l : List AV) (vs : List Value), reps X h α l vs → ∀ (i : Nat) (x : AV), l[i]? = some x → ∃ v, vs[i]? = some v ∧ rep X h α x v
  | [], vs, r, i, x, e => by simp at e
  | y :: l, vs, r, i, x, e => by
    simp only [reps] at r
    obtain ⟨v, vs', e', q, p⟩ := r
    subst e'
    cases i with
    | zero => simp at e; subst e; exact ⟨v, by simp, q⟩
    | succ i => simp at e; obtain ⟨w, e1, e2⟩ := reps_get l vs' p i x e; exact ⟨w, by simpa using e1, e2⟩
theorem reps_append : ∀ (l : List AV) (vs : List Value) (l' : List AV) (vs' : List Value), reps X h α l vs → reps X h α l' vs' → reps X h α (l ++ l') (vs ++ vs')
  | [], vs, l', vs', r, r' => by simp only [reps] at r; subst r; simpa using r'
  | x :: l, vs, l', vs', r, r' => by
    simp only [reps] at r
    obtain ⟨v, ws, e, q, p⟩ := r
    subst e
    simp only [List.cons_append, reps]
    exact ⟨v, ws ++ vs', rfl, q, reps_append l ws l' vs' p r'⟩
theorem reps_drop : ∀ (k : Nat) (l : List AV) (vs : List Value), reps X h α l vs → reps X h α (l.drop k) (vs.drop k)
  | 0, l, vs, r => by simpa using r
  | k + 1, [], vs, r => by simp only [reps] at r; subst r; simp [reps]
  | k + 1, x :: l, vs, r => by
    simp only [reps] at r
    obtain ⟨v, ws, e, q, p⟩ := r
    subst e
    simpa using reps_drop k l ws p
theorem reps_take : ∀ (k : Nat) (l : List AV) (vs : List Value), reps X h α l vs → reps X h α (l.take k) (vs.take k)
  | 0, l, vs, r => by simp [reps]
  | k + 1, [], vs, r => by simp only [reps] at r; subst r; simp [reps]
  | k + 1, x :: l, vs, r => by
    simp only [reps] at r
    obtain ⟨v, ws, e, q, p⟩ := r
    subst e
    simp only [List.take_succ_cons, reps]
    exact ⟨v, _, rfl, q, reps_take k l ws p⟩
theorem reps_single (x : AV) (v : Value) (q : rep X h α x v) : reps X h α [x] [v] := by simp only [reps]; exact ⟨v, [], rfl, q, rfl⟩
theorem reps_reverse : ∀ (l : List AV) (vs : List Value), reps X h α l vs → reps X h α l.reverse vs.reverse
  | [], vs, r => by simp only [reps] at r; subst r; simp [reps]
  | x :: l, vs, r => by
    simp only [reps] at r
    obtain ⟨v, ws, e, q, p⟩ := r
    subst e
    simp only [List.reverse_cons]
    exact reps_append _ _ _ _ (reps_reverse l ws p) (reps_single x v q)
end

/-- what is fixed for the whole of a call of the law -/
structure Cx where
  prog : Program
  w : World
  h₀ : Heap
  mg : Str → Option Value
  mb : Str → Option Value
  g : h₀.Ns mainGlobals mg
  b : h₀.Ns builtinsNs mb
  nl : h₀.NoLimit
  nd : ∃ mc, h₀.Ns cStatics mc ∧ mc "sys.int_max_str_digits" = none
  bt : ∀ x : Str, x ≠ "__name__" → mb x = bootBuiltins x
  K : Frag
  X : K.In h₀
  ban : List Addr
  banNew : ∀ b ∈ ban, h₀.get? b = none
  sm : h₀.get? sysModules ≠ none

noncomputable def repd {K : Type} (X : List Addr) (h : Heap) (α : List Addr) : List (K × AV) → List (K × Value) → Prop
  | [], kvs => kvs = []
  | (k, av) :: l, kvs => ∃ v r, kvs = (k, v) :: r ∧ rep X h α av v ∧ repd X h α l r

noncomputable def repa (X : List Addr) (h : Heap) (α : List Addr) : List (Str × AV) → List DictEntry → Prop
  | [], es => es = []
  | (k, av) :: l, es => ∃ e r t, es = e :: r ∧ e.key = .str k t ∧ rep X h α av e.val ∧ repa X h α l r

noncomputable def CellAt (cx : Cx) (h : Heap) (α : List Addr) : Cell → Addr → Prop
  | .lst l, a => ∃ vs, h.PlainList a vs ∧ vs.size ≤ 100000 ∧ reps cx.ban h α l vs.toList
  | .edct, a => h.DictOf (strKind cx.prog cx.w) a [] ∧ h.DictOf (intKind cx.prog cx.w) a []
  | .sdct l, a => ∃ kvs, h.DictOf (strKind cx.prog cx.w) a kvs ∧ kvs.length ≤ 100000 ∧ repd cx.ban h α l kvs
  | .idct l, a => ∃ kvs, h.DictOf (intKind cx.prog cx.w) a kvs ∧ kvs.length ≤ 100000 ∧ repd cx.ban h α l kvs
  | .attrs l, a => ∃ es n, h.get? a = some (dictOf es n) ∧ es.length ≤ 1000 ∧ repa cx.ban h α l es
  | .inst C d, a => ∃ dx, α[d]? = some dx ∧ h.get? a = some ⟨.ref C, some dx, .plain, #[]⟩
  | .rol vs n, a => h.get? a = some { cls := .type "list", data := .seq vs n } ∧ vs.size ≤ 100000

/-- the store, as the heap bears it -/
structure SO (cx : Cx) (α : List Addr) (σ : Sto) (h : Heap) : Prop where
  keep : ∀ b o, cx.h₀.get? b = some o → h.get? b = some o
  len : α.length = σ.length
  nd : α.Nodup
  cell : ∀ (i : Nat) (c : Cell) (a : Addr), σ[i]? = some c → α[i]? = some a → CellAt cx h α c a
  new : ∀ a ∈ α, cx.h₀.get? a = none
  banLive : ∀ b ∈ cx.ban, h.get? b ≠ none

end Mine

end

noncomputable section
open PySem PySem.W PyProof.Rows
set_option Elab.async false
set_option maxRecDepth 100000
namespace Mine

theorem CellAt.notTup {cx : Cx} {h : Heap} {α : List Addr} {c : Cell} {a : Addr} (x : CellAt cx h α c a) (vs : Array Value) (n : Nat) : ¬ IsT h a vs n := by
  intro t
  have dict : ∀ {K : Type} [DecidableEq K] {knd : KeyKind cx.prog cx.w K} {kvs : List (K × Value)}, h.DictOf knd a kvs → False := by
    intro K _ knd kvs ⟨o, es, ep, ho, _, hd, _⟩
    rw [t] at ho; cases ho; cases hd
  cases c with
  | lst l => obtain ⟨ws, ⟨k, e⟩, _⟩ := x; rw [t] at e; simp at e
  | edct => exact dict x.1
  | sdct l => obtain ⟨kvs, e, _⟩ := x; exact dict e
  | idct l => obtain ⟨kvs, e, _⟩ := x; exact dict e
  | attrs l => obtain ⟨es, k, e, _⟩ := x; rw [t] at e; simp [dictOf] at e
  | inst C d => obtain ⟨dx, _, e⟩ := x; rw [t] at e; simp at e
  | rol vs n => obtain ⟨e, _⟩ := x; rw [t] at e; simp at e

theorem CellAt.live {cx : Cx} {h : Heap} {α : List Addr} {c : Cell} {a : Addr} (x : CellAt cx h α c a) : h.get? a ≠ none := by
  have dict : ∀ {K : Type} [DecidableEq K] {knd : KeyKind cx.prog cx.w K} {kvs : List (K × Value)}, h.DictOf knd a kvs → h.get? a ≠ none := by
    intro K _ knd kvs ⟨o, es, ep, ho, _⟩
    rw [ho]; intro z; cases z
  cases c with
  | lst l => obtain ⟨ws, ⟨k, e⟩, _⟩ := x; rw [e]; intro z; cases z
  | edct => exact dict x.1
  | sdct l => obtain ⟨kvs, e, _⟩ := x; exact dict e
  | idct l => obtain ⟨kvs, e, _⟩ := x; exact dict e
  | attrs l => obtain ⟨es, k, e, _⟩ := x; rw [e]; intro z; cases z
  | inst C d => obtain ⟨dx, _, e⟩ := x; rw [e]; intro z; cases z
  | rol vs n => obtain ⟨e, _⟩ := x; rw [e]; intro z; cases z

mutual
theorem rep_ban {X : List Addr} {h : Heap} {α : List Addr} (hX : ∀ b ∈ X, h.get? b = none) : ∀ (x : AV) (v : Value), rep [] h α x v → rep X h α x v
  | .none, _, r => by simpa [rep] using r
  | .bool _, _, r => by simpa [rep] using r
  | .int _, _, r => by simpa [rep] using r
  | .str _, _, r => by simpa [rep] using r
  | .tup l, v, r => by
    simp only [rep] at r ⊢
    obtain ⟨a, vs, n, e, _, t, q⟩ := r
    exact ⟨a, vs, n, e, (fun m => by rw [IsT, hX a m] at t; cases t), t, reps_ban hX l _ q⟩
  | .ref i, v, r => by simpa [rep] using r
  | .val _, _, r => by simpa [rep] using r
theorem reps_ban {X : List Addr} {h : Heap} {α : List Addr} (hX : ∀ b ∈ X, h.get? b = none) : ∀ (l : List AV) (vs : List Value), reps [] h α l vs → reps X h α l vs
  | [], _, r => by simpa [reps] using r
  | x :: l, vs, r => by
    simp only [reps] at r ⊢
    obtain ⟨v, vs', e, q, p⟩ := r
    exact ⟨v, vs', e, rep_ban hX x v q, reps_ban hX l vs' p⟩
end

theorem repd_mono {K : Type} {X : List Addr} {h h' : Heap} {α α' : List Addr} (hk : TupKeep X h h') (he : ∃ β, α' = α ++ β) : ∀ (l : List (K × AV)) (kvs : List (K × Value)), repd X h α l kvs → repd X h' α' l kvs
  | [], _, r => by simpa [repd] using r
  | (k, av) :: l, _, r => by
    simp only [repd] at r ⊢
    obtain ⟨v, q, e, p, t⟩ := r
    exact ⟨v, q, e, rep_mono hk he _ _ p, repd_mono hk he l q t⟩
theorem repa_mono {X : List Addr} {h h' : Heap} {α α' : List Addr} (hk : TupKeep X h h') (he : ∃ β, α' = α ++ β) : ∀ (l : List (Str × AV)) (es : List DictEntry), repa X h α l es → repa X h' α' l es
  | [], _, r => by simpa [repa] using r
  | (k, av) :: l, _, r => by
    simp only [repa] at r ⊢
    obtain ⟨e, q, t, e1, e2, p, z⟩ := r
    exact ⟨e, q, t, e1, e2, rep_mono hk he _ _ p, repa_mono hk he l q z⟩

theorem CellAt.mono {cx : Cx} {h h' : Heap} {α α' : List Addr} {c : Cell} {a : Addr} (hk : TupKeep cx.ban h h') (he : ∃ β, α' = α ++ β) (x : CellAt cx h α c a) (ha : ∀ o, h.get? a = some o → h'.get? a = some o) : CellAt cx h' α' c a := by
  have dict : ∀ {K : Type} [DecidableEq K] {knd : KeyKind cx.prog cx.w K} {kvs : List (K × Value)}, h.DictOf knd a kvs → h'.DictOf knd a kvs := by
    intro K _ knd kvs ⟨o, es, ep, ho, r⟩
    exact ⟨o, es, ep, ha _ ho, r⟩
  cases c with
  | lst l => obtain ⟨ws, ⟨k, e⟩, z, q⟩ := x; exact ⟨ws, ⟨k, ha _ e⟩, z, reps_mono hk he _ _ q⟩
  | edct => exact ⟨dict x.1, dict x.2⟩
  | sdct l => obtain ⟨kvs, e, z, q⟩ := x; exact ⟨kvs, dict e, z, repd_mono hk he _ _ q⟩
  | idct l => obtain ⟨kvs, e, z, q⟩ := x; exact ⟨kvs, dict e, z, repd_mono hk he _ _ q⟩
  | attrs l => obtain ⟨es, k, e, z, q⟩ := x; exact ⟨es, k, ha _ e, z, repa_mono hk he _ _ q⟩
  | rol vs n => exact ⟨ha _ x.1, x.2⟩
  | inst C d =>
    obtain ⟨dx, e, q⟩ := x
    obtain ⟨β, rfl⟩ := he
    refine ⟨dx, ?_, ha _ q⟩
    have : d < α.length := (List.getElem?_eq_some_iff.mp e).1
    rw [List.getElem?_append_left this]; exact e

section
variable {cx : Cx} {h h' : Heap} {α : List Addr} {σ : Sto}

theorem SO.notTup (S : SO cx α σ h) {a : Addr} (ha : a ∈ α) (vs : Array Value) (n : Nat) : ¬ IsT h a vs n := by
  obtain ⟨i, hi, rfl⟩ := List.getElem_of_mem ha
  have hs : i < σ.length := S.len ▸ hi
  exact (S.cell i σ[i] α[i] (by simp [hs]) (by simp [hi])).notTup vs n

theorem SO.live (S : SO cx α σ h) {a : Addr} (ha : a ∈ α) : h.get? a ≠ none := by
  obtain ⟨i, hi, rfl⟩ := List.getElem_of_mem ha
  have hs : i < σ.length := S.len ▸ hi
  exact (S.cell i σ[i] α[i] (by simp [hs]) (by simp [hi])).live

theorem SO.addr (S : SO cx α σ h) {i : Nat} {c : Cell} (e : σ[i]? = some c) : ∃ a, α[i]? = some a ∧ a ∈ α ∧ CellAt cx h α c a := by
  have hs : i < σ.length := (List.getElem?_eq_some_iff.mp e).1
  have hi : i < α.length := S.len ▸ hs
  exact ⟨α[i], by simp [hi], List.getElem_mem hi, S.cell i c _ e (by simp [hi])⟩

theorem tupKeep_of (S : SO cx α σ h) (hk : ∀ b o, h.get? b = some o → b ∉ α → h'.get? b = some o) : TupKeep cx.ban h h' :=
  fun a vs n _ t => hk a _ t fun ha => S.notTup ha vs n t

theorem live_keeps (hk : ∀ b o, h.get? b = some o → h'.get? b = some o) {b : Addr} (e : h.get? b ≠ none) : h'.get? b ≠ none := by
  cases q : h.get? b with
  | none => exact absurd q e
  | some o => rw [hk b o q]; intro z; cases z
theorem live_but {a : Addr} (hk : ∀ b o, h.get? b = some o → b ≠ a → h'.get? b = some o) (ha : h'.get? a ≠ none) {b : Addr} (e : h.get? b ≠ none) : h'.get? b ≠ none := by
  by_cases z : b = a
  · rw [z]; exact ha
  · cases q : h.get? b with
    | none => exact absurd q e
    | some o => rw [hk b o q z]; intro z; cases z

theorem SO.keeps (S : SO cx α σ h) (hk : ∀ b o, h.get? b = some o → h'.get? b = some o) : SO cx α σ h' where
  keep := fun b o e => hk _ _ (S.keep b o e)
  len := S.len
  nd := S.nd
  cell := fun i c a e e' => (S.cell i c a e e').mono (fun _ _ _ _ t => hk _ _ t) ⟨[], by simp⟩ (hk a)
  new := S.new
  banLive := fun b hb => live_keeps hk (S.banLive b hb)

theorem SO.set (S : SO cx α σ h) {i : Nat} {a : Addr} {c : Cell} (ha : α[i]? = some a) (hk : ∀ b o, h.get? b = some o → b ≠ a → h'.get? b = some o) (hc : CellAt cx h' α c a) : SO cx α (σ.set i c) h' := by
  have ham : a ∈ α := List.mem_of_getElem? ha
  have tk : TupKeep cx.ban h h' := fun b vs n _ t => hk b _ t (fun e => S.notTup (e ▸ ham) vs n t)
  refine ⟨fun b o e => hk b o (S.keep b o e) (fun z => by rw [z, S.new a ham] at e; cases e), by simp [S.len], S.nd, fun j c' a' e e' => ?_, S.new, fun b hb => live_but hk hc.live (S.banLive b hb)⟩
  by_cases hij : i = j
  · subst hij
    rw [ha] at e'; cases e'
    have hlt : i < σ.length := by
      have := (List.getElem?_eq_some_iff.mp ha).1
      rw [S.len] at this; exact this
    rw [List.getElem?_set_self hlt] at e
    cases e
    exact hc
  · rw [List.getElem?_set_ne hij] at e
    refine (S.cell j c' a' e e').mono tk ⟨[], by simp⟩ fun o ho => hk a' o ho ?_
    rintro rfl
    have h1 := (List.getElem?_eq_some_iff.mp ha)
    have h2 := (List.getElem?_eq_some_iff.mp e')
    obtain ⟨l1, q1⟩ := h1
    obtain ⟨l2, q2⟩ := h2
    have pw := List.pairwise_iff_getElem.mp S.nd
    rcases Nat.lt_or_gt_of_ne hij with hlt | hlt
    · exact pw i j l1 l2 hlt (q1.trans q2.symm)
    · exact pw j i l2 l1 hlt (q2.trans q1.symm)

theorem SO.push (S : SO cx α σ h) {a : Addr} {c : Cell} (ha : h.get? a = none) (hk : ∀ b o, h.get? b = some o → h'.get? b = some o) (hc : CellAt cx h' (α ++ [a]) c a) : SO cx (α ++ [a]) (σ ++ [c]) h' := by
  have han : a ∉ α := fun m => S.live m ha
  refine ⟨fun b o e => hk _ _ (S.keep b o e), by simp [S.len], ?_, fun j c' a' e e' => ?_, fun b hb => ?_, fun b hb => live_keeps hk (S.banLive b hb)⟩
  · rw [List.nodup_append]
    exact ⟨S.nd, by simp, fun x hx y hy e => han (by simp at hy; subst hy; exact e ▸ hx)⟩
  · rcases Nat.lt_trichotomy j σ.length with hj | hj | hj
    · rw [List.getElem?_append_left hj] at e
      rw [List.getElem?_append_left (S.len ▸ hj)] at e'
      exact (S.cell j c' a' e e').mono (fun _ _ _ _ t => hk _ _ t) ⟨[a], rfl⟩ (hk a')
    · subst hj
      simp at e
      rw [← S.len] at e'
      simp at e'
      subst e; subst e'
      exact hc
    · rw [List.getElem?_eq_none (by simp; lia)] at e
      cases e
  · rcases List.mem_append.mp hb with hb | hb
    · exact S.new b hb
    · simp at hb; subst hb
      cases q : cx.h₀.get? b with
      | none => rfl
      | some o => rw [S.keep b o q] at ha; cases ha
end

/-- from one state to a later one: what stood and is no cell of the store (and no part of the frame at hand) stands -/
structure Fwd (cx : Cx) (fr : List Addr) (α : List Addr) (s : Shared) (σ' : Sto) (α' : List Addr) (s' : Shared) : Prop where
  same : ∃ h' tk', s' = { s with heap := h', toks := tk' }
  ext : ∃ β, α' = α ++ β ∧ ∀ b ∈ β, s.heap.get? b = none
  so : SO cx α' σ' s'.heap
  live : ∀ b, s.heap.get? b ≠ none → s'.heap.get? b ≠ none
  pres : ∀ b o, s.heap.get? b = some o → b ∉ α → b ∉ fr → s'.heap.get? b = some o

section
variable {cx : Cx} {fr : List Addr} {α α' α₁ α₂ : List Addr} {σ σ' σ₁ σ₂ : Sto} {s s' s₁ s₂ : Shared}

theorem Fwd.ext' (w : Fwd cx fr α s σ' α' s') : ∃ β, α' = α ++ β := let ⟨β, e, _⟩ := w.ext; ⟨β, e⟩
theorem Fwd.notIn (w : Fwd cx fr α s σ' α' s') {b : Addr} (e : s.heap.get? b ≠ none) (hb : b ∉ α) : b ∉ α' := by
  obtain ⟨β, rfl, hβ⟩ := w.ext
  intro hm
  rcases List.mem_append.mp hm with hm | hm
  · exact hb hm
  · exact e (hβ b hm)

theorem Fwd.trans (w : Fwd cx fr α s σ₁ α₁ s₁) (w' : Fwd cx fr α₁ s₁ σ₂ α₂ s₂) : Fwd cx fr α s σ₂ α₂ s₂ where
  same := by
    obtain ⟨h1, t1, e1⟩ := w.same
    obtain ⟨h2, t2, e2⟩ := w'.same
    exact ⟨h2, t2, by rw [e2, e1]⟩
  ext := by
    obtain ⟨β, e, hβ⟩ := w.ext
    obtain ⟨γ, e', hγ⟩ := w'.ext
    refine ⟨β ++ γ, by rw [e', e, List.append_assoc], fun b hb => ?_⟩
    rcases List.mem_append.mp hb with hb | hb
    · exact hβ b hb
    · cases q : s.heap.get? b with
      | none => rfl
      | some o => exact absurd (hγ b hb) (w.live b (by rw [q]; intro z; cases z))
  so := w'.so
  live := fun b e => w'.live b (w.live b e)
  pres := fun b o e hα hf => w'.pres b o (w.pres b o e hα hf) (w.notIn (by rw [e]; intro z; cases z) hα) hf

theorem Fwd.weaken (w : Fwd cx [] α s σ' α' s') : Fwd cx fr α s σ' α' s' := ⟨w.same, w.ext, w.so, w.live, fun b o e h1 _ => w.pres b o e h1 (by simp)⟩

theorem live_of (hk : ∀ b o, s.heap.get? b = some o → s'.heap.get? b = some o) (b : Addr) (e : s.heap.get? b ≠ none) : s'.heap.get? b ≠ none := by
  cases q : s.heap.get? b with
  | none => exact absurd q e
  | some o => rw [hk b o q]; intro z; cases z

/-- everything stands -/
theorem Fwd.keeps (S : SO cx α σ s.heap) (e : ∃ h' tk', s' = { s with heap := h', toks := tk' }) (hk : ∀ b o, s.heap.get? b = some o → s'.heap.get? b = some o) : Fwd cx fr α s σ α s' where
  same := e
  ext := ⟨[], by simp, by simp⟩
  so := S.keeps hk
  live := live_of hk
  pres := fun b o h _ _ => hk b o h

theorem Fwd.refl (S : SO cx α σ s.heap) : Fwd cx fr α s σ α s := .keeps S ⟨s.heap, s.toks, rfl⟩ fun _ _ h => h
theorem Fwd.tok (S : SO cx α σ s.heap) (t : Nat) : Fwd cx fr α s σ α { s with toks := t } := .keeps S ⟨s.heap, t, rfl⟩ fun _ _ h => h

/-- a new cell -/
theorem Fwd.push {a : Addr} {c : Cell} (S : SO cx α σ s.heap) (e : ∃ h' tk', s' = { s with heap := h', toks := tk' }) (ha : s.heap.get? a = none) (hk : ∀ b o, s.heap.get? b = some o → s'.heap.get? b = some o) (hc : CellAt cx s'.heap (α ++ [a]) c a) :
    Fwd cx fr α s (σ ++ [c]) (α ++ [a]) s' where
  same := e
  ext := ⟨[a], rfl, by simpa using ha⟩
  so := S.push ha hk hc
  live := live_of hk
  pres := fun b o h _ _ => hk b o h

/-- a cell is changed -/
theorem Fwd.set {i : Nat} {a : Addr} {c : Cell} (S : SO cx α σ s.heap) (e : ∃ h' tk', s' = { s with heap := h', toks := tk' }) (ha : α[i]? = some a) (hk : ∀ b o, s.heap.get? b = some o → b ≠ a → s'.heap.get? b = some o) (hc : CellAt cx s'.heap α c a) :
    Fwd cx fr α s (σ.set i c) α s' where
  same := e
  ext := ⟨[], by simp, by simp⟩
  so := S.set ha hk hc
  live := fun b hb => by
    by_cases h : b = a
    · subst h; exact hc.live
    · cases q : s.heap.get? b with
      | none => exact absurd q hb
      | some o => rw [hk b o q h]; intro z; cases z
  pres := fun b o h hα _ => hk b o h fun z => hα (z ▸ List.mem_of_getElem? ha)

theorem Fwd.tupKeep (w : Fwd cx [] α s σ' α' s') (S : SO cx α σ s.heap) : TupKeep cx.ban s.heap s'.heap := tupKeep_of S fun b o e h => w.pres b o e h (by simp)
theorem Fwd.rep (w : Fwd cx [] α s σ' α' s') (S : SO cx α σ s.heap) {x : AV} {v : Value} (r : Mine.rep cx.ban s.heap α x v) : Mine.rep cx.ban s'.heap α' x v := rep_mono (w.tupKeep S) w.ext' x v r
theorem Fwd.reps (w : Fwd cx [] α s σ' α' s') (S : SO cx α σ s.heap) {x : List AV} {v : List Value} (r : Mine.reps cx.ban s.heap α x v) : Mine.reps cx.ban s'.heap α' x v := reps_mono (w.tupKeep S) w.ext' x v r
end

noncomputable def frA (env : Env) : List Addr := env.locals :: env.cells.map (·.2)

noncomputable def VarAt (X : List Addr) (env : Env) (α : List Addr) (h : Heap) (m : Str → Option Value) (x : Str) (av : AV) : Prop :=
  (env.kindOf x = some .local ∧ ∃ v, m x = some v ∧ rep X h α av v) ∨ (env.kindOf x = some .cell ∧ ∃ c v, env.cells.lookup x = some c ∧ h.IsCell c (some v) ∧ rep X h α av v)

/-- the frame at hand -/
structure FO (cx : Cx) (env : Env) (α : List Addr) (ρ : Loc) (h : Heap) : Prop where
  vars : ∃ m, h.Ns env.locals m ∧ ∀ x av, ρ.lookup x = some av → VarAt cx.ban env α h m x av
  off : ∀ b ∈ frA env, b ∉ α ∧ h.get? b ≠ none
  cells : ∀ b ∈ env.cells.map (·.2), ∃ v, h.IsCell b v
  new : cx.h₀.get? env.locals = none

theorem VarAt.mono {X : List Addr} {env : Env} {α α' : List Addr} {h h' : Heap} {m : Str → Option Value} {x : Str} {av : AV} (tk : TupKeep X h h') (he : ∃ β, α' = α ++ β) (hc : ∀ b ∈ env.cells.map (·.2), ∀ o, h.get? b = some o → h'.get? b = some o)
    (V : VarAt X env α h m x av) : VarAt X env α' h' m x av := by
  rcases V with ⟨k, v, e, r⟩ | ⟨k, c, v, e, ⟨o, eo, ed⟩, r⟩
  · exact .inl ⟨k, v, e, rep_mono tk he _ _ r⟩
  · refine .inr ⟨k, c, v, e, ⟨o, hc c ?_ o eo, ed⟩, rep_mono tk he _ _ r⟩
    exact List.mem_map.mpr ⟨(x, c), mem_of_lookup e, rfl⟩

theorem FO.fwd {cx : Cx} {env : Env} {α α' : List Addr} {ρ : Loc} {σ σ' : Sto} {s s' : Shared} (F : FO cx env α ρ s.heap) (S : SO cx α σ s.heap) (w : Fwd cx [] α s σ' α' s') : FO cx env α' ρ s'.heap := by
  have kept : ∀ b ∈ frA env, ∀ o, s.heap.get? b = some o → s'.heap.get? b = some o := fun b hb o e => w.pres b o e (F.off b hb).1 (by simp)
  have hcell : ∀ b ∈ env.cells.map (·.2), b ∈ frA env := fun b hb => List.mem_cons_of_mem _ hb
  obtain ⟨m, hn, hv⟩ := F.vars
  refine ⟨⟨m, hn.at' (kept _ (List.mem_cons_self ..)), fun x av e => (hv x av e).mono (w.tupKeep S) w.ext' fun b hb => kept b (hcell b hb)⟩, fun b hb => ⟨w.notIn (F.off b hb).2 (F.off b hb).1, w.live b (F.off b hb).2⟩, fun b hb => ?_, F.new⟩
  obtain ⟨v, o, eo, ed⟩ := F.cells b hb
  exact ⟨v, o, kept b (hcell b hb) o eo, ed⟩

/-- what the code around must leave of room -/
structure Room (A : Around) (d : Nat) : Prop where
  handled : A.handled = none
  depth : A.depth + d < recursionLimit
  units : A.units + 4 * d + 200 < cLine

theorem Room.deeper {A : Around} {d : Nat} (R : Room A (d + 1)) (env : Env) : Room (A.deeper env) d where
  handled := R.handled
  depth := by rw [depth_deeper]; have := R.depth; lia
  units := by rw [units_deeper]; have := R.units; lia

noncomputable abbrev NoE : Value → Shared → Prop := fun _ _ => False

noncomputable def SimE (cx : Cx) (d : Nat) (env : Env) (ρ : Loc) (σ : Sto) (t : Sem Value) (v : AV) (σ' : Sto) : Prop :=
  ∀ (A : Around) (α : List Addr) (s : Shared), Room A d → SO cx α σ s.heap → FO cx env α ρ s.heap →
    wpAny (model cx.prog cx.w) A t (fun cv s' => ∃ α', Fwd cx [] α s σ' α' s' ∧ rep cx.ban s'.heap α' v cv) NoE s

noncomputable def SimL (cx : Cx) (d : Nat) (env : Env) (ρ : Loc) (σ : Sto) (t : Sem (List Value)) (vs : List AV) (σ' : Sto) : Prop :=
  ∀ (A : Around) (α : List Addr) (s : Shared), Room A d → SO cx α σ s.heap → FO cx env α ρ s.heap →
    wpAny (model cx.prog cx.w) A t (fun cvs s' => ∃ α', Fwd cx [] α s σ' α' s' ∧ reps cx.ban s'.heap α' vs cvs) NoE s

noncomputable def SimB (cx : Cx) (d : Nat) (env : Env) (ρ : Loc) (σ : Sto) (t : Sem Bool) (b : Bool) (σ' : Sto) : Prop :=
  ∀ (A : Around) (α : List Addr) (s : Shared), Room A d → SO cx α σ s.heap → FO cx env α ρ s.heap →
    wpAny (model cx.prog cx.w) A t (fun cb s' => cb = b ∧ ∃ α', Fwd cx [] α s σ' α' s') NoE s

/-- an operation on values: no frame -/
noncomputable def OpE (cx : Cx) (d : Nat) (xs : List AV) (σ : Sto) (f : List Value → Sem Value) (v : AV) (σ' : Sto) : Prop :=
  ∀ (A : Around) (α : List Addr) (s : Shared) (cs : List Value), Room A d → SO cx α σ s.heap → reps cx.ban s.heap α xs cs →
    wpAny (model cx.prog cx.w) A (f cs) (fun cv s' => ∃ α', Fwd cx [] α s σ' α' s' ∧ rep cx.ban s'.heap α' v cv) NoE s

end Mine

end

noncomputable section
open PySem PySem.W PyProof.Rows
set_option Elab.async false
set_option maxRecDepth 100000
namespace Mine

/-- what never changes of an environment -/
structure EnvOk (env : Env) (sc : Scope) : Prop where
  scope : env.scope = sc
  kind : sc.kind = .function
  glob : env.globals = mainGlobals
  bt : env.builtins = builtinsNs

theorem noE {M : Model} {A : Around} {t : Sem α} {Q : α → Shared → Prop} {E : Value → Shared → Prop} {s : Shared} (h : wpAny M A t Q NoE s) : wpAny M A t Q E s := wpAny_mono h (fun _ _ x => x) fun _ _ x => x.elim

section
variable {cx : Cx} {d : Nat} {env : Env} {sc : Scope} {ρ : Loc} {σ σ' σ₁ σ₂ σ₃ : Sto} {v a b c : AV}

theorem load_local (hk : env.scope.kind = .function) {x : Str} (e : ρ.lookup x = some v) : SimE cx d env ρ σ (loadName env x) v σ := by
  intro A α s R S F
  obtain ⟨m, hn, hv⟩ := F.vars
  rcases hv x v e with ⟨hl, w, hm, r⟩ | ⟨hl, cc, w, hc, hcell, r⟩
  · exact wpAny_loadName_local hk hl hn hm ⟨α, .refl S, r⟩
  · exact wpAny_loadName_cell hk hl hc hcell ⟨α, .refl S, r⟩

theorem rep_base (S : SO cx α σ h) {x : AV} {v : Value} (r : rep [] cx.h₀ [] x v) : rep cx.ban h α x v :=
  rep_mono (fun _ _ _ _ t => S.keep _ _ t) ⟨α, by simp⟩ x v (rep_ban cx.banNew x v r)

theorem S_name_local (hk : env.scope.kind = .function) {x : Str} {p : Pos} (hd : (x == ("__debug__" : Str)) = false) (e : ρ.lookup x = some v) : SimE cx d env ρ σ (eval (.Name x p) env) v σ :=
  fun A α s R S F => wpAny_Name (load_local hk e A α s R S F) hd

theorem S_name_global (O : EnvOk env sc) {x : Str} {p : Pos} {w : Value} (hx : sc.names.lookup x = some .globalImplicit) (hd : (x == ("__debug__" : Str)) = false) (e : cx.mg x = some w) (r : rep [] cx.h₀ [] v w) :
    SimE cx d env ρ σ (eval (.Name x p) env) v σ := by
  intro A α s R S F
  refine Calls.Name_function_global (by rw [O.scope]; exact O.kind) (by unfold Env.kindOf; rw [O.scope]; exact hx) ?_ hd
  refine Calls.loadGlobal_global (env := env) ?_ e ⟨α, .refl S, rep_base S r⟩
  rw [O.glob]; exact cx.g.keeps S.keep

theorem S_name_builtin (O : EnvOk env sc) {x : Str} {p : Pos} {w : Value} (hx : sc.names.lookup x = some .globalImplicit) (hd : (x == ("__debug__" : Str)) = false) (e : cx.mg x = none) (hb : bootBuiltins x = some w) (hn : x ≠ "__name__") :
    SimE cx d env ρ σ (eval (.Name x p) env) (.val w) σ := by
  intro A α s R S F
  refine Calls.Name_function_global (by rw [O.scope]; exact O.kind) (by unfold Env.kindOf; rw [O.scope]; exact hx) ?_ hd
  refine Calls.loadGlobal_builtin (env := env) (mg := cx.mg) (mb := cx.mb) ?_ e ?_ ((cx.bt x hn).trans hb) ⟨α, .refl S, by simp [rep]⟩
  · rw [O.glob]; exact cx.g.keeps S.keep
  · rw [O.bt]; exact cx.b.keeps S.keep

theorem S_int {i : Int} {k : Nat} {p : Pos} : SimE cx d env ρ σ (eval (.Constant (.int i) k p) env) (.int i) σ :=
  fun _ α s _ S _ => wpAny_Constant_int ⟨α, .tok S _, by simp [rep]⟩
theorem S_str {x : Str} {k : Nat} {p : Pos} : SimE cx d env ρ σ (eval (.Constant (.str x) k p) env) (.str x) σ :=
  fun _ α s _ S _ => wpAny_Constant_str ⟨α, .tok S _, by simp [rep]⟩
theorem S_bool {x : Bool} {k : Nat} {p : Pos} : SimE cx d env ρ σ (eval (.Constant (.bool x) k p) env) (.bool x) σ :=
  fun _ α s _ S _ => wpAny_Constant_bool ⟨α, .refl S, by simp [rep]⟩
theorem S_none {k : Nat} {p : Pos} : SimE cx d env ρ σ (eval (.Constant .none k p) env) .none σ :=
  fun _ α s _ S _ => wpAny_Constant_none ⟨α, .refl S, by simp [rep]⟩

theorem S_binop {l r : Expr} {op : Operator} {p : Pos} (hl : SimE cx d env ρ σ (eval l env) a σ₁) (hr : SimE cx d env ρ σ₁ (eval r env) b σ₂)
    (ho : OpE cx d [a, b] σ₂ (fun cs => match cs with | [x, y] => binaryOp op x y | _ => .unsupported "") c σ₃) : SimE cx d env ρ σ (eval (.BinOp l op r p) env) c σ₃ := by
  intro A α s R S F
  refine wpAny_BinOp (wpAny_mono (hl A α s R S F) (fun x s₁ ⟨α₁, w₁, r₁⟩ => ?_) fun _ _ e => e)
  refine wpAny_mono (hr A α₁ s₁ R w₁.so (F.fwd S w₁)) (fun y s₂ ⟨α₂, w₂, r₂⟩ => ?_) fun _ _ e => e
  refine wpAny_mono (ho A α₂ s₂ [x, y] R w₂.so (by simp only [reps]; exact ⟨x, _, rfl, w₂.rep w₁.so r₁, y, _, rfl, r₂, rfl⟩)) (fun z s₃ ⟨α₃, w₃, r₃⟩ => ⟨α₃, (w₁.trans w₂).trans w₃, r₃⟩) fun _ _ e => e

noncomputable def cmpF (op : CmpOp) (cs : List Value) : Sem Value := match cs with | [x, y] => compareOp op x y | _ => .unsupported ""
theorem S_compare {l r : Expr} {op : CmpOp} {p : Pos} (hl : SimE cx d env ρ σ (eval l env) a σ₁) (hr : SimE cx d env ρ σ₁ (eval r env) b σ₂)
    (ho : OpE cx d [a, b] σ₂ (cmpF op) c σ₃) (hm : behindInMarks op r = false) : SimE cx d env ρ σ (eval (.Compare l [op] [r] p) env) c σ₃ := by
  intro A α s R S F
  refine wpAny_Compare1 (wpAny_mono (hl A α s R S F) (fun x s₁ ⟨α₁, w₁, r₁⟩ => ?_) fun _ _ e => e) hm
  refine wpAny_mono (hr A α₁ s₁ R w₁.so (F.fwd S w₁)) (fun y s₂ ⟨α₂, w₂, r₂⟩ => ?_) fun _ _ e => e
  refine wpAny_mono (ho A α₂ s₂ [x, y] R w₂.so (by simp only [reps]; exact ⟨x, _, rfl, w₂.rep w₁.so r₁, y, _, rfl, r₂, rfl⟩)) (fun z s₃ ⟨α₃, w₃, r₃⟩ => ⟨α₃, (w₁.trans w₂).trans w₃, r₃⟩) fun _ _ e => e

theorem B_compare {l r : Expr} {op : CmpOp} {p : Pos} {whole : Sem Value} {t : Bool} (hl : SimE cx d env ρ σ (eval l env) a σ₁) (hr : SimE cx d env ρ σ₁ (eval r env) b σ₂)
    (ho : OpE cx d [a, b] σ₂ (cmpF op) (.bool t) σ₃) (hm : behindInMarks op r = false) : SimB cx d env ρ σ (isTrue (.Compare l [op] [r] p) env whole) t σ₃ := by
  intro A α s R S F
  refine wpAny_isTrue_Compare1 (wpAny_mono (hl A α s R S F) (fun x s₁ ⟨α₁, w₁, r₁⟩ => ?_) fun _ _ e => e) hm
  refine wpAny_mono (hr A α₁ s₁ R w₁.so (F.fwd S w₁)) (fun y s₂ ⟨α₂, w₂, r₂⟩ => ?_) fun _ _ e => e
  refine wpAny_mono (ho A α₂ s₂ [x, y] R w₂.so (by simp only [reps]; exact ⟨x, _, rfl, w₂.rep w₁.so r₁, y, _, rfl, r₂, rfl⟩)) (fun z s₃ ⟨α₃, w₃, r₃⟩ => ?_) fun _ _ e => e
  simp only [rep] at r₃
  subst r₃
  exact wpAny_truthy_bool ⟨rfl, α₃, (w₁.trans w₂).trans w₃⟩

theorem B_not {x : Expr} {p : Pos} {whole : Sem Value} {t : Bool} (h : SimB cx d env ρ σ (isTrue x env (eval x env)) t σ₁) : SimB cx d env ρ σ (isTrue (.UnaryOp .Not x p) env whole) (!t) σ₁ :=
  fun A α s R S F => wpAny_isTrue_Not (wpAny_mono (h A α s R S F) (fun _ _ ⟨e, w⟩ => ⟨by rw [e], w⟩) fun _ _ e => e)

theorem B_boolop {op : BoolOp} {vs : List Expr} {p : Pos} {whole : Sem Value} {t : Bool} (h : SimB cx d env ρ σ (allTrue op vs env) t σ₁) : SimB cx d env ρ σ (isTrue (.BoolOp op vs p) env whole) t σ₁ :=
  fun A α s R S F => wpAny_isTrue_BoolOp (h A α s R S F)
theorem B_and_nil : SimB cx d env ρ σ (allTrue .And [] env) true σ := fun _ α _ _ S _ => wpAny_allTrue_And_nil ⟨rfl, α, .refl S⟩
theorem B_or_nil : SimB cx d env ρ σ (allTrue .Or [] env) false σ := fun _ α _ _ S _ => wpAny_allTrue_Or_nil ⟨rfl, α, .refl S⟩
theorem B_and_false {x : Expr} {r : List Expr} (h : SimB cx d env ρ σ (isTrue x env (eval x env)) false σ₁) : SimB cx d env ρ σ (allTrue .And (x :: r) env) false σ₁ :=
  fun A α s R S F => wpAny_allTrue_And_cons (wpAny_mono (h A α s R S F) (fun t s₁ ⟨e, w⟩ => by subst e; exact ⟨rfl, w⟩) fun _ _ e => e)
theorem B_or_true {x : Expr} {r : List Expr} (h : SimB cx d env ρ σ (isTrue x env (eval x env)) true σ₁) : SimB cx d env ρ σ (allTrue .Or (x :: r) env) true σ₁ :=
  fun A α s R S F => wpAny_allTrue_Or_cons (wpAny_mono (h A α s R S F) (fun t s₁ ⟨e, w⟩ => by subst e; exact ⟨rfl, w⟩) fun _ _ e => e)
theorem B_and_true {x : Expr} {r : List Expr} {t : Bool} (h : SimB cx d env ρ σ (isTrue x env (eval x env)) true σ₁) (h' : SimB cx d env ρ σ₁ (allTrue .And r env) t σ₂) : SimB cx d env ρ σ (allTrue .And (x :: r) env) t σ₂ := by
  intro A α s R S F
  refine wpAny_allTrue_And_cons (wpAny_mono (h A α s R S F) (fun t s₁ ⟨e, α₁, w₁⟩ => ?_) fun _ _ e => e)
  subst e
  exact wpAny_mono (h' A α₁ s₁ R w₁.so (F.fwd S w₁)) (fun _ _ ⟨e, α₂, w₂⟩ => ⟨e, α₂, w₁.trans w₂⟩) fun _ _ e => e
theorem B_or_false {x : Expr} {r : List Expr} {t : Bool} (h : SimB cx d env ρ σ (isTrue x env (eval x env)) false σ₁) (h' : SimB cx d env ρ σ₁ (allTrue .Or r env) t σ₂) : SimB cx d env ρ σ (allTrue .Or (x :: r) env) t σ₂ := by
  intro A α s R S F
  refine wpAny_allTrue_Or_cons (wpAny_mono (h A α s R S F) (fun t s₁ ⟨e, α₁, w₁⟩ => ?_) fun _ _ e => e)
  subst e
  exact wpAny_mono (h' A α₁ s₁ R w₁.so (F.fwd S w₁)) (fun _ _ ⟨e, α₂, w₂⟩ => ⟨e, α₂, w₁.trans w₂⟩) fun _ _ e => e

/-- any other test: its value, a bool -/
theorem B_value {e : Expr} {whole : Sem Value} {t : Bool} (h : SimE cx d env ρ σ whole (.bool t) σ₁) (he : isTrue e env whole = (do let v ← whole; standAt e.pos; holding [v] (truthy v))) : SimB cx d env ρ σ (isTrue e env whole) t σ₁ := by
  intro A α s R S F
  refine wpAny_isTrue_value (wpAny_mono (h A α s R S F) (fun x s₁ ⟨α₁, w₁, r₁⟩ => ?_) fun _ _ e => e) he
  simp only [rep] at r₁
  subst r₁
  exact wpAny_truthy_bool ⟨rfl, α₁, w₁⟩

theorem S_not {x : Expr} {p : Pos} {t : Bool} (h : SimE cx d env ρ σ (eval x env) (.bool t) σ₁) : SimE cx d env ρ σ (eval (.UnaryOp .Not x p) env) (.bool (!t)) σ₁ := by
  intro A α s R S F
  refine wpAny_UnaryOp (wpAny_mono (h A α s R S F) (fun x s₁ ⟨α₁, w₁, r₁⟩ => ?_) fun _ _ e => e)
  simp only [rep] at r₁
  subst r₁
  exact not_value (wpAny_truthy_bool ⟨α₁, w₁, by simp [rep]⟩)

theorem S_and_false {x y : Expr} {p : Pos} (h : SimE cx d env ρ σ (eval x env) (.bool false) σ₁) : SimE cx d env ρ σ (eval (.BoolOp .And [x, y] p) env) (.bool false) σ₁ := by
  intro A α s R S F
  refine wpAny_And2 (wpAny_mono (h A α s R S F) (fun x s₁ ⟨α₁, w₁, r₁⟩ => ?_) fun _ _ e => e)
  simp only [rep] at r₁
  subst r₁
  exact wpAny_truthy_bool ⟨α₁, w₁, by simp [rep]⟩
theorem S_and_true {x y : Expr} {p : Pos} (h : SimE cx d env ρ σ (eval x env) (.bool true) σ₁) (h' : SimE cx d env ρ σ₁ (eval y env) v σ₂) : SimE cx d env ρ σ (eval (.BoolOp .And [x, y] p) env) v σ₂ := by
  intro A α s R S F
  refine wpAny_And2 (wpAny_mono (h A α s R S F) (fun x s₁ ⟨α₁, w₁, r₁⟩ => ?_) fun _ _ e => e)
  simp only [rep] at r₁
  subst r₁
  exact wpAny_truthy_bool (wpAny_mono (h' A α₁ s₁ R w₁.so (F.fwd S w₁)) (fun z s₂ ⟨α₂, w₂, r₂⟩ => ⟨α₂, w₁.trans w₂, r₂⟩) fun _ _ e => e)

theorem S_ifexp {t x y : Expr} {p : Pos} {k : Bool} (h : SimB cx d env ρ σ (isTrue t env (eval t env)) k σ₁) (hx : k = true → SimE cx d env ρ σ₁ (eval x env) v σ₂) (hy : k = false → SimE cx d env ρ σ₁ (eval y env) v σ₂) :
    SimE cx d env ρ σ (eval (.IfExp t x y p) env) v σ₂ := by
  intro A α s R S F
  refine wpAny_IfExp (wpAny_mono (h A α s R S F) (fun b s₁ ⟨e, α₁, w₁⟩ => ?_) fun _ _ e => e)
  subst e
  cases b with
  | true => exact wpAny_mono (hx rfl A α₁ s₁ R w₁.so (F.fwd S w₁)) (fun z s₂ ⟨α₂, w₂, r₂⟩ => ⟨α₂, w₁.trans w₂, r₂⟩) fun _ _ e => e
  | false => exact wpAny_mono (hy rfl A α₁ s₁ R w₁.so (F.fwd S w₁)) (fun z s₂ ⟨α₂, w₂, r₂⟩ => ⟨α₂, w₁.trans w₂, r₂⟩) fun _ _ e => e

noncomputable def notStar : Expr → Bool
  | .Starred .. => false
  | _ => true
theorem starEach_cons {e : Expr} {rest : List Expr} (h : notStar e = true) : starEach (e :: rest) env = (false, eval e env) :: starEach rest env := by
  cases e <;> first | rfl | exact Bool.noConfusion h

theorem L_nil {p : Pos} : SimL cx d env ρ σ (spliced (backTo p (starEach [] env))) [] σ := fun _ α _ _ S _ => wpAny_items_nil ⟨α, .refl S, by simp [reps]⟩
theorem L_cons {p : Pos} {e : Expr} {rest : List Expr} {vs : List AV} (hs : notStar e = true) (h : SimE cx d env ρ σ (eval e env) v σ₁) (h' : SimL cx d env ρ σ₁ (spliced (backTo p (starEach rest env))) vs σ₂) :
    SimL cx d env ρ σ (spliced (backTo p (starEach (e :: rest) env))) (v :: vs) σ₂ := by
  intro A α s R S F
  refine wpAny_items_cons (wpAny_mono (h A α s R S F) (fun x s₁ ⟨α₁, w₁, r₁⟩ => ?_) fun _ _ e => e) (starEach_cons hs)
  refine wpAny_mono (h' A α₁ s₁ R w₁.so (F.fwd S w₁)) (fun xs s₂ ⟨α₂, w₂, r₂⟩ => ⟨α₂, w₁.trans w₂, ?_⟩) fun _ _ e => e
  simp only [reps]
  exact ⟨x, xs, rfl, w₂.rep w₁.so r₁, r₂⟩

theorem fresh_size (h : Heap) : h.get? h.objs.size = none := by
  cases e : h.get? h.objs.size with
  | none => rfl
  | some o => exact absurd (Heap.lt_size e) (Nat.lt_irrefl _)

theorem S_tuple {es : List Expr} {k : Nat} {p : Pos} {vs : List AV} (h : SimL cx d env ρ σ (spliced (backTo p (starEach es env))) vs σ₁) (hz : vs.length ≤ 1000) : SimE cx d env ρ σ (eval (.Tuple es k p) env) (.tup vs) σ₁ := by
  intro A α s R S F
  refine wpAny_Tuple (wpAny_mono (h A α s R S F) (fun xs s₁ ⟨α₁, w₁, r₁⟩ => ?_) fun _ _ e => e)
  have hl := reps_length _ _ r₁
  refine ⟨by rw [sizeLine_eq]; lia, α₁, w₁.trans (.keeps w₁.so ⟨_, _, rfl⟩ fun b o e => Heap.get?_push_of_some _ e), ?_⟩
  simp only [rep]
  exact ⟨_, xs.toArray, 0, rfl, (fun m => w₁.so.banLive _ m (fresh_size _)), Heap.get?_push_size _ rfl, reps_mono (fun _ _ _ _ t => Heap.get?_push_of_some _ t) ⟨[], (List.append_nil _).symm⟩ _ _ (by simpa using r₁)⟩

theorem S_list {es : List Expr} {p : Pos} {vs : List AV} (h : SimL cx d env ρ σ (spliced (backTo p (starEach es env))) vs σ₁) (hz : vs.length ≤ 1000) : SimE cx d env ρ σ (eval (.List es p) env) (.ref σ₁.length) (σ₁ ++ [.lst vs]) := by
  intro A α s R S F
  refine wpAny_List (wpAny_mono (h A α s R S F) (fun xs s₁ ⟨α₁, w₁, r₁⟩ => ?_) fun _ _ e => e)
  have hl := reps_length _ _ r₁
  refine ⟨by rw [sizeLine_eq]; lia, α₁ ++ [s₁.heap.objs.size], w₁.trans (.push w₁.so ⟨_, _, rfl⟩ (fresh_size _) (fun b o e => Heap.get?_push_of_some _ e) ?_), ?_⟩
  · refine ⟨xs.toArray, ⟨0, Heap.get?_push_size _ rfl⟩, ?_, reps_mono (fun _ _ _ _ t => Heap.get?_push_of_some _ t) ⟨_, rfl⟩ _ _ (by simpa using r₁)⟩
    simp; lia
  · simp only [rep]
    exact ⟨s₁.heap.objs.size, by rw [← w₁.so.len]; simp, rfl⟩
end
end Mine

end

noncomputable section
open PySem PySem.W PyProof.Rows
set_option Elab.async false
set_option maxRecDepth 100000
namespace Mine

/-- how a statement ends -/
inductive Flw where
  | next
  | brk
  | cont
  | ret (v : AV)

noncomputable def flv : Flw → AV
  | .ret v => v
  | _ => .none

noncomputable def repF (X : List Addr) (h : Heap) (α : List Addr) : Flw → Flow → Prop
  | .next, f => f = .next
  | .brk, f => f = .brk
  | .cont, f => f = .cont
  | .ret v, f => ∃ w, f = .ret w ∧ rep X h α v w

noncomputable def SimS (cx : Cx) (d : Nat) (env : Env) (ρ : Loc) (σ : Sto) (t : Sem Flow) (f : Flw) (ρ' : Loc) (σ' : Sto) : Prop :=
  ∀ (A : Around) (α : List Addr) (s : Shared), Room A d → SO cx α σ s.heap → FO cx env α ρ s.heap →
    wpAny (model cx.prog cx.w) A t (fun fl s' => ∃ α', Fwd cx (frA env) α s σ' α' s' ∧ FO cx env α' ρ' s'.heap ∧ repF cx.ban s'.heap α' f fl) NoE s

structure FnI where
  fd : FuncData
  body : List Stmt
  names : List Str

structure FnOk (cx : Cx) (a : Addr) (f : FnI) : Prop where
  obj : ∃ o, cx.h₀.get? a = some o ∧ o.data = .func f.fd
  code : cx.h₀.CodeRec f.fd.code f.fd.qualname
  body : f.fd.body = .stmts f.body
  bind : ∀ vals : List Value, vals.length = f.names.length → bindArgs f.fd ⟨vals, []⟩ = pure (f.names.zip vals)
  clo : f.fd.closure = []
  kinds : ∀ x ∈ f.names, f.fd.scope.names.lookup x = some .local ∨ (f.fd.scope.names.lookup x = some .cell ∧ ∀ n, ((cellsFrom n f.fd.scope.names []).lookup x).isSome = true)
  nodup : f.names.Nodup
  glob : f.fd.globals = mainGlobals
  bt : f.fd.builtins = builtinsNs
  co : f.fd.scope.isCoroutine = false
  gen : f.fd.scope.isGenerator = false
  kind : f.fd.scope.kind = .function

theorem bindL_notin {kindOf : Str → Option NameKind} {x : Str} : ∀ (binds : List (Str × Value)) (m : Str → Option Value), x ∉ binds.map (·.1) → bindL kindOf binds m x = m x
  | [], _, _ => rfl
  | (n, v) :: r, m, h => by
    simp only [List.map_cons, List.mem_cons, not_or] at h
    rw [bindL, bindL_notin r _ h.2]
    split
    · simp [h.1]
    · rfl
theorem bindL_get {kindOf : Str → Option NameKind} {x : Str} {v : Value} (hl : kindOf x = some .local) : ∀ (binds : List (Str × Value)) (m : Str → Option Value), (binds.map (·.1)).Nodup → binds.lookup x = some v → bindL kindOf binds m x = some v
  | [], _, _, h => by cases h
  | (n, w) :: r, m, hn, h => by
    simp only [List.map_cons, List.nodup_cons] at hn
    rw [List.lookup_cons] at h
    cases hb : x == n with
    | true =>
      rw [hb] at h
      cases h
      have : x = n := beq_iff_eq.mp hb
      subst this
      rw [bindL, bindL_notin r _ hn.1, if_pos hl]
      simp
    | false =>
      rw [hb] at h
      rw [bindL]
      exact bindL_get hl r _ hn.2 h
theorem bindC_notin {kindOf : Str → Option NameKind} {x : Str} : ∀ (binds : List (Str × Value)) (m : Str → Option Value), x ∉ binds.map (·.1) → bindC kindOf binds m x = m x
  | [], _, _ => rfl
  | (n, v) :: r, m, h => by
    simp only [List.map_cons, List.mem_cons, not_or] at h
    rw [bindC, bindC_notin r _ h.2]
    split
    · rfl
    · simp [h.1]
theorem bindC_get {kindOf : Str → Option NameKind} {x : Str} {v : Value} (hl : kindOf x = some .cell) : ∀ (binds : List (Str × Value)) (m : Str → Option Value), (binds.map (·.1)).Nodup → binds.lookup x = some v → bindC kindOf binds m x = some v
  | [], _, _, h => by cases h
  | (n, w) :: r, m, hn, h => by
    simp only [List.map_cons, List.nodup_cons] at hn
    rw [List.lookup_cons] at h
    cases hb : x == n with
    | true =>
      rw [hb] at h
      cases h
      have : x = n := beq_iff_eq.mp hb
      subst this
      rw [bindC, bindC_notin r _ hn.1, if_neg (by rw [hl]; decide)]
      simp
    | false =>
      rw [hb] at h
      rw [bindC]
      exact bindC_get hl r _ hn.2 h

theorem lookup_zip {X : List Addr} {h : Heap} {α : List Addr} {x : Str} {av : AV} : ∀ (ns : List Str) (avs : List AV) (vs : List Value), reps X h α avs vs → (ns.zip avs).lookup x = some av → ∃ v, (ns.zip vs).lookup x = some v ∧ rep X h α av v
  | [], _, _, _, e => by simp at e
  | n :: ns, [], vs, r, e => by simp at e
  | n :: ns, a :: avs, vs, r, e => by
    simp only [reps] at r
    obtain ⟨v, vs', rfl, r1, r2⟩ := r
    simp only [List.zip_cons_cons, List.lookup_cons] at e ⊢
    cases hb : x == n with
    | true => rw [hb] at e; cases e; exact ⟨v, rfl, r1⟩
    | false => rw [hb] at e; exact lookup_zip ns avs vs' r2 e

theorem mem_of_lookup' {K V : Type} [BEq K] [LawfulBEq K] {x : K} {v : V} : ∀ {l : List (K × V)}, l.lookup x = some v → (x, v) ∈ l
  | [], e => by cases e
  | (n, w) :: l, e => by
    rw [List.lookup_cons] at e
    cases hb : x == n with
    | true => rw [hb] at e; cases e; have := beq_iff_eq.mp hb; subst this; exact List.mem_cons_self ..
    | false => rw [hb] at e; exact List.mem_cons_of_mem _ (mem_of_lookup' e)

theorem zip_names {β : Type} : ∀ (ns : List Str) (vs : List β), vs.length = ns.length → (ns.zip vs).map (·.1) = ns
  | [], _, _ => by simp
  | n :: ns, [], h => by simp at h
  | n :: ns, v :: vs, h => by simp at h; simp [zip_names ns vs h]

section
variable {cx : Cx} {fr : List Addr} {α α' : List Addr} {σ' : Sto} {s s' : Shared}
theorem Fwd.drop (w : Fwd cx fr α s σ' α' s') (h : ∀ b ∈ fr, s.heap.get? b = none) : Fwd cx [] α s σ' α' s' :=
  ⟨w.same, w.ext, w.so, w.live, fun b o e h1 _ => w.pres b o e h1 fun hm => by rw [h b hm] at e; cases e⟩
end

theorem name_mem_cells {n : Nat} {names : List (Str × NameKind)} {b : Addr} (h : b ∈ (cellsFrom n names []).map (·.2)) : ∃ x, (x, b) ∈ cellsFrom n names [] := by
  obtain ⟨⟨x, c⟩, h1, rfl⟩ := List.mem_map.mp h
  exact ⟨x, h1⟩

/-- a call of a def of the text -/
theorem C_code {cx : Cx} {d : Nat} {a : Addr} {f : FnI} (K : FnOk cx a f) {avs : List AV} {σ σ' : Sto} {av : AV} (hlen : avs.length = f.names.length)
    (hnd : ((cellsFrom 0 f.fd.scope.names []).map (·.1)).Nodup)
    (hb : ∀ L, ∃ fl ρ', flv fl = av ∧ SimS cx d (callEnvC f.fd L a) (f.names.zip avs) σ (execs f.body (callEnvC f.fd L a)) fl ρ' σ')
    (A : Around) (α : List Addr) (s : Shared) (cs : List Value) (R : Room A (d + 1)) (S : SO cx α σ s.heap) (r : reps cx.ban s.heap α avs cs) {Rr : Result → Shared → Prop}
    (hR : ∀ v s' α', Fwd cx [] α s σ' α' s' → rep cx.ban s'.heap α' av v → Rr (.ok (.ret v)) s') :
    codeAny (model cx.prog cx.w) A (.call (.ref a) ⟨cs, []⟩) Rr s := by
  obtain ⟨o, ho, hd⟩ := K.obj
  have hcs : cs.length = f.names.length := by rw [← reps_length _ _ r, hlen]
  refine codeAny_call_cells (fd := f.fd) (binds := f.names.zip cs) (by have := R.depth; lia) (S.keep _ _ ho) hd (cx.nl.keeps S.keep) (K.code.keeps S.keep) K.body (K.bind cs hcs) K.clo
    (fun x hx => ?_) (fun s₁ x => ?_) K.co K.gen K.kind
  · have : x.1 ∈ f.names := by
      have := List.mem_map_of_mem (f := (·.1)) hx
      rwa [zip_names _ _ hcs] at this
    exact (K.kinds _ this).imp id fun h => ⟨h.1, h.2 _⟩
  · obtain ⟨h₁, tk, e, hk⟩ := x.done
    have w₁ : Fwd cx [] α s σ α s₁ := .keeps S ⟨h₁, tk, e⟩ (by rw [e]; exact hk)
    have hL : ∀ b ∈ frA (callEnvC f.fd s.heap.objs.size a), s.heap.objs.size ≤ b := by
      intro b hb
      rcases List.mem_cons.mp hb with rfl | hb
      · exact Nat.le_refl _
      · obtain ⟨⟨y, c⟩, h1, rfl⟩ := List.mem_map.mp hb
        exact Nat.le_of_lt (x.above y c h1)
    have hfr : ∀ b ∈ frA (callEnvC f.fd s.heap.objs.size a), s.heap.get? b = none := fun b hb => by
      cases q : s.heap.get? b with
      | none => rfl
      | some o' => exact absurd (Heap.lt_size q) (Nat.not_lt.mpr (hL b hb))
    have hcell : ∀ y c, (y, c) ∈ (callEnvC f.fd s.heap.objs.size a).cells → s₁.heap.IsCell c (bindC (callEnvC f.fd s.heap.objs.size a).kindOf (f.names.zip cs) (fun _ => none) y) :=
      fun y c hm => x.cell y c (lookup_of_mem_nodup (cellsFrom_names f.fd.scope.names 0 (s.heap.objs.size + 1) [] [] rfl ▸ hnd) hm)
    have F₁ : FO cx (callEnvC f.fd s.heap.objs.size a) α (f.names.zip avs) s₁.heap := by
      have hnew : cx.h₀.get? s.heap.objs.size = none := by
        cases q : cx.h₀.get? s.heap.objs.size with
        | none => rfl
        | some o' => exact absurd (Heap.lt_size (S.keep _ _ q)) (Nat.lt_irrefl _)
      refine ⟨⟨_, x.toInCall.ns, fun y av hy => ?_⟩, fun b hb => ⟨fun hm => S.live hm (hfr b hb), ?_⟩, fun b hb => ?_, hnew⟩
      · obtain ⟨v, hv, hr⟩ := lookup_zip _ _ _ (w₁.reps S r) hy
        have hmem : y ∈ f.names := by
          have := List.mem_map_of_mem (f := (·.1)) (mem_of_lookup' hv)
          rwa [zip_names _ _ hcs] at this
        rcases K.kinds y hmem with hl | ⟨hl, hc⟩
        · exact .inl ⟨hl, v, bindL_get hl _ _ (by rw [zip_names _ _ hcs]; exact K.nodup) hv, hr⟩
        · obtain ⟨c, hc⟩ := Option.isSome_iff_exists.mp (hc (s.heap.objs.size + 1))
          refine .inr ⟨hl, c, v, hc, ?_, hr⟩
          have := x.cell y c hc
          rwa [bindC_get hl _ _ (by rw [zip_names _ _ hcs]; exact K.nodup) hv] at this
      · rcases List.mem_cons.mp hb with rfl | hb
        · obtain ⟨o', _, _, e', _⟩ := x.toInCall.ns
          rw [e']; intro z; cases z
        · obtain ⟨⟨y, c⟩, h1, rfl⟩ := List.mem_map.mp hb
          obtain ⟨o', e', _⟩ := hcell y c h1
          show s₁.heap.get? c ≠ none
          rw [e']; intro z; cases z
      · obtain ⟨⟨y, c⟩, h1, rfl⟩ := List.mem_map.mp hb
        exact ⟨_, hcell y c h1⟩
    obtain ⟨fl, ρ', hfl, hb1⟩ := hb s.heap.objs.size
    subst hfl
    refine wpAny_mono (hb1 _ α s₁ (R.deeper _) w₁.so F₁) (fun f' s₂ ⟨α₂, w₂, F₂, r₂⟩ => ?_) fun _ _ e => e.elim
    refine hR _ _ α₂ ((w₁.weaken.trans w₂).drop hfr) ?_
    cases fl with
    | next => simp only [repF] at r₂; subst r₂; simp [rep, flv]
    | brk => simp only [repF] at r₂; subst r₂; simp [rep, flv]
    | cont => simp only [repF] at r₂; subst r₂; simp [rep, flv]
    | ret v => simp only [repF] at r₂; obtain ⟨w, rfl, q⟩ := r₂; exact q

end Mine

end

noncomputable section
open PySem PySem.W PyProof.Rows
set_option Elab.async false
set_option maxRecDepth 100000
namespace Mine

noncomputable abbrev Kept (cx : Cx) (h : Heap) : Prop := ∀ b o, cx.h₀.get? b = some o → h.get? b = some o
noncomputable def KeeperOk (cx : Cx) (f : Value) : Prop := ∀ h, Kept cx h → ∃ k, (k = Keeper.frame ∨ k = Keeper.machine ∨ k = Keeper.boundFrame) ∧ Looks (model cx.prog cx.w) h (keeperOf f) k

theorem keeper_fn {cx : Cx} {a : Addr} {f : FnI} (K : FnOk cx a f) : KeeperOk cx (.ref a) := by
  intro h hk
  obtain ⟨o, ho, hd⟩ := K.obj
  refine ⟨.frame, .inl rfl, ?_⟩
  refine (Looks.ld (part := none) (hk _ _ ho)).andThen ?_
  rw [hd]; exact .now
theorem keeper_K {cx : Cx} {f : Value} (hk : keepIn cx.K f = true) : KeeperOk cx f := fun h k => keeps_K hk h (cx.X.keeps k)
theorem keeper_type {cx : Cx} {T : String} : KeeperOk cx (.type T) := fun _ _ => ⟨.machine, .inr (.inl rfl), .of_pure rfl⟩
theorem keeper_builtin {cx : Cx} {T : String} : KeeperOk cx (.builtin T) := fun _ _ => ⟨.machine, .inr (.inl rfl), .of_pure rfl⟩

noncomputable def noStars (es : List Expr) : Bool := es.all notStar
theorem noStars_cons {e : Expr} {es : List Expr} (h : noStars (e :: es) = true) : notStar e = true ∧ noStars es = true := by
  unfold noStars at h ⊢
  rw [List.all_cons, Bool.and_eq_true] at h
  exact h
theorem plain_of {pos : Pos} {env : Env} : ∀ {es : List Expr}, noStars es = true → (backTo pos (starEach es env)).any (·.1) = false
  | [], _ => rfl
  | e :: es, h => by
    obtain ⟨h1, h2⟩ := noStars_cons h
    rw [starEach_cons h1]
    show (false || (backTo pos (starEach es env)).any (·.1)) = false
    rw [plain_of h2]; rfl
theorem few_of {pos : Pos} {env : Env} : ∀ {es : List Expr}, noStars es = true → (backTo pos (starEach es env)).all (fun x => !x.1) = true
  | [], _ => rfl
  | e :: es, h => by
    obtain ⟨h1, h2⟩ := noStars_cons h
    rw [starEach_cons h1]
    show (true && (backTo pos (starEach es env)).all (fun x => !x.1)) = true
    rw [few_of h2]; rfl

section
variable {cx : Cx} {d : Nat} {env : Env} {sc : Scope} {ρ : Loc} {σ σ' σ₁ σ₂ σ₃ : Sto} {v x a b c : AV} {vs : List AV}

theorem callWith_plain {A : Around} {s : Shared} {pos : Pos} {f : Value} {first : List Value} {es : List Expr} {Q : Value → Shared → Prop} {E : Value → Shared → Prop} (hs : noStars es = true) (hk : KeeperOk cx f)
    (h : wpAny (model cx.prog cx.w) A (spliced (backTo pos (starEach es env))) (fun vs s₁ => Kept cx s₁.heap ∧ wpAny (model cx.prog cx.w) A (call f (first ++ vs)) Q E s₁) E s) :
    wpAny (model cx.prog cx.w) A (callWith pos f first (backTo pos (starEach es env)) []) Q E s := by
  cases es with
  | nil =>
    refine callWith_of (P := Kept cx) rfl hk ?_
    have h' := h
    show wpAny _ _ (evalArgs f true [] []) _ _ _
    unfold evalArgs
    show wpAny _ A (spliced [] >>= _) _ E s
    exact wpAny_bind (wpAny_mono h' (fun vs s' h'' => wpAny_holding (wpAny_bind (wpAny_pure (wpAny_bind (wpAny_pure (wpAny_pure h'')))))) fun _ _ x => x)
  | cons e rest =>
    have hp := plain_of (pos := pos) (env := env) hs
    rw [starEach_cons (noStars_cons hs).1] at h hp ⊢
    exact callWith_of (P := Kept cx) (by rw [hp]; rfl) hk (Calls.evalArgs_plain h)

theorem S_call_name {id : Str} {p pos : Pos} {es : List Expr} {fv : Value} (hs : noStars es = true) (hf : SimE cx d env ρ σ (eval (.Name id p) env) (.val fv) σ₁) (hk : KeeperOk cx fv)
    (hl : SimL cx d env ρ σ₁ (spliced (backTo pos (starEach es env))) vs σ₂) (ho : OpE cx d vs σ₂ (fun cs => call fv cs) v σ₃) : SimE cx d env ρ σ (eval (.Call (.Name id p) es [] pos) env) v σ₃ := by
  intro A α s R S F
  show wpAny _ A (do callWith pos (← eval (.Name id p) env) [] (backTo pos (starEach es env)) (backToKw pos (keywordEach [] env))) _ _ s
  refine wpAny_bind (wpAny_mono (hf A α s R S F) (fun f s₁ ⟨α₁, w₁, r₁⟩ => ?_) fun _ _ e => e)
  simp only [rep] at r₁
  subst r₁
  refine callWith_plain hs hk (wpAny_mono (hl A α₁ s₁ R w₁.so (F.fwd S w₁)) (fun cs s₂ ⟨α₂, w₂, r₂⟩ => ⟨w₂.so.keep, ?_⟩) fun _ _ e => e)
  exact wpAny_mono (ho A α₂ s₂ cs R w₂.so r₂) (fun c s₃ ⟨α₃, w₃, r₃⟩ => ⟨α₃, (w₁.trans w₂).trans w₃, r₃⟩) fun _ _ e => e

noncomputable def MethAt (cx : Cx) (d : Nat) (x : AV) (σ : Sto) (name : Str) (fv : Value) : Prop :=
  ∀ (A : Around) (α : List Addr) (s : Shared) (c : Value) (pl : Sem Bool) (Q : Value × List Value → Shared → Prop) (E : Value → Shared → Prop), Room A d → SO cx α σ s.heap → rep cx.ban s.heap α x c → Q (fv, [c]) s →
    wpAny (model cx.prog cx.w) A (getMethod c name pl) Q E s

noncomputable def notSuper : Expr → Bool
  | .Call _ [] _ _ => false
  | _ => true
theorem base_of {o : Expr} {attr : Str} (h : notSuper o = true) (whole : Sem Value) : attributeBase o attr env whole = whole := by
  cases o with
  | Call f as ks p => cases as with
    | nil => exact Bool.noConfusion h
    | cons a r => cases f <;> rfl
  | _ => rfl
theorem sub_ex (i : Expr) (x y : Value) : ∃ l, subscripted i false x y = operate l (getItem x y) := by
  cases i with
  | Slice a b c p => cases c <;> exact ⟨_, rfl⟩
  | _ => exact ⟨_, rfl⟩

theorem S_call_method {o : Expr} {name : Str} {apos pos : Pos} {es : List Expr} {fv : Value} (hs : noStars es = true) (hn : es.length < 20) (hsup : notSuper o = true) (hline : (apos.endLine == pos.line) = true)
    (hf : SimE cx d env ρ σ (eval o env) x σ₁) (hm : MethAt cx d x σ₁ name fv) (hk : KeeperOk cx fv)
    (hl : SimL cx d env ρ σ₁ (spliced (backTo pos (starEach es env))) vs σ₂) (ho : OpE cx d (x :: vs) σ₂ (fun cs => call fv cs) v σ₃) : SimE cx d env ρ σ (eval (.Call (.Attribute o name apos) es [] pos) env) v σ₃ := by
  intro A α s R S F
  rw [arm_eval_Call, base_of hsup]
  refine wpAny_bind (wpAny_mono (hf A α s R S F) (fun f s₁ ⟨α₁, w₁, r₁⟩ => ?_) fun _ _ e => e)
  refine wpAny_bind (wpAny_standAt ?_)
  have hform : methodCallForm (es.length + ([] : List Keyword).length) (backTo pos (starEach es env)) (backToKw pos (keywordEach [] env)) = true := by
    unfold methodCallForm
    rw [few_of hs]
    show (true && true && decide (es.length + 0 + 0 < 30)) = true
    simp; lia
  have hpos : methodCallPos true o env apos pos = pure pos := by unfold methodCallPos; simp [hline]
  unfold methodCall
  rw [hform]
  refine wpAny_bind (wpAny_holding (hm A α₁ s₁ f _ _ _ R w₁.so r₁ ?_))
  refine wpAny_bind (wpAny_of_eq hpos ?_)
  refine callWith_plain hs hk (wpAny_mono (hl A α₁ s₁ R w₁.so (F.fwd S w₁)) (fun cs s₂ ⟨α₂, w₂, r₂⟩ => ⟨w₂.so.keep, ?_⟩) fun _ _ e => e)
  refine wpAny_mono (ho A α₂ s₂ (f :: cs) R w₂.so ?_) (fun c s₃ ⟨α₃, w₃, r₃⟩ => ⟨α₃, (w₁.trans w₂).trans w₃, r₃⟩) fun _ _ e => e
  simp only [reps]
  exact ⟨f, cs, rfl, w₂.rep w₁.so r₁, r₂⟩

/-- a subscript that is no slice with two ends -/
theorem S_subscript {o i : Expr} {pos : Pos} (ho : SimE cx d env ρ σ (eval o env) a σ₁) (hi : SimE cx d env ρ σ₁ (eval i env) b σ₂)
    (hT : ∀ α s c, SO cx α σ₂ s.heap → rep cx.ban s.heap α a c → ∃ T id, typeLookup (.type T) "__getitem__" = pure (some (.builtin id)) ∧ Shared.TypeIs s c T)
    (hg : OpE cx d [a, b] σ₂ (fun cs => match cs with | [x, y] => getItem x y | _ => .unsupported "") v σ₃) : SimE cx d env ρ σ (eval (.Subscript o i pos) env) v σ₃ := by
  intro A α s R S F
  rw [eval_Subscript]
  refine wpAny_bind (wpAny_mono (ho A α s R S F) (fun x s₁ ⟨α₁, w₁, r₁⟩ => ?_) fun _ _ e => e)
  refine wpAny_bind (wpAny_holding (wpAny_mono (hi A α₁ s₁ R w₁.so (F.fwd S w₁)) (fun y s₂ ⟨α₂, w₂, r₂⟩ => wpAny_bind (wpAny_standAt ?_)) fun _ _ e => e))
  have r₁' := w₂.rep w₁.so r₁
  obtain ⟨T, id, hl, hty⟩ := hT α₂ s₂ x w₂.so r₁'
  have fin : ∀ l, wpAny (model cx.prog cx.w) A (operate l (getItem x y)) (fun r s₃ => wpAny (model cx.prog cx.w) A (letTemporaryGo o x r >>= fun _ => pure r) (fun cv s' => ∃ α', Fwd cx [] α s σ₃ α' s' ∧ rep cx.ban s'.heap α' v cv) NoE s₃) NoE s₂ := by
    intro l
    refine wpAny_operating (wpAny_mono (hg A α₂ s₂ [x, y] R w₂.so (by simp only [reps]; exact ⟨x, _, rfl, r₁', y, _, rfl, r₂, rfl⟩)) (fun z s₃ ⟨α₃, w₃, r₃⟩ => ?_) fun _ _ e => e)
    exact wpAny_bind (wpAny_letTemporaryGo (wpAny_pure ⟨α₃, (w₁.trans w₂).trans w₃, r₃⟩))
  obtain ⟨l, hsub⟩ := sub_ex i x y
  refine wpAny_bind ?_
  rw [getitemInPython_of_ne hty.not_modules]
  refine wpAny_bind (wpAny_specialOf hty hl ?_)
  refine wpAny_pure ?_
  rw [hsub]
  exact wpAny_bind (fin l)

theorem S_attribute {o : Expr} {name : Str} {pos : Pos} (hsup : notSuper o = true) (ho : SimE cx d env ρ σ (eval o env) a σ₁) (hg : OpE cx d [a] σ₁ (fun cs => match cs with | [x] => getAttr x name true | _ => .unsupported "") v σ₂) :
    SimE cx d env ρ σ (eval (.Attribute o name pos) env) v σ₂ := by
  intro A α s R S F
  rw [arm_eval_Attribute, base_of hsup]
  refine wpAny_bind (wpAny_mono (ho A α s R S F) (fun x s₁ ⟨α₁, w₁, r₁⟩ => ?_) fun _ _ e => e)
  refine wpAny_bind (wpAny_standAt (wpAny_bind (wpAny_holding ?_)))
  refine wpAny_mono (hg A α₁ s₁ [x] R w₁.so (by simp only [reps]; exact ⟨x, _, rfl, r₁, rfl⟩)) (fun z s₂ ⟨α₂, w₂, r₂⟩ => ?_) fun _ _ e => e
  exact wpAny_bind (wpAny_letTemporaryGo (wpAny_pure ⟨α₂, w₁.trans w₂, r₂⟩))
end
end Mine

end

noncomputable section
open PySem PySem.W PyProof.Rows
set_option Elab.async false
set_option maxRecDepth 100000
set_option linter.unusedVariables false
namespace Mine

/-! going on with what came -/
section
variable {α β : Type}
noncomputable def go (x : Option (α × Sto)) (k : α → Sto → Option β) : Option β := match x with
  | some (a, σ) => k a σ
  | none => none
noncomputable def go3 (x : Option (Flw × Loc × Sto)) (k : Flw → Loc → Sto → Option β) : Option β := match x with
  | some (f, ρ, σ) => k f ρ σ
  | none => none
noncomputable def goO (x : Option α) (k : α → Option β) : Option β := match x with
  | some a => k a
  | none => none
noncomputable def iff (b : Bool) (x y : Option β) : Option β := match b with
  | true => x
  | false => y
noncomputable def asB (a : AV) (k : Bool → Option β) : Option β := match a with
  | .bool t => k t
  | _ => none
noncomputable def asI (a : AV) (k : Int → Option β) : Option β := match a with
  | .int t => k t
  | _ => none
noncomputable def asT (a : AV) (k : List AV → Option β) : Option β := match a with
  | .tup t => k t
  | _ => none
noncomputable def asR (a : AV) (k : Nat → Option β) : Option β := match a with
  | .ref t => k t
  | _ => none
noncomputable def asV (a : AV) (k : Value → Option β) : Option β := match a with
  | .val t => k t
  | _ => none
noncomputable def asTR (a : AV) (k : List AV → Option β) (k' : Nat → Option β) : Option β := match a with
  | .tup t => k t
  | .ref t => k' t
  | _ => none
variable {b : Bool} {r : β} {a : AV}
theorem no {P : Prop} (h : (none : Option β) = some r) : P := by cases h
theorem go_inv {x : Option (α × Sto)} {k : α → Sto → Option β} (h : go x k = some r) : ∃ a σ, x = some (a, σ) ∧ k a σ = some r := by
  cases x with
  | none => exact no h
  | some p => exact ⟨p.1, p.2, rfl, h⟩
theorem go3_inv {x : Option (Flw × Loc × Sto)} {k : Flw → Loc → Sto → Option β} (h : go3 x k = some r) : ∃ f ρ σ, x = some (f, ρ, σ) ∧ k f ρ σ = some r := by
  cases x with
  | none => exact no h
  | some p => exact ⟨p.1, p.2.1, p.2.2, rfl, h⟩
theorem goO_inv {x : Option α} {k : α → Option β} (h : goO x k = some r) : ∃ a, x = some a ∧ k a = some r := by
  cases x with
  | none => exact no h
  | some p => exact ⟨p, rfl, h⟩
theorem asB_inv {k : Bool → Option β} (h : asB a k = some r) : ∃ t, a = .bool t ∧ k t = some r := by
  cases a <;> first | exact ⟨_, rfl, h⟩ | exact no h
theorem asI_inv {k : Int → Option β} (h : asI a k = some r) : ∃ t, a = .int t ∧ k t = some r := by
  cases a <;> first | exact ⟨_, rfl, h⟩ | exact no h
theorem asT_inv {k : List AV → Option β} (h : asT a k = some r) : ∃ t, a = .tup t ∧ k t = some r := by
  cases a <;> first | exact ⟨_, rfl, h⟩ | exact no h
theorem asR_inv {k : Nat → Option β} (h : asR a k = some r) : ∃ t, a = .ref t ∧ k t = some r := by
  cases a <;> first | exact ⟨_, rfl, h⟩ | exact no h
theorem asV_inv {k : Value → Option β} (h : asV a k = some r) : ∃ t, a = .val t ∧ k t = some r := by
  cases a <;> first | exact ⟨_, rfl, h⟩ | exact no h
theorem asTR_inv {k : List AV → Option β} {k' : Nat → Option β} (h : asTR a k k' = some r) : (∃ t, a = .tup t ∧ k t = some r) ∨ (∃ t, a = .ref t ∧ k' t = some r) := by
  cases a <;> first | exact .inl ⟨_, rfl, h⟩ | exact .inr ⟨_, rfl, h⟩ | exact no h
noncomputable def optG (x : Option α) (y : β) (k : α → β) : β := match x with
  | none => y
  | some a => k a
theorem optG_inv {x : Option α} {y : β} {k : α → β} (h : optG x y k = r) : (x = none ∧ y = r) ∨ ∃ a, x = some a ∧ k a = r := by
  cases x with
  | none => exact .inl ⟨rfl, h⟩
  | some p => exact .inr ⟨p, rfl, h⟩
end
noncomputable def pre (b : Bool) (x : Option α) : Option α := match b with
  | true => x
  | false => none

theorem pre_some {α : Type} {b : Bool} {x : Option α} {r : α} (h : pre b x = some r) : b = true ∧ x = some r := by
  cases b with
  | true => exact ⟨rfl, h⟩
  | false => exact no h
theorem pre_dec {α : Type} {p : Prop} [Decidable p] {x : Option α} {r : α} (h : pre (decide p) x = some r) : p ∧ x = some r :=
  let ⟨h1, h2⟩ := pre_some h; ⟨of_decide_eq_true h1, h2⟩
noncomputable def asLst (c : Cell) : Option (List AV) := match c with
  | .lst l => some l
  | _ => none
noncomputable def lstAt (σ : Sto) (i : Nat) : Option (List AV) := goO σ[i]? asLst
theorem asLst_inv {c : Cell} {l : List AV} (h : asLst c = some l) : c = .lst l := by
  cases c <;> first | exact congrArg Cell.lst (Option.some.inj h) | exact no h
theorem lstAt_some {σ : Sto} {i : Nat} {l : List AV} (h : lstAt σ i = some l) : σ[i]? = some (.lst l) := by
  obtain ⟨c, e, h⟩ := goO_inv h
  rw [e, asLst_inv h]

section
variable {cx : Cx} {d : Nat} {env : Env} {sc : Scope} {ρ ρ' ρ₁ ρ₂ : Loc} {σ σ' σ₁ σ₂ σ₃ : Sto} {v x a b c : AV} {vs : List AV}

/-- one address that is no cell is changed -/
theorem SO.but {h h' : Heap} {α : List Addr} {L : Addr} (S : SO cx α σ h) (hL : L ∉ α) (hn : cx.h₀.get? L = none) (tk : TupKeep cx.ban h h') (hk : ∀ b o, h.get? b = some o → b ≠ L → h'.get? b = some o) (hlv : h'.get? L ≠ none) : SO cx α σ h' where
  keep := fun b o e => hk b o (S.keep b o e) (fun z => by rw [z, hn] at e; cases e)
  len := S.len
  nd := S.nd
  cell := fun i c a e e' => (S.cell i c a e e').mono tk ⟨[], by simp⟩ fun o ho => hk a o ho fun z => hL (z ▸ List.mem_of_getElem? e')
  new := S.new
  banLive := fun b hb => live_but hk hlv (S.banLive b hb)

theorem FO.congr {h : Heap} {α : List Addr} (F : FO cx env α ρ h) (e : ∀ x, ρ.lookup x = ρ'.lookup x) : FO cx env α ρ' h :=
  ⟨let ⟨m, hn, hv⟩ := F.vars; ⟨m, hn, fun x av q => hv x av ((e x).trans q)⟩, F.off, F.cells, F.new⟩

/-- a local name is bound -/
theorem store_localK (O : EnvOk env sc) {y : Str} (hy : sc.names.lookup y = some .local) {A : Around} {α : List Addr} {s : Shared} {c : Value} (S : SO cx α σ s.heap) (F : FO cx env α ρ s.heap) (r : rep cx.ban s.heap α v c) :
    wpAny (model cx.prog cx.w) A (storeName env y c) (fun _ s' => Fwd cx [env.locals] α s σ α s' ∧ FO cx env α (setL ρ y v) s'.heap ∧ TupKeep cx.ban s.heap s'.heap ∧ ∀ b o, s.heap.get? b = some o → b ≠ env.locals → s'.heap.get? b = some o) NoE s := by
  obtain ⟨m, hn, hv⟩ := F.vars
  have hkind : env.kindOf y = some .local := by unfold Env.kindOf; rw [O.scope]; exact hy
  have hp : (env.scope.kind == .class || (env.scope.kind == .module && env.locals != env.globals)) = false := by rw [O.scope, O.kind]; rfl
  refine wpAny_storeName_local hkind hn (fun h' hn' hs => ?_) hp
  have hoff := F.off env.locals (List.mem_cons_self ..)
  have hk : ∀ b o, s.heap.get? b = some o → b ≠ env.locals → h'.get? b = some o := fun b o e q => hs.extBut b o q e
  have tk : TupKeep cx.ban s.heap h' := fun b ws n _ t => hk b _ t (by
    rintro rfl
    obtain ⟨o, es, ep, e, ed, _⟩ := hn
    rw [t] at e; cases e; cases ed)
  have S' : SO cx α σ h' := S.but hoff.1 F.new tk hk (by obtain ⟨o, _, _, e', _⟩ := hn'; rw [e']; intro z; cases z)
  have cne : ∀ b ∈ env.cells.map (·.2), b ≠ env.locals := by
    rintro b hb rfl
    obtain ⟨w, o, e, ed⟩ := F.cells _ hb
    obtain ⟨o', es, ep, e', ed', _⟩ := hn
    rw [e] at e'; cases e'; rw [ed] at ed'; cases ed'
  have live : ∀ b, s.heap.get? b ≠ none → h'.get? b ≠ none := fun b e => by
    by_cases q : b = env.locals
    · subst q
      obtain ⟨o, _, _, e', _⟩ := hn'
      rw [e']; intro z; cases z
    · cases z : s.heap.get? b with
      | none => exact absurd z e
      | some o => rw [hk b o z q]; intro z; cases z
  refine ⟨⟨⟨h', _, rfl⟩, ⟨[], by simp, by simp⟩, S', live, fun b o e _ hf => hk b o e fun z => hf (z ▸ List.mem_cons_self ..)⟩, ⟨⟨_, hn', fun x av e => ?_⟩, fun b hb => ⟨(F.off b hb).1, live b (F.off b hb).2⟩, fun b hb => ?_, F.new⟩, tk, hk⟩
  · rw [lookup_setL] at e
    by_cases q : x = y
    · subst q
      rw [if_pos rfl] at e
      cases e
      exact .inl ⟨hkind, c, by simp, rep_mono tk ⟨[], by simp⟩ _ _ r⟩
    · rw [if_neg q] at e
      rcases hv x av e with ⟨k, w, hm, hr⟩ | ⟨k, cc, w, hc, ⟨o, eo, ed⟩, hr⟩
      · exact .inl ⟨k, w, by simp [q, hm], rep_mono tk ⟨[], by simp⟩ _ _ hr⟩
      · refine .inr ⟨k, cc, w, hc, ⟨o, hk cc o eo (cne cc ?_), ed⟩, rep_mono tk ⟨[], by simp⟩ _ _ hr⟩
        exact List.mem_map.mpr ⟨(x, cc), mem_of_lookup hc, rfl⟩
  · obtain ⟨w, o, e, ed⟩ := F.cells b hb
    exact ⟨w, o, hk b o e (cne b hb), ed⟩

theorem store_localL (O : EnvOk env sc) {y : Str} (hy : sc.names.lookup y = some .local) {A : Around} {α : List Addr} {s : Shared} {c : Value} (S : SO cx α σ s.heap) (F : FO cx env α ρ s.heap) (r : rep cx.ban s.heap α v c) :
    wpAny (model cx.prog cx.w) A (storeName env y c) (fun _ s' => Fwd cx [env.locals] α s σ α s' ∧ FO cx env α (setL ρ y v) s'.heap ∧ TupKeep cx.ban s.heap s'.heap) NoE s :=
  wpAny_mono (store_localK O hy S F r) (fun _ _ ⟨a, b, c, _⟩ => ⟨a, b, c⟩) fun _ _ e => e

theorem Fwd.wider {fr fr' : List Addr} {α α' : List Addr} {s s' : Shared} (w : Fwd cx fr α s σ' α' s') (h : ∀ b ∈ fr, b ∈ fr') : Fwd cx fr' α s σ' α' s' :=
  ⟨w.same, w.ext, w.so, w.live, fun b o e h1 h2 => w.pres b o e h1 fun m => h2 (h b m)⟩

theorem store_local (O : EnvOk env sc) {y : Str} (hy : sc.names.lookup y = some .local) {A : Around} {α : List Addr} {s : Shared} {c : Value} (S : SO cx α σ s.heap) (F : FO cx env α ρ s.heap) (r : rep cx.ban s.heap α v c) :
    wpAny (model cx.prog cx.w) A (storeName env y c) (fun _ s' => Fwd cx (frA env) α s σ α s' ∧ FO cx env α (setL ρ y v) s'.heap ∧ TupKeep cx.ban s.heap s'.heap) NoE s :=
  wpAny_mono (store_localL O hy S F r) (fun _ _ ⟨w, h⟩ => ⟨w.wider fun b hb => by simp at hb; subst hb; exact List.mem_cons_self .., h⟩) fun _ _ e => e

theorem Fwd.mono' {fr : List Addr} {α α' : List Addr} {s s' : Shared} (w : Fwd cx [] α s σ' α' s') : Fwd cx fr α s σ' α' s' := w.weaken

theorem T_nil : SimS cx d env ρ σ (execs [] env) .next ρ σ := fun A α s R S F => wpAny_execs_nil ⟨α, .refl S, F, rfl⟩

theorem Fwd.transE {fr : List Addr} {α α₁ α₂ : List Addr} {s s₁ s₂ : Shared} (w : Fwd cx [] α s σ₁ α₁ s₁) (w' : Fwd cx fr α₁ s₁ σ₂ α₂ s₂) : Fwd cx fr α s σ₂ α₂ s₂ := w.weaken.trans w'

theorem T_cons_next {st : Stmt} {rest : List Stmt} {f : Flw} (h : SimS cx d env ρ σ (exec st env) .next ρ₁ σ₁) (h' : SimS cx d env ρ₁ σ₁ (execs rest env) f ρ₂ σ₂) : SimS cx d env ρ σ (execs (st :: rest) env) f ρ₂ σ₂ := by
  intro A α s R S F
  refine wpAny_execs_cons (wpAny_mono (h A α s R S F) (fun fl s₁ ⟨α₁, w₁, F₁, r₁⟩ => ?_) fun _ _ e => e)
  simp only [repF] at r₁
  subst r₁
  exact wpAny_mono (h' A α₁ s₁ R w₁.so F₁) (fun fl s₂ ⟨α₂, w₂, F₂, r₂⟩ => ⟨α₂, w₁.trans w₂, F₂, r₂⟩) fun _ _ e => e

theorem T_cons_stop {st : Stmt} {rest : List Stmt} {f : Flw} (hf : ∀ X h α fl, repF X h α f fl → fl ≠ .next) (h : SimS cx d env ρ σ (exec st env) f ρ₁ σ₁) : SimS cx d env ρ σ (execs (st :: rest) env) f ρ₁ σ₁ := by
  intro A α s R S F
  refine wpAny_execs_cons (wpAny_mono (h A α s R S F) (fun fl s₁ ⟨α₁, w₁, F₁, r₁⟩ => ?_) fun _ _ e => e)
  have := hf _ _ _ _ r₁
  cases fl with
  | next => exact absurd rfl this
  | brk => exact ⟨α₁, w₁, F₁, r₁⟩
  | cont => exact ⟨α₁, w₁, F₁, r₁⟩
  | ret w => exact ⟨α₁, w₁, F₁, r₁⟩

noncomputable def notComp : Expr → Bool
  | .ListComp .. | .SetComp .. | .DictComp .. => false
  | _ => true
theorem swaps_false {value : Expr} {t : Option Expr} {n : Nat} (h : notComp value = true) : swapsWith value t n env = pure false := by
  cases value <;> first | rfl | exact Bool.noConfusion h

theorem T_assign_name (O : EnvOk env sc) {y : Str} {p pos : Pos} {value : Expr} (hy : sc.names.lookup y = some .local) (hc : notComp value = true) (h : SimE cx d env ρ σ (eval value env) v σ₁) :
    SimS cx d env ρ σ (exec (.Assign [.Name y p] value pos) env) .next (setL ρ y v) σ₁ := by
  intro A α s R S F
  refine wpAny_Assign_Name (wpAny_mono (h A α s R S F) (fun c s₁ ⟨α₁, w₁, r₁⟩ => ?_) fun _ _ e => e) (swaps_false hc)
  exact wpAny_mono (store_local O hy w₁.so (F.fwd S w₁) r₁) (fun _ s₂ ⟨w₂, F₂, _⟩ => ⟨α₁, w₁.transE w₂, F₂, rfl⟩) fun _ _ e => e

theorem T_expr {e : Expr} {pos : Pos} (O : EnvOk env sc) (hc : notComp e = true) (h : SimE cx d env ρ σ (eval e env) v σ₁) : SimS cx d env ρ σ (exec (.Expr e pos) env) .next ρ σ₁ := by
  intro A α s R S F
  refine wpAny_Expr_any (wpAny_mono (h A α s R S F) (fun c s₁ ⟨α₁, w₁, r₁⟩ => ⟨α₁, w₁.weaken, F.fwd S w₁, rfl⟩) fun _ _ e => e) ?_ (swaps_false hc)
  unfold interactive; rw [O.scope, O.kind]; rfl

theorem T_return {e : Expr} {pos : Pos} (h : SimE cx d env ρ σ (eval e env) v σ₁) : SimS cx d env ρ σ (exec (.Return (some e) pos) env) (.ret v) ρ σ₁ :=
  fun A α s R S F => wpAny_Return_some (wpAny_mono (h A α s R S F) (fun c s₁ ⟨α₁, w₁, r₁⟩ => ⟨α₁, w₁.weaken, F.fwd S w₁, c, rfl, r₁⟩) fun _ _ e => e)
theorem T_continue {pos : Pos} : SimS cx d env ρ σ (exec (.Continue pos) env) .cont ρ σ := fun A α s R S F => wpAny_Continue ⟨α, .refl S, F, rfl⟩
theorem T_pass {pos : Pos} : SimS cx d env ρ σ (exec (.Pass pos) env) .next ρ σ := fun A α s R S F => wpAny_Pass ⟨α, .refl S, F, rfl⟩

theorem T_if {t : Expr} {xs ys : List Stmt} {pos : Pos} {k : Bool} {f : Flw} (h : SimB cx d env ρ σ (isTrue t env (eval t env)) k σ₁) (hx : k = true → SimS cx d env ρ σ₁ (execs xs env) f ρ' σ₂) (hy : k = false → SimS cx d env ρ σ₁ (execs ys env) f ρ' σ₂) :
    SimS cx d env ρ σ (exec (.If t xs ys pos) env) f ρ' σ₂ := by
  intro A α s R S F
  refine wpAny_If (wpAny_mono (h A α s R S F) (fun b s₁ ⟨e, α₁, w₁⟩ => ?_) fun _ _ e => e)
  subst e
  cases b with
  | true => exact wpAny_mono (hx rfl A α₁ s₁ R w₁.so (F.fwd S w₁)) (fun z s₂ ⟨α₂, w₂, F₂, r₂⟩ => ⟨α₂, w₁.transE w₂, F₂, r₂⟩) fun _ _ e => e
  | false => exact wpAny_mono (hy rfl A α₁ s₁ R w₁.so (F.fwd S w₁)) (fun z s₂ ⟨α₂, w₂, F₂, r₂⟩ => ⟨α₂, w₁.transE w₂, F₂, r₂⟩) fun _ _ e => e

/-- what a loop makes of a turn of its body -/
noncomputable def nextL (x : Option (Flw × Loc × Sto)) (k : Loc → Sto → Option (Flw × Loc × Sto)) : Option (Flw × Loc × Sto) := go3 x fun f ρ σ => match f with
  | .next => k ρ σ
  | .cont => k ρ σ
  | .brk => some (.next, ρ, σ)
  | .ret v => some (.ret v, ρ, σ)
theorem end_as {fr α α₁ : List Addr} {s s₁ : Shared} {f g : Flw} {fl : Flow} (e : some (g, ρ, σ) = some (f, ρ', σ')) (w : Fwd cx fr α s σ α₁ s₁) (F : FO cx env α₁ ρ s₁.heap) (r : repF cx.ban s₁.heap α₁ g fl) :
    ∃ α', Fwd cx fr α s σ' α' s₁ ∧ FO cx env α' ρ' s₁.heap ∧ repF cx.ban s₁.heap α' f fl := by
  cases e; exact ⟨_, w, F, r⟩
theorem turn_body {A : Around} {body : List Stmt} {bod : Loc → Sto → Option (Flw × Loc × Sto)} {α α₁ : List Addr} {s s₁ : Shared} {f : Flw} {k : Loc → Sto → Option (Flw × Loc × Sto)} {J : Shared → Prop} {Q : Flow → Shared → Prop} {E : Value → Shared → Prop}
    (hb : ∀ ρ σ f ρ' σ', bod ρ σ = some (f, ρ', σ') → SimS cx d env ρ σ (execs body env) f ρ' σ') (R : Room A d) (w : Fwd cx (frA env) α s σ₁ α₁ s₁) (F : FO cx env α₁ ρ₁ s₁.heap) (e : nextL (bod ρ₁ σ₁) k = some (f, ρ', σ'))
    (stay : ∀ ρ₂ σ₂ α₂ s₂, Fwd cx (frA env) α₁ s₁ σ₂ α₂ s₂ → FO cx env α₂ ρ₂ s₂.heap → k ρ₂ σ₂ = some (f, ρ', σ') → J s₂)
    (hn : ∀ s, J s → Q .next s) (hc : ∀ s, J s → Q .cont s) (hk : ∀ s₂, (∃ α', Fwd cx (frA env) α s σ' α' s₂ ∧ FO cx env α' ρ' s₂.heap ∧ repF cx.ban s₂.heap α' f .next) → Q .brk s₂)
    (hr : ∀ v s₂, (∃ α', Fwd cx (frA env) α s σ' α' s₂ ∧ FO cx env α' ρ' s₂.heap ∧ repF cx.ban s₂.heap α' f (.ret v)) → Q (.ret v) s₂) :
    wpAny (model cx.prog cx.w) A (execs body env) Q E s₁ := by
  obtain ⟨g, ρ₂, σ₂, hbo, e⟩ := go3_inv e
  refine wpAny_mono (hb _ _ _ _ _ hbo A α₁ s₁ R w.so F) (fun fl s₂ ⟨α₂, w₂, F₂, r₂⟩ => ?_) fun _ _ e => e.elim
  cases g with
  | next => rw [show fl = .next from r₂]; exact hn _ (stay _ _ _ _ w₂ F₂ e)
  | cont => rw [show fl = .cont from r₂]; exact hc _ (stay _ _ _ _ w₂ F₂ e)
  | brk => rw [show fl = .brk from r₂]; exact hk _ (end_as e (w.trans w₂) F₂ rfl)
  | ret v => obtain ⟨u, eu, ru⟩ := r₂; rw [eu]; exact hr _ _ (end_as e (w.trans w₂) F₂ ⟨u, rfl, ru⟩)

/-- a while: as far as it turns -/
noncomputable def whileL (tst : Loc → Sto → Option (Bool × Sto)) (bod : Loc → Sto → Option (Flw × Loc × Sto)) : Nat → Loc → Sto → Option (Flw × Loc × Sto)
  | 0, _, _ => none
  | n + 1, ρ, σ => go (tst ρ σ) fun t σ₁ => iff t (nextL (bod ρ σ₁) (whileL tst bod n)) (some (.next, ρ, σ₁))

theorem T_while {test : Expr} {body : List Stmt} {pos : Pos} {tst : Loc → Sto → Option (Bool × Sto)} {bod : Loc → Sto → Option (Flw × Loc × Sto)} {n : Nat} {f : Flw}
    (ht : ∀ ρ σ b σ₁, tst ρ σ = some (b, σ₁) → SimB cx d env ρ σ (isTrue test env (eval test env)) b σ₁)
    (hb : ∀ ρ σ f ρ' σ', bod ρ σ = some (f, ρ', σ') → SimS cx d env ρ σ (execs body env) f ρ' σ')
    (h : whileL tst bod n ρ σ = some (f, ρ', σ')) : SimS cx d env ρ σ (exec (.While test body [] pos) env) f ρ' σ' := by
  intro A α s R S F
  refine wpAny_While ?_
  refine codeAny_whileLoop (fun n s' => ∃ α₁ ρ₁ σ₁, Fwd cx (frA env) α s σ₁ α₁ s' ∧ FO cx env α₁ ρ₁ s'.heap ∧ whileL tst bod n ρ₁ σ₁ = some (f, ρ', σ')) ?_ n ⟨α, ρ, σ, .refl S, F, h⟩
  rintro k s₁ ⟨α₁, ρ₁, σ₁, w₁, F₁, e⟩
  cases k with
  | zero => exact no e
  | succ k =>
    obtain ⟨b, σ₂, hts, e⟩ := go_inv e
    refine wpAny_mono (ht _ _ _ _ hts A α₁ s₁ R w₁.so F₁) (fun b' s₂ ⟨e', α₂, w₂⟩ => ?_) fun _ _ e => e.elim
    subst e'
    have F₂ := F₁.fwd w₁.so w₂
    have w₁₂ := w₁.trans (w₂.weaken (fr := frA env))
    cases b' with
    | false => exact wpAny_execs_nil (end_as e w₁₂ F₂ rfl)
    | true => exact turn_body hb R w₁₂ F₂ e (J := fun s₃ => ∃ m, m < k + 1 ∧ ∃ α₁ ρ₁ σ₁, Fwd cx (frA env) α s σ₁ α₁ s₃ ∧ FO cx env α₁ ρ₁ s₃.heap ∧ whileL tst bod m ρ₁ σ₁ = some (f, ρ', σ')) (fun ρ₃ σ₃ α₃ s₃ w₃ F₃ e => ⟨k, Nat.lt_succ_self _, α₃, ρ₃, σ₃, w₁₂.trans w₃, F₃, e⟩) (fun _ h => h) (fun _ h => h) (fun _ h => h) fun _ _ h => h
end
end Mine

end

noncomputable section
open PySem PySem.W PyProof.Rows
set_option Elab.async false
set_option maxRecDepth 100000
set_option linter.unusedVariables false
namespace Mine

section
variable {cx : Cx} {d : Nat} {env : Env} {sc : Scope} {ρ ρ' ρ₁ ρ₂ : Loc} {σ σ' σ₁ σ₂ σ₃ : Sto} {v x a b c : AV} {vs : List AV}

/-- addresses that are new since s and no cells may be changed; what is banned is no tuple that is read -/
theorem touchW {fr α α₁ wr : List Addr} {s s₁ : Shared} {h' : Heap} {tk : Nat} (hS : ∀ b o, cx.h₀.get? b = some o → s.heap.get? b = some o) (w : Fwd cx fr α s σ₁ α₁ s₁)
    (hw : ∀ I ∈ wr, s.heap.get? I = none ∧ I ∉ α₁ ∧ (I ∈ cx.ban → h'.get? I ≠ none) ∧ (I ∈ cx.ban ∨ ∀ vs n, ¬ IsT s₁.heap I vs n))
    (hk : ∀ b o, b ∉ wr → s₁.heap.get? b = some o → h'.get? b = some o) : Fwd cx fr α s σ₁ α₁ { s₁ with heap := h', toks := tk } ∧ TupKeep cx.ban s₁.heap h' := by
  have t : TupKeep cx.ban s₁.heap h' := fun a vs n hb e => by
    by_cases q : a ∈ wr
    · rcases (hw a q).2.2.2 with z | z
      · exact absurd z hb
      · exact absurd e (z vs n)
    · exact hk a _ q e
  have lv : ∀ b, b ∉ wr → s₁.heap.get? b ≠ none → h'.get? b ≠ none := fun b q e => by
    cases z : s₁.heap.get? b with
    | none => exact absurd z e
    | some o => rw [hk b o q z]; intro y; cases y
  have nb : ∀ b, s.heap.get? b ≠ none → b ∉ wr := fun b e q => e (hw b q).1
  refine ⟨⟨?_, w.ext, ⟨fun b o e => ?_, w.so.len, w.so.nd, fun i c a e e' => ?_, w.so.new, fun b hb => ?_⟩, fun b e => lv b (nb b e) (w.live b e), fun b o e h1 h2 => hk b o (nb b (by rw [e]; intro z; cases z)) (w.pres b o e h1 h2)⟩, t⟩
  · obtain ⟨h1, t1, e⟩ := w.same
    exact ⟨h', tk, by rw [e]⟩
  · exact hk b o (nb b (by rw [hS b o e]; intro z; cases z)) (w.so.keep b o e)
  · exact (w.so.cell i c a e e').mono t ⟨[], by simp⟩ fun o ho => hk a o (fun q => (hw a q).2.1 (List.mem_of_getElem? e')) ho
  · by_cases q : b ∈ wr
    · exact (hw b q).2.2.1 hb
    · exact lv b q (w.so.banLive b hb)

theorem touchF {α₁ wr : List Addr} {h h' : Heap} (F : FO cx env α₁ ρ h) (t : TupKeep cx.ban h h') (hf : ∀ I ∈ wr, I ∉ frA env) (hk : ∀ b o, b ∉ wr → h.get? b = some o → h'.get? b = some o) : FO cx env α₁ ρ h' := by
  have hc : ∀ b ∈ frA env, ∀ o, h.get? b = some o → h'.get? b = some o := fun b hb o e => hk b o (fun q => hf b q hb) e
  refine ⟨?_, fun b hb => ⟨(F.off b hb).1, ?_⟩, fun b hb => ?_, F.new⟩
  · obtain ⟨m, hn, hv⟩ := F.vars
    exact ⟨m, hn.at' (hc _ (List.mem_cons_self ..)), fun x av e => (hv x av e).mono t ⟨[], by simp⟩ fun b hb => hc b (List.mem_cons_of_mem _ hb)⟩
  · cases z : h.get? b with
    | none => exact absurd z (F.off b hb).2
    | some o => rw [hc b hb o z]; intro y; cases y
  · obtain ⟨u, o, e, ed⟩ := F.cells b hb
    exact ⟨u, o, hc b (List.mem_cons_of_mem _ hb) o e, ed⟩

theorem touch {fr α α₁ wr : List Addr} {s s₁ : Shared} {h' : Heap} {tk : Nat} (hS : ∀ b o, cx.h₀.get? b = some o → s.heap.get? b = some o) (w : Fwd cx fr α s σ₁ α₁ s₁) (F : FO cx env α₁ ρ s₁.heap)
    (hw : ∀ I ∈ wr, s.heap.get? I = none ∧ I ∉ α₁ ∧ I ∉ frA env ∧ (I ∈ cx.ban → h'.get? I ≠ none) ∧ (I ∈ cx.ban ∨ ∀ vs n, ¬ IsT s₁.heap I vs n))
    (hk : ∀ b o, b ∉ wr → s₁.heap.get? b = some o → h'.get? b = some o) : Fwd cx fr α s σ₁ α₁ { s₁ with heap := h', toks := tk } ∧ FO cx env α₁ ρ h' ∧ TupKeep cx.ban s₁.heap h' := by
  obtain ⟨w', t⟩ := touchW (tk := tk) hS w (fun I h => ⟨(hw I h).1, (hw I h).2.1, (hw I h).2.2.2.1, (hw I h).2.2.2.2⟩) hk
  exact ⟨w', touchF F t (fun I h => (hw I h).2.2.1) hk, t⟩

/-- what a source of items gives: a walk over values that bear the items -/
structure Src (cx : Cx) (A : Around) (env : Env) (α : List Addr) (s : Shared) (σ₁ : Sto) (items : List AV) (α₁ : List Addr) (I : Addr) (s₁ : Shared) : Prop where
  fwd : Fwd cx [] α s σ₁ α₁ s₁
  walk : ∃ fp wr P St, Walks cx.prog cx.w A I fp wr items.length P St ∧ St 0 s₁.heap ∧ (∀ b ∈ fp, b ∉ α₁ ∧ b ∉ frA env ∧ s₁.heap.get? b ≠ none) ∧
    (∀ b ∈ wr, s.heap.get? b = none ∧ ∀ h i, St i h → (h.get? b ≠ none ∧ ∀ vs n, ¬ IsT h b vs n)) ∧
    (∀ i v av, P i v → items[i]? = some av → ∀ h' α', TupKeep cx.ban s₁.heap h' → (∃ β, α' = α₁ ++ β) → rep cx.ban h' α' av v)

/-- a for over items that are known when it begins -/
noncomputable def forL (y : Str) (bod : Loc → Sto → Option (Flw × Loc × Sto)) : List AV → Loc → Sto → Option (Flw × Loc × Sto)
  | [], ρ, σ => some (.next, ρ, σ)
  | v :: r, ρ, σ => nextL (bod (setL ρ y v) σ) (forL y bod r)

noncomputable def notSet : Expr → Bool
  | .Set .. => false
  | _ => true
theorem folded_of {e : Expr} (h : notSet e = true) (x : Value) : foldedSetIterable e env x = pure x := by
  cases e <;> first | rfl | exact Bool.noConfusion h

theorem tup_off {A : Around} {α : List Addr} {s : Shared} (S : SO cx α σ s.heap) (F : FO cx env α ρ s.heap) {t : Addr} {ws : Array Value} {n : Nat} (ht : IsT s.heap t ws n) : t ∉ α ∧ t ∉ frA env := by
  refine ⟨fun m => S.notTup m ws n ht, fun m => ?_⟩
  rcases List.mem_cons.mp m with rfl | m
  · obtain ⟨mm, hn, _⟩ := F.vars
    obtain ⟨o, es, ep, eo, ed, _⟩ := hn
    rw [ht] at eo; cases eo; cases ed
  · obtain ⟨u, o, eo, ed⟩ := F.cells t m
    rw [ht] at eo; cases eo; cases ed

/-- what holds between the turns of a for -/
structure ForV (cx : Cx) (env : Env) (α : List Addr) (s : Shared) (α₁ : List Addr) (s₂ : Shared) (fp : List Addr) (St : Nat → Heap → Prop) (i : Nat) (ρ : Loc) (σ : Sto) (α₂ : List Addr) (s' : Shared) : Prop where
  w : Fwd cx (frA env) α s σ α₂ s'
  F : FO cx env α₂ ρ s'.heap
  st : St i s'.heap
  ext : ∃ β, α₂ = α₁ ++ β
  tk : TupKeep cx.ban s₂.heap s'.heap
  fp : ∀ b ∈ fp, b ∉ α₂ ∧ s'.heap.get? b ≠ none
section
variable {α α₁ α₂ α₃ : List Addr} {s s₂ s' s₃ : Shared} {fp wr : List Addr} {St : Nat → Heap → Prop} {i j : Nat} {h' : Heap} {tk : Nat}
theorem ForV.after {ρ₃ : Loc} (V : ForV cx env α s α₁ s₂ fp St i ρ σ α₂ s') (w : Fwd cx (frA env) α₂ s' σ₃ α₃ s₃) (F : FO cx env α₃ ρ₃ s₃.heap) (hfp : ∀ b ∈ fp, b ∉ frA env)
    (frame : ∀ i h h', St i h → (∀ b ∈ fp, ∀ o, h.get? b = some o → h'.get? b = some o) → St i h') : ForV cx env α s α₁ s₂ fp St i ρ₃ σ₃ α₃ s₃ where
  w := V.w.trans w
  F := F
  st := frame _ _ _ V.st fun b hb o e => w.pres b o e (V.fp b hb).1 (hfp b hb)
  ext := by obtain ⟨β, rfl⟩ := V.ext; obtain ⟨γ, e⟩ := w.ext'; exact ⟨β ++ γ, by rw [e, List.append_assoc]⟩
  tk := fun a vs n x t => by
    have t := V.tk a vs n x t
    have q := tup_off (A := { handled := none }) V.w.so V.F t
    exact w.pres a _ t q.1 q.2
  fp := fun b hb => ⟨w.notIn (V.fp b hb).2 (V.fp b hb).1, w.live b (V.fp b hb).2⟩
theorem ForV.touch (V : ForV cx env α s α₁ s₂ fp St i ρ σ α₂ s') (hS : ∀ b o, cx.h₀.get? b = some o → s.heap.get? b = some o) (hsub : ∀ b ∈ wr, b ∈ fp) (hfp : ∀ b ∈ fp, b ∉ frA env)
    (hw : ∀ b ∈ wr, s.heap.get? b = none ∧ b ∉ cx.ban ∧ h'.get? b ≠ none ∧ ∀ vs n, ¬ IsT s'.heap b vs n) (hk : ∀ b o, b ∉ wr → s'.heap.get? b = some o → h'.get? b = some o) (hst : St j h') :
    ForV cx env α s α₁ s₂ fp St j ρ σ α₂ { s' with heap := h', toks := tk } ∧ TupKeep cx.ban s'.heap h' := by
  obtain ⟨w, F, t⟩ := Mine.touch (tk := tk) hS V.w V.F (fun I h => ⟨(hw I h).1, (V.fp I (hsub I h)).1, hfp I (hsub I h), fun m => absurd m (hw I h).2.1, .inr (hw I h).2.2.2⟩) hk
  refine ⟨⟨w, F, hst, V.ext, fun a vs n x q => t a vs n x (V.tk a vs n x q), fun b hb => ⟨(V.fp b hb).1, ?_⟩⟩, t⟩
  by_cases q : b ∈ wr
  · exact (hw b q).2.2.1
  · cases z : s'.heap.get? b with
    | none => exact absurd z (V.fp b hb).2
    | some o => show h'.get? b ≠ none; rw [hk b o q z]; intro y; cases y
end

theorem T_for (O : EnvOk env sc) {y : Str} {py pos : Pos} {iter : Expr} {body : List Stmt} {items : List AV} {bod : Loc → Sto → Option (Flw × Loc × Sto)} {f : Flw} (hy : sc.names.lookup y = some .local) (hns : notSet iter = true)
    (hi : ∀ (A : Around) (α : List Addr) (s : Shared), Room A d → SO cx α σ s.heap → FO cx env α ρ s.heap →
      wpAny (model cx.prog cx.w) A (eval iter env) (fun x s₁ => wpAny (model cx.prog cx.w) A (pyIter x) (fun it s₂ => ∃ I α₁, it = .ref I ∧ Src cx A env α s σ₁ items α₁ I s₂) NoE s₁) NoE s)
    (hb : ∀ ρ σ f ρ' σ', bod ρ σ = some (f, ρ', σ') → SimS cx d env ρ σ (execs body env) f ρ' σ')
    (h : forL y bod items ρ σ₁ = some (f, ρ', σ')) : SimS cx d env ρ σ (exec (.For (.Name y py) iter body [] pos) env) f ρ' σ' := by
  intro A α s R S F
  refine wpAny_For (wpAny_mono (hi A α s R S F) (fun x s₁ h₁ => wpAny_mono h₁ (fun it s₂ ⟨I, α₁, eI, src⟩ => ?_) fun _ _ e => e.elim) fun _ _ e => e.elim) (folded_of hns)
  subst eI
  obtain ⟨fp, wr, P, St, W, hst, hfp, hwr, hP⟩ := src.walk
  have hff : ∀ b ∈ fp, b ∉ frA env := fun b hb => (hfp b hb).2.1
  refine codeAny_forLoop (fun n s' => ∃ i ρ₂ σ₂ α₂, ForV cx env α s α₁ s₂ fp St i ρ₂ σ₂ α₂ s' ∧ i ≤ items.length ∧ n = items.length - i ∧ forL y bod (items.drop i) ρ₂ σ₂ = some (f, ρ', σ')) ?_ items.length
    ⟨0, ρ, σ₁, α₁, ⟨src.fwd.weaken, F.fwd S src.fwd, hst, ⟨[], (List.append_nil _).symm⟩, fun _ _ _ _ t => t, fun b hb => ⟨(hfp b hb).1, (hfp b hb).2.2⟩⟩, Nat.zero_le _, rfl, h⟩
  rintro n s' ⟨i, ρ₂, σ₂, α₂, V, hle, rfl, e⟩
  have hw : ∀ h' j, St j h' → ∀ b ∈ wr, s.heap.get? b = none ∧ b ∉ cx.ban ∧ h'.get? b ≠ none ∧ ∀ vs n, ¬ IsT s'.heap b vs n := fun h' j hj b hb =>
    ⟨(hwr b hb).1, fun m => S.banLive b m (hwr b hb).1, ((hwr b hb).2 h' j hj).1, ((hwr b hb).2 s'.heap i V.st).2⟩
  by_cases hlt : i < items.length
  · refine W.item i _ _ _ hlt V.st fun v h₁ tk₁ hPv hst₁ hk₁ => ?_
    obtain ⟨V₁, _⟩ := V.touch (tk := tk₁) S.keep W.sub hff (hw h₁ _ hst₁) hk₁ hst₁
    have hr : rep cx.ban h₁ α₂ items[i] v := hP i v items[i] hPv (List.getElem?_eq_getElem hlt) h₁ α₂ V₁.tk V₁.ext
    rw [show items.drop i = items[i] :: items.drop (i + 1) from List.drop_eq_getElem_cons hlt] at e
    refine wpAny_assign_Name (wpAny_mono (store_local O hy V₁.w.so V₁.F hr) (fun _ s₄ ⟨w₄, F₄, t₄⟩ => ?_) fun _ _ e => e.elim)
    have V₄ := V₁.after w₄ F₄ hff W.frame
    exact turn_body hb R V₄.w V₄.F e (J := fun s₅ => ∃ m, m < items.length - i ∧ ∃ i ρ₂ σ₂ α₂, ForV cx env α s α₁ s₂ fp St i ρ₂ σ₂ α₂ s₅ ∧ i ≤ items.length ∧ m = items.length - i ∧ forL y bod (items.drop i) ρ₂ σ₂ = some (f, ρ', σ'))
      (fun ρ₅ σ₅ α₅ s₅ w₅ F₅ e₅ => ⟨_, Nat.sub_succ_lt_self _ _ hlt, i + 1, ρ₅, σ₅, α₅, V₄.after w₅ F₅ hff W.frame, hlt, rfl, e₅⟩) (fun _ h => h) (fun _ h => h) (fun _ h => h) fun _ _ h => h
  · obtain rfl : i = items.length := Nat.le_antisymm hle (Nat.le_of_not_lt hlt)
    refine W.done _ _ _ V.st fun h₁ tk₁ hk₁ => ?_
    obtain ⟨w₃, F₃, _⟩ := touch (tk := tk₁) S.keep V.w V.F (fun b hb => ⟨(hwr b hb).1, (V.fp b (W.sub b hb)).1, hff b (W.sub b hb), fun m => absurd (hwr b hb).1 (S.banLive b m), .inr ((hwr b hb).2 s'.heap _ V.st).2⟩) hk₁
    rw [List.drop_length] at e
    exact wpAny_execs_nil (end_as e w₃ F₃ rfl)

theorem src_tuple {iter : Expr} {l : List AV} (h : SimE cx d env ρ σ (eval iter env) (.tup l) σ₁) : ∀ (A : Around) (α : List Addr) (s : Shared), Room A d → SO cx α σ s.heap → FO cx env α ρ s.heap →
      wpAny (model cx.prog cx.w) A (eval iter env) (fun x s₁ => wpAny (model cx.prog cx.w) A (pyIter x) (fun it s₂ => ∃ I α₁, it = .ref I ∧ Src cx A env α s σ₁ l α₁ I s₂) NoE s₁) NoE s := by
  intro A α s R S F
  refine wpAny_mono (h A α s R S F) (fun x s₁ ⟨α₁, w₁, r₁⟩ => ?_) fun _ _ e => e
  simp only [rep] at r₁
  obtain ⟨t, ws, n, rfl, hx, ht, hr⟩ := r₁
  have F₁ := F.fwd S w₁
  have hIT : s₁.heap.IsTuple t ws := ⟨_, ht, rfl, n, rfl⟩
  refine wpAny_pyIter_tuple hIT ⟨_, α₁, rfl, ?_⟩
  have hne : t ≠ s₁.heap.objs.size := Nat.ne_of_lt (Heap.lt_size ht)
  have hsz : l.length = ws.size := by rw [reps_length _ _ hr]; simp
  have hfr := fresh_size s₁.heap
  have hI0 : s.heap.get? s₁.heap.objs.size = none := by
    cases q : s.heap.get? s₁.heap.objs.size with
    | none => rfl
    | some o => exact absurd hfr (w₁.live _ (by rw [q]; intro z; cases z))
  refine ⟨w₁.trans (.keeps w₁.so ⟨_, _, rfl⟩ fun b o e => Heap.get?_push_of_some _ e), [s₁.heap.objs.size, t], [s₁.heap.objs.size], _, _, hsz ▸ Walks.tuple R.handled _ t hne ws, ⟨⟨_, Heap.get?_push_size _ rfl, rfl, rfl⟩, hIT.push _⟩, ?_, ?_, ?_⟩
  · intro b hb
    simp only [List.mem_cons, List.not_mem_nil, or_false] at hb
    rcases hb with rfl | rfl
    · exact ⟨fun m => w₁.so.live m hfr, fun m => (F₁.off _ m).2 hfr, by rw [Heap.get?_push_size _ rfl]; intro z; cases z⟩
    · obtain ⟨h1, h2⟩ := tup_off (A := A) w₁.so F₁ ht
      exact ⟨h1, h2, by rw [Heap.get?_push_of_some _ ht]; intro z; cases z⟩
  · intro b hb
    simp only [List.mem_cons, List.not_mem_nil, or_false] at hb
    subst hb
    refine ⟨hI0, fun h i st => ?_⟩
    obtain ⟨⟨o, eo, _, ed⟩, _⟩ := st
    refine ⟨(by rw [eo]; intro z; cases z), fun vs n e => ?_⟩
    rw [e] at eo; cases eo; cases ed
  · intro i v av hv hav h' α' tk he
    obtain ⟨v', hv', hr'⟩ := reps_get _ _ hr i av hav
    have : v' = v := by
      have h1 : ws[i]? = some v := hv
      rw [← Array.getElem?_toList] at h1
      exact Option.some.inj (hv'.symm.trans h1)
    subst this
    exact rep_mono (fun a vs n x t => tk a vs n x (Heap.get?_push_of_some _ t)) he _ _ hr'

/-- a for over a list of the store, read anew at each turn -/
noncomputable def forR (y : Str) (bod : Loc → Sto → Option (Flw × Loc × Sto)) (j : Nat) : Nat → Nat → Loc → Sto → Option (Flw × Loc × Sto)
  | 0, _, _, _ => none
  | n + 1, k, ρ, σ => goO (lstAt σ j) fun l => optG l[k]? (some (.next, ρ, σ)) fun v => nextL (bod (setL ρ y v) σ) (forR y bod j n (k + 1))

theorem T_forR (O : EnvOk env sc) {y : Str} {py pos : Pos} {iter : Expr} {body : List Stmt} {j n : Nat} {bod : Loc → Sto → Option (Flw × Loc × Sto)} {f : Flw} (hy : sc.names.lookup y = some .local) (hns : notSet iter = true)
    (hi : SimE cx d env ρ σ (eval iter env) (.ref j) σ₁)
    (hb : ∀ ρ σ f ρ' σ', bod ρ σ = some (f, ρ', σ') → SimS cx d env ρ σ (execs body env) f ρ' σ')
    (h : forR y bod j n 0 ρ σ₁ = some (f, ρ', σ')) : SimS cx d env ρ σ (exec (.For (.Name y py) iter body [] pos) env) f ρ' σ' := by
  intro A α s R S F
  refine wpAny_For (wpAny_mono (hi A α s R S F) (fun x s₁ ⟨α₁, w₁, r₁⟩ => ?_) fun _ _ e => e.elim) (folded_of hns)
  obtain ⟨l, el, rfl⟩ : ∃ l, α₁[j]? = some l ∧ x = .ref l := by simpa only [rep] using r₁
  -- the list at the start
  obtain ⟨its, hits⟩ : ∃ its, s₁.heap.IsList l its := by
    cases n with
    | zero => exact no h
    | succ n =>
      obtain ⟨xs, q, _⟩ := goO_inv h
      obtain ⟨ws, hp, _⟩ := w₁.so.cell j _ l (lstAt_some q) el
      exact ⟨ws, hp.isList⟩
  refine wpAny_pyIter_list hits ?_
  have hfr := fresh_size s₁.heap
  have hI0 : s.heap.get? s₁.heap.objs.size = none := by
    cases q : s.heap.get? s₁.heap.objs.size with
    | none => rfl
    | some o => exact absurd hfr (w₁.live _ (by rw [q]; intro z; cases z))
  generalize hIe : s₁.heap.objs.size = I at *
  have w₁' : Fwd cx [] α s σ₁ α₁ { s₁ with heap := s₁.heap.push { cls := .type "list_iterator", data := .fields #[.ref l, .int 0 0] } } := w₁.trans (.keeps w₁.so ⟨_, _, rfl⟩ fun b o e => Heap.get?_push_of_some _ e)
  have hg : (s₁.heap.push { cls := .type "list_iterator", data := .fields #[.ref l, .int 0 0] }).get? I = some { cls := .type "list_iterator", data := .fields #[.ref l, .int 0 0] } := hIe ▸ Heap.get?_push_size _ rfl
  have hff : ∀ b ∈ [I], b ∉ frA env := fun b hb => by rw [List.mem_singleton.mp hb]; exact fun m => ((F.fwd S w₁).off _ m).2 hfr
  have frame : ∀ (i : Nat) (h h' : Heap), h.IsListIter I l i → (∀ b ∈ [I], ∀ o, h.get? b = some o → h'.get? b = some o) → h'.IsListIter I l i := fun i h h' ⟨o, eo, q⟩ hk => ⟨o, hk I (List.mem_singleton.mpr rfl) o eo, q⟩
  refine codeAny_forLoop (fun m s' => ∃ k ρ₂ σ₂ α₂, ForV cx env α s α₁ s₁ [I] (fun k h => h.IsListIter I l k) k ρ₂ σ₂ α₂ s' ∧ forR y bod j m k ρ₂ σ₂ = some (f, ρ', σ')) ?_ n
    ⟨0, ρ, σ₁, α₁, ⟨w₁'.weaken, F.fwd S w₁', ⟨_, hg, rfl, rfl⟩, ⟨[], (List.append_nil _).symm⟩, fun a _ _ _ t => Heap.get?_push_of_some _ t, fun b hb => by rw [List.mem_singleton.mp hb]; exact ⟨fun m => w₁.so.live m hfr, by rw [hg]; intro z; cases z⟩⟩, h⟩
  rintro m s' ⟨k, ρ₂, σ₂, α₂, V, e⟩
  cases m with
  | zero => exact no e
  | succ m =>
  obtain ⟨xs, q, e⟩ := goO_inv e
  have hw : ∀ h' : Heap, h'.get? I ≠ none → ∀ b ∈ [I], s.heap.get? b = none ∧ b ∉ cx.ban ∧ h'.get? b ≠ none ∧ ∀ vs n, ¬ IsT s'.heap b vs n := fun h' hl b hb => by
    rw [List.mem_singleton.mp hb]
    refine ⟨hI0, fun m => S.banLive _ m hI0, hl, fun vs n z => ?_⟩
    obtain ⟨o, eo, _, ed⟩ := V.st
    rw [z] at eo; cases eo; cases ed
  obtain ⟨ws, hp, hz, hr⟩ := V.w.so.cell j _ l (lstAt_some q) (by obtain ⟨β, rfl⟩ := V.ext; rw [List.getElem?_append_left (List.getElem?_eq_some_iff.mp el).1]; exact el)
  rcases optG_inv e with ⟨qk, e⟩ | ⟨av, qk, e⟩
  · have hno : ws[k]? = none := by
      have h1 : xs.length = ws.size := by rw [reps_length _ _ hr, Array.length_toList]
      rw [Array.getElem?_eq_none_iff, ← h1]
      exact List.getElem?_eq_none_iff.mp qk
    refine wpAny_pyNext_list_end R.handled V.st hp.isList hno fun h₁ hk₁ => ?_
    obtain ⟨w₃, F₃, _⟩ := touch (tk := s'.toks) (wr := [I]) S.keep V.w V.F (fun b hb => by
      obtain ⟨q1, q2, q3, q4⟩ := hw s'.heap (V.fp I (List.mem_singleton.mpr rfl)).2 b hb
      exact ⟨q1, (V.fp b hb).1, hff b hb, fun m => absurd m q2, .inr q4⟩) (fun b o hb eo => hk₁ b o (fun z => hb (z ▸ List.mem_singleton.mpr rfl)) eo)
    exact wpAny_execs_nil (end_as e w₃ F₃ rfl)
  · obtain ⟨v, hv, hrv⟩ := reps_get _ _ hr k av qk
    refine wpAny_pyNext_list_item V.st hp.isList (x := v) (by rw [← Array.getElem?_toList]; exact hv) fun h₁ hit₁ hs₁ => ?_
    obtain ⟨V₁, t₁⟩ := V.touch (tk := s'.toks) (wr := [I]) S.keep (fun _ h => h) hff (hw h₁ (by obtain ⟨o, eo, _⟩ := hit₁; rw [eo]; intro z; cases z)) (fun b o hb eo => hs₁.extBut b o (fun z => hb (z ▸ List.mem_singleton.mpr rfl)) eo) hit₁
    refine wpAny_assign_Name (wpAny_mono (store_local O hy V₁.w.so V₁.F (rep_mono t₁ ⟨[], (List.append_nil _).symm⟩ _ _ hrv)) (fun _ s₄ ⟨w₄, F₄, _⟩ => ?_) fun _ _ e => e.elim)
    have V₄ := V₁.after w₄ F₄ hff frame
    exact turn_body hb R V₄.w V₄.F e (J := fun s₅ => ∃ n, n < m + 1 ∧ ∃ k ρ₂ σ₂ α₂, ForV cx env α s α₁ s₁ [I] (fun k h => h.IsListIter I l k) k ρ₂ σ₂ α₂ s₅ ∧ forR y bod j n k ρ₂ σ₂ = some (f, ρ', σ'))
      (fun ρ₅ σ₅ α₅ s₅ w₅ F₅ e₅ => ⟨m, Nat.lt_succ_self _, k + 1, ρ₅, σ₅, α₅, V₄.after w₅ F₅ hff frame, e₅⟩) (fun _ h => h) (fun _ h => h) (fun _ h => h) fun _ _ h => h
end
end Mine

end

noncomputable section
open PySem PySem.W PyProof.Rows
set_option Elab.async false
set_option maxRecDepth 100000
set_option linter.unusedVariables false
namespace Mine

noncomputable def OpU (cx : Cx) (d : Nat) (xs : List AV) (σ : Sto) (f : List Value → Sem Unit) (σ' : Sto) : Prop :=
  ∀ (A : Around) (α : List Addr) (s : Shared) (cs : List Value), Room A d → SO cx α σ s.heap → reps cx.ban s.heap α xs cs →
    wpAny (model cx.prog cx.w) A (f cs) (fun _ s' => ∃ α', Fwd cx [] α s σ' α' s') NoE s

noncomputable def setItemF (cs : List Value) : Sem Unit := match cs with | [o, i, v] => setItem o i v | _ => .unsupported ""
noncomputable def setAttrF (name : Str) (cs : List Value) : Sem Unit := match cs with | [o, v] => setAttr o name v | _ => .unsupported ""

section
variable {cx : Cx} {d : Nat} {env : Env} {sc : Scope} {ρ ρ' ρ₁ ρ₂ : Loc} {σ σ' σ₁ σ₂ σ₃ σ₄ : Sto} {v x a b c : AV} {vs : List AV}

theorem swapped_tup {es : List Expr} {k : Nat} {p : Pos} {value : Expr} (hval : ∀ ws k p, value = .Tuple ws k p → ws.all (constantsAlone 8) = false) :
    swappedStores [.Tuple es k p] value env = pure none ∨ ∃ g : Expr → Option Str, (∀ id p, g (.Name id p) = some id ∨ g (.Name id p) = none) ∧ (es.filterMap g).length = es.length ∧ swappedStores [.Tuple es k p] value env = pure (some (es.filterMap g)) := by
  cases value with
  | Tuple vs' k' p' =>
    have hca := hval _ _ _ rfl
    unfold swappedStores
    dsimp only
    split
    · exact .inl rfl
    · split
      · exact .inl rfl
      · split
        · exact .inl rfl
        · rename_i hlen
          split
          · exact .inl rfl
          · rw [hca, if_neg (by decide)]
            simp only [Bool.or_eq_true, not_or, bne_iff_ne, ne_eq, Decidable.not_not] at hlen
            refine .inr ⟨_, fun id p => ?_, hlen.1, rfl⟩
            dsimp only
            split
            · exact .inl rfl
            · exact .inr rfl
  | _ => exact .inl rfl

theorem assign_one {t value : Expr} {pos : Pos} {A : Around} {s : Shared} {Q : Flow → Shared → Prop} {E : Value → Shared → Prop} (hc : notComp value = true) (hts : swappedStores [t] value env = pure none) (hst : assignEach [t] env = [(false, assign t env)])
    (h : wpAny (model cx.prog cx.w) A (eval value env) (fun v s₁ => wpAny (model cx.prog cx.w) A (assign t env v) (fun _ => Q .next) E s₁) E s) : wpAny (model cx.prog cx.w) A (exec (.Assign [t] value pos) env) Q E s := by
  refine wpAny_Assign_stores (wpAny_mono h (fun v s₁ h₁ => ?_) fun _ _ x => x) (swaps_false hc) hts
  rw [hst]
  exact h₁

theorem T_assign_subscript {o i value : Expr} {p pos : Pos} (hc : notComp value = true) (hv : SimE cx d env ρ σ (eval value env) v σ₁) (ho : SimE cx d env ρ σ₁ (eval o env) a σ₂) (hi : SimE cx d env ρ σ₂ (eval i env) b σ₃)
    (hs : OpU cx d [a, b, v] σ₃ setItemF σ₄) : SimS cx d env ρ σ (exec (.Assign [.Subscript o i p] value pos) env) .next ρ σ₄ := by
  intro A α s R S F
  refine assign_one hc rfl rfl (wpAny_mono (hv A α s R S F) (fun cv s₁ ⟨α₁, w₁, r₁⟩ => ?_) fun _ _ e => e)
  have F₁ := F.fwd S w₁
  rw [arm_assign_Subscript]
  refine wpAny_bind (wpAny_holding (wpAny_mono (ho A α₁ s₁ R w₁.so F₁) (fun co s₂ ⟨α₂, w₂, r₂⟩ => ?_) fun _ _ e => e))
  refine wpAny_bind (wpAny_holding (wpAny_mono (hi A α₂ s₂ R w₂.so (F₁.fwd w₁.so w₂)) (fun ci s₃ ⟨α₃, w₃, r₃⟩ => ?_) fun _ _ e => e))
  refine wpAny_bind (wpAny_standAt (wpAny_bind (wpAny_holding ?_)))
  refine wpAny_mono (hs A α₃ s₃ [co, ci, cv] R w₃.so ?_) (fun _ s₄ ⟨α₄, w₄⟩ => wpAny_release ?_) fun _ _ e => e
  · simp only [reps]
    exact ⟨co, _, rfl, w₃.rep w₂.so r₂, ci, _, rfl, r₃, cv, _, rfl, w₃.rep w₂.so (w₂.rep w₁.so r₁), rfl⟩
  · have w := ((w₁.trans w₂).trans w₃).trans w₄
    exact ⟨α₄, w.weaken, F.fwd S w, rfl⟩

theorem T_assign_attribute {o value : Expr} {name : Str} {p pos : Pos} (hc : notComp value = true) (hv : SimE cx d env ρ σ (eval value env) v σ₁) (ho : SimE cx d env ρ σ₁ (eval o env) a σ₂)
    (hs : OpU cx d [a, v] σ₂ (setAttrF name) σ₃) : SimS cx d env ρ σ (exec (.Assign [.Attribute o name p] value pos) env) .next ρ σ₃ := by
  intro A α s R S F
  refine assign_one hc rfl rfl (wpAny_mono (hv A α s R S F) (fun cv s₁ ⟨α₁, w₁, r₁⟩ => ?_) fun _ _ e => e)
  have F₁ := F.fwd S w₁
  rw [arm_assign_Attribute]
  refine wpAny_bind (wpAny_holding (wpAny_mono (ho A α₁ s₁ R w₁.so F₁) (fun co s₂ ⟨α₂, w₂, r₂⟩ => ?_) fun _ _ e => e))
  refine wpAny_bind (wpAny_standAt (wpAny_bind (wpAny_holding ?_)))
  refine wpAny_mono (hs A α₂ s₂ [co, cv] R w₂.so ?_) (fun _ s₃ ⟨α₃, w₃⟩ => wpAny_release ?_) fun _ _ e => e
  · simp only [reps]
    exact ⟨co, _, rfl, r₂, cv, _, rfl, w₂.rep w₁.so r₁, rfl⟩
  · have w := (w₁.trans w₂).trans w₃
    exact ⟨α₃, w.weaken, F.fwd S w, rfl⟩

/-- names bound one by one -/
noncomputable def setLs : Loc → List Str → List AV → Loc
  | ρ, x :: xs, v :: vs => setLs (setL ρ x v) xs vs
  | ρ, _, _ => ρ

theorem stores_all (O : EnvOk env sc) : ∀ (xs : List Str) (vs : List AV) (cs : List Value) (ρ : Loc) (A : Around) (α : List Addr) (s : Shared) (ts : List (Value → Sem Unit)), xs.length = vs.length → (∀ x ∈ xs, sc.names.lookup x = some .local) →
    SO cx α σ s.heap → FO cx env α ρ s.heap → reps cx.ban s.heap α vs cs → ts.length = xs.length → (∀ (i : Nat) t y, ts[i]? = some t → xs[i]? = some y → ∀ (c : Value) (A : Around) (s : Shared) (Q : Unit → Shared → Prop), wpAny (model cx.prog cx.w) A (storeName env y c) Q NoE s → wpAny (model cx.prog cx.w) A (t c) Q NoE s) →
    wpAny (model cx.prog cx.w) A (assignInOrder ts cs) (fun _ s' => Fwd cx (frA env) α s σ α s' ∧ FO cx env α (setLs ρ xs vs) s'.heap) NoE s
  | [], vs, cs, ρ, A, α, s, ts, hl, _, S, F, r, ht, _ => by
    have : ts = [] := List.length_eq_zero_iff.mp ht
    subst this
    have : vs = [] := List.length_eq_zero_iff.mp hl.symm
    subst this
    exact wpAny_pure ⟨.refl S, F⟩
  | x :: xs, [], cs, ρ, A, α, s, ts, hl, _, S, F, r, ht, _ => by simp at hl
  | x :: xs, v :: vs, cs, ρ, A, α, s, [], hl, _, S, F, r, ht, _ => by simp at ht
  | x :: xs, v :: vs, cs, ρ, A, α, s, t :: ts, hl, hk, S, F, r, ht, hts => by
    simp only [reps] at r
    obtain ⟨c, cs', rfl, r1, r2⟩ := r
    rw [assignInOrder]
    refine wpAny_bind (wpAny_holding (hts 0 t x rfl rfl c A s _ (wpAny_mono (store_local O (hk x (List.mem_cons_self ..)) S F r1) (fun _ s₁ ⟨w₁, F₁, t₁⟩ => ?_) fun _ _ e => e)))
    refine wpAny_mono (stores_all O xs vs cs' (setL ρ x v) A α s₁ ts (by simpa using hl) (fun y hy => hk y (List.mem_cons_of_mem _ hy)) w₁.so F₁ (reps_mono t₁ ⟨[], (List.append_nil _).symm⟩ _ _ r2) (by simpa using ht) (fun i t' y h1 h2 => hts (i + 1) t' y (by simpa using h1) (by simpa using h2)))
      (fun _ s₂ ⟨w₂, F₂⟩ => ⟨w₁.trans w₂, F₂⟩) fun _ _ e => e

theorem lookup_setLs_notin {y : Str} : ∀ (xs : List Str) (vs : List AV) (ρ : Loc), y ∉ xs → (setLs ρ xs vs).lookup y = ρ.lookup y
  | [], _, _, _ => by cases ‹List AV› <;> rfl
  | x :: xs, [], _, _ => rfl
  | x :: xs, v :: vs, ρ, h => by
    simp only [List.mem_cons, not_or] at h
    rw [setLs, lookup_setLs_notin xs vs _ h.2, lookup_setL, if_neg h.1]

theorem lookup_setLs_in {y : Str} : ∀ (xs : List Str) (vs : List AV) (ρ : Loc), xs.Nodup → xs.length = vs.length → y ∈ xs → (setLs ρ xs vs).lookup y = (xs.zip vs).lookup y
  | [], _, _, _, _, h => by cases h
  | x :: xs, [], _, _, hl, _ => by simp at hl
  | x :: xs, v :: vs, ρ, hn, hl, h => by
    rw [List.nodup_cons] at hn
    rw [setLs, List.zip_cons_cons, List.lookup_cons]
    by_cases e : y = x
    · subst e
      rw [lookup_setLs_notin xs vs _ hn.1, lookup_setL]
      simp
    · have hb : (y == x) = false := beq_eq_false_iff_ne.mpr e
      rw [hb]
      exact lookup_setLs_in xs vs _ hn.2 (by simpa using hl) ((List.mem_cons.mp h).resolve_left e)

theorem lookup_nodup {K V : Type} [BEq K] [LawfulBEq K] : ∀ {l : List (K × V)} {k : K} {v : V}, (l.map (·.1)).Nodup → (k, v) ∈ l → l.lookup k = some v
  | [], _, _, _, h => by cases h
  | (k', v') :: l, k, v, hn, h => by
    rw [List.map_cons, List.nodup_cons] at hn
    rw [List.lookup_cons]
    rcases List.mem_cons.mp h with e | h
    · cases e; simp
    · have hne : k ≠ k' := fun e => hn.1 (e ▸ List.mem_map.mpr ⟨(k, v), h, rfl⟩)
      rw [beq_eq_false_iff_ne.mpr hne]
      exact lookup_nodup hn.2 h

theorem setLs_reverse {xs : List Str} {vs : List AV} (hn : xs.Nodup) (hl : xs.length = vs.length) (y : Str) : (setLs ρ xs.reverse vs.reverse).lookup y = (setLs ρ xs vs).lookup y := by
  have hr : xs.reverse.Nodup := by
    unfold List.Nodup
    rw [List.pairwise_reverse]
    exact hn.imp fun h => Ne.symm h
  by_cases h : y ∈ xs
  · rw [lookup_setLs_in xs vs ρ hn hl h, lookup_setLs_in _ _ ρ hr (by simpa using hl) (by simpa using h)]
    obtain ⟨i, hi, rfl⟩ := List.getElem_of_mem h
    have hv : i < vs.length := hl ▸ hi
    have hm : (xs[i], vs[i]) ∈ xs.zip vs := List.mem_iff_getElem.mpr ⟨i, by rw [List.length_zip]; lia, by simp⟩
    have hm' : (xs[i], vs[i]) ∈ xs.reverse.zip vs.reverse := by
      refine List.mem_iff_getElem.mpr ⟨xs.length - 1 - i, by rw [List.length_zip, List.length_reverse, List.length_reverse]; lia, ?_⟩
      have e1 : xs.length - 1 - (xs.length - 1 - i) = i := by lia
      have e2 : vs.length - 1 - (xs.length - 1 - i) = i := by lia
      simp [e1, e2]
    rw [lookup_nodup (by rw [zip_names xs vs hl.symm]; exact hn) hm, lookup_nodup (by rw [zip_names _ _ (by simp [hl])]; exact hr) hm']
  · rw [lookup_setLs_notin _ _ _ h, lookup_setLs_notin _ _ _ (by simpa using h)]

noncomputable def tupleNames : List Expr → Option (List Str)
  | [] => some []
  | .Name id _ :: r => (tupleNames r).map (id :: ·)
  | _ :: _ => none

theorem assignEach_names : ∀ {es : List Expr} {xs : List Str}, tupleNames es = some xs → (assignEach es env).length = xs.length ∧ (assignEach es env).findIdx? (·.1) = none ∧
    (∀ (i : Nat) t y, ((assignEach es env).map (·.2))[i]? = some t → xs[i]? = some y → ∀ (c : Value) (A : Around) (s : Shared) (Q : Unit → Shared → Prop), wpAny (model cx.prog cx.w) A (storeName env y c) Q NoE s → wpAny (model cx.prog cx.w) A (t c) Q NoE s)
  | [], xs, h => by
    cases h
    exact ⟨rfl, rfl, fun i t y h1 _ => by simp [assignEach] at h1⟩
  | e :: es, xs, h => by
    cases e with
    | Name id p =>
      rw [tupleNames] at h
      cases q : tupleNames es with
      | none => rw [q] at h; cases h
      | some ys =>
        rw [q] at h
        cases h
        obtain ⟨h1, h2, h3⟩ := assignEach_names q
        have e1 : assignEach (.Name id p :: es) env = (false, assign (.Name id p) env) :: assignEach es env := rfl
        rw [e1]
        refine ⟨by simp [h1], by rw [List.findIdx?_cons]; simp [h2], fun i t y g1 g2 c A s Q w => ?_⟩
        cases i with
        | zero =>
          simp at g1 g2
          subst g1; subst g2
          exact wpAny_assign_Name w
        | succ i => exact h3 i t y (by simpa using g1) (by simpa using g2) c A s Q w
    | _ => cases h

noncomputable def okTuple : Expr → Bool
  | .Tuple vs _ _ => !vs.all (constantsAlone 8) && notComp (.Tuple vs 0 default)
  | _ => true

theorem names_eq (g : Expr → Option Str) (hg : ∀ id p, g (.Name id p) = some id ∨ g (.Name id p) = none) : ∀ (ts : List Expr) (xs : List Str), tupleNames ts = some xs → (ts.filterMap g).length = ts.length → ts.filterMap g = xs
  | [], xs, h, _ => by cases h; rfl
  | e :: ts, xs, h, hl => by
    cases e with
    | Name id p =>
      rw [tupleNames] at h
      cases q : tupleNames ts with
      | none => rw [q] at h; cases h
      | some ys =>
        rw [q] at h
        cases h
        rcases hg id p with e | e
        · rw [List.filterMap_cons, e] at hl ⊢
          simp only [List.length_cons, Nat.add_right_cancel_iff] at hl
          rw [names_eq g hg ts ys q hl]
        · rw [List.filterMap_cons, e] at hl
          have := List.length_filterMap_le g ts
          simp only [List.length_cons] at hl
          lia
    | _ => cases h

/-- names bound from a tuple -/
theorem T_assign_tuple (O : EnvOk env sc) {es : List Expr} {k : Nat} {p pos : Pos} {value : Expr} {xs : List Str} {vs : List AV} (hes : tupleNames es = some xs) (hn : xs.Nodup) (hl : xs.length = vs.length) (hk : ∀ x ∈ xs, sc.names.lookup x = some .local)
    (hc : notComp value = true) (hval : ∀ ws k p, value = .Tuple ws k p → ws.all (constantsAlone 8) = false) (hv : SimE cx d env ρ σ (eval value env) (.tup vs) σ₁) :
    SimS cx d env ρ σ (exec (.Assign [.Tuple es k p] value pos) env) .next (setLs ρ xs vs) σ₁ := by
  intro A α s R S F
  rw [exec_Assign_arm]
  refine wpAny_bind (wpAny_standAt ?_)
  rw [show swapsWithSole [.Tuple es k p] value pos.line env = pure false from (swaps_false (t := some (.Tuple es k p)) (n := pos.line) (env := env) hc)]
  refine wpAny_bind (wpAny_pure ?_)
  rw [if_neg (by decide)]
  refine wpAny_bind (wpAny_mono (hv A α s R S F) (fun cv s₁ ⟨α₁, w₁, r₁⟩ => ?_) fun _ _ e => e)
  have F₁ := F.fwd S w₁
  simp only [rep] at r₁
  obtain ⟨t, ws, n, rfl, hx, ht, hr⟩ := r₁
  have hsz : vs.length = ws.size := by rw [reps_length _ _ hr]; simp
  have hIT : s₁.heap.IsTuple t ws := ⟨_, ht, rfl, n, rfl⟩
  obtain ⟨a1, a2, a3⟩ := assignEach_names (cx := cx) (env := env) hes
  -- the two ways of the stores
  have way1 : wpAny (model cx.prog cx.w) A (assignStores env (.ref t) none ((assignEach [.Tuple es k p] env).map (·.2))) (fun fl s' => ∃ α', Fwd cx (frA env) α s σ₁ α' s' ∧ FO cx env α' (setLs ρ xs vs) s'.heap ∧ repF cx.ban s'.heap α' .next fl) NoE s₁ := by
    show wpAny _ A (do assignAll (.ref t) [assign (.Tuple es k p) env]; pure Flow.next) _ _ s₁
    refine wpAny_bind ?_
    show wpAny _ A (assign (.Tuple es k p) env (.ref t)) _ _ s₁
    refine wpAny_assign_Tuple R.handled hIT (by rw [a1, hl, hsz]) a2 fun h' he => ?_
    have hk' : ∀ b o, s₁.heap.get? b = some o → h'.get? b = some o := fun b o e => he b o (Nat.ne_of_lt (Heap.lt_size e)) e
    have w₂ : Fwd cx [] α₁ s₁ σ₁ α₁ { s₁ with heap := h' } := .keeps w₁.so ⟨_, _, rfl⟩ hk'
    refine wpAny_mono (stores_all O xs vs ws.toList ρ A α₁ _ _ hl hk w₂.so (F₁.fwd w₁.so w₂) (reps_mono (fun a _ _ _ t => hk' a _ t) ⟨[], (List.append_nil _).symm⟩ _ _ hr) (by simpa using a1) a3) (fun _ s₃ ⟨w₃, F₃⟩ => ?_) fun _ _ e => e
    exact wpAny_pure ⟨α₁, (w₁.trans w₂).transE w₃, F₃, rfl⟩
  have way2 : ∀ names : List Str, names = xs → wpAny (model cx.prog cx.w) A (assignStores env (.ref t) (some names) ((assignEach [.Tuple es k p] env).map (·.2))) (fun fl s' => ∃ α', Fwd cx (frA env) α s σ₁ α' s' ∧ FO cx env α' (setLs ρ xs vs) s'.heap ∧ repF cx.ban s'.heap α' .next fl) NoE s₁ := by
    rintro names rfl
    unfold assignStores
    refine wpAny_bind (wpAny_rule ?_)
    have hnl : names.length = ws.size := by rw [hl, hsz]
    rw [hnl]
    refine wpAny_bind (wpAny_unpackItems_tuple R.handled hIT fun h' he => ?_)
    have hk' : ∀ b o, s₁.heap.get? b = some o → h'.get? b = some o := fun b o e => he b o (Nat.ne_of_lt (Heap.lt_size e)) e
    have w₂ : Fwd cx [] α₁ s₁ σ₁ α₁ { s₁ with heap := h' } := .keeps w₁.so ⟨_, _, rfl⟩ hk'
    refine wpAny_bind (wpAny_mono (stores_all O names.reverse vs.reverse ws.toList.reverse ρ A α₁ _ _ (by simp [hl]) (fun x hx => hk x (by simpa using hx)) w₂.so (F₁.fwd w₁.so w₂)
      (reps_reverse _ _ (reps_mono (fun a _ _ _ t => hk' a _ t) ⟨[], (List.append_nil _).symm⟩ _ _ hr)) (by simp) (fun i t y g1 g2 c A s Q w => ?_)) (fun _ s₃ ⟨w₃, F₃⟩ => ?_) fun _ _ e => e)
    · rw [List.getElem?_map, g2] at g1
      cases g1
      exact wpAny_bindName w
    · exact wpAny_pure ⟨α₁, (w₁.trans w₂).transE w₃, F₃.congr (setLs_reverse hn hl), rfl⟩
  rcases swapped_tup (env := env) (es := es) (k := k) (p := p) hval with e | ⟨g, hg, hlen, e⟩
  · rw [e]; exact wpAny_bind (wpAny_pure way1)
  · rw [e]; exact wpAny_bind (wpAny_pure (way2 _ (names_eq g hg _ _ hes hlen)))
end
end Mine

end

noncomputable section
open PySem PySem.W PyProof.Rows
set_option Elab.async false
set_option maxRecDepth 100000
set_option linter.unusedVariables false
namespace Mine

noncomputable def relS (scope sc : Scope) : Scope :=
  { scope with names := scope.names.map fun (n, k) => if (k == .free && sc.kind == .function && sc.names.lookup n == some .cell) then (n, .cell) else (n, k) }

/-- the names that a comprehension's block captures, and what they bear -/
noncomputable def capt (scope sc : Scope) (ρ : Loc) : Loc := ρ.filter fun p => scope.names.lookup p.1 == some .free && sc.names.lookup p.1 == some .cell

noncomputable def compL (y : Str) (tst : Loc → Sto → Option (Bool × Sto)) (elt : Loc → Sto → Option (AV × Sto)) : List AV → Loc → Sto → Option (List AV × Sto)
  | [], _, σ => some ([], σ)
  | v :: r, ρ, σ => match tst (setL ρ y v) σ with
    | some (true, σ₁) => match elt (setL ρ y v) σ₁ with
      | some (w, σ₂) => match compL y tst elt r (setL ρ y v) σ₂ with
        | some (ws, σ₃) => some (w :: ws, σ₃)
        | none => none
      | none => none
    | some (false, σ₁) => compL y tst elt r (setL ρ y v) σ₁
    | none => none

noncomputable def scopeOk (scope sc : Scope) (ρ : Loc) (y : Str) : Bool :=
  scope.kind == .function && scope.names.lookup y == some .local &&
    scope.names.all fun p => p.2 != .cell && (p.2 != .local || scope.names.lookup p.1 == some .local) && (p.2 != .free || ((ρ.lookup p.1).isSome && sc.names.lookup p.1 == some .cell && scope.names.lookup p.1 == some .free))

noncomputable def clF (env : Env) : List (Str × NameKind) → List (Str × Addr) → List (Str × Addr)
  | [], acc => acc
  | (n, k) :: r, acc => if k == .free then (match env.cells.lookup n with | some a => clF env r ((n, a) :: acc) | none => clF env r acc) else clF env r acc

theorem clF_mem {env : Env} : ∀ (names : List (Str × NameKind)) (acc : List (Str × Addr)) (n : Str) (a : Addr), (n, a) ∈ clF env names acc → (n, a) ∈ acc ∨ env.cells.lookup n = some a
  | [], acc, n, a, h => .inl h
  | (m, k) :: r, acc, n, a, h => by
    unfold clF at h
    split at h
    · split at h
      · rename_i b hb
        rcases clF_mem r _ n a h with h | h
        · rcases List.mem_cons.mp h with e | h
          · cases e; exact .inr hb
          · exact .inl h
        · exact .inr h
      · exact clF_mem r _ n a h
    · exact clF_mem r _ n a h
theorem clF_acc {env : Env} : ∀ (names : List (Str × NameKind)) (acc : List (Str × Addr)) (n : Str) (a : Addr), (n, a) ∈ acc → (n, a) ∈ clF env names acc
  | [], acc, n, a, h => h
  | (m, k) :: r, acc, n, a, h => by
    unfold clF
    split
    · split
      · exact clF_acc r _ n a (List.mem_cons_of_mem _ h)
      · exact clF_acc r _ n a h
    · exact clF_acc r _ n a h
theorem clF_has {env : Env} : ∀ (names : List (Str × NameKind)) (acc : List (Str × Addr)) (n : Str) (a : Addr), (n, NameKind.free) ∈ names → env.cells.lookup n = some a → (n, a) ∈ clF env names acc
  | [], acc, n, a, h, _ => by cases h
  | (m, k) :: r, acc, n, a, h, e => by
    unfold clF
    rcases List.mem_cons.mp h with q | h
    · obtain ⟨q1, q2⟩ := Prod.mk.inj q
      subst q1; subst q2
      rw [if_pos (by rfl), e]
      exact clF_acc r _ _ a (List.mem_cons_self ..)
    · split
      · split
        · exact clF_has r _ n a h e
        · exact clF_has r _ n a h e
      · exact clF_has r _ n a h e

theorem lookup_of_all {α β : Type} [BEq α] [LawfulBEq α] {l : List (α × β)} {n : α} {a : β} (hm : (n, a) ∈ l) (hu : ∀ b, (n, b) ∈ l → b = a) : l.lookup n = some a := by
  cases h : l.lookup n with
  | none =>
    exfalso
    have := List.lookup_eq_none_iff.mp h (n, a) hm
    simp at this
  | some b => rw [hu b (mem_of_lookup' h)]

theorem forIn_clF {env : Env} : ∀ (names : List (Str × NameKind)) (acc : List (Str × Addr)), (∀ p ∈ names, p.2 = .free → (env.cells.lookup p.1).isSome = true) →
    (forIn names acc fun (x : Str × NameKind) (cs : List (Str × Addr)) => (do
      match x with
      | (name, kind) => if (kind == .free) = true then do let c ← cellOf env name; pure (ForInStep.yield ((name, c) :: cs)) else pure (ForInStep.yield cs) : Sem (ForInStep (List (Str × Addr))))) = pure (clF env names acc)
  | [], acc, _ => rfl
  | (n, k) :: r, acc, h => by
    rw [List.forIn_cons]
    unfold clF
    have ih := fun acc => forIn_clF (env := env) r acc fun p hp => h p (List.mem_cons_of_mem _ hp)
    by_cases hk : (k == NameKind.free) = true
    · obtain ⟨a, ha⟩ := Option.isSome_iff_exists.mp (h (n, k) (List.mem_cons_self ..) (by simpa using hk))
      simp only [hk, if_true, ha]
      have e : cellOf env n = pure a := by unfold cellOf; rw [ha]
      rw [e]
      exact ih _
    · simp only [hk]
      exact ih _

theorem closure_of {env : Env} {scope : Scope} (h : ∀ p ∈ scope.names, p.2 = .free → (env.cells.lookup p.1).isSome = true) : closureFor scope env = pure (clF env scope.names []) := by
  have := forIn_clF scope.names [] h
  unfold closureFor
  simp only [] at this ⊢
  rw [this]
  rfl

section
variable {cx : Cx} {d : Nat} {env : Env} {sc : Scope} {ρ ρ' ρ₁ ρ₂ : Loc} {σ σ' σ₁ σ₂ σ₃ : Sto} {v x a b c : AV} {vs : List AV}

theorem Fwd.adopt' {fr α α₁ : List Addr} {s s₁ : Shared} {D : Addr} {c : Cell} (hS : ∀ b o, cx.h₀.get? b = some o → s.heap.get? b = some o) (w : Fwd cx fr α s σ₁ α₁ s₁) (hD : D ∉ α₁) (hs : s.heap.get? D = none) (hc : CellAt cx s₁.heap (α₁ ++ [D]) c D) :
    Fwd cx fr α s (σ₁ ++ [c]) (α₁ ++ [D]) s₁ where
  same := w.same
  ext := by
    obtain ⟨β, e, hβ⟩ := w.ext
    refine ⟨β ++ [D], by rw [e, List.append_assoc], fun b hb => ?_⟩
    rcases List.mem_append.mp hb with hb | hb
    · exact hβ b hb
    · simp at hb; subst hb; exact hs
  so := by
    refine ⟨w.so.keep, by simp [w.so.len], ?_, fun j c' a' e e' => ?_, fun b hb => ?_, w.so.banLive⟩
    · rw [List.nodup_append]
      exact ⟨w.so.nd, by simp, fun x hx y hy e => hD (by simp at hy; subst hy; exact e ▸ hx)⟩
    · rcases Nat.lt_trichotomy j σ₁.length with hj | hj | hj
      · rw [List.getElem?_append_left hj] at e
        rw [List.getElem?_append_left (w.so.len ▸ hj)] at e'
        exact (w.so.cell j c' a' e e').mono (fun _ _ _ _ t => t) ⟨[D], rfl⟩ (fun _ h => h)
      · subst hj
        simp at e
        rw [← w.so.len] at e'
        simp at e'
        subst e; subst e'
        exact hc
      · rw [List.getElem?_eq_none (by simp; omega)] at e
        cases e
    · rcases List.mem_append.mp hb with hb | hb
      · exact w.so.new b hb
      · simp at hb; subst hb
        cases q : cx.h₀.get? b with
        | none => rfl
        | some o => rw [hS b o q] at hs; cases hs
  live := w.live
  pres := w.pres

noncomputable def testsT (ifs : List Expr) (env : Env) : Sem Bool := forIn ifs true fun c r => if r = true then do let ok ← isTrue c env (eval c env); pure (ForInStep.yield ok) else pure (ForInStep.yield r)

theorem lookup_filter {z : Str} (p : Str → Bool) : ∀ ρ : Loc, (ρ.filter fun q => p q.1).lookup z = if p z = true then ρ.lookup z else none
  | [] => by simp
  | (w, u) :: r => by
    have ih := lookup_filter (z := z) p r
    rw [List.filter_cons, List.lookup_cons]
    by_cases hp : p w = true
    · rw [if_pos hp, List.lookup_cons]
      cases hb : z == w with
      | true => have := beq_iff_eq.mp hb; subst this; simp [hp]
      | false => simpa using ih
    · rw [if_neg hp, ih]
      cases hb : z == w with
      | true => have := beq_iff_eq.mp hb; subst this; simp [hp]
      | false => rfl

theorem lookup_relS_free {scope sc : Scope} {z : Str} (hk : sc.kind = .function) (h1 : scope.names.lookup z = some .free) (h2 : sc.names.lookup z = some .cell) : (relS scope sc).names.lookup z = some .cell := by
  unfold relS
  simp only
  generalize scope.names = l at h1
  induction l with
  | nil => cases h1
  | cons p r ih =>
    obtain ⟨n, k⟩ := p
    rw [List.lookup_cons] at h1
    rw [List.map_cons]
    cases hb : z == n with
    | true =>
      rw [hb] at h1
      cases h1
      have := beq_iff_eq.mp hb
      subst this
      simp [hk, h2]
    | false =>
      rw [hb] at h1
      have e : (match (n, k) with | (n, k) => if (k == NameKind.free && sc.kind == ScopeKind.function && List.lookup n sc.names == some NameKind.cell) = true then (n, NameKind.cell) else (n, k)).1 = n := by
        dsimp only; split <;> rfl
      rw [List.lookup_cons, e, hb]
      exact ih h1


/-! a list comprehension in general: any source of items, any target -/
noncomputable def compG {ι : Type} (upd : Loc → ι → Loc) (tst : Loc → Sto → Option (Bool × Sto)) (elt : Loc → Sto → Option (AV × Sto)) : List ι → Loc → Sto → Option (List AV × Sto)
  | [], _, σ => some ([], σ)
  | v :: r, ρ, σ => match tst (upd ρ v) σ with
    | some (true, σ₁) => match elt (upd ρ v) σ₁ with
      | some (w, σ₂) => match compG upd tst elt r (upd ρ v) σ₂ with
        | some (ws, σ₃) => some (w :: ws, σ₃)
        | none => none
      | none => none
    | some (false, σ₁) => compG upd tst elt r (upd ρ v) σ₁
    | none => none
theorem compL_eq {y : Str} {tst : Loc → Sto → Option (Bool × Sto)} {elt : Loc → Sto → Option (AV × Sto)} : ∀ (l : List AV) (ρ : Loc) (σ : Sto), compL y tst elt l ρ σ = compG (fun ρ v => setL ρ y v) tst elt l ρ σ
  | [], _, _ => rfl
  | v :: r, ρ, σ => by
    have ih := compL_eq (y := y) (tst := tst) (elt := elt) r
    unfold compL compG
    simp only [ih]

/-- what holds between the turns -/
structure Inv (cx : Cx) (cenv : Env) (α : List Addr) (s : Shared) (α₁ : List Addr) (s₂ : Shared) (fq : List Addr) (St : Nat → Heap → Prop) (i : Nat) (ρ : Loc) (σ : Sto) (α₂ : List Addr) (s' : Shared) : Prop where
  w : Fwd cx [] α s σ α₂ s'
  F : FO cx cenv α₂ ρ s'.heap
  st : St i s'.heap
  ext : ∃ β, α₂ = α₁ ++ β
  tk : TupKeep cx.ban s₂.heap s'.heap
  fq : ∀ b ∈ fq, b ∉ α₂ ∧ s'.heap.get? b ≠ none

structure Acc (cx : Cx) (D : Addr) (i : Nat) (ys : Array Value) (ws : List AV) (α₂ : List Addr) (s' : Shared) : Prop where
  off : D ∉ α₂
  pl : s'.heap.PlainList D ys
  sz : ys.size ≤ i
  rs : reps cx.ban s'.heap α₂ ws ys.toList

section
variable {cenv : Env} {α α₁ α₂ α₃ : List Addr} {s s₂ s' s₃ : Shared} {fq : List Addr} {St : Nat → Heap → Prop} {i j : Nat} {D : Addr} {ys : Array Value} {ws : List AV}
theorem Inv.body (V : Inv cx cenv α s α₁ s₂ fq St i ρ σ α₂ s') (w : Fwd cx [] α₂ s' σ₁ α₃ s₃) (hst : St j s₃.heap) : Inv cx cenv α s α₁ s₂ fq St j ρ σ₁ α₃ s₃ where
  w := V.w.trans w
  F := V.F.fwd V.w.so w
  st := hst
  ext := by obtain ⟨β, rfl⟩ := V.ext; obtain ⟨γ, e⟩ := w.ext'; exact ⟨β ++ γ, by rw [e, List.append_assoc]⟩
  tk := fun a vs n x t => w.tupKeep V.w.so a vs n x (V.tk a vs n x t)
  fq := fun b hb => ⟨w.notIn (V.fq b hb).2 (V.fq b hb).1, w.live b (V.fq b hb).2⟩
theorem Inv.touch {h' : Heap} {tk : Nat} {wr : List Addr} (V : Inv cx cenv α s α₁ s₂ fq St i ρ σ α₂ s') (hS : ∀ b o, cx.h₀.get? b = some o → s.heap.get? b = some o)
    (hw : ∀ I ∈ wr, s.heap.get? I = none ∧ I ∉ α₂ ∧ I ∉ frA cenv ∧ h'.get? I ≠ none ∧ (I ∈ cx.ban ∨ ∀ vs n, ¬ IsT s'.heap I vs n)) (hk : ∀ b o, b ∉ wr → s'.heap.get? b = some o → h'.get? b = some o) (hst : St j h') :
    Inv cx cenv α s α₁ s₂ fq St j ρ σ α₂ { s' with heap := h', toks := tk } ∧ TupKeep cx.ban s'.heap h' := by
  obtain ⟨w, F, t⟩ := Mine.touch (tk := tk) hS V.w V.F (fun I h => ⟨(hw I h).1, (hw I h).2.1, (hw I h).2.2.1, fun _ => (hw I h).2.2.2.1, (hw I h).2.2.2.2⟩) hk
  refine ⟨⟨w, F, hst, V.ext, fun a vs n x q => t a vs n x (V.tk a vs n x q), fun b hb => ⟨(V.fq b hb).1, ?_⟩⟩, t⟩
  by_cases q : b ∈ wr
  · exact (hw b q).2.2.2.1
  · cases z : s'.heap.get? b with
    | none => exact absurd z (V.fq b hb).2
    | some o => show h'.get? b ≠ none; rw [hk b o q z]; intro y; cases y
theorem Acc.body (K : Acc cx D i ys ws α₂ s') (S : SO cx α₂ σ s'.heap) (w : Fwd cx [] α₂ s' σ₁ α₃ s₃) : Acc cx D i ys ws α₃ s₃ where
  off := w.notIn (by obtain ⟨k, e⟩ := K.pl; rw [e]; intro z; cases z) K.off
  pl := K.pl.at fun o e => w.pres D o e K.off (by simp)
  sz := K.sz
  rs := w.reps S K.rs
theorem Acc.keep (K : Acc cx D i ys ws α₂ s') (hij : i ≤ j) (t : TupKeep cx.ban s'.heap s₃.heap) (hk : ∀ o, s'.heap.get? D = some o → s₃.heap.get? D = some o) : Acc cx D j ys ws α₂ s₃ where
  off := K.off
  pl := K.pl.at hk
  sz := Nat.le_trans K.sz hij
  rs := reps_mono t ⟨[], (List.append_nil _).symm⟩ _ _ K.rs
end

/-- a source of items, as the loop sees it -/
structure Iter (cx : Cx) (A : Around) (sc' : Scope) (α : List Addr) (s : Shared) (α₁ : List Addr) (s₂ : Shared) (tgt : Expr) (I : Addr) {ι : Type} (items : List ι) (upd : Loc → ι → Loc) (fp fq wr : List Addr) (Bd : Shared → Shared → Prop) (St : Nat → Heap → Prop) : Prop where
  sub : ∀ b ∈ wr, b ∈ fp
  frame : ∀ i h h', St i h → (∀ b ∈ fp, ∀ o, h.get? b = some o → h'.get? b = some o) → St i h'
  stE : ∀ i (u u' : Shared), (∀ b ∈ fq, ∀ o, u.heap.get? b = some o → u'.heap.get? b = some o) → Bd u u' → St i u.heap → St i u'.heap
  st0 : St 0 s₂.heap
  fp0 : ∀ b ∈ fp, s₂.heap.get? b ≠ none
  fq0 : ∀ b ∈ fq, b ∈ fp ∧ b ∉ α₁
  turn : ∀ cenv, EnvOk cenv sc' → s₂.heap.get? cenv.locals = none → (∀ b ∈ fp, b ∉ frA cenv) → ∀ i x ρ₂ σ₃ α₂ s', items[i]? = some x → Inv cx cenv α s α₁ s₂ fq St i ρ₂ σ₃ α₂ s' →
    wpAny (model cx.prog cx.w) A (pyNext (.ref I)) (fun r u => ∃ v, r = some v ∧ wpAny (model cx.prog cx.w) A (letOwnedTupleGo tgt (.ref I) v) (fun _ u' => wpAny (model cx.prog cx.w) A (assign tgt cenv v) (fun _ u'' =>
      Inv cx cenv α s α₁ s₂ fq St (i + 1) (upd ρ₂ x) σ₃ α₂ u'' ∧ TupKeep cx.ban s'.heap u''.heap ∧ ∀ b o, b ≠ cenv.locals → b ∉ wr → b ∉ α₂ → s'.heap.get? b = some o → u''.heap.get? b = some o) NoE u') NoE u) NoE s'
  done : ∀ cenv, s₂.heap.get? cenv.locals = none → (∀ b ∈ fp, b ∉ frA cenv) → ∀ ρ₂ σ₃ α₂ s', Inv cx cenv α s α₁ s₂ fq St items.length ρ₂ σ₃ α₂ s' →
    wpAny (model cx.prog cx.w) A (pyNext (.ref I)) (fun r u => r = none ∧ Inv cx cenv α s α₁ s₂ [] (fun _ _ => True) 0 ρ₂ σ₃ α₂ u ∧ TupKeep cx.ban s'.heap u.heap ∧ ∀ b o, b ≠ cenv.locals → b ∉ wr → b ∉ α₂ → s'.heap.get? b = some o → u.heap.get? b = some o) NoE s'
  self : ∀ (u : Shared) (Q : Value → Shared → Prop), St 0 u.heap → Q (.ref I) u → wpAny (model cx.prog cx.w) A (pyIter (.ref I)) Q NoE u

theorem comp_turns {A : Around} {elt target iter : Expr} {ifs : List Expr} {scope : Scope} {pos : Pos} {it acc : Value} {env : Env} {R : Result → Shared → Prop} (I : Nat → Shared → Prop)
    (turn : ∀ n s, I n s → wpAny (model cx.prog cx.w) A (pyNext it) (fun r s₁ => match r with
      | none => R (.ok .next) s₁
      | some v => wpAny (model cx.prog cx.w) A (letOwnedTupleGo target it v) (fun _ u => wpAny (model cx.prog cx.w) A (assign target env v) (fun _ s₂ =>
          wpAny (model cx.prog cx.w) A (testsT ifs env) (fun ok s₃ =>
            if ok = true then wpAny (model cx.prog cx.w) A (eval elt env) (fun x s₄ => wpAny (model cx.prog cx.w) A (call (.builtin "list.append") [acc, x]) (fun _ s₅ => ∃ m, m < n ∧ I m s₅) NoE s₄) NoE s₃
            else ∃ m, m < n ∧ I m s₃) NoE s₂) NoE u) NoE s₁) NoE s)
    {s : Shared} (n : Nat) (h : I n s) : codeAny (model cx.prog cx.w) A (.compLoop (.ListComp elt [⟨target, iter, ifs, 0⟩] scope pos) 0 it acc env) R s := by
  refine codeAny_loop rfl I (fun n s hI => ?_) n h
  show wpAny _ A ((compTurn (.ListComp elt [⟨target, iter, ifs, 0⟩] scope pos) 0 it acc env).onRaise (fun x => do noteFrame x env; theTreesLotGoes x)) _ _ s
  refine noE (wpAny_noted (noE ?_))
  rw [compTurn_list]
  refine wpAny_bind (wpAny_standAt (wpAny_bind (wpAny_mono (turn n s hI) (fun r s₁ h₁ => ?_) fun _ _ h' => h')))
  cases r with
  | none => exact wpAny_pure h₁
  | some v =>
    refine wpAny_bind (wpAny_mono h₁ (fun _ u h₁ => ?_) fun _ _ h' => h')
    refine wpAny_bind (wpAny_mono h₁ (fun _ s₂ h₂ => wpAny_bind (wpAny_mono h₂ (fun ok s₃ h₃ => ?_) fun _ _ h' => h')) fun _ _ h' => h')
    cases ok with
    | false => exact wpAny_pure ⟨rfl, h₃⟩
    | true => exact wpAny_bind (wpAny_bind (wpAny_mono h₃ (fun x s₄ h₄ => wpAny_bind (wpAny_mono h₄ (fun _ s₅ h₅ => wpAny_pure (wpAny_pure ⟨rfl, h₅⟩)) fun _ _ h' => h')) fun _ _ h' => h'))

theorem comp_loop {A : Around} {α α₁ : List Addr} {s s₂ s₀ : Shared} {cenv : Env} {sc' : Scope} {elt tgt iter : Expr} {ifs : List Expr} {scope : Scope} {pos : Pos} {I D : Addr} {ι : Type} {items : List ι} {upd : Loc → ι → Loc} {fp fq wr : List Addr} {Bd : Shared → Shared → Prop} {St : Nat → Heap → Prop}
    {tst : Loc → Sto → Option (Bool × Sto)} {el : Loc → Sto → Option (AV × Sto)} {ws : List AV} {RR : Result → Shared → Prop}
    (T : Iter cx A sc' α s α₁ s₂ tgt I items upd fp fq wr Bd St) (OC : EnvOk cenv sc') (hC : s₂.heap.get? cenv.locals = none) (hfC : ∀ b ∈ fp, b ∉ frA cenv) (hS : ∀ b o, cx.h₀.get? b = some o → s.heap.get? b = some o)
    (hD : s₂.heap.get? D = none) (hDs : s.heap.get? D = none) (hDf : D ∉ frA cenv) (hz : items.length ≤ 1000)
    (ht : ∀ ρ σ b σ', tst ρ σ = some (b, σ') → ∀ α s, SO cx α σ s.heap → FO cx cenv α ρ s.heap → wpAny (model cx.prog cx.w) A (testsT ifs cenv) (fun k s' => k = b ∧ ∃ α', Fwd cx [] α s σ' α' s' ∧ Bd s s') NoE s)
    (he : ∀ ρ σ v σ', el ρ σ = some (v, σ') → ∀ α s, SO cx α σ s.heap → FO cx cenv α ρ s.heap → wpAny (model cx.prog cx.w) A (eval elt cenv) (fun cv s' => ∃ α', Fwd cx [] α s σ' α' s' ∧ rep cx.ban s'.heap α' v cv ∧ Bd s s') NoE s)
    (V : Inv cx cenv α s α₁ s₂ fq St 0 ρ σ₁ α₁ s₀) (K : Acc cx D 0 #[] [] α₁ s₀) (h : compG upd tst el items ρ σ₁ = some (ws, σ₂))
    (hR : ∀ i ρ₂ α₂ ys s', Inv cx cenv α s α₁ s₂ [] (fun _ _ => True) 0 ρ₂ σ₂ α₂ s' → Acc cx D i ys ws α₂ s' → i ≤ 1000 → RR (.ok .next) s') :
    codeAny (model cx.prog cx.w) A (.compLoop (.ListComp elt [⟨tgt, iter, ifs, 0⟩] scope pos) 0 (.ref I) (.ref D) cenv) RR s₀ := by
  have hDfp : D ∉ fp := fun m => T.fp0 D m hD
  have hDw : D ∉ wr := fun m => hDfp (T.sub D m)
  have hDC : D ≠ cenv.locals := fun z => hDf (z ▸ List.mem_cons_self ..)
  refine comp_turns (fun n s' => ∃ i α₂ ρ₂ σ₃ ws₀ rest ys, Inv cx cenv α s α₁ s₂ fq St i ρ₂ σ₃ α₂ s' ∧ Acc cx D i ys ws₀ α₂ s' ∧ i ≤ items.length ∧ n = items.length - i ∧ compG upd tst el (items.drop i) ρ₂ σ₃ = some (rest, σ₂) ∧ ws = ws₀ ++ rest) ?_ items.length
    ⟨0, α₁, ρ, σ₁, [], ws, #[], V, K, Nat.zero_le _, rfl, h, rfl⟩
  rintro n s' ⟨i, α₂, ρ₂, σ₃, ws₀, rest, ys, V, K, hle, rfl, e, ew⟩
  by_cases hlt : i < items.length
  · rw [List.drop_eq_getElem_cons hlt, compG] at e
    refine wpAny_mono (T.turn cenv OC hC hfC i items[i] ρ₂ σ₃ α₂ s' (by simp [hlt]) V) (fun r u ⟨v, er, hu⟩ => ?_) fun _ _ e => e
    subst er
    refine wpAny_mono hu (fun _ u' hu => wpAny_mono hu (fun _ s₇ ⟨V₇, t₇, k₇⟩ => ?_) fun _ _ e => e) fun _ _ e => e
    have K₇ : Acc cx D (i + 1) ys ws₀ α₂ s₇ := K.keep (Nat.le_succ i) t₇ fun o e => k₇ D o hDC hDw K.off e
    cases htst : tst (upd ρ₂ items[i]) σ₃ with
    | none => rw [htst] at e; cases e
    | some q =>
    obtain ⟨b, σ₄⟩ := q
    rw [htst] at e
    refine wpAny_mono (ht _ _ _ _ htst α₂ s₇ V₇.w.so V₇.F) (fun b' s₈ ⟨eb, α₈, w₈, b₈⟩ => ?_) fun _ _ e => e
    subst eb
    have V₈ := V₇.body w₈ (T.stE (i + 1) s₇ s₈ (fun b hb o eo => w₈.pres b o eo (V₇.fq b hb).1 (by simp)) b₈ V₇.st)
    have K₈ := K₇.body V₇.w.so w₈
    cases b' with
    | false => exact ⟨_, Nat.sub_succ_lt_self _ _ hlt, i + 1, α₈, _, σ₄, ws₀, rest, ys, V₈, K₈, hlt, rfl, e, ew⟩
    | true =>
      simp only at e
      cases hel : el (upd ρ₂ items[i]) σ₄ with
      | none => rw [hel] at e; cases e
      | some q =>
      obtain ⟨av, σ₅⟩ := q
      rw [hel] at e
      simp only at e
      refine wpAny_mono (he _ _ _ _ hel α₈ s₈ V₈.w.so V₈.F) (fun cv s₉ ⟨α₉, w₉, r₉, b₉⟩ => ?_) fun _ _ e => e
      have V₉ := V₈.body w₉ (T.stE (i + 1) s₈ s₉ (fun b hb o eo => w₉.pres b o eo (V₈.fq b hb).1 (by simp)) b₉ V₈.st)
      have K₉ := K₈.body V₈.w.so w₉
      have hz₉ := K₉.sz
      refine wpAny_list_append_plain (hsz := by rw [sizeLine_eq]; omega) K₉.pl fun h₁₀ hpl₁₀ hs₁₀ => ?_
      cases hrest : compG upd tst el (items.drop (i + 1)) (upd ρ₂ items[i]) σ₅ with
      | none => rw [hrest] at e; cases e
      | some q =>
      obtain ⟨ws₁, σ₆⟩ := q
      rw [hrest] at e
      cases e
      have hk₁₀ : ∀ b o, b ∉ [D] → s₉.heap.get? b = some o → h₁₀.get? b = some o := fun b o hb eo => hs₁₀.extBut b o (by simpa using hb) eo
      obtain ⟨V₁₀, t₁₀⟩ := V₉.touch (tk := s₉.toks) (wr := [D]) (j := i + 1) hS (fun b hb => by
        rw [List.mem_singleton.mp hb]
        refine ⟨hDs, K₉.off, hDf, (by obtain ⟨k, ek⟩ := hpl₁₀; rw [ek]; intro z; cases z), .inr fun vs n z => ?_⟩
        obtain ⟨k, ek⟩ := K₉.pl
        rw [z] at ek; simp at ek) hk₁₀ (T.frame _ _ _ V₉.st fun b hb o eo => hk₁₀ b o (by rw [List.mem_singleton]; exact fun z => hDfp (z ▸ hb)) eo)
      refine ⟨_, Nat.sub_succ_lt_self _ _ hlt, i + 1, α₉, _, σ₅, ws₀ ++ [av], ws₁, ys.push cv, V₁₀, ⟨K₉.off, hpl₁₀, by rw [Array.size_push]; have := K.sz; omega, ?_⟩, hlt, rfl, hrest, by rw [ew]; simp⟩
      rw [Array.toList_push]
      exact reps_append _ _ _ _ (reps_mono t₁₀ ⟨[], (List.append_nil _).symm⟩ _ _ K₉.rs) (reps_single _ _ (rep_mono t₁₀ ⟨[], (List.append_nil _).symm⟩ _ _ r₉))
  · obtain rfl : i = items.length := Nat.le_antisymm hle (Nat.not_lt.mp hlt)
    rw [List.drop_length, compG] at e
    cases e
    rw [List.append_nil] at ew
    subst ew
    refine wpAny_mono (T.done cenv hC hfC ρ₂ σ₂ α₂ s' V) (fun r u ⟨er, V', t', k'⟩ => ?_) fun _ _ e => e
    subst er
    exact hR items.length ρ₂ α₂ ys u V' (K.keep (Nat.le_refl _) t' fun o e => k' D o hDC hDw K.off e) hz

theorem comp_open {M : Model} {A : Around} {e : Expr} {scope : Scope} {it : Value} {cl : List (Str × Addr)} {s₂ : Shared} {RR : Value → Addr → Result → Shared → Prop} {E : Value → Shared → Prop} (hcell : ∀ p ∈ scope.names, p.2 ≠ .cell) (hkind : scope.kind = .function)
    (h : ∀ D C h₁ tk, s₂.heap.get? D = none → s₂.heap.get? C = none → D ≠ C → (∀ b o, s₂.heap.get? b = some o → h₁.get? b = some o) → h₁.PlainList D #[] → (∃ m, h₁.Ns C m) →
      codeAny M A (.compStart e 0 it (.ref D) (compEnvC scope cl C env)) (RR (.ref D) C) { s₂ with heap := h₁, toks := tk }) :
    wpAny M A (newList []) (fun acc s₃ => wpAny M A (newFunctionEnv scope env.globals cl [] env.qual none .none (some env)) (fun cenv s₄ =>
      codeAny M A (.compStart e 0 it acc { cenv with scope := relabel scope env }) (RR acc cenv.locals) s₄) E s₃) E s₂ := by
  refine wpAny_newObj_type (wpAny_newFunctionEnv hcell (by intro y hy; simp at hy) (fun h₁ hns₁ hsb₁ => ?_) hkind)
  have hD0 := fresh_size s₂.heap
  have hC0 := fresh_size (s₂.heap.push { cls := .type "list", dict := none, data := .seq ([] : List Value).toArray })
  have hne : ∀ b o, (s₂.heap.push { cls := .type "list", dict := none, data := .seq ([] : List Value).toArray }).get? b = some o → b ≠ (s₂.heap.push { cls := .type "list", dict := none, data := .seq ([] : List Value).toArray }).objs.size := fun b o e z => by rw [z, hC0] at e; cases e
  have up : ∀ b o, (s₂.heap.push { cls := .type "list", dict := none, data := .seq ([] : List Value).toArray }).get? b = some o → h₁.get? b = some o := fun b o e => hsb₁.extBut b o (hne b o e) (Heap.get?_push_of_some _ e)
  have hDH : (s₂.heap.push { cls := .type "list", dict := none, data := .seq ([] : List Value).toArray }).get? s₂.heap.objs.size = some { cls := .type "list", data := .seq #[] } := Heap.get?_push_size _ rfl
  refine h s₂.heap.objs.size _ h₁ _ hD0 ?_ (hne _ _ hDH) (fun b o e => up b o (Heap.get?_push_of_some _ e)) ⟨0, up _ _ hDH⟩ ⟨_, hns₁⟩
  show s₂.heap.get? (s₂.heap.push { cls := .type "list", dict := none, data := .seq ([] : List Value).toArray }).objs.size = none
  cases q : s₂.heap.get? (s₂.heap.push { cls := .type "list", dict := none, data := .seq ([] : List Value).toArray }).objs.size with
  | none => rfl
  | some o => rw [Heap.get?_push_of_some _ q] at hC0; cases hC0

theorem comp_frame (O : EnvOk env sc) {scope : Scope} {α₁ : List Addr} {h₂ h₁ : Heap} {C : Addr} (S : SO cx α₁ σ₁ h₂) (F : FO cx env α₁ ρ h₂) (hC : h₂.get? C = none) (up : ∀ b o, h₂.get? b = some o → h₁.get? b = some o) (hns : ∃ m, h₁.Ns C m) :
    FO cx (compEnvC scope (clF env scope.names []) C env) α₁ (capt scope sc ρ) h₁ := by
  have hclm : ∀ n a, (n, a) ∈ clF env scope.names [] → env.cells.lookup n = some a := fun n a hm => (clF_mem _ _ n a hm).resolve_left fun z => by cases z
  have hclF : ∀ b ∈ (clF env scope.names []).map (·.2), b ∈ env.cells.map (·.2) := fun b hb => by
    obtain ⟨⟨n, a⟩, hm, rfl⟩ := List.mem_map.mp hb
    exact List.mem_map.mpr ⟨(n, a), mem_of_lookup (hclm n a hm), rfl⟩
  obtain ⟨mc, hns⟩ := hns
  refine ⟨⟨mc, hns, fun z av hz => ?_⟩, fun b hb => ?_, fun b hb => ?_, ?_⟩
  · have hlk : ρ.lookup z = some av ∧ scope.names.lookup z = some .free ∧ sc.names.lookup z = some .cell := by
      unfold capt at hz
      rw [lookup_filter (fun n => scope.names.lookup n == some .free && sc.names.lookup n == some .cell)] at hz
      split at hz
      · rename_i q
        simp only [Bool.and_eq_true, beq_iff_eq] at q
        exact ⟨hz, q⟩
      · cases hz
    obtain ⟨hlk, hl1, hl2⟩ := hlk
    obtain ⟨m, _, hv⟩ := F.vars
    rcases hv _ _ hlk with ⟨hk, _⟩ | ⟨_, c, u, hc, ⟨o, eo, ed⟩, hr⟩
    · unfold Env.kindOf at hk; rw [O.scope, hl2] at hk; cases hk
    · refine .inr ⟨?_, c, u, ?_, ⟨o, up c o eo, ed⟩, rep_mono (fun a _ _ _ t => up a _ t) ⟨[], by simp⟩ _ _ hr⟩
      · show (relabel scope env).names.lookup z = some .cell
        have := lookup_relS_free O.kind hl1 hl2
        rw [← O.scope] at this; exact this
      · show (clF env scope.names []).lookup z = some c
        refine lookup_of_all (clF_has _ _ z c (mem_of_lookup' hl1) hc) fun b hb => ?_
        have := hclm z b hb
        rw [hc] at this; exact (Option.some.inj this).symm
  · rcases List.mem_cons.mp hb with hbC | hb
    · rw [show b = C from hbC]
      refine ⟨fun m => S.live m hC, ?_⟩
      obtain ⟨o, _, _, e', _⟩ := hns
      rw [e']; intro z; cases z
    · have hb' := List.mem_cons_of_mem env.locals (hclF b hb)
      exact ⟨(F.off b hb').1, live_keeps up (F.off b hb').2⟩
  · obtain ⟨u, o, eo, ed⟩ := F.cells b (hclF b hb)
    exact ⟨u, o, up b o eo, ed⟩
  · cases q : cx.h₀.get? C with
    | none => exact q
    | some o => have := S.keep C o q; rw [hC] at this; cases this

/-- the whole: behind the iterable, from the state where its iterator stands -/
theorem comp_core (O : EnvOk env sc) {A : Around} {α α₁ : List Addr} {s s₂ : Shared} {elt tgt iter : Expr} {ifs : List Expr} {scope : Scope} {pos : Pos} {I : Addr} {ι : Type} {items : List ι} {upd : Loc → ι → Loc} {fp fq wr : List Addr} {Bd : Shared → Shared → Prop} {St : Nat → Heap → Prop}
    {tst : Loc → Sto → Option (Bool × Sto)} {el : Loc → Sto → Option (AV × Sto)} {ws : List AV} {Qf : Value → Shared → Prop}
    (hcell : ∀ p ∈ scope.names, p.2 ≠ .cell) (hkind : scope.kind = .function) (w₁ : Fwd cx [] α s σ₁ α₁ s₂) (F₂ : FO cx env α₁ ρ s₂.heap) (hS : ∀ b o, cx.h₀.get? b = some o → s.heap.get? b = some o)
    (T : Iter cx A (relS scope sc) α s α₁ s₂ tgt I items upd fp fq wr Bd St) (hfp : ∀ b ∈ fp, b ∉ frA env) (hz : items.length ≤ 1000)
    (ht : ∀ env', EnvOk env' (relS scope sc) → ∀ ρ σ b σ', tst ρ σ = some (b, σ') → ∀ α s, SO cx α σ s.heap → FO cx env' α ρ s.heap → wpAny (model cx.prog cx.w) A (testsT ifs env') (fun k s' => k = b ∧ ∃ α', Fwd cx [] α s σ' α' s' ∧ Bd s s') NoE s)
    (he : ∀ env', EnvOk env' (relS scope sc) → ∀ ρ σ v σ', el ρ σ = some (v, σ') → ∀ α s, SO cx α σ s.heap → FO cx env' α ρ s.heap → wpAny (model cx.prog cx.w) A (eval elt env') (fun cv s' => ∃ α', Fwd cx [] α s σ' α' s' ∧ rep cx.ban s'.heap α' v cv ∧ Bd s s') NoE s)
    (h : compG upd tst el items (capt scope sc ρ) σ₁ = some (ws, σ₂)) (hQf : ∀ cv s' α', Fwd cx [] α s (σ₂ ++ [.lst ws]) α' s' → rep cx.ban s'.heap α' (.ref σ₂.length) cv → Qf cv s') :
    wpAny (model cx.prog cx.w) A (newList []) (fun acc s₃ => wpAny (model cx.prog cx.w) A (newFunctionEnv scope env.globals (clF env scope.names []) [] env.qual none .none (some env)) (fun cenv s₄ =>
      codeAny (model cx.prog cx.w) A (.compStart (.ListComp elt [⟨tgt, iter, ifs, 0⟩] scope pos) 0 (.ref I) acc { cenv with scope := relabel scope env })
        (compPost (model cx.prog cx.w) A NoE none Qf acc cenv.locals) s₄) NoE s₃) NoE s₂ := by
  refine comp_open hcell hkind fun D C h₁ tk hD hC hDC up hpl hns => ?_
  have back : ∀ b, s₂.heap.get? b = none → s.heap.get? b = none := fun b e => by
    cases q : s.heap.get? b with
    | none => rfl
    | some o => exact absurd e (w₁.live b (by rw [q]; intro z; cases z))
  have OC : EnvOk (compEnvC scope (clF env scope.names []) C env) (relS scope sc) := ⟨by show relabel scope env = _; rw [← O.scope]; rfl, hkind, O.glob, O.bt⟩
  have FC := comp_frame (scope := scope) O w₁.so F₂ hC up hns
  have hclF : ∀ b ∈ (clF env scope.names []).map (·.2), b ∈ frA env := fun b hb => by
    obtain ⟨⟨n, a⟩, hm, rfl⟩ := List.mem_map.mp hb
    exact List.mem_cons_of_mem _ (List.mem_map.mpr ⟨(n, a), mem_of_lookup ((clF_mem _ _ n a hm).resolve_left fun z => by cases z), rfl⟩)
  have offF : ∀ b, b ≠ C → b ∉ frA env → b ∉ frA (compEnvC scope (clF env scope.names []) C env) := fun b h1 h2 hm => by
    rcases List.mem_cons.mp hm with e | hm
    · exact h1 e
    · exact h2 (hclF b hm)
  have hDf : D ∉ frA (compEnvC scope (clF env scope.names []) C env) := offF D hDC fun m => (F₂.off D m).2 hD
  have V : Inv cx (compEnvC scope (clF env scope.names []) C env) α s α₁ s₂ fq St 0 (capt scope sc ρ) σ₁ α₁ { s₂ with heap := h₁, toks := tk } :=
    ⟨w₁.trans (.keeps w₁.so ⟨_, _, rfl⟩ up), FC, T.frame _ _ _ T.st0 fun b _ o e => up b o e, ⟨[], (List.append_nil _).symm⟩, fun a _ _ _ t => up a _ t, fun b hb => ⟨(T.fq0 b hb).2, live_keeps up (T.fp0 b (T.fq0 b hb).1)⟩⟩
  have loop := comp_loop (elt := elt) (iter := iter) (ifs := ifs) (scope := scope) (pos := pos) T OC hC (fun b hb => offF b (fun z => T.fp0 b hb (z ▸ hC)) (hfp b hb)) hS hD (back D hD) hDf hz (ht _ OC) (he _ OC) V
    (RR := compPost (model cx.prog cx.w) A NoE none Qf (.ref D) C)
    ⟨fun m => w₁.so.live m hD, hpl, Nat.le_refl _, by simp [reps]⟩ h fun i ρ₂ α₂ ys s' V' K hi => ?_
  · exact codeAny_compStart_list loop (noE (T.self _ _ V.st loop))
  obtain ⟨m, hn, _⟩ := V'.F.vars
  refine ⟨m, hn, fun h₇ hs₇ => ?_⟩
  have hk₇ : ∀ b o, b ∉ [C] → s'.heap.get? b = some o → h₇.get? b = some o := fun b o hb eo => hs₇.extBut b o (by simpa using hb) eo
  obtain ⟨w₇, t₇⟩ := touchW (tk := s'.toks) (wr := [C]) hS V'.w (fun b hb => by
    rw [List.mem_singleton.mp hb]
    refine ⟨back C hC, (V'.F.off _ (List.mem_cons_self ..)).1, fun m => absurd hC (w₁.so.banLive _ m), .inr fun vs n z => ?_⟩
    obtain ⟨o, es, ep, eo, ed, _⟩ := hn
    rw [show s'.heap.get? (compEnvC scope (clF env scope.names []) C env).locals = some _ from z] at eo; cases eo; cases ed) hk₇
  have hz := K.sz
  refine hQf _ _ (α₂ ++ [D]) (Fwd.adopt' hS w₇ K.off (back D hD) ⟨ys, K.pl.at fun o eo => hk₇ D o (by simpa using hDC) eo, by omega, reps_mono t₇ ⟨[D], rfl⟩ _ _ K.rs⟩) ?_
  simp only [rep]
  exact ⟨D, by rw [← w₇.so.len]; simp, rfl⟩

/-- from a walk over values -/
theorem iter_walk {A : Around} {α α₁ : List Addr} {s s₂ : Shared} {sc' : Scope} {items : List AV} {y : Str} {py : Pos} {I : Addr} (hy : sc'.names.lookup y = some .local) (hS : SO cx α σ s.heap) (w : Fwd cx [] α s σ₁ α₁ s₂) {fp fq wr : List Addr} {P : Nat → Value → Prop} {St : Nat → Heap → Prop} {Bd : Shared → Shared → Prop}
    (W : Walks cx.prog cx.w A I fp wr items.length P St) (hst : St 0 s₂.heap) (hfp : ∀ b ∈ fp, s₂.heap.get? b ≠ none) (hwq : ∀ b ∈ wr, b ∈ fq) (hq : ∀ b ∈ fq, b ∈ fp ∧ b ∉ α₁) (stE : ∀ i (u u' : Shared), (∀ b ∈ fq, ∀ o, u.heap.get? b = some o → u'.heap.get? b = some o) → Bd u u' → St i u.heap → St i u'.heap)
    (hwr : ∀ b ∈ wr, s.heap.get? b = none ∧ ∀ h i, St i h → (h.get? b ≠ none ∧ ∀ vs n, ¬ IsT h b vs n))
    (hP : ∀ i v av, P i v → items[i]? = some av → ∀ h' α', TupKeep cx.ban s₂.heap h' → (∃ β, α' = α₁ ++ β) → rep cx.ban h' α' av v) :
    Iter cx A sc' α s α₁ s₂ (.Name y py) I items (fun ρ v => setL ρ y v) fp fq wr Bd St := by
  have notBan : ∀ b, s.heap.get? b = none → b ∉ cx.ban := fun b e m => hS.banLive b m e
  refine ⟨W.sub, W.frame, stE, hst, hfp, hq, ?_, ?_, fun u Q st h => W.self _ _ _ _ st h⟩
  · intro cenv OC hC hfC i x ρ₂ σ₃ α₂ s' hx V
    have hlt : i < items.length := (List.getElem?_eq_some_iff.mp hx).1
    refine W.item i _ _ _ hlt V.st fun v h₆ tk₆ hPv hst₆ hk₆ => ?_
    have lv₆ : ∀ b ∈ wr, h₆.get? b ≠ none := fun b hb => ((hwr b hb).2 h₆ _ hst₆).1
    obtain ⟨V₆, t₆⟩ := V.touch (tk := tk₆) (j := i + 1) hS.keep (fun b hb => ⟨(hwr b hb).1, (V.fq b (hwq b hb)).1, hfC b (W.sub b hb), lv₆ b hb, .inr ((hwr b hb).2 s'.heap i V.st).2⟩) hk₆ hst₆
    have hr : rep cx.ban h₆ α₂ x v := hP i v x hPv hx h₆ α₂ V₆.tk V₆.ext
    refine ⟨v, rfl, wpAny_of_eq (show letOwnedTupleGo (.Name y py) (.ref I) v = pure () from rfl) (wpAny_assign_Name (wpAny_mono (store_localK OC hy V₆.w.so V₆.F hr) (fun _ s₇ ⟨w₇, F₇, t₇, k₇⟩ => ?_) fun _ _ e => e))⟩
    have hCs : s.heap.get? cenv.locals = none := by
      cases q : s.heap.get? cenv.locals with
      | none => rfl
      | some o => exact absurd hC (w.live _ (by rw [q]; intro z; cases z))
    exact ⟨⟨((V₆.w.weaken (fr := [cenv.locals])).trans w₇).drop fun b hb => by rw [List.mem_singleton.mp hb]; exact hCs, F₇, W.frame _ _ _ hst₆ fun b hb o eo => k₇ b o eo fun z => hfC b hb (z ▸ List.mem_cons_self ..), V.ext, fun a vs n q t => t₇ a vs n q (V₆.tk a vs n q t), fun b hb => ⟨(V.fq b hb).1, w₇.live b (V₆.fq b hb).2⟩⟩,
      fun a vs n q t => t₇ a vs n q (t₆ a vs n q t), fun b o h1 h2 _ eo => k₇ b o (hk₆ b o h2 eo) h1⟩
  · intro cenv hC hfC ρ₂ σ₃ α₂ s' V
    refine W.done _ _ _ V.st fun h₆ tk₆ hk₆ => ?_
    obtain ⟨w₆, F₆, t₆⟩ := touch (tk := tk₆) hS.keep V.w V.F (fun b hb => ⟨(hwr b hb).1, (V.fq b (hwq b hb)).1, hfC b (W.sub b hb), fun m => absurd m (notBan b (hwr b hb).1), .inr ((hwr b hb).2 s'.heap _ V.st).2⟩) hk₆
    exact ⟨rfl, ⟨w₆, F₆, trivial, V.ext, fun a vs n x t => t₆ a vs n x (V.tk a vs n x t), fun _ h => by cases h⟩, t₆, fun b o _ h2 _ e => hk₆ b o h2 e⟩
theorem iter_of {A : Around} {α α₁ : List Addr} {s s₂ : Shared} {sc' : Scope} {items : List AV} {y : Str} {py : Pos} {I : Addr} (hy : sc'.names.lookup y = some .local) (hS : SO cx α σ s.heap) (src : Src cx A env α s σ₁ items α₁ I s₂) :
    ∃ fp fq wr St, Iter cx A sc' α s α₁ s₂ (.Name y py) I items (fun ρ v => setL ρ y v) fp fq wr (fun _ _ => True) St ∧ ∀ b ∈ fp, b ∉ frA env := by
  obtain ⟨fp, wr, P, St, W, hst, hfp, hwr, hP⟩ := src.walk
  exact ⟨fp, fp, wr, St, iter_walk hy hS src.fwd W hst (fun b hb => (hfp b hb).2.2) W.sub (fun b hb => ⟨hb, (hfp b hb).1⟩) (fun i u u' hk _ st => W.frame _ _ _ st hk) hwr hP, fun b hb => (hfp b hb).2.1⟩

theorem scopeOk_parts (O : EnvOk env sc) {scope : Scope} {y : Str} (hs : scopeOk scope sc ρ y = true) : scope.kind = .function ∧ scope.names.lookup y = some .local ∧ (∀ p ∈ scope.names, p.2 ≠ .cell) ∧ (∀ p ∈ scope.names, p.2 = .local → scope.names.lookup p.1 = some .local) ∧
    (∀ {α : List Addr} {h : Heap}, FO cx env α ρ h → ∀ p ∈ scope.names, p.2 = .free → (env.cells.lookup p.1).isSome = true) := by
  unfold scopeOk at hs
  simp only [Bool.and_eq_true, beq_iff_eq, List.all_eq_true, Bool.or_eq_true, bne_iff_ne, ne_eq] at hs
  obtain ⟨⟨hkind, hy⟩, hall⟩ := hs
  refine ⟨hkind, hy, fun p hp => (hall p hp).1.1, fun p hp e => ((hall p hp).1.2).resolve_left fun h => h e, fun F p hp e => ?_⟩
  obtain ⟨⟨h1, h2⟩, _⟩ := ((hall p hp).2).resolve_left fun h => h e
  obtain ⟨av, hav⟩ := Option.isSome_iff_exists.mp h1
  obtain ⟨m, _, hv⟩ := F.vars
  rcases hv _ _ hav with ⟨hk, _⟩ | ⟨_, c, _, hc, _⟩
  · unfold Env.kindOf at hk; rw [O.scope, h2] at hk; cases hk
  · rw [hc]; rfl
theorem relS_local (O : EnvOk env sc) {scope : Scope} {y : Str} (hy : scope.names.lookup y = some .local) : (relS scope sc).names.lookup y = some .local := by
  have := lookup_relabel_local (env := env) hy
  rw [← O.scope]; exact this

theorem S_listcomp (O : EnvOk env sc) {elt iter : Expr} {y : Str} {py pos : Pos} {ifs : List Expr} {scope : Scope} {items ws : List AV} {tst : Loc → Sto → Option (Bool × Sto)} {el : Loc → Sto → Option (AV × Sto)}
    (hs : scopeOk scope sc ρ y = true) (hns : notSet iter = true) (hz : items.length ≤ 1000)
    (hi : ∀ (A : Around) (α : List Addr) (s : Shared), Room A d → SO cx α σ s.heap → FO cx env α ρ s.heap →
      wpAny (model cx.prog cx.w) A (eval iter env) (fun x s₁ => wpAny (model cx.prog cx.w) A (pyIter x) (fun it s₂ => ∃ I α₁, it = .ref I ∧ Src cx A env α s σ₁ items α₁ I s₂) NoE s₁) NoE s)
    (ht : ∀ env', EnvOk env' (relS scope sc) → ∀ ρ σ b σ', tst ρ σ = some (b, σ') → SimB cx d env' ρ σ (testsT ifs env') b σ')
    (he : ∀ env', EnvOk env' (relS scope sc) → ∀ ρ σ v σ', el ρ σ = some (v, σ') → SimE cx d env' ρ σ (eval elt env') v σ')
    (h : compL y tst el items (capt scope sc ρ) σ₁ = some (ws, σ₂)) :
    SimE cx d env ρ σ (eval (.ListComp elt [⟨.Name y py, iter, ifs, 0⟩] scope pos) env) (.ref σ₂.length) (σ₂ ++ [.lst ws]) := by
  intro A α s R S F
  obtain ⟨hkind, hy, hcell, hnames, hfree⟩ := scopeOk_parts (cx := cx) O hs
  rw [eval_ListComp]
  refine wpAny_comprehension_free (use := none) rfl (fun x => folded_of hns x) (closure_of (hfree F)) hkind hnames ?_
  refine wpAny_mono (hi A α s R S F) (fun x s₁ h₁ => wpAny_mono h₁ (fun it s₂ ⟨I, α₁, eI, src⟩ => ?_) fun _ _ e => e) fun _ _ e => e
  subst eI
  have F₂ := F.fwd S src.fwd
  obtain ⟨fp, fq, wr, St, T, hfp⟩ := iter_of (py := py) (relS_local O hy) S src
  rw [compL_eq] at h
  exact comp_core O hcell hkind src.fwd F₂ S.keep T hfp hz (fun env' O' ρ σ b σ' e α s S F => wpAny_mono (ht env' O' ρ σ b σ' e A α s R S F) (fun _ _ ⟨a, α', w⟩ => ⟨a, α', w, trivial⟩) fun _ _ e => e)
    (fun env' O' ρ σ v σ' e α s S F => wpAny_mono (he env' O' ρ σ v σ' e A α s R S F) (fun _ _ ⟨α', w, r⟩ => ⟨α', w, r, trivial⟩) fun _ _ e => e) h fun _ _ α' w r => ⟨α', w, r⟩
end
end Mine

end

noncomputable section
open PySem PySem.W PyProof.Rows
set_option Elab.async false
set_option maxRecDepth 100000
set_option linter.unusedVariables false
namespace Mine

/-! equality of plain data -/
noncomputable def eqP : AV → AV → Option Bool
  | .int a, .int b => some (a == b)
  | .str a, .str b => some (a == b)
  | _, _ => none
noncomputable def eqL (f : AV → AV → Option Bool) : List AV → List AV → Option Bool
  | [], [] => some true
  | x :: l, y :: m => match f x y, eqL f l m with
    | some a, some b => some (a && b)
    | _, _ => none
  | _, _ => some false
noncomputable def eqV : Nat → AV → AV → Option Bool
  | 0, a, b => eqP a b
  | n + 1, a, b => match a, b with
    | .tup l, .tup m => eqL (eqV n) l m
    | a, b => eqP a b

theorem eqP_cases {a b : AV} {k : Bool} (h : eqP a b = some k) : (∃ i j, a = .int i ∧ b = .int j ∧ k = (i == j)) ∨ (∃ i j, a = .str i ∧ b = .str j ∧ k = (i == j)) := by
  unfold eqP at h
  split at h
  · exact .inl ⟨_, _, rfl, rfl, (Option.some.inj h).symm⟩
  · exact .inr ⟨_, _, rfl, rfl, (Option.some.inj h).symm⟩
  · cases h
theorem eqV_cases {n : Nat} {a b : AV} {k : Bool} (h : eqV n a b = some k) : eqP a b = some k ∨ ∃ m l l', n = m + 1 ∧ a = .tup l ∧ b = .tup l' ∧ eqL (eqV m) l l' = some k := by
  cases n with
  | zero => exact .inl h
  | succ n =>
    unfold eqV at h
    split at h
    · exact .inr ⟨n, _, _, rfl, rfl, rfl, h⟩
    · exact .inl h

section
variable {X : List Addr} {hp : Heap} {α : List Addr}
theorem eqP_same {a b : AV} {v : Value} {k : Bool} (h : eqP a b = some k) (ra : rep X hp α a v) (rb : rep X hp α b v) : k = true := by
  rcases eqP_cases h with ⟨i, j, rfl, rfl, rfl⟩ | ⟨i, j, rfl, rfl, rfl⟩
  · simp only [rep] at ra rb
    obtain ⟨t, rfl⟩ := ra
    obtain ⟨u, e⟩ := rb
    cases e
    simp
  · simp only [rep] at ra rb
    obtain ⟨t, rfl⟩ := ra
    obtain ⟨u, e⟩ := rb
    cases e
    simp
theorem eqL_same {f : AV → AV → Option Bool} (hf : ∀ a b v k, f a b = some k → rep X hp α a v → rep X hp α b v → k = true) : ∀ (l m : List AV) (vs : List Value) (k : Bool), eqL f l m = some k → reps X hp α l vs → reps X hp α m vs → k = true
  | [], [], _, k, h, _, _ => by simpa [eqL] using h.symm
  | [], y :: m, vs, k, _, r, q => by
    simp only [reps] at r q
    subst r
    obtain ⟨_, _, e, _⟩ := q
    cases e
  | x :: l, [], vs, k, _, r, q => by
    simp only [reps] at r q
    subst q
    obtain ⟨_, _, e, _⟩ := r
    cases e
  | x :: l, y :: m, vs, k, h, r, q => by
    simp only [reps] at r q
    obtain ⟨v, vs', rfl, r1, r2⟩ := r
    obtain ⟨v', vs'', e, q1, q2⟩ := q
    cases e
    rw [eqL] at h
    cases h1 : f x y with
    | none => rw [h1] at h; cases h
    | some a =>
      cases h2 : eqL f l m with
      | none => rw [h1, h2] at h; cases h
      | some b =>
        rw [h1, h2] at h
        cases h
        rw [hf _ _ _ _ h1 r1 q1, eqL_same hf l m vs' b h2 r2 q2]
        rfl
theorem eqV_same : ∀ (n : Nat) (a b : AV) (v : Value) (k : Bool), eqV n a b = some k → rep X hp α a v → rep X hp α b v → k = true
  | 0, a, b, v, k, h, r, q => eqP_same h r q
  | n + 1, a, b, v, k, h, r, q => by
    rcases eqV_cases h with h | ⟨m, l, l', e, rfl, rfl, h⟩
    · exact eqP_same h r q
    · cases e
      simp only [rep] at r q
      obtain ⟨t, ws, z, rfl, _, ht, hr⟩ := r
      obtain ⟨t', ws', z', e, _, ht', hq⟩ := q
      cases e
      have : ws = ws' := by
        unfold IsT at ht ht'
        rw [ht] at ht'
        injection ht' with e
        simp only [Obj.mk.injEq] at e
        injection e.2.2.1
      subst this
      exact eqL_same (fun a b v k => eqV_same n a b v k) l l' _ k h hr hq
end

theorem eqL_items {f : AV → AV → Option Bool} : ∀ (l m : List AV) (k : Bool), eqL f l m = some k →
    ∃ e : Nat → Bool, k = ((List.range (min l.length m.length)).all e && l.length == m.length) ∧ ∀ j x y, l[j]? = some x → m[j]? = some y → f x y = some (e j)
  | [], [], k, h => ⟨fun _ => true, by simpa [eqL] using h.symm, by simp⟩
  | [], y :: m, k, h => ⟨fun _ => true, by simpa [eqL] using h.symm, by simp⟩
  | x :: l, [], k, h => ⟨fun _ => true, by simpa [eqL] using h.symm, by simp⟩
  | x :: l, y :: m, k, h => by
    rw [eqL] at h
    cases h1 : f x y with
    | none => rw [h1] at h; cases h
    | some a =>
      cases h2 : eqL f l m with
      | none => rw [h1, h2] at h; cases h
      | some b =>
        rw [h1, h2] at h
        cases h
        obtain ⟨e, he, hj⟩ := eqL_items l m b h2
        refine ⟨fun j => if j = 0 then a else e (j - 1), ?_, fun j x' y' hx hy => ?_⟩
        · subst he
          simp only [List.length_cons, Nat.add_min_add_right, List.range_succ_eq_map, List.all_cons, List.all_map, Function.comp_def]
          simp [Bool.and_assoc]
        · cases j with
          | zero => simp at hx hy; subst hx; subst hy; simpa using h1
          | succ j => simpa using hj j x' y' (by simpa using hx) (by simpa using hy)

section
variable {cx : Cx} {d : Nat} {σ σ' : Sto} {v x y a b c : AV} {X : List Addr} {hp : Heap} {α : List Addr}

theorem eqAt_of_rc {A : Around} {s : Shared} {u v : Value} {k : Bool} (hf : ∀ b t, u ≠ .float b t) (h : SeqAt.RcAt A s u v k) (hne : u = v → k = true) : SeqAt.EqAt A s u v k := fun prog w E Q hq => by
  unfold eqBool
  refine wpAny_holding ?_
  refine wpAny_ite_split (fun hab => ?_) (fun _ => ?_)
  · have := hne (eq_of_beq hab)
    subst this
    exact wpAny_bind (wpAny_rule (wpAny_pure hq))
  · cases u <;> first | exact absurd rfl (hf _ _) | exact wpAny_bind (h prog w E _ (wpAny_truthy_bool hq))
theorem eqV_noFloat {n : Nat} {a b : AV} {u : Value} {k : Bool} (h : eqV n a b = some k) (ra : rep X hp α a u) : ∀ b t, u ≠ .float b t := by
  rcases eqV_cases h with h | ⟨m, l, l', rfl, rfl, rfl, h⟩
  · rcases eqP_cases h with ⟨i, j, rfl, rfl, rfl⟩ | ⟨i, j, rfl, rfl, rfl⟩ <;> simp only [rep] at ra <;> obtain ⟨t, rfl⟩ := ra <;> intro _ _ e <;> cases e
  · simp only [rep] at ra
    obtain ⟨t, ws, z, rfl, _⟩ := ra
    intro _ _ e; cases e

theorem rcP {A : Around} {s : Shared} {u w : Value} {k : Bool} (h : eqP a b = some k) (ra : rep X s.heap α a u) (rb : rep X s.heap α b w) : SeqAt.RcAt A s u w k := by
  intro prog w' E Q hq
  rcases eqP_cases h with ⟨i, j, rfl, rfl, rfl⟩ | ⟨i, j, rfl, rfl, rfl⟩
  · simp only [rep] at ra rb
    obtain ⟨t, rfl⟩ := ra
    obtain ⟨u, rfl⟩ := rb
    exact PyProof.Rows.eq_int hq
  · simp only [rep] at ra rb
    obtain ⟨t, rfl⟩ := ra
    obtain ⟨u, rfl⟩ := rb
    exact PyProof.Rows.eq_str hq

theorem rcV (n : Nat) : ∀ {A : Around} {s : Shared} {a b : AV} {u w : Value} {k : Bool}, A.units + n < cLine → eqV n a b = some k → rep X s.heap α a u → rep X s.heap α b w → SeqAt.RcAt A s u w k := by
  induction n with
  | zero =>
    intro A s a b u w k hu h ra rb
    rcases eqV_cases h with h | ⟨m, l, l', e, _⟩
    · exact rcP h ra rb
    · exact Nat.noConfusion e
  | succ n ih =>
    intro A s a b u w k hu h ra rb
    rcases eqV_cases h with h | ⟨m, l, l', em, ea, eb, h⟩
    · exact rcP h ra rb
    · have em := Nat.succ.inj em
      subst em ea eb
      obtain ⟨e, ek, he⟩ := eqL_items l l' k h
      subst ek
      obtain ⟨t, ws, z, eu, _, ht, hr⟩ := ra
      obtain ⟨t', ws', z', ew, _, ht', hq⟩ := rb
      subst eu ew
      rw [show l.length = ws.size from reps_length _ _ hr, show l'.length = ws'.size from reps_length _ _ hq]
      refine SeqAt.RcAt.tuples ⟨_, ht, rfl, z, rfl⟩ ⟨_, ht', rfl, z', rfl⟩ (by lia) fun j h1 h2 => ?_
      have g1 : j < l.length := (reps_length _ _ hr).symm ▸ h1
      have g2 : j < l'.length := (reps_length _ _ hq).symm ▸ h2
      have x1 : l[j]? = some l[j] := List.getElem?_eq_getElem g1
      have x2 : l'[j]? = some l'[j] := List.getElem?_eq_getElem g2
      obtain ⟨v1, q1, r1⟩ := reps_get _ _ hr j _ x1
      obtain ⟨v2, q2, r2⟩ := reps_get _ _ hq j _ x2
      rw [Array.getElem?_toList, Array.getElem?_eq_getElem h1] at q1
      rw [Array.getElem?_toList, Array.getElem?_eq_getElem h2] at q2
      rw [Option.some.inj q1, Option.some.inj q2]
      have hf := he j _ _ x1 x2
      exact eqAt_of_rc (eqV_noFloat hf r1) (ih (by rw [units_in1]; lia) hf r1 r2) fun e => by subst e; exact eqV_same n _ _ _ _ hf r1 r2

theorem eqAtV {n : Nat} {A : Around} {s : Shared} {u w : Value} {k : Bool} (hu : A.units + n < cLine) (h : eqV n a b = some k) (ra : rep X s.heap α a u) (rb : rep X s.heap α b w) : SeqAt.EqAt A s u w k :=
  eqAt_of_rc (eqV_noFloat h ra) (rcV n hu h ra rb) fun e => by subst e; exact eqV_same n _ _ _ _ h ra rb

theorem OpE.two {f : List Value → Sem Value} (h : ∀ (A : Around) (α : List Addr) (s : Shared) (u w : Value), Room A d → SO cx α σ s.heap → rep cx.ban s.heap α a u → rep cx.ban s.heap α b w →
    wpAny (model cx.prog cx.w) A (f [u, w]) (fun cv s' => ∃ α', Fwd cx [] α s σ' α' s' ∧ rep cx.ban s'.heap α' v cv) NoE s) : OpE cx d [a, b] σ f v σ' := by
  intro A α s cs R S r
  simp only [reps] at r
  obtain ⟨u, _, rfl, ru, w, _, rfl, rw', rfl⟩ := r
  exact h A α s u w R S ru rw'
theorem OpE.one {f : List Value → Sem Value} (h : ∀ (A : Around) (α : List Addr) (s : Shared) (u : Value), Room A d → SO cx α σ s.heap → rep cx.ban s.heap α a u →
    wpAny (model cx.prog cx.w) A (f [u]) (fun cv s' => ∃ α', Fwd cx [] α s σ' α' s' ∧ rep cx.ban s'.heap α' v cv) NoE s) : OpE cx d [a] σ f v σ' := by
  intro A α s cs R S r
  simp only [reps] at r
  obtain ⟨u, _, rfl, ru, rfl⟩ := r
  exact h A α s u R S ru
theorem OpE.three {f : List Value → Sem Value} (h : ∀ (A : Around) (α : List Addr) (s : Shared) (u w z : Value), Room A d → SO cx α σ s.heap → rep cx.ban s.heap α a u → rep cx.ban s.heap α b w → rep cx.ban s.heap α c z →
    wpAny (model cx.prog cx.w) A (f [u, w, z]) (fun cv s' => ∃ α', Fwd cx [] α s σ' α' s' ∧ rep cx.ban s'.heap α' v cv) NoE s) : OpE cx d [a, b, c] σ f v σ' := by
  intro A α s cs R S r
  simp only [reps] at r
  obtain ⟨u, _, rfl, ru, w, _, rfl, rw', z, _, rfl, rz, rfl⟩ := r
  exact h A α s u w z R S ru rw' rz

/-! comparisons -/
theorem O_eq {k : Bool} (h : eqV 60 a b = some k) : OpE cx d [a, b] σ (cmpF .Eq) (.bool k) σ :=
  .two fun A α s u w R S ra rb => rcV 60 (by have := R.units; lia) h ra rb _ _ _ _ ⟨α, .refl S, by simp [rep]⟩
end
end Mine

end

noncomputable section
open PySem PySem.W PyProof.Rows
set_option Elab.async false
set_option maxRecDepth 100000
set_option linter.unusedVariables false
namespace Mine

section
variable {X : List Addr} {hp : Heap} {α : List Addr}
theorem eqP_fun {a b x : AV} {v : Value} {k k' : Bool} (h : eqP a x = some k) (h' : eqP b x = some k') (ra : rep X hp α a v) (rb : rep X hp α b v) : k = k' := by
  rcases eqP_cases h with ⟨i, j, rfl, rfl, rfl⟩ | ⟨i, j, rfl, rfl, rfl⟩
  · rcases eqP_cases h' with ⟨i', j', rfl, e, rfl⟩ | ⟨i', j', rfl, e, rfl⟩
    · cases e
      simp only [rep] at ra rb
      obtain ⟨t, rfl⟩ := ra
      obtain ⟨u, e⟩ := rb
      cases e; rfl
    · cases e
  · rcases eqP_cases h' with ⟨i', j', rfl, e, rfl⟩ | ⟨i', j', rfl, e, rfl⟩
    · cases e
    · cases e
      simp only [rep] at ra rb
      obtain ⟨t, rfl⟩ := ra
      obtain ⟨u, e⟩ := rb
      cases e; rfl
theorem eqL_fun {f : AV → AV → Option Bool} (hf : ∀ a b x v k k', f a x = some k → f b x = some k' → rep X hp α a v → rep X hp α b v → k = k') :
    ∀ (l m z : List AV) (vs : List Value) (k k' : Bool), eqL f l z = some k → eqL f m z = some k' → reps X hp α l vs → reps X hp α m vs → k = k'
  | [], [], _, _, k, k', h, h', _, _ => Option.some.inj (h.symm.trans h')
  | [], y :: m, _, vs, k, _, _, _, r, q => by
    simp only [reps] at r q
    subst r
    obtain ⟨_, _, e, _⟩ := q
    cases e
  | x :: l, [], _, vs, k, _, _, _, r, q => by
    simp only [reps] at r q
    subst q
    obtain ⟨_, _, e, _⟩ := r
    cases e
  | x :: l, y :: m, [], vs, k, k', h, h', r, q => by
    rw [eqL] at h h'
    · cases h; cases h'; rfl
    all_goals simp
  | x :: l, y :: m, z :: zs, vs, k, k', h, h', r, q => by
    simp only [reps] at r q
    obtain ⟨v, vs', rfl, r1, r2⟩ := r
    obtain ⟨v', vs'', e, q1, q2⟩ := q
    cases e
    rw [eqL] at h h'
    cases h1 : f x z with
    | none => rw [h1] at h; cases h
    | some a =>
      cases h2 : eqL f l zs with
      | none => rw [h1, h2] at h; cases h
      | some b =>
        cases h3 : f y z with
        | none => rw [h3] at h'; cases h'
        | some a' =>
          cases h4 : eqL f m zs with
          | none => rw [h3, h4] at h'; cases h'
          | some b' =>
            rw [h1, h2] at h
            rw [h3, h4] at h'
            cases h; cases h'
            rw [hf _ _ _ _ _ _ h1 h3 r1 q1, eqL_fun hf l m zs vs' b b' h2 h4 r2 q2]
theorem eqV_fun : ∀ (n : Nat) (a b x : AV) (v : Value) (k k' : Bool), eqV n a x = some k → eqV n b x = some k' → rep X hp α a v → rep X hp α b v → k = k'
  | 0, a, b, x, v, k, k', h, h', r, q => eqP_fun h h' r q
  | n + 1, a, b, x, v, k, k', h, h', r, q => by
    rcases eqV_cases h with g | ⟨m, l, l', e, rfl, rfl, g⟩
    · rcases eqV_cases h' with g' | ⟨m, l, l', e, rfl, rfl, g'⟩
      · exact eqP_fun g g' r q
      · rcases eqP_cases g with ⟨_, _, _, e, _⟩ | ⟨_, _, _, e, _⟩ <;> cases e
    · rcases eqV_cases h' with g' | ⟨m', l₂, l₂', e', rfl, e2, g'⟩
      · rcases eqP_cases g' with ⟨_, _, _, e, _⟩ | ⟨_, _, _, e, _⟩ <;> cases e
      · cases e; cases e'; cases e2
        simp only [rep] at r q
        obtain ⟨t, ws, z, rfl, _, ht, hr⟩ := r
        obtain ⟨t', ws', z', e, _, ht', hq⟩ := q
        cases e
        have : ws = ws' := by
          unfold IsT at ht ht'
          rw [ht] at ht'
          injection ht' with e
          simp only [Obj.mk.injEq] at e
          injection e.2.2.1
        subst this
        exact eqL_fun (fun a b x v k k' => eqV_fun n a b x v k k') l l₂ l' _ k k' g g' hr hq
end

noncomputable def inL (f : AV → AV → Option Bool) (x : AV) : List AV → Option Bool
  | [] => some false
  | a :: l => match f a x, inL f x l with
    | some p, some q => some (p || q)
    | _, _ => none
theorem inL_items {f : AV → AV → Option Bool} {x : AV} : ∀ (l : List AV) (k : Bool), inL f x l = some k → (∀ a ∈ l, (f a x).isSome = true) ∧ (k = true ↔ ∃ a ∈ l, f a x = some true)
  | [], k, h => by simp only [inL, Option.some.injEq] at h; subst h; simp
  | a :: l, k, h => by
    rw [inL] at h
    cases h1 : f a x with
    | none => rw [h1] at h; cases h
    | some p =>
      cases h2 : inL f x l with
      | none => rw [h1, h2] at h; cases h
      | some q =>
        rw [h1, h2] at h
        cases h
        obtain ⟨i1, i2⟩ := inL_items l q h2
        refine ⟨fun b hb => ?_, ?_⟩
        · rcases List.mem_cons.mp hb with rfl | hb
          · rw [h1]; rfl
          · exact i1 b hb
        · simp only [Bool.or_eq_true, List.mem_cons, exists_eq_or_imp, h1, Option.some.injEq, i2]

section
variable {cx : Cx} {d : Nat} {σ σ' : Sto} {v x y a b c : AV} {X : List Addr} {hp : Heap} {α : List Addr}

open Classical in
theorem in_items {n : Nat} {A : Around} {s : Shared} {l : List AV} {ws : Array Value} {w : Value} {k : Bool} (hu : A.units + n < cLine) (h : inL (eqV n) x l = some k) (hr : reps X s.heap α l ws.toList) (rx : rep X s.heap α x w) :
    ∃ e : Value → Bool, (∀ y, y ∈ ws → SeqAt.EqAt A s y w (e y)) ∧ ws.any e = k := by
  obtain ⟨h1, h2⟩ := inL_items l k h
  have e1 : l.length = ws.size := by rw [reps_length _ _ hr]; simp
  have at_ : ∀ j (hj : j < ws.size), rep X s.heap α (l[j]'(e1 ▸ hj)) ws[j] := fun j hj => by
    have hj' : j < l.length := e1 ▸ hj
    obtain ⟨v1, q1, r1⟩ := reps_get _ _ hr j l[j] (by simp [hj'])
    have : ws[j]? = some v1 := by rw [← Array.getElem?_toList]; exact q1
    rw [Array.getElem?_eq_getElem hj] at this
    rw [Option.some.inj this]; exact r1
  refine ⟨fun y => decide (∃ a ∈ l, rep X s.heap α a y ∧ eqV n a x = some true), fun y hy => ?_, ?_⟩
  · obtain ⟨j, hj, rfl⟩ := Array.mem_iff_getElem.mp hy
    have hj' : j < l.length := e1 ▸ hj
    obtain ⟨p, hp⟩ := Option.isSome_iff_exists.mp (h1 l[j] (List.getElem_mem hj'))
    have : decide (∃ a ∈ l, rep X s.heap α a ws[j] ∧ eqV n a x = some true) = p := by
      cases p with
      | true => exact decide_eq_true ⟨l[j], List.getElem_mem hj', at_ j hj, hp⟩
      | false =>
        refine decide_eq_false ?_
        rintro ⟨a, ha, ra, ea⟩
        have := eqV_fun n a l[j] x _ true false ea hp ra (at_ j hj)
        cases this
    show SeqAt.EqAt A s ws[j] w (decide _)
    rw [this]
    exact eqAtV hu hp (at_ j hj) rx
  · rw [Bool.eq_iff_iff, h2, Array.any_eq_true]
    constructor
    · rintro ⟨j, hj, e⟩
      obtain ⟨a, ha, _, ea⟩ := of_decide_eq_true e
      exact ⟨a, ha, ea⟩
    · rintro ⟨a, ha, ea⟩
      obtain ⟨j, hj, rfl⟩ := List.getElem_of_mem ha
      exact ⟨j, e1 ▸ hj, decide_eq_true ⟨l[j], ha, at_ j (e1 ▸ hj), ea⟩⟩

theorem O_in_tup {l : List AV} {k : Bool} (h : inL (eqV 20) x l = some k) : OpE cx d [x, .tup l] σ (cmpF .In) (.bool k) σ :=
  .two fun A α s u w R S ra rb => by
    simp only [rep] at rb
    obtain ⟨t, ws, z, rfl, _, ht, hr⟩ := rb
    obtain ⟨e, he, hk⟩ := in_items (A := A.in1) (by rw [units_in1]; have := R.units; lia) h hr ra
    exact SeqAt.in_tupleAt e ⟨_, ht, rfl, z, rfl⟩ he ⟨α, .refl S, by rw [hk]; simp [rep]⟩
theorem O_notin_tup {l : List AV} {k : Bool} (h : inL (eqV 20) x l = some k) : OpE cx d [x, .tup l] σ (cmpF .NotIn) (.bool (!k)) σ :=
  .two fun A α s u w R S ra rb => by
    simp only [rep] at rb
    obtain ⟨t, ws, z, rfl, _, ht, hr⟩ := rb
    obtain ⟨e, he, hk⟩ := in_items (A := A.in1) (by rw [units_in1]; have := R.units; lia) h hr ra
    exact SeqAt.notIn_tupleAt e ⟨_, ht, rfl, z, rfl⟩ he ⟨α, .refl S, by rw [hk]; simp [rep]⟩
theorem cell_of (S : SO cx α σ hp) {i : Nat} {c : Cell} {u : Value} (e : σ[i]? = some c) (r : rep cx.ban hp α (.ref i) u) : ∃ a, u = .ref a ∧ α[i]? = some a ∧ a ∈ α ∧ CellAt cx hp α c a := by
  simp only [rep] at r
  obtain ⟨a, ha, rfl⟩ := r
  exact ⟨a, rfl, ha, List.mem_of_getElem? ha, S.cell i c a e ha⟩
theorem O_in_lst {i : Nat} {l : List AV} {k : Bool} (hi : σ[i]? = some (.lst l)) (h : inL (eqV 20) x l = some k) : OpE cx d [x, .ref i] σ (cmpF .In) (.bool k) σ :=
  .two fun A α s u w R S ra rb => by
    obtain ⟨t, rfl, _, _, ws, hp, hz, hr⟩ := cell_of S hi rb
    obtain ⟨e, he, hk⟩ := in_items (A := A.in1) (by rw [units_in1]; have := R.units; lia) h hr ra
    exact SeqAt.in_listAt e hp.isList he ⟨α, .refl S, by rw [hk]; simp [rep]⟩
theorem O_notin_lst {i : Nat} {l : List AV} {k : Bool} (hi : σ[i]? = some (.lst l)) (h : inL (eqV 20) x l = some k) : OpE cx d [x, .ref i] σ (cmpF .NotIn) (.bool (!k)) σ :=
  .two fun A α s u w R S ra rb => by
    obtain ⟨t, rfl, _, _, ws, hp, hz, hr⟩ := cell_of S hi rb
    obtain ⟨e, he, hk⟩ := in_items (A := A.in1) (by rw [units_in1]; have := R.units; lia) h hr ra
    exact SeqAt.notIn_listAt e hp.isList he ⟨α, .refl S, by rw [hk]; simp [rep]⟩
theorem O_in_str {p q : Str} : OpE cx d [.str p, .str q] σ (cmpF .In) (.bool (Txt.contains q p)) σ :=
  .two fun A α s u w R S ra rb => by
    simp only [rep] at ra rb
    obtain ⟨t, rfl⟩ := ra
    obtain ⟨t', rfl⟩ := rb
    exact PySem.SB.contains ⟨α, .refl S, by simp [rep]⟩
theorem O_notin_str {p q : Str} : OpE cx d [.str p, .str q] σ (cmpF .NotIn) (.bool (!Txt.contains q p)) σ :=
  .two fun A α s u w R S ra rb => by
    simp only [rep] at ra rb
    obtain ⟨t, rfl⟩ := ra
    obtain ⟨t', rfl⟩ := rb
    exact PySem.SB.notContains ⟨α, .refl S, by simp [rep]⟩

/-! ints -/
theorem O_lt {i j : Int} : OpE cx d [.int i, .int j] σ (cmpF .Lt) (.bool (decide (i < j))) σ :=
  .two fun A α s u w R S ra rb => by
    simp only [rep] at ra rb; obtain ⟨t, rfl⟩ := ra; obtain ⟨t', rfl⟩ := rb
    exact PyProof.Rows.lt_int ⟨α, .refl S, by simp [rep]⟩
theorem O_gt {i j : Int} : OpE cx d [.int i, .int j] σ (cmpF .Gt) (.bool (decide (j < i))) σ :=
  .two fun A α s u w R S ra rb => by
    simp only [rep] at ra rb; obtain ⟨t, rfl⟩ := ra; obtain ⟨t', rfl⟩ := rb
    exact PyProof.Rows.gt_int ⟨α, .refl S, by simp [rep]⟩
theorem O_ge {i j : Int} : OpE cx d [.int i, .int j] σ (cmpF .GtE) (.bool (decide (j ≤ i))) σ :=
  .two fun A α s u w R S ra rb => by
    simp only [rep] at ra rb; obtain ⟨t, rfl⟩ := ra; obtain ⟨t', rfl⟩ := rb
    exact PyProof.Rows.ge_int ⟨α, .refl S, by simp [rep]⟩
theorem O_neP {k : Bool} (h : eqP a b = some k) : OpE cx d [a, b] σ (cmpF .NotEq) (.bool (!k)) σ :=
  .two fun A α s u w R S ra rb => by
    rcases eqP_cases h with ⟨i, j, rfl, rfl, rfl⟩ | ⟨i, j, rfl, rfl, rfl⟩
    · simp only [rep] at ra rb; obtain ⟨t, rfl⟩ := ra; obtain ⟨t', rfl⟩ := rb
      exact PyProof.Rows.ne_int ⟨α, .refl S, by simp [rep, bne]⟩
    · simp only [rep] at ra rb; obtain ⟨t, rfl⟩ := ra; obtain ⟨t', rfl⟩ := rb
      exact PyProof.Rows.ne_str ⟨α, .refl S, by simp [rep, bne]⟩

noncomputable def binF (op : Operator) (cs : List Value) : Sem Value := match cs with | [x, y] => binaryOp op x y | _ => .unsupported ""
theorem tok1 {A : Around} {α : List Addr} {s : Shared} {z : Int} (S : SO cx α σ s.heap) : ∃ α', Fwd cx [] α s σ α' { s with toks := s.toks + 1 } ∧ rep cx.ban s.heap α' (.int z) (.int z s.toks) := ⟨α, .tok S _, by simp [rep]⟩
theorem O_add {i j : Int} : OpE cx d [.int i, .int j] σ (binF .Add) (.int (i + j)) σ :=
  .two fun A α s u w R S ra rb => by
    simp only [rep] at ra rb; obtain ⟨t, rfl⟩ := ra; obtain ⟨t', rfl⟩ := rb
    exact PyProof.Rows.add_int ⟨α, .tok S _, by simp [rep]⟩
theorem O_sub {i j : Int} : OpE cx d [.int i, .int j] σ (binF .Sub) (.int (i - j)) σ :=
  .two fun A α s u w R S ra rb => by
    simp only [rep] at ra rb; obtain ⟨t, rfl⟩ := ra; obtain ⟨t', rfl⟩ := rb
    exact PyProof.Rows.sub_int ⟨α, .tok S _, by simp [rep]⟩
theorem O_mul {i j : Int} (h : i.natAbs < 2 ^ 60) : OpE cx d [.int i, .int j] σ (binF .Mult) (.int (i * j)) σ :=
  .two fun A α s u w R S ra rb => by
    simp only [rep] at ra rb; obtain ⟨t, rfl⟩ := ra; obtain ⟨t', rfl⟩ := rb
    exact PyProof.Rows.mul_int ⟨α, .tok S _, by simp [rep]⟩ (IntMulOk.of_left (intBits_le_64 (by lia) (by lia)))
theorem O_mod {i j : Int} (h : j ≠ 0) : OpE cx d [.int i, .int j] σ (binF .Mod) (.int (i.fmod j)) σ :=
  .two fun A α s u w R S ra rb => by
    simp only [rep] at ra rb; obtain ⟨t, rfl⟩ := ra; obtain ⟨t', rfl⟩ := rb
    exact PyProof.Rows.mod_int h ⟨α, .tok S _, by simp [rep]⟩
theorem O_div {i j : Int} (h : j ≠ 0) (hj : j.natAbs < 1073741824) : OpE cx d [.int i, .int j] σ (binF .FloorDiv) (.int (i.fdiv j)) σ :=
  .two fun A α s u w R S ra rb => by
    simp only [rep] at ra rb; obtain ⟨t, rfl⟩ := ra; obtain ⟨t', rfl⟩ := rb
    exact PyProof.Rows.floordiv_int h ⟨α, .tok S _, by simp [rep]⟩ (.inl (PyProof.noPylong_small hj))
theorem O_pow {i j : Int} (h0 : 0 ≤ j) (h1 : j ≤ 1000) (h : i.natAbs < 2 ^ 60) : OpE cx d [.int i, .int j] σ (binF .Pow) (.int (i ^ j.toNat)) σ :=
  .two fun A α s u w R S ra rb => by
    simp only [rep] at ra rb; obtain ⟨t, rfl⟩ := ra; obtain ⟨t', rfl⟩ := rb
    exact PyProof.Rows.pow_int_small h0 (by lia) (by lia) ⟨α, .tok S _, by simp [rep]⟩
theorem O_cat {i j : Str} (h : i.length + j.length ≤ 100000) : OpE cx d [.str i, .str j] σ (binF .Add) (.str (i ++ j)) σ :=
  .two fun A α s u w R S ra rb => by
    simp only [rep] at ra rb; obtain ⟨t, rfl⟩ := ra; obtain ⟨t', rfl⟩ := rb
    exact PyProof.Rows.add_str (fun _ _ => ⟨α, .tok S _, by simp [rep]⟩) (by rw [sizeLine_eq]; lia)
end
end Mine

end

noncomputable section
open PySem PySem.W PyProof.Rows
set_option Elab.async false
set_option maxRecDepth 100000
set_option linter.unusedVariables false
namespace Mine

section
variable {cx : Cx} {d : Nat} {σ σ' : Sto} {v x y a b c : AV} {X : List Addr} {hp : Heap} {α : List Addr} {env : Env} {sc : Scope} {ρ : Loc}

/-! not equal -/
theorem O_neV {n : Nat} {k : Bool} (hn : n ≤ 60) (h : eqV n a b = some k) : OpE cx d [a, b] σ (cmpF .NotEq) (.bool (!k)) σ := by
  rcases eqV_cases h with h | ⟨m, l, l', rfl, rfl, rfl, h⟩
  · exact O_neP h
  · refine .two fun A α s u w R S ra rb => ?_
    obtain ⟨e, rfl, he⟩ := eqL_items l l' k h
    simp only [rep] at ra rb
    obtain ⟨t, ws, z, rfl, _, ht, hr⟩ := ra
    obtain ⟨t', ws', z', rfl, _, ht', hq⟩ := rb
    have e1 : l.length = ws.size := by rw [reps_length _ _ hr]; simp
    have e2 : l'.length = ws'.size := by rw [reps_length _ _ hq]; simp
    have hu := R.units
    rw [e1, e2]
    refine SeqAt.RcNeAt.tuples ⟨_, ht, rfl, z, rfl⟩ ⟨_, ht', rfl, z', rfl⟩ (by lia) (e := e) (fun j h1 h2 => ?_) _ _ _ _ ⟨α, .refl S, by simp [rep]⟩
    have g1 : j < l.length := e1 ▸ h1
    have g2 : j < l'.length := e2 ▸ h2
    obtain ⟨v1, q1, r1⟩ := reps_get _ _ hr j l[j] (by simp [g1])
    obtain ⟨v2, q2, r2⟩ := reps_get _ _ hq j l'[j] (by simp [g2])
    have k1 : ws[j] = v1 := by
      have : ws[j]? = some v1 := by rw [← Array.getElem?_toList]; exact q1
      rw [Array.getElem?_eq_getElem h1] at this
      exact Option.some.inj this
    have k2 : ws'[j] = v2 := by
      have : ws'[j]? = some v2 := by rw [← Array.getElem?_toList]; exact q2
      rw [Array.getElem?_eq_getElem h2] at this
      exact Option.some.inj this
    rw [k1, k2]
    have hf := he j l[j] l'[j] (by simp [g1]) (by simp [g2])
    exact eqAtV (n := m) (by rw [units_in1]; lia) hf r1 r2

theorem O_ne_lst {i j : Nat} {l m : List AV} (hi : σ[i]? = some (.lst l)) (hj : σ[j]? = some (.lst m)) (hm : m = []) : OpE cx d [.ref i, .ref j] σ (cmpF .NotEq) (.bool (!l.isEmpty)) σ :=
  .two fun A α s u w R S ra rb => by
    obtain ⟨t, rfl, _, _, ws, hp, hz, hr⟩ := cell_of S hi ra
    obtain ⟨t', rfl, _, _, ws', hp', hz', hr'⟩ := cell_of S hj rb
    have e1 : l.length = ws.size := by rw [reps_length _ _ hr]; simp
    have e2 : m.length = ws'.size := by rw [reps_length _ _ hr']; simp
    have hu := R.units
    subst hm
    cases l with
    | nil =>
      have z1 : ws.size = 0 := e1.symm
      refine SeqAt.RcNeAt.lists hp.isList hp'.isList (by rw [← e1, ← e2]) (by lia) (e := fun _ => true) (fun j h1 h2 => absurd h1 (by lia)) _ _ _ _ ⟨α, .refl S, ?_⟩
      rw [z1]; simp [rep]
    | cons p l =>
      refine SeqAt.RcNeAt.lists_lengths hp.isList hp'.isList (by rw [← e1, ← e2]; simp) (by lia) _ _ _ _ ⟨α, .refl S, ?_⟩
      simp [rep]
theorem O_eq_lst {i j : Nat} {l m : List AV} (hi : σ[i]? = some (.lst l)) (hj : σ[j]? = some (.lst m)) (hm : m = []) : OpE cx d [.ref i, .ref j] σ (cmpF .Eq) (.bool l.isEmpty) σ :=
  .two fun A α s u w R S ra rb => by
    obtain ⟨t, rfl, _, _, ws, hp, hz, hr⟩ := cell_of S hi ra
    obtain ⟨t', rfl, _, _, ws', hp', hz', hr'⟩ := cell_of S hj rb
    have e1 : l.length = ws.size := by rw [reps_length _ _ hr]; simp
    have e2 : m.length = ws'.size := by rw [reps_length _ _ hr']; simp
    have hu := R.units
    subst hm
    cases l with
    | nil =>
      have z1 : ws.size = 0 := e1.symm
      refine SeqAt.RcAt.lists hp.isList hp'.isList (by rw [← e1, ← e2]) (by lia) (e := fun _ => true) (fun j h1 h2 => absurd h1 (by lia)) _ _ _ _ ⟨α, .refl S, ?_⟩
      rw [z1]; simp [rep]
    | cons p l =>
      refine SeqAt.RcAt.lists_lengths hp.isList hp'.isList (by rw [← e1, ← e2]; simp) (by lia) _ _ _ _ ⟨α, .refl S, ?_⟩
      simp [rep]

/-! items -/
noncomputable def getF (cs : List Value) : Sem Value := match cs with | [x, y] => getItem x y | _ => .unsupported ""
theorem idx_nat {k n : Nat} (h : k < n) : seqIndex? (k : Int) n = some k := by
  unfold seqIndex?
  simp; lia
theorem O_get_tup {l : List AV} {k : Nat} (hk : k < 100000) (h : l[k]? = some v) : OpE cx d [.tup l, .int k] σ getF v σ :=
  .two fun A α s u w R S ra rb => by
    simp only [rep] at ra rb
    obtain ⟨t, ws, z, rfl, _, ht, hr⟩ := ra
    obtain ⟨tk, rfl⟩ := rb
    obtain ⟨q, hq, rq⟩ := reps_get _ _ hr k v h
    have e1 : l.length = ws.size := by rw [reps_length _ _ hr]; simp
    have hlt : k < l.length := (List.getElem?_eq_some_iff.mp h).1
    refine PyProof.Rows.getItem_tuple (j := k) (x := q) ⟨_, ht, rfl, z, rfl⟩ (by lia) (by lia) (idx_nat (e1 ▸ hlt)) (by rw [← Array.getElem?_toList]; exact hq) ⟨α, .refl S, rq⟩
theorem O_get_lst {i : Nat} {l : List AV} {k : Nat} (hk : k < 100000) (hi : σ[i]? = some (.lst l)) (h : l[k]? = some v) : OpE cx d [.ref i, .int k] σ getF v σ :=
  .two fun A α s u w R S ra rb => by
    obtain ⟨t, rfl, _, _, ws, hp, hz, hr⟩ := cell_of S hi ra
    simp only [rep] at rb
    obtain ⟨tk, rfl⟩ := rb
    obtain ⟨q, hq, rq⟩ := reps_get _ _ hr k v h
    refine wpAny_getItem_list hp.isList (by lia) (by lia) (x := q) (by rw [← Array.getElem?_toList]; simpa using hq) ⟨α, .refl S, rq⟩

theorem O_get_rol {i k : Nat} {vs : Array Value} {n : Nat} {j : Int} {tk : Tok} (hk : k < 100000) (hi : σ[i]? = some (.rol vs n)) (h : vs[k]? = some (.int j tk)) : OpE cx d [.ref i, .int k] σ getF (.int j) σ :=
  .two fun A α s u w R S ra rb => by
    obtain ⟨t, rfl, _, _, hp, hz⟩ := cell_of S hi ra
    simp only [rep] at rb
    obtain ⟨tk', rfl⟩ := rb
    refine wpAny_getItem_list (show s.heap.PlainList t vs from ⟨_, hp⟩).isList (by lia) (by lia) (x := .int j tk) (by simpa using h) ⟨α, .refl S, by simp [rep]⟩
theorem T_rol {i : Nat} {vs : Array Value} {n : Nat} (hi : σ[i]? = some (.rol vs n)) : ∀ α s c, SO cx α σ s.heap → rep cx.ban s.heap α (.ref i) c → ∃ T id, typeLookup (.type T) "__getitem__" = pure (some (.builtin id)) ∧ Shared.TypeIs s c T := by
  intro α s c S r
  obtain ⟨t, rfl, _, _, hp, hz⟩ := cell_of S hi r
  exact ⟨"list", _, slot_list_getitem.lookup, ⟨_, hp, rfl⟩⟩

theorem T_tup {l : List AV} : ∀ α s c, SO cx α σ s.heap → rep cx.ban s.heap α (.tup l) c → ∃ T id, typeLookup (.type T) "__getitem__" = pure (some (.builtin id)) ∧ Shared.TypeIs s c T := by
  intro α s c S r
  simp only [rep] at r
  obtain ⟨t, ws, z, rfl, _, ht, hr⟩ := r
  exact ⟨"tuple", _, slot_tuple_getitem.lookup, ⟨_, ht, rfl⟩⟩
theorem T_lst {i : Nat} {l : List AV} (hi : σ[i]? = some (.lst l)) : ∀ α s c, SO cx α σ s.heap → rep cx.ban s.heap α (.ref i) c → ∃ T id, typeLookup (.type T) "__getitem__" = pure (some (.builtin id)) ∧ Shared.TypeIs s c T := by
  intro α s c S r
  obtain ⟨t, rfl, _, _, ws, hp, hz, hr⟩ := cell_of S hi r
  exact ⟨"list", _, slot_list_getitem.lookup, hp.isList.typeIs⟩
end
end Mine

end

noncomputable section
open PySem PySem.W PyProof.Rows
set_option Elab.async false
set_option maxRecDepth 100000
set_option linter.unusedVariables false
namespace Mine

section
variable {cx : Cx} {d : Nat} {σ σ' : Sto} {v x y a b c : AV} {X : List Addr} {hp : Heap} {α : List Addr} {env : Env} {sc : Scope} {ρ : Loc}

theorem pushKeep (h : Heap) (o : Obj) : ∀ b o', h.get? b = some o' → (h.push o).get? b = some o' := fun b o' e => Heap.get?_push_of_some _ e

/-- a new list cell of given items, laid at the heap's end -/
theorem newLst {A : Around} {s : Shared} {l : List AV} {vs : List Value} {n : Nat} (S : SO cx α σ s.heap) (hz : l.length ≤ 100000) (hr : reps cx.ban s.heap α l vs) :
    ∃ α', Fwd cx [] α s (σ ++ [.lst l]) α' { s with heap := s.heap.push { cls := .type "list", data := .seq vs.toArray n } } ∧ rep cx.ban (s.heap.push { cls := .type "list", data := .seq vs.toArray n }) α' (.ref σ.length) (.ref s.heap.objs.size) := by
  have hl := reps_length _ _ hr
  refine ⟨α ++ [s.heap.objs.size], .push S ⟨_, _, rfl⟩ (fresh_size _) (fun b o e => Heap.get?_push_of_some _ e) ⟨vs.toArray, ⟨n, Heap.get?_push_size _ rfl⟩, ?_, reps_mono (fun _ _ _ _ t => Heap.get?_push_of_some _ t) ⟨_, rfl⟩ _ _ (by simpa using hr)⟩, ?_⟩
  · simp; lia
  · simp only [rep]
    exact ⟨s.heap.objs.size, by rw [← S.len]; simp, rfl⟩
theorem newTup {A : Around} {s : Shared} {l : List AV} {vs : List Value} {n : Nat} (S : SO cx α σ s.heap) (hr : reps cx.ban s.heap α l vs) :
    ∃ α', Fwd cx [] α s σ α' { s with heap := s.heap.push { cls := .type "tuple", data := .seq vs.toArray n } } ∧ rep cx.ban (s.heap.push { cls := .type "tuple", data := .seq vs.toArray n }) α' (.tup l) (.ref s.heap.objs.size) := by
  refine ⟨α, .keeps S ⟨_, _, rfl⟩ fun b o e => Heap.get?_push_of_some _ e, ?_⟩
  simp only [rep]
  exact ⟨_, vs.toArray, n, rfl, (fun m => S.banLive _ m (fresh_size _)), Heap.get?_push_size _ rfl, reps_mono (fun _ _ _ _ t => Heap.get?_push_of_some _ t) ⟨[], (List.append_nil _).symm⟩ _ _ (by simpa using hr)⟩

theorem O_addL {i j : Nat} {l m : List AV} (hi : σ[i]? = some (.lst l)) (hj : σ[j]? = some (.lst m)) (hz : l.length + m.length ≤ 100000) :
    OpE cx d [.ref i, .ref j] σ (binF .Add) (.ref σ.length) (σ ++ [.lst (l ++ m)]) :=
  .two fun A α s u w R S ra rb => by
    obtain ⟨t, rfl, _, _, ws, hp, hz1, hr⟩ := cell_of S hi ra
    obtain ⟨t', rfl, _, _, ws', hp', hz2, hr'⟩ := cell_of S hj rb
    obtain ⟨n, ho⟩ := hp
    obtain ⟨n', ho'⟩ := hp'
    have e1 : l.length = ws.size := by rw [reps_length _ _ hr]; simp
    have e2 : m.length = ws'.size := by rw [reps_length _ _ hr']; simp
    refine concat_meets ⟨_, ho, rfl⟩ ⟨_, ho', rfl⟩ noFill_list_add seq_list_add PySem.F.slot_list_add PySem.F.entry_list_add (PySem.F.args_list_add_2 _ _) (list_addW t t' ws ws' n n' _ _ _ _ (by rw [sizeLine_eq]; lia)) ⟨ho, ho', ?_⟩
    have e : ws ++ ws' = (ws.toList ++ ws'.toList).toArray := by simp
    rw [e]
    exact newLst (A := A) S (by simpa using hz) (reps_append _ _ _ _ hr hr')

noncomputable def callF (fv : Value) (cs : List Value) : Sem Value := call fv cs

theorem O_append {i : Nat} {l : List AV} (hi : σ[i]? = some (.lst l)) (hz : l.length < 100000) : OpE cx d [.ref i, x] σ (callF (.builtin "list.append")) .none (σ.set i (.lst (l ++ [x]))) :=
  .two fun A α s u w R S ra rb => by
    obtain ⟨t, rfl, ha, _, ws, hp, hz1, hr⟩ := cell_of S hi ra
    have e1 : l.length = ws.size := by rw [reps_length _ _ hr]; simp
    refine wpAny_list_append_plain (hsz := by rw [sizeLine_eq]; lia) hp fun h' hp' hs' => ?_
    have hk : ∀ b o, s.heap.get? b = some o → b ≠ t → h'.get? b = some o := fun b o e hb => hs'.extBut b o hb e
    have tk : TupKeep cx.ban s.heap h' := fun a vs n _ tt => hk a _ tt fun e => S.notTup (e ▸ List.mem_of_getElem? ha) vs n tt
    refine ⟨α, .set S ⟨_, _, rfl⟩ ha hk ⟨_, hp', by rw [Array.size_push]; lia, ?_⟩, by simp [rep]⟩
    rw [Array.toList_push]
    exact reps_append _ _ _ _ (reps_mono tk ⟨[], (List.append_nil _).symm⟩ _ _ hr) (reps_single _ _ (rep_mono tk ⟨[], (List.append_nil _).symm⟩ _ _ rb))

theorem tooLong {n : Nat} (h : n ≤ 200000) : Builtin.List.listTooLong n = false := by
  unfold Builtin.List.listTooLong; exact decide_eq_false (by rw [sizeLine_eq]; lia)
theorem setSeq {A : Around} {s : Shared} {i : Nat} {t : Addr} {l : List AV} {ws : Array Value} {n : Nat} {f : Array Value → Array Value} (S : SO cx α σ s.heap) (ha : α[i]? = some t) (ho : s.heap.get? t = some { cls := .type "list", data := .seq ws n })
    (hz : (f ws).size ≤ 100000) (hr : ∀ h', TupKeep cx.ban s.heap h' → reps cx.ban h' α l (f ws).toList) : Fwd cx [] α s (σ.set i (.lst l)) α { s with heap := s.heap.update t (Obj.mapSeq f) } ∧ TupKeep cx.ban s.heap (s.heap.update t (Obj.mapSeq f)) := by
  have hk : ∀ b o, s.heap.get? b = some o → b ≠ t → (s.heap.update t (Obj.mapSeq f)).get? b = some o := fun b o e hb => (Heap.get?_update_other _ _ (Ne.symm hb)).trans e
  have tk : TupKeep cx.ban s.heap (s.heap.update t (Obj.mapSeq f)) := fun a vs n _ tt => hk a _ tt fun e => S.notTup (e ▸ List.mem_of_getElem? ha) vs n tt
  refine ⟨.set S ⟨_, _, rfl⟩ ha hk ⟨f ws, ⟨(if (f ws).size == ws.size then n else n + 1), ?_⟩, hz, hr _ tk⟩, tk⟩
  exact PySem.IsL.update ho f

theorem O_extend_lst {i j : Nat} {l m : List AV} (hi : σ[i]? = some (.lst l)) (hj : σ[j]? = some (.lst m)) (hz : l.length + m.length ≤ 100000) :
    OpE cx d [.ref i, .ref j] σ (callF (.builtin "list.extend")) .none (σ.set i (.lst (l ++ m))) :=
  .two fun A α s u w R S ra rb => by
    obtain ⟨t, rfl, ha, _, ws, hp, hz1, hr⟩ := cell_of S hi ra
    obtain ⟨t', rfl, _, _, ws', hp', hz2, hr'⟩ := cell_of S hj rb
    obtain ⟨n, ho⟩ := hp
    obtain ⟨n', ho'⟩ := hp'
    have e1 : l.length = ws.size := by rw [reps_length _ _ hr]; simp
    have e2 : m.length = ws'.size := by rw [reps_length _ _ hr']; simp
    refine call_meets PySem.F.slot_list_extend ⟨_, ho, rfl⟩ PySem.F.entry_list_extend (PySem.F.args_list_extend_2 _ _) (PySem.AutoSeq1.list_extend_list_list_0 t ws n t' ws' n' (by rw [tooLong (by lia)]; simp) (by rw [sizeLine_eq]; lia) (by rw [sizeLine_eq]; lia)) ⟨ho, ho', ?_⟩
    refine ⟨α, (setSeq (A := A) (f := fun x => x ++ ws') S ha ho (by simp; lia) fun h' tk => ?_).1, by simp [rep]⟩
    simp only [Array.toList_append]
    exact reps_append _ _ _ _ (reps_mono tk ⟨[], (List.append_nil _).symm⟩ _ _ hr) (reps_mono tk ⟨[], (List.append_nil _).symm⟩ _ _ hr')
theorem O_extend_tup {i : Nat} {l m : List AV} (hi : σ[i]? = some (.lst l)) (hz : l.length + m.length ≤ 100000) :
    OpE cx d [.ref i, .tup m] σ (callF (.builtin "list.extend")) .none (σ.set i (.lst (l ++ m))) :=
  .two fun A α s u w R S ra rb => by
    obtain ⟨t, rfl, ha, _, ws, hp, hz1, hr⟩ := cell_of S hi ra
    simp only [rep] at rb
    obtain ⟨t', ws', n', rfl, _, ho', hr'⟩ := rb
    obtain ⟨n, ho⟩ := hp
    have e1 : l.length = ws.size := by rw [reps_length _ _ hr]; simp
    have e2 : m.length = ws'.size := by rw [reps_length _ _ hr']; simp
    refine call_meets PySem.F.slot_list_extend ⟨_, ho, rfl⟩ PySem.F.entry_list_extend (PySem.F.args_list_extend_2 _ _) (PySem.AutoSeq1.list_extend_list_tuple_0 t ws n t' ws' n' (by rw [tooLong (by lia)]; simp) (by rw [sizeLine_eq]; lia) (by rw [sizeLine_eq]; lia)) ⟨ho, ho', ?_⟩
    refine ⟨α, (setSeq (A := A) (f := fun x => x ++ ws') S ha ho (by simp; lia) fun h' tk => ?_).1, by simp [rep]⟩
    simp only [Array.toList_append]
    exact reps_append _ _ _ _ (reps_mono tk ⟨[], (List.append_nil _).symm⟩ _ _ hr) (reps_mono tk ⟨[], (List.append_nil _).symm⟩ _ _ hr')

theorem O_pop {i : Nat} {l : List AV} (hi : σ[i]? = some (.lst (l ++ [v]))) : OpE cx d [.ref i] σ (callF (.builtin "list.pop")) v (σ.set i (.lst l)) :=
  .one fun A α s u R S ra => by
    obtain ⟨t, rfl, ha, _, ws, hp, hz1, hr⟩ := cell_of S hi ra
    obtain ⟨n, ho⟩ := hp
    have e1 : l.length + 1 = ws.size := by have := reps_length _ _ hr; simpa using this
    have hlast : ∃ y, ws.toList[l.length]? = some y ∧ rep cx.ban s.heap α v y := reps_get _ _ hr l.length v (by simp)
    obtain ⟨y, hy, ry⟩ := hlast
    have hk : ws.size - 1 = l.length := by lia
    have hlt : l.length < ws.size := by lia
    have hyy : ws[ws.size - 1]? = some y := by rw [hk, ← Array.getElem?_toList]; exact hy
    refine call_meets PySem.F.slot_list_pop ⟨_, ho, rfl⟩ PySem.F.entry_list_pop (PySem.F.args_list_pop_1 _) (PySem.MeetsSeq.list_pop_last t ws n y hyy (by rw [sizeLine_eq]; lia)) ⟨ho, ?_⟩
    have et : (ws.eraseIdxIfInBounds (ws.size - 1)).toList = ws.toList.take l.length := by
      rw [hk]
      unfold Array.eraseIdxIfInBounds
      rw [dif_pos hlt, Array.toList_eraseIdx, List.eraseIdx_eq_take_drop_succ]
      rw [List.drop_eq_nil_of_le (by simp; lia), List.append_nil]
    have es : (ws.eraseIdxIfInBounds (ws.size - 1)).size ≤ 100000 := by
      rw [← Array.length_toList, et, List.length_take]; lia
    obtain ⟨w, tk⟩ := setSeq (A := A) (i := i) (l := l) (f := fun xs => xs.eraseIdxIfInBounds (ws.size - 1)) S ha ho es fun h' tk => by
      show reps _ _ _ _ (ws.eraseIdxIfInBounds (ws.size - 1)).toList
      rw [et]
      have := reps_take l.length _ _ (reps_mono tk ⟨[], (List.append_nil _).symm⟩ _ _ hr)
      rwa [List.take_left] at this
    exact ⟨α, w, rep_mono tk ⟨[], (List.append_nil _).symm⟩ _ _ ry⟩
end
end Mine

end

noncomputable section
open PySem PySem.W PyProof.Rows
set_option Elab.async false
set_option maxRecDepth 100000
set_option linter.unusedVariables false
set_option linter.unusedSectionVars false
set_option linter.unusedSimpArgs false
namespace Mine

noncomputable def dlook {K : Type} [DecidableEq K] : List (K × AV) → K → Option AV
  | [], _ => none
  | (k', v) :: r, k => if k' = k then some v else dlook r k
noncomputable def dput {K : Type} [DecidableEq K] : List (K × AV) → K → AV → List (K × AV)
  | [], k, v => [(k, v)]
  | (k', v') :: r, k, v => if k' = k then (k', v) :: r else (k', v') :: dput r k v

section
variable {K : Type} [DecidableEq K] {X : List Addr} {h : Heap} {α : List Addr}
theorem repd_length : ∀ (l : List (K × AV)) (kvs : List (K × Value)), repd X h α l kvs → l.length = kvs.length
  | [], kvs, r => by simp only [repd] at r; subst r; rfl
  | (k, av) :: l, kvs, r => by
    simp only [repd] at r
    obtain ⟨v, q, rfl, p, t⟩ := r
    simp [repd_length l q t]
theorem repd_keys : ∀ (l : List (K × AV)) (kvs : List (K × Value)), repd X h α l kvs → l.map (·.1) = kvs.map (·.1)
  | [], kvs, r => by simp only [repd] at r; subst r; rfl
  | (k, av) :: l, kvs, r => by
    simp only [repd] at r
    obtain ⟨v, q, rfl, p, t⟩ := r
    simp [repd_keys l q t]
theorem repd_find (k : K) : ∀ (l : List (K × AV)) (kvs : List (K × Value)), repd X h α l kvs → (dlook l k = none ∧ valueAt kvs k = none) ∨ (∃ av v, dlook l k = some av ∧ valueAt kvs k = some v ∧ rep X h α av v)
  | [], kvs, r => by simp only [repd] at r; subst r; exact .inl ⟨rfl, rfl⟩
  | (k', av) :: l, kvs, r => by
    simp only [repd] at r
    obtain ⟨v, q, rfl, p, t⟩ := r
    unfold dlook valueAt
    by_cases e : k' = k
    · rw [if_pos e]
      exact .inr ⟨av, v, rfl, by simp [e], p⟩
    · rw [if_neg e]
      have := repd_find k l q t
      unfold valueAt at this
      simpa [List.find?_cons, e] using this
theorem repd_put (k : K) (av : AV) (v : Value) (hv : rep X h α av v) : ∀ (l : List (K × AV)) (kvs : List (K × Value)), repd X h α l kvs → (kvs.map (·.1)).Nodup → repd X h α (dput l k av) (stored kvs k v)
  | [], kvs, r, _ => by
    simp only [repd] at r; subst r
    simp only [dput, stored, repd]
    exact ⟨v, [], by simp, hv, rfl⟩
  | (k', av') :: l, kvs, r, hn => by
    simp only [repd] at r
    obtain ⟨v', q, rfl, p, t⟩ := r
    rw [List.map_cons, List.nodup_cons] at hn
    unfold dput
    by_cases e : k' = k
    · rw [if_pos e]
      subst e
      have hq : q.map (fun kv => if kv.1 = k' then (kv.1, v) else kv) = q := by
        conv => rhs; rw [← List.map_id q]
        refine List.map_congr_left fun kv hkv => ?_
        have : kv.1 ≠ k' := fun e => hn.1 (e ▸ List.mem_map_of_mem (f := (·.1)) hkv)
        simp [this]
      simp only [stored, List.any_cons, decide_true, Bool.true_or, if_true, List.map_cons, hq, repd]
      exact ⟨v, q, rfl, hv, t⟩
    · rw [if_neg e]
      have ih := repd_put k av v hv l q t hn.2
      simp only [repd]
      refine ⟨v', stored q k v, ?_, p, ih⟩
      unfold stored
      simp only [List.any_cons, e, decide_false, Bool.false_or, List.map_cons]
      split <;> simp [e]
theorem dput_length (k : K) (v : AV) : ∀ l : List (K × AV), (dput l k v).length ≤ l.length + 1
  | [] => by simp [dput]
  | (k', v') :: r => by
    unfold dput
    split
    · simp
    · have := dput_length k v r; simp; lia
end

section
variable {cx : Cx} {d : Nat} {σ σ' : Sto} {v x y a b c dv : AV} {X : List Addr} {hp : Heap} {α : List Addr} {env : Env} {sc : Scope} {ρ : Loc}

theorem SO.notMod (S : SO cx α σ hp) {t : Addr} (ht : t ∈ α) : (t == sysModules) = false := by
  rw [beq_eq_false_iff_ne]
  rintro rfl
  exact cx.sm (S.new _ ht)

/-- what a dict bears, of either kind of key -/
noncomputable def dictOfS : Cell → Option (List (Str × AV))
  | .sdct l => some l
  | .edct => some []
  | _ => none
noncomputable def dictOfI : Cell → Option (List (Int × AV))
  | .idct l => some l
  | .edct => some []
  | _ => none
theorem cellS {t : Addr} {ce : Cell} (h : CellAt cx hp α ce t) {l : List (Str × AV)} (e : dictOfS ce = some l) : ∃ kvs, hp.DictOf (strKind cx.prog cx.w) t kvs ∧ kvs.length ≤ 100000 ∧ repd cx.ban hp α l kvs := by
  cases ce <;> simp only [dictOfS, Option.some.injEq, reduceCtorEq] at e
  · subst e; exact ⟨[], h.1, by simp, rfl⟩
  · subst e; exact h
theorem cellI {t : Addr} {ce : Cell} (h : CellAt cx hp α ce t) {l : List (Int × AV)} (e : dictOfI ce = some l) : ∃ kvs, hp.DictOf (intKind cx.prog cx.w) t kvs ∧ kvs.length ≤ 100000 ∧ repd cx.ban hp α l kvs := by
  cases ce <;> simp only [dictOfI, Option.some.injEq, reduceCtorEq] at e
  · subst e; exact ⟨[], h.2, by simp, rfl⟩
  · subst e; exact h

theorem O_in_dct {i : Nat} {k : Str} {ce : Cell} {l : List (Str × AV)} (hi : σ[i]? = some ce) (hc : dictOfS ce = some l) : OpE cx d [.str k, .ref i] σ (cmpF .In) (.bool (dlook l k).isSome) σ :=
  .two fun A α s u w R S ra rb => by
    obtain ⟨t, rfl, _, hm, hcell⟩ := cell_of S hi rb
    obtain ⟨kvs, hd, _, hr⟩ := cellS hcell hc
    simp only [rep] at ra
    obtain ⟨tk, rfl⟩ := ra
    refine wpAny_in_of (strKind_is _ _ k tk) (S.notMod hm) hd.mapOf ⟨α, .tok S _, ?_⟩
    rcases repd_find k l kvs hr with ⟨e1, e2⟩ | ⟨av, v, e1, e2, _⟩ <;> simp [rep, e1, e2]
theorem O_notin_dct {i : Nat} {k : Str} {ce : Cell} {l : List (Str × AV)} (hi : σ[i]? = some ce) (hc : dictOfS ce = some l) : OpE cx d [.str k, .ref i] σ (cmpF .NotIn) (.bool (!(dlook l k).isSome)) σ :=
  .two fun A α s u w R S ra rb => by
    obtain ⟨t, rfl, _, hm, hcell⟩ := cell_of S hi rb
    obtain ⟨kvs, hd, _, hr⟩ := cellS hcell hc
    simp only [rep] at ra
    obtain ⟨tk, rfl⟩ := ra
    refine wpAny_notIn_of (strKind_is _ _ k tk) (S.notMod hm) hd.mapOf ⟨α, .tok S _, ?_⟩
    rcases repd_find k l kvs hr with ⟨e1, e2⟩ | ⟨av, v, e1, e2, _⟩ <;> simp [rep, e1, e2]

theorem O_get_idct {i : Nat} {k : Int} {ce : Cell} {l : List (Int × AV)} (hi : σ[i]? = some ce) (hc : dictOfI ce = some l) (hv : dlook l k = some v) : OpE cx d [.ref i, .int k] σ getF v σ :=
  .two fun A α s u w R S ra rb => by
    obtain ⟨t, rfl, _, hm, hcell⟩ := cell_of S hi ra
    obtain ⟨kvs, hd, _, hr⟩ := cellI hcell hc
    simp only [rep] at rb
    obtain ⟨tk, rfl⟩ := rb
    rcases repd_find k l kvs hr with ⟨e1, e2⟩ | ⟨av, v', e1, e2, rv⟩
    · rw [e1] at hv; cases hv
    · rw [e1] at hv; cases hv
      exact wpAny_getItem_of (intKind_is _ _ k tk) hd.mapOf e2 ⟨α, .tok S _, rv⟩
theorem T_idct {i : Nat} {ce : Cell} {l : List (Int × AV)} (hi : σ[i]? = some ce) (hc : dictOfI ce = some l) : ∀ α s c, SO cx α σ s.heap → rep cx.ban s.heap α (.ref i) c → ∃ T id, typeLookup (.type T) "__getitem__" = pure (some (.builtin id)) ∧ Shared.TypeIs s c T := by
  intro α s c S r
  obtain ⟨t, rfl, _, hm, hcell⟩ := cell_of S hi r
  obtain ⟨kvs, hd, _, hr⟩ := cellI hcell hc
  exact ⟨"dict", _, slot_dict_getitem.lookup, hd.typeIs⟩

theorem O_dget_s {i : Nat} {k : Str} {ce : Cell} {l : List (Str × AV)} (hi : σ[i]? = some ce) (hc : dictOfS ce = some l) : OpE cx d [.ref i, .str k, dv] σ (callF (.builtin "dict.get")) ((dlook l k).getD dv) σ :=
  .three fun A α s u w z R S ra rb rc => by
    obtain ⟨t, rfl, _, hm, hcell⟩ := cell_of S hi ra
    obtain ⟨kvs, hd, _, hr⟩ := cellS hcell hc
    simp only [rep] at rb
    obtain ⟨tk, rfl⟩ := rb
    refine call_meetsIn PySem.F.slot_dict_get hd.typeIs PySem.F.entry_dict_get (PySem.F.args_dict_get_3 _ _ _) (meets_dict_get_default (strKind cx.prog cx.w) t (strKind_is _ _ k tk) (S.notMod hm) z) ⟨_, hd.mapOf, α, .tok S _, ?_⟩
    rcases repd_find k l kvs hr with ⟨e1, e2⟩ | ⟨av, v', e1, e2, rv⟩
    · rw [e1, e2]; exact rc
    · rw [e1, e2]; exact rv
theorem O_dget_i {i : Nat} {k : Int} {ce : Cell} {l : List (Int × AV)} (hi : σ[i]? = some ce) (hc : dictOfI ce = some l) : OpE cx d [.ref i, .int k, dv] σ (callF (.builtin "dict.get")) ((dlook l k).getD dv) σ :=
  .three fun A α s u w z R S ra rb rc => by
    obtain ⟨t, rfl, _, hm, hcell⟩ := cell_of S hi ra
    obtain ⟨kvs, hd, _, hr⟩ := cellI hcell hc
    simp only [rep] at rb
    obtain ⟨tk, rfl⟩ := rb
    refine call_meetsIn PySem.F.slot_dict_get hd.typeIs PySem.F.entry_dict_get (PySem.F.args_dict_get_3 _ _ _) (meets_dict_get_default (intKind cx.prog cx.w) t (intKind_is _ _ k tk) (S.notMod hm) z) ⟨_, hd.mapOf, α, .tok S _, ?_⟩
    rcases repd_find k l kvs hr with ⟨e1, e2⟩ | ⟨av, v', e1, e2, rv⟩
    · rw [e1, e2]; exact rc
    · rw [e1, e2]; exact rv

theorem setItem_upd {prog : Program} {w : World} {A : Around} {E : Value → Shared → Prop} {s : Shared} {l : Addr} {items : Array Value} {k : Int} {t : Tok} {v : Value} {Q : Unit → Shared → Prop} (hl : s.heap.IsList l items)
    (h0 : 0 ≤ k) (hfit : k < 2 ^ 63) (hn : k < items.size) (hQ : Q () { s with heap := s.heap.update l (Obj.mapSeq (·.setIfInBounds k.toNat v)) }) : wpAny (model prog w) A (setItem (.ref l) (.int k t) v) Q E s := by
  obtain ⟨o, ho, hc, ne, hd⟩ := id hl
  unfold setItem
  try with_reducible refine wpAny_holding ?_
  first | refine wpAny_bind (wpAny_pure ?_) | skip
  refine wpAny_bind (wpAny_sequenceKey hl.typeIs (by decide) ?_)
  refine wpAny_bind (wpAny_callSpecial?_slot (name := Str.ofString "__setitem__") hl.typeIs slot_list_setitem
    (wpAny_call_entry slot_list_setitem hl.typeIs entry_list_setitem ?_ (args_list_setitem _ _ _)))
  show wpAny _ _ (Builtin.List.listSubscript? (.int k t) >>= _) _ _ s
  refine wpAny_bind (wpAny_listSubscript_int (fitsIndex_of h0 hfit) ?_)
  clear hfit
  obtain ⟨j, rfl⟩ := Int.eq_ofNat_of_zero_le h0
  have hj : j < items.size := by lia
  have hx' : items[j]? = some items[j] := Array.getElem?_eq_getElem hj
  show wpAny _ _ ((seqItemAt l j >>= fun r => pure (r.map (j, ·))) >>= _) _ _ s
  refine wpAny_bind (wpAny_bind (wpAny_seqItemAt ho hd (wpAny_pure ?_)))
  rw [hx']
  show wpAny _ _ (setSeqItemAt l j v >>= _) _ _ s
  refine wpAny_bind (wpAny_setSeqItemAt ho hd ?_)
  first
    | exact wpAny_bind (wpAny_pure (wpAny_pure ⟨.none, rfl, wpAny_pure hQ⟩))
    | exact wpAny_pure ⟨.none, rfl, wpAny_pure hQ⟩

theorem reps_set {X : List Addr} {h : Heap} {α : List Addr} : ∀ (k : Nat) (l : List AV) (vs : List Value) (x : AV) (v : Value), reps X h α l vs → rep X h α x v → reps X h α (l.set k x) (vs.set k v)
  | _, [], vs, x, v, r, _ => by simp only [reps] at r; subst r; simp [reps]
  | 0, y :: l, vs, x, v, r, q => by
    simp only [reps] at r
    obtain ⟨u, vs', rfl, r1, r2⟩ := r
    simp only [List.set_cons_zero, reps]
    exact ⟨v, vs', rfl, q, r2⟩
  | k + 1, y :: l, vs, x, v, r, q => by
    simp only [reps] at r
    obtain ⟨u, vs', rfl, r1, r2⟩ := r
    simp only [List.set_cons_succ, reps]
    exact ⟨u, vs'.set k v, rfl, r1, reps_set k l vs' x v r2 q⟩

theorem OpU.three {f : List Value → Sem Unit} (h : ∀ (A : Around) (α : List Addr) (s : Shared) (u w z : Value), Room A d → SO cx α σ s.heap → rep cx.ban s.heap α a u → rep cx.ban s.heap α b w → rep cx.ban s.heap α c z →
    wpAny (model cx.prog cx.w) A (f [u, w, z]) (fun _ s' => ∃ α', Fwd cx [] α s σ' α' s') NoE s) : OpU cx d [a, b, c] σ f σ' := by
  intro A α s cs R S r
  simp only [reps] at r
  obtain ⟨u, _, rfl, ru, w, _, rfl, rw', z, _, rfl, rz, rfl⟩ := r
  exact h A α s u w z R S ru rw' rz

theorem nodupD {K : Type} [DecidableEq K] {knd : KeyKind cx.prog cx.w K} {t : Addr} {kvs : List (K × Value)} (h : hp.DictOf knd t kvs) : (kvs.map (·.1)).Nodup := let ⟨_, _, _, _, _, _, _, _, hn⟩ := h; hn

theorem U_set_s {i : Nat} {k : Str} {ce : Cell} {l : List (Str × AV)} (hi : σ[i]? = some ce) (hc : dictOfS ce = some l) (hz : l.length < 100000) : OpU cx d [.ref i, .str k, v] σ setItemF (σ.set i (.sdct (dput l k v))) :=
  .three fun A α s u w z R S ra rb rc => by
    obtain ⟨t, rfl, ha, hm, hcell⟩ := cell_of S hi ra
    obtain ⟨kvs, hd, hz', hr⟩ := cellS hcell hc
    simp only [rep] at rb
    obtain ⟨tk, rfl⟩ := rb
    have e1 := repd_length _ _ hr
    refine wpAny_setItem_pairs (strKind_is _ _ k tk) hd (fun h' hd' hs' => ?_) (by rw [sizeLine_eq]; lia)
    have hk : ∀ b o, s.heap.get? b = some o → b ≠ t → h'.get? b = some o := fun b o e hb => hs'.extBut b o hb e
    have tkp : TupKeep cx.ban s.heap h' := fun a vs n _ tt => hk a _ tt fun e => S.notTup (e ▸ hm) vs n tt
    have hrp := repd_put k v z (rep_mono tkp ⟨[], (List.append_nil _).symm⟩ _ _ rc) l kvs (repd_mono tkp ⟨[], (List.append_nil _).symm⟩ _ _ hr) (nodupD hd)
    refine ⟨α, .set S ⟨_, _, rfl⟩ ha hk ⟨_, hd', ?_, hrp⟩⟩
    rw [← repd_length _ _ hrp]
    have := dput_length k v l
    lia
theorem U_set_i {i : Nat} {k : Int} {ce : Cell} {l : List (Int × AV)} (hi : σ[i]? = some ce) (hc : dictOfI ce = some l) (hz : l.length < 100000) : OpU cx d [.ref i, .int k, v] σ setItemF (σ.set i (.idct (dput l k v))) :=
  .three fun A α s u w z R S ra rb rc => by
    obtain ⟨t, rfl, ha, hm, hcell⟩ := cell_of S hi ra
    obtain ⟨kvs, hd, hz', hr⟩ := cellI hcell hc
    simp only [rep] at rb
    obtain ⟨tk, rfl⟩ := rb
    have e1 := repd_length _ _ hr
    refine wpAny_setItem_pairs (intKind_is _ _ k tk) hd (fun h' hd' hs' => ?_) (by rw [sizeLine_eq]; lia)
    have hk : ∀ b o, s.heap.get? b = some o → b ≠ t → h'.get? b = some o := fun b o e hb => hs'.extBut b o hb e
    have tkp : TupKeep cx.ban s.heap h' := fun a vs n _ tt => hk a _ tt fun e => S.notTup (e ▸ hm) vs n tt
    have hrp := repd_put k v z (rep_mono tkp ⟨[], (List.append_nil _).symm⟩ _ _ rc) l kvs (repd_mono tkp ⟨[], (List.append_nil _).symm⟩ _ _ hr) (nodupD hd)
    refine ⟨α, .set S ⟨_, _, rfl⟩ ha hk ⟨_, hd', ?_, hrp⟩⟩
    rw [← repd_length _ _ hrp]
    have := dput_length k v l
    lia
theorem U_set_l {i : Nat} {k : Nat} {l : List AV} (hi : σ[i]? = some (.lst l)) (hk : k < l.length) : OpU cx d [.ref i, .int k, v] σ setItemF (σ.set i (.lst (l.set k v))) :=
  .three fun A α s u w z R S ra rb rc => by
    obtain ⟨t, rfl, ha, hm, ws, hp, hz', hr⟩ := cell_of S hi ra
    simp only [rep] at rb
    obtain ⟨tk, rfl⟩ := rb
    obtain ⟨n, ho⟩ := hp
    have e1 : l.length = ws.size := by rw [reps_length _ _ hr]; simp
    refine setItem_upd ⟨_, ho, rfl, n, rfl⟩ (by lia) (by lia) (by lia) ⟨α, (setSeq (A := A) (f := fun x => x.setIfInBounds k z) S ha ho (by simp; lia) fun h' tk => ?_).1⟩
    rw [Array.toList_setIfInBounds]
    exact reps_set k l _ v z (reps_mono tk ⟨[], (List.append_nil _).symm⟩ _ _ hr) (rep_mono tk ⟨[], (List.append_nil _).symm⟩ _ _ rc)

/-! a new dict, a copy of one -/
theorem S_dict {p : Pos} : SimE cx d env ρ σ (eval (.Dict [] [] p) env) (.ref σ.length) (σ ++ [.edct]) := by
  intro A α s R S F
  rw [eval_Dict_empty]
  refine wpAny_bind (wpAny_standAt ?_)
  refine wpAny_newObj_type ⟨α ++ [s.heap.objs.size], .push S ⟨_, _, rfl⟩ (fresh_size _) (fun b o e => Heap.get?_push_of_some _ e) ⟨Heap.DictOf.new _, Heap.DictOf.new _⟩, ?_⟩
  simp only [rep]
  exact ⟨s.heap.objs.size, by rw [← S.len]; simp, rfl⟩

theorem O_dict {i : Nat} {ce : Cell} {l : List (Str × AV)} (hi : σ[i]? = some ce) (hc : dictOfS ce = some l) : OpE cx d [.ref i] σ (callF (.type "dict")) (.ref σ.length) (σ ++ [.sdct l]) :=
  .one fun A α s u R S ra => by
    obtain ⟨t, rfl, ha, hm, hcell⟩ := cell_of S hi ra
    obtain ⟨kvs, hd, hz', hr⟩ := cellS hcell hc
    refine kt_call_dict (S.notMod hm) hd (by rw [sizeLine_eq]; lia) fun h' hd' hs' => ?_
    have hk : ∀ b o, s.heap.get? b = some o → h'.get? b = some o := fun b o e => hs'.extBut b o (Nat.ne_of_lt (Heap.lt_size e)) (Heap.get?_push_of_some _ e)
    refine ⟨α ++ [s.heap.objs.size], .push S ⟨_, _, rfl⟩ (fresh_size _) hk ⟨_, hd', hz', repd_mono (fun _ _ _ _ t => hk _ _ t) ⟨_, rfl⟩ _ _ hr⟩, ?_⟩
    simp only [rep]
    exact ⟨s.heap.objs.size, by rw [← S.len]; simp, rfl⟩
theorem O_len_dct {i : Nat} {n : Nat} {ce : Cell} (hi : σ[i]? = some ce) (hc : (dictOfS ce).map (·.length) = some n ∨ (dictOfI ce).map (·.length) = some n) : OpE cx d [.ref i] σ (callF (.builtin "len")) (.int n) σ :=
  .one fun A α s u R S ra => by
    obtain ⟨t, rfl, ha, hm, hcell⟩ := cell_of S hi ra
    rcases hc with hc | hc
    · obtain ⟨l, hl, rfl⟩ := Option.map_eq_some_iff.mp hc
      obtain ⟨kvs, hd, hz', hr⟩ := cellS hcell hl
      refine call_len_dict (S.notMod hm) hd (by lia) ⟨α, .tok S _, ?_⟩
      rw [repd_length _ _ hr]; simp [rep]
    · obtain ⟨l, hl, rfl⟩ := Option.map_eq_some_iff.mp hc
      obtain ⟨kvs, hd, hz', hr⟩ := cellI hcell hl
      refine call_len_dict (S.notMod hm) hd (by lia) ⟨α, .tok S _, ?_⟩
      rw [repd_length _ _ hr]; simp [rep]
end
end Mine

end

noncomputable section
open PySem PySem.W PyProof.Rows
set_option Elab.async false
set_option maxRecDepth 100000
set_option linter.unusedVariables false
set_option linter.unusedSectionVars false
set_option linter.unusedSimpArgs false
namespace Mine

section
variable {cx : Cx} {d : Nat} {σ σ' : Sto} {v x y a b c dv : AV} {X : List Addr} {hp : Heap} {α : List Addr} {env : Env} {sc : Scope} {ρ : Loc}

theorem O_len_tup {l : List AV} (hz : l.length ≤ 100000) : OpE cx d [.tup l] σ (callF (.builtin "len")) (.int l.length) σ :=
  .one fun A α s u R S ra => by
    simp only [rep] at ra
    obtain ⟨t, ws, z, rfl, _, ht, hr⟩ := ra
    have e1 : l.length = ws.size := by rw [reps_length _ _ hr]; simp
    refine PyProof.Rows.len_tuple ⟨_, ht, rfl, z, rfl⟩ (by lia) ⟨α, .tok S _, ?_⟩
    rw [e1]; simp [rep]
theorem O_len_lst {i : Nat} {l : List AV} (hi : σ[i]? = some (.lst l)) : OpE cx d [.ref i] σ (callF (.builtin "len")) (.int l.length) σ :=
  .one fun A α s u R S ra => by
    obtain ⟨t, rfl, ha, _, ws, hp, hz1, hr⟩ := cell_of S hi ra
    have e1 : l.length = ws.size := by rw [reps_length _ _ hr]; simp
    refine Calls.call_len_list hp.isList (by lia) ⟨α, .tok S _, ?_⟩
    rw [e1]; simp [rep]
theorem O_len_rol {i : Nat} {vs : Array Value} {n : Nat} (hi : σ[i]? = some (.rol vs n)) : OpE cx d [.ref i] σ (callF (.builtin "len")) (.int vs.size) σ :=
  .one fun A α s u R S ra => by
    obtain ⟨t, rfl, ha, _, hp, hz1⟩ := cell_of S hi ra
    refine Calls.call_len_list (show s.heap.PlainList t vs from ⟨_, hp⟩).isList (by lia) ⟨α, .tok S _, ?_⟩
    simp [rep]

theorem O_tuple_tup {l : List AV} : OpE cx d [.tup l] σ (callF (.type "tuple")) (.tup l) σ :=
  .one fun A α s u R S ra => by
    have ra' := ra
    simp only [rep] at ra
    obtain ⟨t, ws, z, rfl, _, ht, hr⟩ := ra
    exact call_tuple_same ⟨_, ht, rfl, z, rfl⟩ ⟨α, .refl S, ra'⟩
theorem O_tuple_lst {i : Nat} {l : List AV} (hi : σ[i]? = some (.lst l)) : OpE cx d [.ref i] σ (callF (.type "tuple")) (.tup l) σ :=
  .one fun A α s u R S ra => by
    obtain ⟨t, rfl, ha, _, ws, hp, hz1, hr⟩ := cell_of S hi ra
    refine call_tuple_list hp.isList (fun h' hk => ?_) (by rw [sizeLine_eq]; lia)
    have w : Fwd cx [] α s σ α { s with heap := h' } := .keeps S ⟨_, _, rfl⟩ hk
    obtain ⟨α', w', r'⟩ := newTup (A := A) (n := 0) w.so (w.reps S hr)
    exact ⟨α', w.trans w', by simpa using r'⟩
theorem newCell {s : Shared} {c : Cell} {h' : Heap} (S : SO cx α σ s.heap) (hk : ∀ b o, s.heap.get? b = some o → h'.get? b = some o) (hc : CellAt cx h' (α ++ [s.heap.objs.size]) c s.heap.objs.size) :
    ∃ α', Fwd cx [] α s (σ ++ [c]) α' { s with heap := h' } ∧ rep cx.ban h' α' (.ref σ.length) (.ref s.heap.objs.size) := by
  refine ⟨α ++ [s.heap.objs.size], .push S ⟨_, _, rfl⟩ (fresh_size _) hk hc, ?_⟩
  simp only [rep]
  exact ⟨s.heap.objs.size, by rw [← S.len]; simp, rfl⟩
theorem O_list_tup {l : List AV} (hz : l.length ≤ 100000) : OpE cx d [.tup l] σ (callF (.type "list")) (.ref σ.length) (σ ++ [.lst l]) :=
  .one fun A α s u R S ra => by
    simp only [rep] at ra
    obtain ⟨t, ws, z, rfl, _, ht, hr⟩ := ra
    have e1 : l.length = ws.size := by rw [reps_length _ _ hr]; simp
    exact call_list_seq t (.inr rfl) ht rfl rfl (fun h' c' hk hg => newCell S hk ⟨ws, ⟨_, hg⟩, by lia, reps_mono (fun _ _ _ _ t => hk _ _ t) ⟨_, rfl⟩ _ _ hr⟩) (by rw [sizeLine_eq]; lia)
theorem O_list_lst {i : Nat} {l : List AV} (hi : σ[i]? = some (.lst l)) : OpE cx d [.ref i] σ (callF (.type "list")) (.ref σ.length) (σ ++ [.lst l]) :=
  .one fun A α s u R S ra => by
    obtain ⟨t, rfl, ha, _, ws, ⟨n, ho⟩, hz1, hr⟩ := cell_of S hi ra
    have e1 : l.length = ws.size := by rw [reps_length _ _ hr]; simp
    exact call_list_seq t (.inl rfl) ho rfl rfl (fun h' c' hk hg => newCell S hk ⟨ws, ⟨_, hg⟩, by lia, reps_mono (fun _ _ _ _ t => hk _ _ t) ⟨_, rfl⟩ _ _ hr⟩) (by rw [sizeLine_eq]; lia)

theorem O_int_bool {t : Bool} : OpE cx d [.bool t] σ (callF (.type "int")) (.int (if t then 1 else 0)) σ :=
  .one fun A α s u R S ra => by
    simp only [rep] at ra
    subst ra
    exact call_int_bool ⟨α, .tok S _, by simp [rep]⟩
theorem O_str_int {i : Int} (h : i.natAbs < 1000000) : OpE cx d [.int i] σ (callF (.type "str")) (.str (Str.ofString (toString i))) σ :=
  .one fun A α s u R S ra => by
    simp only [rep] at ra
    obtain ⟨t, rfl⟩ := ra
    refine str_of_int_fit (N := 1000000) (by split <;> lia) (by lia) fun _ => ⟨α, .tok S _, by simp [rep]⟩
theorem O_max {i j : Int} : OpE cx d [.int i, .int j] σ (callF (.builtin "max")) (.int (if j > i then j else i)) σ :=
  .two fun A α s u w R S ra rb => by
    simp only [rep] at ra rb; obtain ⟨t, rfl⟩ := ra; obtain ⟨t', rfl⟩ := rb
    refine max_two_ints R.handled fun h' tk hk => ⟨α, .keeps S ⟨_, _, rfl⟩ hk, ?_⟩
    split <;> simp [rep]
theorem O_min {i j : Int} : OpE cx d [.int i, .int j] σ (callF (.builtin "min")) (.int (if j < i then j else i)) σ :=
  .two fun A α s u w R S ra rb => by
    simp only [rep] at ra rb; obtain ⟨t, rfl⟩ := ra; obtain ⟨t', rfl⟩ := rb
    refine min_two_ints R.handled fun h' tk hk => ⟨α, .keeps S ⟨_, _, rfl⟩ hk, ?_⟩
    split <;> simp [rep]

theorem reps_strs {l : List (Str × Tok)} {ts : List Str} (h : l.map (·.1) = ts) : reps X hp α (ts.map .str) (strValues l) := by
  subst h
  induction l with
  | nil => simp [reps, strValues]
  | cons p r ih =>
    simp only [List.map_cons, strValues, reps, rep] at ih ⊢
    exact ⟨_, _, rfl, ⟨_, rfl⟩, ih⟩

open Builtin.Str in
theorem split_raw {prog : Program} {w : World} {A : Around} {E : Value → Shared → Prop} {s : Shared} {Q : Value → Shared → Prop} {x y : Str} {t u : Tok} (hy : (y.length == 0) = false)
    (h : ∀ l k, l.map (·.1) = Txt.split x y → l.length ≤ x.length + 2 → Q (.ref s.heap.objs.size) { s with heap := s.heap.push { cls := .type "list", data := .seq (strValues l).toArray }, toks := k })
    (hsz : x.length + 2 ≤ sizeLine) : wpAny (model prog w) A (call (.builtin "str.split") [.str x t, .str y u]) Q E s := by
  have e1 := StrLaws.occ_length_le x y 0 x.length (x.length + 1)
  have hn : (partsBetween x (occurrences x y 0 x.length (x.length + 1)) y.length).length ≤ x.length + 2 := by
    rw [length_partsBetween]; lia
  cases h1 : (decide (x.length < y.length) || decide (Builtin.Str.strKind x < Builtin.Str.strKind y))
  · cases hf : (occurrences x y 0 x.length (x.length + 1)).isEmpty
    · refine call_meets F.slot_str_split (typeIs_str _ _ _) F.entry_str_split (F.args_str_split_2 _ _) (meets_str_split_sep x y t u h1 hy hf (by lia) (by lia)) ?_
      show wants Q E _ { s with toks := _, heap := s.heap.push { cls := .type "list", data := .seq (strsFrom s.toks (partsBetween x (occurrences x y 0 x.length (x.length + 1)) y.length)).toArray } }
      rw [strsFrom_eq]
      have e2 := numbered_texts s.toks (partsBetween x (occurrences x y 0 x.length (x.length + 1)) y.length)
      refine h (numbered s.toks _) _ (e2.trans ((if_neg (ne_true_of_eq_false h1)).trans (if_neg (ne_true_of_eq_false hf))).symm) ?_
      rw [← List.length_map (f := (·.1)), e2]; exact hn
    · exact call_meets F.slot_str_split (typeIs_str _ _ _) F.entry_str_split (F.args_str_split_2 _ _) (meets_str_split_not_found x y t u h1 hy hf)
        (h [(x, t)] s.toks ((if_neg (ne_true_of_eq_false h1)).trans (if_pos hf)).symm (by simp))
  · exact call_meets F.slot_str_split (typeIs_str _ _ _) F.entry_str_split (F.args_str_split_2 _ _) (meets_str_split_cannot_occur x y t u h1)
      (h [(x, t)] s.toks (if_pos h1).symm (by simp))

theorem O_split {p q : Str} (hq : (q.length == 0) = false) (hp : p.length ≤ 1000) : OpE cx d [.str p, .str q] σ (callF (.builtin "str.split")) (.ref σ.length) (σ ++ [.lst ((Txt.split p q).map .str)]) :=
  .two fun A α s u w R S ra rb => by
    simp only [rep] at ra rb; obtain ⟨t, rfl⟩ := ra; obtain ⟨t', rfl⟩ := rb
    refine split_raw hq (fun l tk hl hz => ?_) (by rw [sizeLine_eq]; lia)
    have w1 : Fwd cx [] α s σ α { s with toks := tk } := .tok S tk
    have hlen : ((Txt.split p q).map AV.str).length ≤ 100000 := by rw [← hl]; simp; lia
    obtain ⟨α', w2, r2⟩ := newLst (A := A) (n := 0) w1.so hlen (reps_strs (X := cx.ban) (hp := s.heap) (α := α) hl)
    exact ⟨α', w1.trans w2, r2⟩

/-! methods -/
theorem M_list {i : Nat} {l : List AV} {name : Str} {id : String} (hi : σ[i]? = some (.lst l)) (slot : Slot "list" name id) (hty : typeOf (.builtin id) = pure (.type "method_descriptor")) : MethAt cx d (.ref i) σ name (.builtin id) := by
  intro A α s c pl Q E R S r h
  obtain ⟨t, rfl, ha, _, ws, ⟨n, ho⟩, hz1, hr⟩ := cell_of S hi r
  exact getMethod_builtin ⟨_, ho, rfl⟩ PySem.F.plainAttrs_list slot hty (fun a e => by cases e; exact ⟨_, ho, rfl⟩) h
theorem M_dctS {i : Nat} {ce : Cell} {l : List (Str × AV)} {name : Str} {id : String} (hi : σ[i]? = some ce) (hc : dictOfS ce = some l) (slot : Slot "dict" name id) (hty : typeOf (.builtin id) = pure (.type "method_descriptor")) : MethAt cx d (.ref i) σ name (.builtin id) := by
  intro A α s c pl Q E R S r h
  obtain ⟨t, rfl, ha, hm, hcell⟩ := cell_of S hi r
  obtain ⟨kvs, hd, hz', hr⟩ := cellS hcell hc
  exact getMethod_builtin hd.typeIs PySem.F.plainAttrs_dict slot hty hd.mapOf.noDict h
theorem M_dctI {i : Nat} {ce : Cell} {l : List (Int × AV)} {name : Str} {id : String} (hi : σ[i]? = some ce) (hc : dictOfI ce = some l) (slot : Slot "dict" name id) (hty : typeOf (.builtin id) = pure (.type "method_descriptor")) : MethAt cx d (.ref i) σ name (.builtin id) := by
  intro A α s c pl Q E R S r h
  obtain ⟨t, rfl, ha, hm, hcell⟩ := cell_of S hi r
  obtain ⟨kvs, hd, hz', hr⟩ := cellI hcell hc
  exact getMethod_builtin hd.typeIs PySem.F.plainAttrs_dict slot hty hd.mapOf.noDict h
theorem M_str {p : Str} {name : Str} {id : String} (slot : Slot "str" name id) (hty : typeOf (.builtin id) = pure (.type "method_descriptor")) : MethAt cx d (.str p) σ name (.builtin id) := by
  intro A α s c pl Q E R S r h
  simp only [rep] at r
  obtain ⟨t, rfl⟩ := r
  exact getMethod_builtin (typeIs_str _ _ _) PySem.F.plainAttrs_str slot hty (fun a e => nomatch e) h
end
end Mine

end

noncomputable section
open PySem PySem.W PyProof.Rows
set_option Elab.async false
set_option maxRecDepth 100000
set_option linter.unusedVariables false
set_option linter.unusedSectionVars false
set_option linter.unusedSimpArgs false
namespace Mine

theorem fm_congr {β γ : Type} {f g : β → Option γ} : ∀ l : List β, (∀ x ∈ l, f x = g x) → l.filterMap f = l.filterMap g
  | [], _ => rfl
  | x :: l, h => by
    have h1 := h x (List.mem_cons_self ..)
    have h2 := fm_congr l fun y hy => h y (List.mem_cons_of_mem _ hy)
    rw [List.filterMap_cons, List.filterMap_cons, h1, h2]

section
variable {prog : Program} {w : World} {A : Around} {E : Value → Shared → Prop} {s : Shared}

theorem adjust_rev (n : Nat) : Builtin.Slice.sliceAdjust none none (-1) (n : Int) = ((n : Int) - 1, -1) := by
  unfold Builtin.Slice.sliceAdjust
  simp
theorem places_rev (n : Nat) : Builtin.Slice.slicePlaces ((n : Int) - 1) (-1) (-1) = n := by
  unfold Builtin.Slice.slicePlaces
  have h1 : ¬ ((-1 : Int) > 0) := by lia
  have h2 : (-(-1 : Int)) = 1 := by lia
  simp only [h1, if_false, h2, Int.ediv_one]
  split <;> lia
theorem pick_rev (xs : Array Value) : ((List.range xs.size).filterMap fun (k : Nat) => xs[((xs.size : Int) - 1 + (k : Int) * (-1)).toNat]?).toArray = xs.toList.reverse.toArray := by
  have e : ∀ k ∈ List.range xs.size, (fun (k : Nat) => xs[((xs.size : Int) - 1 + (k : Int) * (-1)).toNat]?) k = ((fun i => xs[i]?) ∘ fun k => xs.size - 1 - k) k := by
    intro k hk
    have := List.mem_range.mp hk
    have e1 : ((xs.size : Int) - 1 + (k : Int) * (-1)).toNat = xs.size - 1 - k := by lia
    simp only [Function.comp, e1]
  rw [fm_congr _ e, ← List.filterMap_map, krv_range, List.filterMap_reverse, krv_all]

theorem getItem_tuple_rev {t sl : Addr} {items : Array Value} {u : Tok} {Q : Value → Shared → Prop} (ht : IsTup s.heap t items) (hs : s.heap.IsSliceOf sl .none .none (.int (-1) u))
    (h : Q (.ref s.heap.objs.size) { s with heap := s.heap.push { cls := .type "tuple", data := .seq items.toList.reverse.toArray } })
    (hsz : items.size ≤ sizeLine) : wpAny (model prog w) A (getItem (.ref t) (.ref sl)) Q E s := by
  have hdrop : sizeOk (.seq items.toList.reverse.toArray) := by
    show items.toList.reverse.toArray.size ≤ sizeLine
    rw [List.size_toArray, List.length_reverse, Array.length_toList]
    lia
  obtain ⟨os, hos, hcs, hds⟩ := id hs
  have hTs : s.TypeIs (.ref sl) "slice" := ⟨os, hos, hcs⟩
  unfold getItem
  try with_reducible refine wpAny_holding ?_
  first | refine wpAny_bind (wpAny_pure ?_) | skip
  refine wpAny_bind (wpAny_sequenceKey ht.typeIs (by decide) ?_)
  refine wpAny_bind (wpAny_callSpecial?_slot (name := Str.ofString "__getitem__") ht.typeIs slot_tuple_getitem
    (wpAny_call_entry slot_tuple_getitem ht.typeIs entry_tuple_getitem ?_ (args_tuple_getitem _ _)))
  show wpAny _ _ (Builtin.Tuple.tupleItemsOf (.ref t) >>= _) _ _ s
  refine wpAny_bind (tupleItemsOf_ ht ?_)
  refine wpAny_bind (wpAny_typeOf hTs ?_)
  rw [if_pos (by decide)]
  have key : ∀ {A : Around} {E : Value → Shared → Prop} {Q' : Int × Int × Nat → Shared → Prop}, Q' ((items.size : Int) - 1, -1, items.size) s → wpAny (model prog w) A (Builtin.Slice.sliceApplied (.ref sl) (pure (items.size : Int))) Q' E s := by
    intro A E Q' h'
    unfold Builtin.Slice.sliceApplied Builtin.Slice.sliceFields
    refine wpAny_bind (wpAny_bind (wpAny_field hos hds (x := .none) rfl (wpAny_bind (wpAny_field hos hds (x := .none) rfl (wpAny_bind (wpAny_field hos hds (x := .int (-1) u) rfl (wpAny_pure ?_)))))))
    refine wpAny_bind (slicePart_int ?_)
    show wpAny _ _ (if ((-1 : Int) == 0) = true then _ else _) _ _ s
    rw [if_neg (by decide)]
    refine wpAny_bind (slicePart_none (wpAny_bind (slicePart_none (wpAny_bind (wpAny_pure ?_)))))
    show wpAny _ _ (match Builtin.Slice.sliceAdjust none none (-1) (items.size : Int) with | (lo, hi) => pure (lo, (-1 : Int), Builtin.Slice.slicePlaces lo hi (-1))) _ _ s
    rw [adjust_rev]
    show wpAny _ _ (pure ((items.size : Int) - 1, (-1 : Int), Builtin.Slice.slicePlaces ((items.size : Int) - 1) (-1) (-1))) _ _ s
    rw [places_rev]
    exact wpAny_pure h'
  refine wpAny_bind (key ?_)
  show wpAny _ _ (if (((items.size : Int) - 1) == 0 && (-1 : Int) == 1 && (items.size) == items.size) = true then _ else _) _ _ s
  rw [if_neg (by simp), pick_rev items]
  first
    | exact wpAny_bind (m := Builtin.Tuple.tupleExact _) (wpAny_newObj_type (wpAny_pure ⟨_, rfl, wpAny_pure h⟩) hdrop)
    | exact wpAny_bind (m := Builtin.Tuple.tupleExact _) (wpAny_newObj_type (wpAny_bind (wpAny_pure (wpAny_pure ⟨_, rfl, wpAny_pure h⟩))) hdrop)
    | exact wpAny_bind (wpAny_bind (m := Builtin.Tuple.tupleExact _) (wpAny_newObj_type (wpAny_pure (wpAny_pure ⟨_, rfl, wpAny_pure h⟩)) hdrop))
    | exact wpAny_bind (wpAny_bind (m := Builtin.Tuple.tupleExact _) (wpAny_newObj_type (wpAny_pure ⟨_, rfl, wpAny_pure h⟩) hdrop))
end

section
variable {cx : Cx} {d : Nat} {σ σ' σ₁ σ₂ σ₃ : Sto} {v x y a b c dv : AV} {X : List Addr} {hp : Heap} {α : List Addr} {env : Env} {sc : Scope} {ρ : Loc}

/-- a subscript whose index is a slice -/
theorem S_slice {o i : Expr} {pos : Pos} (ho : SimE cx d env ρ σ (eval o env) a σ₁)
    (hT : ∀ α s c, SO cx α σ₁ s.heap → rep cx.ban s.heap α a c → ∃ T id, typeLookup (.type T) "__getitem__" = pure (some (.builtin id)) ∧ Shared.TypeIs s c T)
    (hi : ∀ (A : Around) (α : List Addr) (s : Shared) (u : Value), Room A d → SO cx α σ₁ s.heap → FO cx env α ρ s.heap → rep cx.ban s.heap α a u →
      wpAny (model cx.prog cx.w) A (eval i env) (fun y s₂ => ∃ α₂, Fwd cx [] α s σ₁ α₂ s₂ ∧ wpAny (model cx.prog cx.w) A (getItem u y) (fun cv s' => ∃ α', Fwd cx [] α₂ s₂ σ₂ α' s' ∧ rep cx.ban s'.heap α' v cv) NoE s₂) NoE s) :
    SimE cx d env ρ σ (eval (.Subscript o i pos) env) v σ₂ := by
  intro A α s R S F
  rw [eval_Subscript]
  refine wpAny_bind (wpAny_mono (ho A α s R S F) (fun x s₁ ⟨α₁, w₁, r₁⟩ => ?_) fun _ _ e => e)
  refine wpAny_bind (wpAny_holding (wpAny_mono (hi A α₁ s₁ x R w₁.so (F.fwd S w₁) r₁) (fun y s₂ ⟨α₂, w₂, hg⟩ => wpAny_bind (wpAny_standAt ?_)) fun _ _ e => e))
  obtain ⟨T, id, hl, hty⟩ := hT α₂ s₂ x w₂.so (w₂.rep w₁.so r₁)
  have fin : ∀ l, wpAny (model cx.prog cx.w) A (operate l (getItem x y)) (fun r s₃ => wpAny (model cx.prog cx.w) A (letTemporaryGo o x r >>= fun _ => pure r) (fun cv s' => ∃ α', Fwd cx [] α s σ₂ α' s' ∧ rep cx.ban s'.heap α' v cv) NoE s₃) NoE s₂ := by
    intro l
    refine wpAny_operating (wpAny_mono hg (fun z s₃ ⟨α₃, w₃, r₃⟩ => ?_) fun _ _ e => e)
    exact wpAny_bind (wpAny_letTemporaryGo (wpAny_pure ⟨α₃, (w₁.trans w₂).trans w₃, r₃⟩))
  obtain ⟨l, hsub⟩ := sub_ex i x y
  refine wpAny_bind ?_
  rw [getitemInPython_of_ne hty.not_modules]
  refine wpAny_bind (wpAny_specialOf hty hl ?_)
  refine wpAny_pure ?_
  rw [hsub]
  exact wpAny_bind (fin l)

theorem pushSlice {s : Shared} {l u st : Value} (S : SO cx α σ s.heap) : Fwd cx [] α s σ α { s with heap := s.heap.push { cls := .type "slice", data := .fields #[l, u, st] } } :=
  .keeps S ⟨_, _, rfl⟩ fun b o e => Heap.get?_push_of_some _ e

/-- items of a tuple from a place on -/
theorem S_from {o : Expr} {k : Nat} {kd : Nat} {p p' pos : Pos} {l : List AV} (ho : SimE cx d env ρ σ (eval o env) (.tup l) σ₁) (h1 : 1 ≤ k) (h2 : k ≤ l.length) (hz : l.length ≤ 100000) :
    SimE cx d env ρ σ (eval (.Subscript o (.Slice (some (.Constant (.int k) kd p)) none none p') pos) env) (.tup (l.drop k)) σ₁ := by
  refine S_slice ho T_tup fun A α s u R S F ra => ?_
  simp only [rep] at ra
  obtain ⟨t, ws, z, rfl, _, ht, hr⟩ := ra
  have e1 : l.length = ws.size := by rw [reps_length _ _ hr]; simp
  refine wpAny_Slice ?_
  rw [evalPart_some, evalPart_none]
  refine wpAny_Constant_int (wpAny_pure (wpAny_pure ?_))
  have w0 : Fwd cx [] α s σ₁ α { s with toks := s.toks + 1 } := .tok S _
  have w1 := w0.trans (pushSlice (l := .int k s.toks) (u := .none) (st := .none) w0.so)
  refine ⟨α, w1, ?_⟩
  refine PyProof.Rows.getItem_tuple_from (items := ws) ⟨_, Heap.get?_push_of_some _ ht, rfl, z, rfl⟩ (Heap.IsSliceOf.new _ _ _ _) h1 (e1 ▸ h2) ?_ (by rw [sizeLine_eq]; lia)
  exact newTup (A := A) (n := 0) w1.so (reps_drop k _ _ (w1.reps S hr))

theorem S_usub {x : Expr} {p : Pos} {i : Int} (h : SimE cx d env ρ σ (eval x env) (.int i) σ₁) : SimE cx d env ρ σ (eval (.UnaryOp .USub x p) env) (.int (-i)) σ₁ := by
  intro A α s R S F
  refine wpAny_UnaryOp (wpAny_mono (h A α s R S F) (fun x s₁ ⟨α₁, w₁, r₁⟩ => ?_) fun _ _ e => e)
  simp only [rep] at r₁
  obtain ⟨t, rfl⟩ := r₁
  exact PySem.P.neg_int ⟨α₁, w₁.trans (.tok w₁.so _), by simp [rep]⟩

/-- a tuple turned about -/
theorem S_rev_tup {o st : Expr} {p' pos : Pos} {l : List AV} (ho : SimE cx d env ρ σ (eval o env) (.tup l) σ₁) (hst : SimE cx d env ρ σ₁ (eval st env) (.int (-1)) σ₁) (hz : l.length ≤ 100000) :
    SimE cx d env ρ σ (eval (.Subscript o (.Slice none none (some st) p') pos) env) (.tup l.reverse) σ₁ := by
  refine S_slice ho T_tup fun A α s u R S F ra => ?_
  refine wpAny_Slice ?_
  rw [evalPart_some, evalPart_none]
  refine wpAny_pure (wpAny_pure (wpAny_mono (hst A α s R S F) (fun y s₁ ⟨α₁, w₁, r₁⟩ => ?_) fun _ _ e => e))
  have ra := w₁.rep S ra
  simp only [rep] at ra r₁
  obtain ⟨t, ws, z, rfl, _, ht, hr⟩ := ra
  obtain ⟨tk, rfl⟩ := r₁
  have e1 : l.length = ws.size := by rw [reps_length _ _ hr]; simp
  have w1 := w₁.trans (pushSlice (l := .none) (u := .none) (st := .int (-1) tk) w₁.so)
  refine ⟨α₁, w1, ?_⟩
  refine getItem_tuple_rev (items := ws) ⟨_, Heap.get?_push_of_some _ ht, rfl, z, rfl⟩ (Heap.IsSliceOf.new _ _ _ _) ?_ (by rw [sizeLine_eq]; lia)
  exact newTup (A := A) (n := 0) w1.so (reps_reverse _ _ ((pushSlice w₁.so).reps w₁.so hr))

theorem S_rev_lst {o st : Expr} {p' pos : Pos} {i : Nat} {l : List AV} (ho : SimE cx d env ρ σ (eval o env) (.ref i) σ₁) (hl : σ₁[i]? = some (.lst l)) (hst : SimE cx d env ρ σ₁ (eval st env) (.int (-1)) σ₁) :
    SimE cx d env ρ σ (eval (.Subscript o (.Slice none none (some st) p') pos) env) (.ref σ₁.length) (σ₁ ++ [.lst l.reverse]) := by
  refine S_slice ho (T_lst hl) fun A α s u R S F ra => ?_
  refine wpAny_Slice ?_
  rw [evalPart_some, evalPart_none]
  refine wpAny_pure (wpAny_pure (wpAny_mono (hst A α s R S F) (fun y s₁ ⟨α₁, w₁, r₁⟩ => ?_) fun _ _ e => e))
  have ra := w₁.rep S ra
  simp only [rep] at r₁
  obtain ⟨tk, rfl⟩ := r₁
  have w1 := w₁.trans (pushSlice (l := .none) (u := .none) (st := .int (-1) tk) w₁.so)
  have ra := (pushSlice (l := .none) (u := .none) (st := .int (-1) tk) w₁.so).rep w₁.so ra
  obtain ⟨t, rfl, ha, _, ws, hp, hz1, hr⟩ := cell_of w1.so hl ra
  have e1 : l.length = ws.size := by rw [reps_length _ _ hr]; simp
  refine ⟨α₁, w1, ?_⟩
  refine wpAny_getItem_list_slice (st := some (-1)) hp.isList (Heap.IsSliceOf.new _ _ _ _) .none .none (.int _ _) (by decide) ?_ (by rw [sizeLine_eq]; lia)
  rw [krv_pick]
  exact newLst (A := A) (n := 0) w1.so (by simp; lia) (reps_reverse _ _ hr)
end
end Mine

end

noncomputable section
open PySem PySem.W PyProof.Rows
set_option Elab.async false
set_option maxRecDepth 100000
set_option linter.unusedVariables false
set_option linter.unusedSectionVars false
set_option linter.unusedSimpArgs false
namespace Mine

/-- an own class, as the written part tells it -/
structure ClsOk (K : Frag) (C : Addr) (fI : Addr) : Prop where
  make : makesIn K C = true
  init : findIn K (.ref C) "__init__" = some (some (.ref fI))
  initFn : isFn K (.ref fI) = true
  get : ∀ name, plainGet K C name = true
  hasDict : hasDictIn K C = true
  set : findIn K (.ref C) "__setattr__" = some (some (.builtin "object.__setattr__"))
  over : plainOver K C = true

section
variable {X : List Addr} {h : Heap} {α : List Addr}
theorem isStr_of {k name : Str} {t : Tok} : (Value.str k t).isStr name = decide (k = name) := by
  unfold Value.isStr
  by_cases e : k = name
  · subst e; simp
  · simp [e]
theorem repa_getL (name : Str) : ∀ (l : List (Str × AV)) (es : List DictEntry), repa X h α l es → (dlook l name = none ∧ getL name es = some none ∧ es.any (·.key.isStr name) = false) ∨ (∃ av v, dlook l name = some av ∧ getL name es = some (some v) ∧ rep X h α av v)
  | [], es, r => by simp only [repa] at r; subst r; exact .inl ⟨rfl, rfl, rfl⟩
  | (k, av) :: l, es, r => by
    simp only [repa] at r
    obtain ⟨e, q, t, rfl, hk, hr, ht⟩ := r
    have ih := repa_getL name l q ht
    unfold dlook getL
    rw [List.find?_cons, hk, isStr_of]
    by_cases e1 : k = name
    · subst e1
      simp only [decide_true, if_true]
      exact .inr ⟨av, _, rfl, rfl, hr⟩
    · simp only [e1, decide_false, if_false]
      have href : e.refKey = false := by unfold DictEntry.refKey; rw [hk]
      have hany : (e :: q).any (·.refKey) = q.any (·.refKey) := by rw [List.any_cons, href]; rfl
      rw [hany]
      unfold getL at ih
      rcases ih with ⟨i1, i2, i3⟩ | ih
      · refine .inl ⟨i1, i2, ?_⟩
        rw [List.any_cons, hk, isStr_of, i3]; simp [e1]
      · exact .inr ih
theorem repa_putL (name : Str) (hsh : Int) (t : Tok) (av : AV) (v : Value) (hv : rep X h α av v) : ∀ (l : List (Str × AV)) (es : List DictEntry), repa X h α l es → repa X h α (dput l name av) (putL name hsh (.str name t) v es)
  | [], es, r => by
    simp only [repa] at r; subst r
    simp only [dput, putL, repa]
    exact ⟨_, [], t, rfl, rfl, hv, rfl⟩
  | (k, av') :: l, es, r => by
    simp only [repa] at r
    obtain ⟨e, q, t', rfl, hk, hr, ht⟩ := r
    unfold dput putL
    rw [hk, isStr_of]
    by_cases e1 : k = name
    · subst e1
      simp only [decide_true, if_true, repa]
      exact ⟨_, q, t', rfl, rfl, hv, ht⟩
    · simp only [e1, decide_false, if_false, repa]
      exact ⟨e, _, t', by simp, hk, hr, repa_putL name hsh t av v hv l q ht⟩
theorem repa_length : ∀ (l : List (Str × AV)) (es : List DictEntry), repa X h α l es → l.length = es.length
  | [], es, r => by simp only [repa] at r; subst r; rfl
  | (k, av) :: l, es, r => by
    simp only [repa] at r
    obtain ⟨e, q, t, rfl, hk, hr, ht⟩ := r
    simp [repa_length l q ht]
end

section
variable {cx : Cx} {d : Nat} {σ σ' σ₁ σ₂ σ₃ : Sto} {v x y a b c dv : AV} {X : List Addr} {hp : Heap} {α : List Addr} {env : Env} {sc : Scope} {ρ : Loc}

theorem inst_of (S : SO cx α σ hp) {i dj : Nat} {C : Addr} {l : List (Str × AV)} {u : Value} (hi : σ[i]? = some (.inst C dj)) (hj : σ[dj]? = some (.attrs l)) (r : rep cx.ban hp α (.ref i) u) :
    ∃ t dx es n, u = .ref t ∧ α[i]? = some t ∧ α[dj]? = some dx ∧ hp.get? dx = some (dictOf es n) ∧ es.length ≤ 1000 ∧ repa cx.ban hp α l es ∧ InstAt hp t ⟨.ref C, some dx, .plain, #[]⟩ C (some (dictOf es n)) := by
  obtain ⟨t, rfl, ha, hm, dx, hdx, ho⟩ := cell_of S hi r
  obtain ⟨es, n, hd, hz, hr⟩ := S.cell dj _ dx hj hdx
  exact ⟨t, dx, es, n, rfl, ha, hdx, hd, hz, hr, ⟨ho, rfl, rfl, hd⟩⟩

theorem XK (S : SO cx α σ hp) : cx.K.In hp := cx.X.keeps S.keep

theorem M_inst {i dj : Nat} {C f fI : Addr} {l : List (Str × AV)} {name : Str} (K : ClsOk cx.K C fI) (hi : σ[i]? = some (.inst C dj)) (hj : σ[dj]? = some (.attrs l)) (hl : dlook l name = none)
    (hf : findIn cx.K (.ref C) name = some (some (.ref f))) (hn : isFn cx.K (.ref f) = true) : MethAt cx d (.ref i) σ name (.ref f) := by
  intro A α s c pl Q E R S r h
  obtain ⟨t, dx, es, n, rfl, ha, hdx, hd, hz, hr, I⟩ := inst_of S hi hj r
  have hg : getL name es = some none := by
    rcases repa_getL name l es hr with ⟨_, h, _⟩ | ⟨av, v, h1, _⟩
    · exact h
    · rw [hl] at h1; cases h1
  exact method_fn (XK S) I (plainGet_of (K.get name)).1 (plainGet_of (K.get name)).2 hf (beq_iff_eq.mp hn) (by show (lookIn name (dictOf es n)).map _ = _; rw [lookIn_dict, hg]; rfl) h

noncomputable def isRI : AV → Bool
  | .ref _ => true
  | .int _ => true
  | _ => false
theorem handed_of {u : Value} (h : isRI v = true) (r : rep X hp α v u) : handedIn u = true := by
  cases v <;> simp only [isRI, Bool.false_eq_true] at h
  · simp only [rep] at r; obtain ⟨t, rfl⟩ := r; rfl
  · simp only [rep] at r; obtain ⟨t, _, rfl⟩ := r; rfl

noncomputable def attrF (name : Str) (cs : List Value) : Sem Value := match cs with | [x] => getAttr x name true | _ => .unsupported ""
theorem O_attr {i dj : Nat} {C fI : Addr} {l : List (Str × AV)} {name : Str} (K : ClsOk cx.K C fI) (hi : σ[i]? = some (.inst C dj)) (hj : σ[dj]? = some (.attrs l)) (hl : dlook l name = some v) (hv : isRI v = true)
    (hf : findIn cx.K (.ref C) name = some none) : OpE cx d [.ref i] σ (attrF name) v σ :=
  .one fun A α s u R S ra => by
    obtain ⟨t, dx, es, n, rfl, ha, hdx, hd, hz, hr, I⟩ := inst_of S hi hj ra
    obtain ⟨w, hg, rv⟩ : ∃ w, getL name es = some (some w) ∧ rep cx.ban s.heap α v w := by
      rcases repa_getL name l es hr with ⟨h, _, _⟩ | ⟨av, w, h1, h2, h3⟩
      · rw [hl] at h; cases h
      · rw [hl] at h1; cases h1; exact ⟨w, h2, h3⟩
    exact get_value (XK S) I (plainGet_of (K.get name)).1 (findObj_own K.hasDict hf rfl (by rw [lookIn_dict]; exact hg)) (handed_of hv rv) ⟨α, .tok S _, rv⟩

theorem put_data (name : Str) (hsh : Int) (key v : Value) (es : List DictEntry) (n : Nat) : Obj.putName name hsh key v (dictOf es n) = dictOf (putL name hsh key v es) (putN name es n) := putName_dict ..

theorem osa_raw {A : Around} {s : Shared} {x C dx : Addr} {es : List DictEntry} {n : Nat} {name : Str} {tk : Tok} {v : Value} {Rr : Result → Shared → Prop} {K : Frag} {prog : Program} {w : World} (X : K.In s.heap)
    (I : InstAt s.heap x ⟨.ref C, some dx, .plain, #[]⟩ C (some (dictOf es n))) (hp : plainOver K C = true) (ht : takerIn K C name = some none) (hh : (clsIn K C).any (·.hasDict) = true)
    (hl : (getL name es).isSome = true) (hz : es.length + 1 ≤ 1000)
    (h : ∀ h', (∀ b o, s.heap.get? b = some o → b ≠ dx → h'.get? b = some o) → h'.get? dx = some (dictOf (putL name (PyData.keyHash w.params name) (.str name s.toks) v es) (putN name es n)) → Rr (.ok (.ret .none)) { s with heap := h', toks := s.toks + 1 }) :
    codeAny (model prog w) A (.call (.builtin "object.__setattr__") ⟨[.ref x, .str name tk, v], []⟩) Rr s := by
  refine osa_open X I hp ht fun b => ?_
  obtain ⟨cd, hc, hd'⟩ := any_some hh
  obtain ⟨hx, hcl, hn, hdd⟩ := I
  have D : s.heap.get? dx = some (dictOf es n) := hdd
  have D' : (s.heap.update dx (Obj.putName name (PyData.keyHash w.params name) (.str name s.toks) v)).get? dx = some (dictOf (putL name (PyData.keyHash w.params name) (.str name s.toks) v es) (putN name es n)) := by
    rw [Heap.get?_update_self _ D (by rw [put_data]; rfl), put_data]
  refine wpAny_bind (wpAny_pure (wpAny_bind (wpAny_bind (wpAny_loadPart hx (wpAny_bind ((looks_clsIn X hc).here ?_))))))
  rw [hd']
  refine wpAny_pure (a := some dx) (wpAny_bind (wpAny_pure (wpAny_bind ?_)))
  unfold nsSet
  refine wpAny_bind (wpAny_bind (wpAny_askSetting (wpAny_pure (wpAny_bind (wpAny_mkText (wpAny_bind (wpAny_loadPart D ?_)))))))
  dsimp only
  have hl : (lookIn name (dictOf es n)).isSome = true := by rw [lookIn_dict]; exact hl
  unfold lookIn at hl
  dsimp only at hl
  have c : (!es.toArray.any (·.key.isStr name) && es.toArray.any (·.refKey)) = false := by
    rw [← Array.any_toList, ← Array.any_toList]
    split at hl
    · rename_i en he
      rw [List.any_eq_true.mpr ⟨en, List.mem_of_find?_eq_some he, List.find?_some he⟩]; rfl
    · split at hl
      · cases hl
      · rename_i z; rw [Bool.not_eq_true] at z; rw [z, Bool.and_false]
  rw [aRefKeyMayBeTheName_at, c]
  refine wpAny_updatePart D ?_
  have hpz : (putL name (PyData.keyHash w.params name) (.str name s.toks) v es).length ≤ es.length + 1 := by
    have : ∀ l : List DictEntry, (putL name (PyData.keyHash w.params name) (.str name s.toks) v l).length ≤ l.length + 1 := by
      intro l
      induction l with
      | nil => simp [putL]
      | cons e r ih => unfold putL; split <;> simp <;> lia
    exact this es
  refine wpAny_bind (wpAny_lookBehind D' (pastItsLine_dict (by rw [List.size_toArray, sizeLine_eq]; lia)) ?_)
  exact wpAny_pure (h _ (fun b o e hb => (Heap.get?_update_other _ _ (Ne.symm hb)).trans e) D')

theorem U_attr {i dj : Nat} {C fI : Addr} {l : List (Str × AV)} {name : Str} (K : ClsOk cx.K C fI) (hi : σ[i]? = some (.inst C dj)) (hj : σ[dj]? = some (.attrs l)) (hz : l.length < 900) (ht : takerIn cx.K C name = some none) :
    OpU cx d [.ref i, v] σ (setAttrF name) (σ.set dj (.attrs (dput l name v))) := by
  intro A α s cs R S r
  simp only [reps] at r
  obtain ⟨u, _, rfl, ru, w, _, rfl, rw', rfl⟩ := r
  obtain ⟨t, dx, es, n, rfl, ha, hdx, hd, hz', hr, I⟩ := inst_of S hi hj ru
  have e1 := repa_length _ _ hr
  have hm : dx ∈ α := List.mem_of_getElem? hdx
  have hsome : (getL name es).isSome = true := by
    rcases repa_getL name l es hr with ⟨_, h, _⟩ | ⟨_, _, _, h, _⟩ <;> rw [h] <;> rfl
  refine set_plain (XK S) I K.set (osa_raw (s := { s with toks := s.toks + 1 }) (XK S) I K.over ht K.hasDict hsome (by lia) fun h' hk hg => ?_)
  have tk : TupKeep cx.ban s.heap h' := fun a vs n _ tt => hk a _ tt fun e => S.notTup (e ▸ hm) vs n tt
  have w0 : Fwd cx [] α s σ α { s with toks := s.toks + 1 + 1 } := .tok S _
  refine ⟨α, ?_⟩
  exact .set S ⟨_, _, rfl⟩ hdx hk ⟨_, _, hg, by
    have : ∀ q : List DictEntry, (putL name (PyData.keyHash cx.w.params name) (.str name (s.toks + 1)) w q).length ≤ q.length + 1 := by
      intro q
      induction q with
      | nil => simp [putL]
      | cons e r ih => unfold putL; split <;> simp <;> lia
    exact Nat.le_trans (this es) (by lia), repa_putL name _ _ _ _ (rep_mono tk ⟨[], (List.append_nil _).symm⟩ _ _ rw') l es (repa_mono tk ⟨[], (List.append_nil _).symm⟩ _ _ hr)⟩

/-- what a call of a def gives, as code -/
noncomputable def CodeE (cx : Cx) (d : Nat) (a : Addr) (avs : List AV) (σ : Sto) (v : AV) (σ' : Sto) : Prop :=
  ∀ (A : Around) (α : List Addr) (s : Shared) (cs : List Value) (Rr : Result → Shared → Prop), Room A d → SO cx α σ s.heap → reps cx.ban s.heap α avs cs →
    (∀ w s' α', Fwd cx [] α s σ' α' s' → rep cx.ban s'.heap α' v w → Rr (.ok (.ret w)) s') → codeAny (model cx.prog cx.w) A (.call (.ref a) ⟨cs, []⟩) Rr s
theorem CodeE.op {a : Addr} {avs : List AV} (h : CodeE cx d a avs σ v σ') : OpE cx d avs σ (callF (.ref a)) v σ' :=
  fun A α s cs R S r => wpAny_call (h A α s cs _ R S r fun w s' α' f q => ⟨α', f, q⟩)

/-- a new thing of a class -/
theorem C_new {C fI : Addr} (K : ClsOk cx.K C fI) {avs : List AV} (h : CodeE cx d fI (.ref (σ.length + 1) :: avs) (σ ++ [.attrs []] ++ [.inst C σ.length]) .none σ') : CodeE cx (d + 1) C avs σ (.ref (σ.length + 1)) σ' := by
  intro A α s cs Rr R S r hR
  obtain ⟨hh, g, dr, t, os⟩ := s
  refine make_core (makes_of (XK S) K.make) (looks_findIn (XK S) K.init) (fun self => bind_fn (XK S) self (beq_iff_eq.mp K.initFn)) (.inl rfl) ?_
  have w1 : Fwd cx [] α ⟨hh, g, dr, t, os⟩ (σ ++ [.attrs []]) (α ++ [hh.objs.size]) ⟨hh.push emptyDict, g, dr, t, os⟩ :=
    .push S ⟨_, _, rfl⟩ (fresh_size _) (fun b o e => Heap.get?_push_of_some _ e) ⟨[], 0, Heap.get?_push_size _ rfl, by simp, rfl⟩
  have w2 : Fwd cx [] (α ++ [hh.objs.size]) ⟨hh.push emptyDict, g, dr, t, os⟩ (σ ++ [.attrs []] ++ [.inst C σ.length]) (α ++ [hh.objs.size] ++ [(hh.push emptyDict).objs.size]) ⟨(hh.push emptyDict).push (instObj C hh.objs.size), g, dr, t, os⟩ := by
    refine .push w1.so ⟨_, _, rfl⟩ (fresh_size _) (fun b o e => Heap.get?_push_of_some _ e) ⟨hh.objs.size, ?_, Heap.get?_push_size _ rfl⟩
    rw [← S.len]; simp
  have w := w1.trans w2
  have hsz : (hh.push emptyDict).objs.size = hh.objs.size + 1 := Heap.size_push ..
  have R' : Room (A.under (.builtin "type.__call__" ⟨.ref C :: cs, []⟩)) d := by
    refine ⟨R.handled, ?_, ?_⟩
    · rw [depth_under_make]; have := R.depth; lia
    · rw [units_under_make]; have := R.units; lia
  refine h _ _ _ (.ref (hh.objs.size + 1) :: cs) _ R' w.so ?_ fun u s' α' f q => ?_
  · simp only [reps]
    refine ⟨_, _, rfl, ?_, w.reps S r⟩
    simp only [rep]
    refine ⟨hh.objs.size + 1, ?_, rfl⟩
    rw [hsz, ← S.len]
    simp
  · simp only [rep] at q
    subst q
    refine ⟨rfl, hR _ _ α' (w.trans f) ?_⟩
    simp only [rep]
    obtain ⟨β, e, _⟩ := f.ext
    refine ⟨hh.objs.size + 1, ?_, rfl⟩
    rw [e, hsz, ← S.len, List.getElem?_append_left (by simp)]
    simp
end
end Mine

end

noncomputable section
open PySem PySem.W PyProof.Rows
set_option Elab.async false
set_option maxRecDepth 100000
set_option linter.unusedVariables false
namespace Mine

/-- what the text's top leaves, as far as it is read -/
structure GT where
  glob : List (Str × AV)
  bi : List (Str × Value)
  fn : List (Addr × FnI)
  cls : List (Addr × Addr)
  meth : List ((Addr × Str) × Addr)
  attrs : List (Addr × Str)

noncomputable abbrev Orc := Addr → List AV → Sto → Option (AV × Sto)

noncomputable def oneOf {α : Type} (l : List α) : Option α := match l with
  | [] => none
  | x :: r => pre r.isEmpty (some x)
noncomputable def twoOf {α : Type} (l : List α) : Option (α × α) := match l with
  | [] => none
  | x :: r => goO (oneOf r) fun y => some (x, y)
theorem isE_eq {α : Type} {l : List α} (h : l.isEmpty = true) : l = [] := by cases l with | nil => rfl | cons _ _ => cases h
theorem oneOf_eq {α : Type} {l : List α} {x : α} (h : oneOf l = some x) : l = [x] := by
  cases l with
  | nil => exact no h
  | cons y r =>
    obtain ⟨e, h⟩ := pre_some h
    rw [isE_eq e, Option.some.inj h]
theorem twoOf_eq {α : Type} {l : List α} {p : α × α} (h : twoOf l = some p) : l = [p.1, p.2] := by
  cases l with
  | nil => exact no h
  | cons y r =>
    obtain ⟨z, e, q⟩ := goO_inv h
    rw [oneOf_eq e, ← Option.some.inj q]

section
variable {β : Type} {r : β} {a : AV}
noncomputable def asS (a : AV) (k : Str → Option β) : Option β := match a with
  | .str t => k t
  | _ => none
theorem asS_inv {k : Str → Option β} (h : asS a k = some r) : ∃ t, a = .str t ∧ k t = some r := by
  cases a <;> first | exact ⟨_, rfl, h⟩ | exact no h
noncomputable def asN (j : Int) (k : Nat → Option β) : Option β := match j with
  | .ofNat t => k t
  | .negSucc _ => none
theorem asN_inv {j : Int} {k : Nat → Option β} (h : asN j k = some r) : ∃ t : Nat, j = (t : Int) ∧ k t = some r := by
  cases j with
  | ofNat t => exact ⟨_, rfl, h⟩
  | negSucc _ => exact no h
theorem iff_inv {b : Bool} {x y : Option β} {q : Option β} (h : iff b x y = q) : (b = true ∧ x = q) ∨ (b = false ∧ y = q) := by
  cases b with
  | true => exact .inl ⟨rfl, h⟩
  | false => exact .inr ⟨rfl, h⟩
/-- by a name -/
noncomputable def byN {κ : Type} [DecidableEq κ] (n m : κ) (x y : Option β) : Option β := iff (decide (n = m)) x y
theorem byN_inv {κ : Type} [DecidableEq κ] {n m : κ} {x y : Option β} (h : byN n m x y = some r) : (n = m ∧ x = some r) ∨ y = some r := by
  rcases iff_inv h with ⟨h1, h⟩ | ⟨_, h⟩
  · exact .inl ⟨of_decide_eq_true h1, h⟩
  · exact .inr h
end

noncomputable def dctS (σ : Sto) (i : Nat) : Option (List (Str × AV)) := goO σ[i]? dictOfS
noncomputable def dctI (σ : Sto) (i : Nat) : Option (List (Int × AV)) := goO σ[i]? dictOfI
noncomputable def asRol (c : Cell) : Option (Array Value) := match c with
  | .rol vs _ => some vs
  | _ => none
noncomputable def rolAt (σ : Sto) (i : Nat) : Option (Array Value) := goO σ[i]? asRol
noncomputable def intOf (v : Value) : Option AV := match v with
  | .int i _ => some (.int i)
  | _ => none
noncomputable def asInst (c : Cell) : Option (Addr × Nat) := match c with
  | .inst C d => some (C, d)
  | _ => none
noncomputable def asAttrs (c : Cell) : Option (List (Str × AV)) := match c with
  | .attrs l => some l
  | _ => none
noncomputable def instAt (σ : Sto) (i : Nat) : Option (Addr × Nat × List (Str × AV)) := goO σ[i]? fun c => goO (asInst c) fun p => goO σ[p.2]? fun c => goO (asAttrs c) fun l => some (p.1, p.2, l)

noncomputable def intsV (a b : AV) (σ : Sto) (f : Int → Int → Option Int) : Option (AV × Sto) := asI a fun i => asI b fun j => goO (f i j) fun k => some (.int k, σ)
noncomputable def addV (a b : AV) (σ : Sto) : Option (AV × Sto) := match a with
  | .int i => asI b fun j => some (.int (i + j), σ)
  | .str i => asS b fun j => pre (decide (i.length + j.length ≤ 100000)) (some (.str (i ++ j), σ))
  | .ref i => asR b fun j => goO (lstAt σ i) fun l => goO (lstAt σ j) fun m => pre (decide (l.length + m.length ≤ 100000)) (some (.ref σ.length, σ ++ [.lst (l ++ m)]))
  | _ => none
noncomputable def binV (op : Operator) (a b : AV) (σ : Sto) : Option (AV × Sto) := match op with
  | .Add => addV a b σ
  | .Sub => intsV a b σ fun i j => some (i - j)
  | .Mult => intsV a b σ fun i j => pre (decide (i.natAbs < 2 ^ 60)) (some (i * j))
  | .Mod => intsV a b σ fun i j => pre (decide (j ≠ 0)) (some (i.fmod j))
  | .FloorDiv => intsV a b σ fun i j => pre (decide (j ≠ 0 ∧ j.natAbs < 1073741824)) (some (i.fdiv j))
  | .Pow => intsV a b σ fun i j => pre (decide (0 ≤ j ∧ j ≤ 1000 ∧ i.natAbs < 2 ^ 60)) (some (i ^ j.toNat))
  | _ => none

noncomputable def eqR (σ : Sto) (a b : AV) : Option Bool := match a with
  | .ref i => asR b fun j => goO (lstAt σ i) fun l => goO (lstAt σ j) fun m => pre m.isEmpty (some l.isEmpty)
  | a => eqV 60 a b
noncomputable def inR (σ : Sto) (a b : AV) : Option Bool := match b with
  | .tup l => inL (eqV 20) a l
  | .str q => asS a fun p => some (Txt.contains q p)
  | .ref i => optG (lstAt σ i) (asS a fun k => goO (dctS σ i) fun l => some (dlook l k).isSome) fun l => inL (eqV 20) a l
  | _ => none
noncomputable def intsB (a b : AV) (f : Int → Int → Bool) : Option Bool := asI a fun i => asI b fun j => some (f i j)
noncomputable def cmpV (op : CmpOp) (a b : AV) (σ : Sto) : Option Bool := match op with
  | .Eq => eqR σ a b
  | .NotEq => (eqR σ a b).map (!·)
  | .In => inR σ a b
  | .NotIn => (inR σ a b).map (!·)
  | .Lt => intsB a b fun i j => decide (i < j)
  | .Gt => intsB a b fun i j => decide (j < i)
  | .GtE => intsB a b fun i j => decide (j ≤ i)
  | _ => none

noncomputable def atN (l : List AV) (j : Int) : Option AV := asN j fun k => pre (decide (k < 100000)) l[k]?
noncomputable def getR (σ : Sto) (i : Nat) (j : Int) : Option AV := optG (lstAt σ i)
  (optG (dctI σ i) (goO (rolAt σ i) fun vs => asN j fun k => pre (decide (k < 100000)) (goO vs[k]? intOf)) fun l => dlook l j)
  fun l => atN l j
noncomputable def getV (a b : AV) (σ : Sto) : Option AV := match a with
  | .tup l => asI b (atN l)
  | .ref i => asI b (getR σ i)
  | _ => none

noncomputable def setD (σ : Sto) (i : Nat) (b v : AV) : Option Sto := match b with
  | .str k => goO (dctS σ i) fun l => pre (decide (l.length < 100000)) (some (σ.set i (.sdct (dput l k v))))
  | .int k => goO (dctI σ i) fun l => pre (decide (l.length < 100000)) (some (σ.set i (.idct (dput l k v))))
  | _ => none
noncomputable def setV (a b v : AV) (σ : Sto) : Option Sto := asR a fun i => optG (lstAt σ i) (setD σ i b v) fun l => asI b fun j => asN j fun k => pre (decide (k < l.length)) (some (σ.set i (.lst (l.set k v))))

noncomputable def attrV (G : GT) (a : AV) (name : Str) (σ : Sto) : Option AV := asR a fun i => goO (instAt σ i) fun p => pre (decide ((p.1, name) ∈ G.attrs)) (goO (dlook p.2.2 name) fun v => pre (isRI v) (some v))
noncomputable def setAttrV (G : GT) (a : AV) (name : Str) (v : AV) (σ : Sto) : Option Sto := asR a fun i => goO (instAt σ i) fun p => pre (decide ((p.1, name) ∈ G.attrs ∧ p.2.2.length < 900)) (some (σ.set p.2.1 (.attrs (dput p.2.2 name v))))

/-- which methods of built-in things are known -/
noncomputable def methC (G : GT) (c : Cell) (name : Str) (σ : Sto) : Option Value := match c with
  | .lst _ => byN name "append" (some (.builtin "list.append")) (byN name "extend" (some (.builtin "list.extend")) (byN name "pop" (some (.builtin "list.pop")) none))
  | .inst C d => goO σ[d]? fun c => goO (asAttrs c) fun l => optG (dlook l name) (goO (G.meth.lookup (C, name)) fun f => some (.ref f)) fun _ => none
  | .sdct _ => byN name "get" (some (.builtin "dict.get")) none
  | .idct _ => byN name "get" (some (.builtin "dict.get")) none
  | .edct => byN name "get" (some (.builtin "dict.get")) none
  | _ => none
noncomputable def methV (G : GT) (a : AV) (name : Str) (σ : Sto) : Option Value := match a with
  | .str _ => byN name "split" (some (.builtin "str.split")) none
  | .ref i => goO σ[i]? fun c => methC G c name σ
  | _ => none

noncomputable def lastOf : List AV → Option (List AV × AV)
  | [] => none
  | x :: r => optG (lastOf r) (some ([], x)) fun p => some (x :: p.1, p.2)

noncomputable def lenV (a : AV) (σ : Sto) : Option (AV × Sto) := match a with
  | .tup l => pre (decide (l.length ≤ 100000)) (some (.int l.length, σ))
  | .ref i => optG (lstAt σ i) (optG (dctS σ i) (optG (dctI σ i) (goO (rolAt σ i) fun vs => some (.int vs.size, σ)) fun l => some (.int l.length, σ)) fun l => some (.int l.length, σ)) fun l => some (.int l.length, σ)
  | _ => none
noncomputable def popV (a : AV) (σ : Sto) : Option (AV × Sto) := asR a fun i => goO (lstAt σ i) fun l => goO (lastOf l) fun p => some (p.2, σ.set i (.lst p.1))
noncomputable def appV (a b : AV) (σ : Sto) : Option (AV × Sto) := asR a fun i => goO (lstAt σ i) fun l => pre (decide (l.length < 100000)) (some (.none, σ.set i (.lst (l ++ [b]))))
noncomputable def extV (a b : AV) (σ : Sto) : Option (AV × Sto) := asR a fun i => goO (lstAt σ i) fun l => asTR b
  (fun m => pre (decide (l.length + m.length ≤ 100000)) (some (.none, σ.set i (.lst (l ++ m)))))
  fun j => goO (lstAt σ j) fun m => pre (decide (l.length + m.length ≤ 100000)) (some (.none, σ.set i (.lst (l ++ m))))
noncomputable def splitV (a b : AV) (σ : Sto) : Option (AV × Sto) := asS a fun p => asS b fun q => pre (decide ((q.length == 0) = false ∧ p.length ≤ 1000)) (some (.ref σ.length, σ ++ [.lst ((Txt.split p q).map .str)]))
noncomputable def dgetV (a b c : AV) (σ : Sto) : Option (AV × Sto) := asR a fun i => match b with
  | .str k => goO (dctS σ i) fun l => some ((dlook l k).getD c, σ)
  | .int k => goO (dctI σ i) fun l => some ((dlook l k).getD c, σ)
  | _ => none
noncomputable def bi2 (id : String) (a b : AV) (σ : Sto) : Option (AV × Sto) :=
  byN id "max" (intsV a b σ fun i j => some (if j > i then j else i)) (byN id "min" (intsV a b σ fun i j => some (if j < i then j else i)) (byN id "list.append" (appV a b σ) (byN id "list.extend" (extV a b σ) (byN id "str.split" (splitV a b σ) none))))
noncomputable def biV (id : String) (as : List AV) (σ : Sto) : Option (AV × Sto) := match as with
  | [] => none
  | a :: r => match r with
    | [] => byN id "len" (lenV a σ) (byN id "list.pop" (popV a σ) none)
    | b :: r => match r with
      | [] => bi2 id a b σ
      | c :: r => pre r.isEmpty (byN id "dict.get" (dgetV a b c σ) none)

noncomputable def pairOf (a : AV) : Option (Str × AV) := asT a fun l => goO (twoOf l) fun p => asS p.1 fun k => some (k, p.2)
theorem pairOf_eq {a : AV} {p : Str × AV} (h : pairOf a = some p) : a = .tup [.str p.1, p.2] := by
  obtain ⟨l, rfl, h⟩ := asT_inv h
  obtain ⟨q, e, h⟩ := goO_inv h
  obtain ⟨k, e2, h⟩ := asS_inv h
  rw [twoOf_eq e, e2, ← Option.some.inj h]
noncomputable def pairsOf : List AV → Option (List (Str × AV))
  | [] => some []
  | a :: r => goO (pairOf a) fun p => goO (pairsOf r) fun l => some (p :: l)

noncomputable def tupV (a : AV) (σ : Sto) : Option (AV × Sto) := asTR a (fun l => some (.tup l, σ)) fun i => goO (lstAt σ i) fun l => some (.tup l, σ)
noncomputable def listV (a : AV) (σ : Sto) : Option (AV × Sto) := asTR a (fun l => pre (decide (l.length ≤ 100000)) (some (.ref σ.length, σ ++ [.lst l]))) fun i => goO (lstAt σ i) fun l => some (.ref σ.length, σ ++ [.lst l])
noncomputable def dictV (a : AV) (σ : Sto) : Option (AV × Sto) := asR a fun i => optG (dctS σ i)
  (goO (lstAt σ i) fun ps => goO (pairsOf ps) fun l => some (.ref σ.length, σ ++ [.sdct (l.foldl (fun d p => dput d p.1 p.2) [])]))
  fun l => some (.ref σ.length, σ ++ [.sdct l])
noncomputable def tyV (T : String) (as : List AV) (σ : Sto) : Option (AV × Sto) := goO (oneOf as) fun a =>
  byN T "tuple" (tupV a σ) (byN T "list" (listV a σ) (byN T "dict" (dictV a σ) (byN T "int" (asB a fun t => some (.int (if t then 1 else 0), σ))
    (byN T "str" (asI a fun i => pre (decide (i.natAbs < 1000000)) (some (.str (Str.ofString (toString i)), σ))) none))))

noncomputable def callV (orc : Orc) (fv : Value) (as : List AV) (σ : Sto) : Option (AV × Sto) := match fv with
  | .ref a => orc a as σ
  | .builtin id => biV id as σ
  | .type T => tyV T as σ
  | _ => none
end Mine

end

noncomputable section
open PySem PySem.W PyProof.Rows
set_option Elab.async false
set_option maxRecDepth 100000
set_option linter.unusedVariables false
set_option linter.unusedSectionVars false
namespace Mine

theorem keys_list_none : typeLookup (.type "list") "keys" = pure none := by rw [typeLookup_type, builtinLookup_eq_fast]; kernel_rfl
theorem entry_upd_loop : entryFor table "dict.update.loop" = some Builtin.«dict.update.loop» := entryFor_of_tree (by kernel_rfl)
theorem plain_upd_loop : plainId "dict.update.loop" = true := by decide +kernel

section
variable {prog : Program} {w : World} {A : Around} {E : Value → Shared → Prop} {s : Shared}
/-- a list has no keys -/
theorem keys_miss {a : Addr} {xs : Array Value} {k : Nat} {Q : Option Value → Shared → Prop} (hx : s.heap.get? a = some { cls := .type "list", data := .seq xs k }) (hA : A.handled = none)
    (h : ∀ h' tk, (∀ b o, s.heap.get? b = some o → h'.get? b = some o) → Q none { s with heap := h', toks := tk }) :
    wpAny (model prog w) A (getAttr? (.ref a) "keys") Q E s := by
  obtain ⟨hp, g, d, tk, os⟩ := s
  have hT : ∀ tk', (⟨hp, g, d, tk', os⟩ : Shared).TypeIs (.ref a) "list" := fun _ => ⟨_, hx, rfl⟩
  have f1 := sub_AttributeError
  have f3 := F.slot_list_getattribute.lookup
  have f4 := F.slot_list_getattribute.bind (.ref a)
  have f5 := am_list_getattr_none
  unfold getAttr? getAttrBy? getAttrBy
  repeat (any_goals (first | assumption | exact hT _ | ((with_reducible show wpAny _ _ (call (Value.builtin "list.__getattribute__") _ _) _ _ _); refine call_meets F.slot_list_getattribute (hT _) am_entry_list_getattribute (F.args_list_getattribute_2 _ _) (meets_getattribute_miss_list a xs k #[] "keys" _ keys_list_none (by decide +kernel)) ⟨hx, hA, fun h' tk' e hx' => ?_⟩) | wp_step))
  obtain ⟨t', u', he⟩ := hx'.there
  show wpAny _ _ (getattributeRaised _ _ _ _ _ _ _) _ _ _
  unfold getattributeRaised
  repeat (any_goals (first | assumption | wp_step))
  exact h _ _ hx'.keeps

/-- the pairs that a list of tuples bears -/
noncomputable def PrsAt (h : Heap) : List Value → List (Str × Value) → Prop
  | [], r => r = []
  | v :: vs, r => ∃ T k t x n r', r = (k, x) :: r' ∧ v = .ref T ∧ IsT h T #[.str k t, x] n ∧ PrsAt h vs r'
theorem PrsAt.mono {h h' : Heap} (hk : ∀ a vs n, IsT h a vs n → IsT h' a vs n) : ∀ (vs : List Value) (r : List (Str × Value)), PrsAt h vs r → PrsAt h' vs r
  | [], _, p => p
  | v :: vs, r, ⟨T, k, t, x, n, r', e1, e2, q, p⟩ => ⟨T, k, t, x, n, r', e1, e2, hk _ _ _ q, PrsAt.mono hk vs r' p⟩
theorem PrsAt.length {h : Heap} : ∀ (vs : List Value) (r : List (Str × Value)), PrsAt h vs r → vs.length = r.length
  | [], _, p => by rw [show _ = [] from p]; rfl
  | v :: vs, r, ⟨T, k, t, x, n, r', e1, e2, q, p⟩ => by rw [e1, List.length_cons, List.length_cons, PrsAt.length vs r' p]

theorem upd_loop {R : Result → Shared → Prop} (hh : A.handled = none) (D I l : Addr) (hlI : l ≠ I) (hDI : D ≠ I) (hlD : l ≠ D) (items : Array Value) : ∀ (vs : List Value) (i j : Nat) (r kvs : List (Str × Value)) (s : Shared), items.toList.drop i = vs →
    s.heap.DictOf (strKind prog w) D kvs → s.heap.IsListIter I l i → s.heap.IsList l items → PrsAt s.heap vs r → kvs.length + vs.length ≤ 200000 →
    (∀ h' tk, h'.DictOf (strKind prog w) D (r.foldl (fun d p => stored d p.1 p.2) kvs) → (∀ b o, b ≠ D → b ≠ I → s.heap.get? b = some o → h'.get? b = some o) → R (.ok (.ret .none)) { s with heap := h', toks := tk }) →
    codeAny (model prog w) A (.builtin "dict.update.loop" ⟨[.ref D, .ref I, rawInt j, .none], []⟩) R s
  | [], i, j, r, kvs, s, hd, hD, hit, hl, hp, hz, hR => by
    have hr : r = [] := hp
    subst hr
    have hx : items[i]? = none := by
      rw [← Array.getElem?_toList, List.getElem?_eq_none]
      have := congrArg List.length hd; simp only [List.length_drop, List.length_nil] at this; lia
    refine codeAny_builtin entry_upd_loop ?_
    rw [Around.under_plainId plain_upd_loop _]
    show wpAny _ A.in1 (pyNext (.ref I) >>= _) _ _ s
    refine wpAny_bind (wpAny_pyNext_list_end (A := A.in1) hh hit hl hx fun h' he => ?_)
    show wpAny _ A.in1 (Builtin.Dict.addKeywords D [] >>= _) _ _ _
    refine wpAny_bind (wpAny_pure ?_)
    refine wpAny_pure (hR h' s.toks ?_ fun b o h1 h2 e => he b o h2 e)
    exact hD.extBut he hDI
  | v :: vs, i, j, r, kvs, s, hd, hD, hit, hl, hp, hz, hR => by
    obtain ⟨T, k, t, x, n, r', rfl, rfl, q, p⟩ := hp
    have hx : items[i]? = some (.ref T) := by
      rw [← Array.getElem?_toList]
      have := congrArg List.head? hd
      simpa [List.head?_drop] using this
    have hd' : items.toList.drop (i + 1) = vs := by
      have := congrArg List.tail hd
      simpa [List.tail_drop] using this
    refine codeAny_builtin entry_upd_loop ?_
    rw [Around.under_plainId plain_upd_loop _]
    show wpAny _ A.in1 (pyNext (.ref I) >>= _) _ _ s
    refine wpAny_bind (wpAny_pyNext_list_item hit hl hx fun h' hit' hs' => ?_)
    have tI : ∀ a vs n, IsT s.heap a vs n → a ≠ I := fun a vs n e z => by
      obtain ⟨o, eo, _, ed⟩ := hit
      rw [z] at e
      rw [show s.heap.get? I = some _ from e] at eo
      cases eo; cases ed
    have q' : IsT h' T #[.str k t, x] n := hs'.extBut _ _ (tI _ _ _ q) q
    refine wpAny_bind (wpAny_holding ?_)
    show wpAny _ A.in1 (tryCatch (Builtin.Dict.pairItems (.ref T)) _ >>= _) _ _ _
    refine wpAny_bind (wpAny_tryCatch ?_)
    unfold Builtin.Dict.pairItems
    refine wpAny_bind (wpAny_typeOf (T := "tuple") ⟨_, q', rfl⟩ ?_)
    rw [if_pos (by decide)]
    refine wpAny_bind (wpAny_seqItems q' rfl (wpAny_pure ?_))
    show wpAny _ A.in1 (holding [.str k t, x] (dictSet D (.str k t) x)) _ _ _
    have hD' : h'.DictOf (strKind prog w) D kvs := hD.sameBut hs' hDI
    refine wpAny_holding (wpAny_dictSet_pairs (knd := strKind prog w) (strKind_is prog w k t) hD' (fun h₂ hD₂ hs₂ => ?_) (by rw [sizeLine_eq]; simp only [List.length_cons] at hz; lia))
    have tD : ∀ a vs n, IsT h' a vs n → a ≠ D := fun a vs n e z => by
      obtain ⟨o, es, ep, eo, _, ed, _⟩ := hD'
      rw [z] at e
      rw [show h'.get? D = some _ from e] at eo
      cases eo; cases ed
    have hit₂ : h₂.IsListIter I l (i + 1) := by obtain ⟨o, eo, ec⟩ := hit'; exact ⟨o, hs₂.extBut _ _ (Ne.symm hDI) eo, ec⟩
    have hl₂ : h₂.IsList l items := (hl.extBut hs'.extBut hlI).extBut hs₂.extBut hlD
    have p₂ : PrsAt h₂ vs r' := PrsAt.mono (fun a vs n e => hs₂.extBut _ _ (tD a vs n (hs'.extBut _ _ (tI a vs n e) e)) (hs'.extBut _ _ (tI a vs n e) e)) vs r' p
    refine wpAny_pure ⟨plainId_quiet plain_upd_loop _, ?_⟩
    refine upd_loop hh D I l hlI hDI hlD items vs (i + 1) (j + 1) r' (stored kvs k x) _ hd' hD₂ hit₂ hl₂ p₂ ?_ fun h₃ tk hD₃ hk₃ => hR h₃ tk hD₃ fun b o h1 h2 e => hk₃ b o h1 h2 (hs₂.extBut _ _ h1 (hs'.extBut _ _ h2 e))
    have := stored_length_le kvs k x
    simp only [List.length_cons] at hz; lia

theorem call_dict_pairs {l : Addr} {items : Array Value} {k : Nat} {r : List (Str × Value)} {Q : Value → Shared → Prop} (hh : A.handled = none) (hl : s.heap.get? l = some { cls := .type "list", data := .seq items k }) (hp : PrsAt s.heap items.toList r) (hz : items.size ≤ 100000)
    (h : ∀ h' tk, h'.DictOf (strKind prog w) s.heap.objs.size (r.foldl (fun d p => stored d p.1 p.2) []) → (∀ b o, s.heap.get? b = some o → h'.get? b = some o) → Q (.ref s.heap.objs.size) { s with heap := h', toks := tk }) :
    wpAny (model prog w) A (call (.type "dict") [.ref l]) Q E s := by
  refine callType_codes (Q₁ := fun obj s₁ => obj = .ref s.heap.objs.size ∧ s₁ = { s with heap := s.heap.push { cls := .type "dict", data := .dict #[] } }) F.kt_called_dict (F.kt_typeCall_dict_1 _) F.entry_dict_init (kt_code_dict_new _ ⟨rfl, rfl⟩) ?_
  rintro obj s₁ ⟨rfl, rfl⟩
  have hnew : (s.heap.push { cls := .type "dict", data := .dict #[] }).DictOf (strKind prog w) s.heap.objs.size [] := Heap.DictOf.new s.heap
  have hl1 := Heap.get?_push_of_some { cls := .type "dict", data := .dict #[] } hl
  have hlD : l ≠ s.heap.objs.size := Nat.ne_of_lt (Heap.lt_size hl)
  refine ⟨hnew.typeIs, F.args_dict_init_2 _ _, ?_⟩
  unfold Builtin.«dict.__init__»
  refine wpAny_bind ?_
  unfold Builtin.Dict.selfAndRest
  refine wpAny_bind (wpAny_notOrdered_dict hnew.typeIs ?_)
  show wpAny _ _ (pure (s.heap.objs.size, [Value.ref l])) _ _ _
  refine wpAny_pure ?_
  show wpAny _ _ (Builtin.Dict.updateFrom "dict.__init__" s.heap.objs.size (.ref l) [] .none) _ _ _
  unfold Builtin.Dict.updateFrom
  refine wpAny_bind (wpAny_typeOf (T := "list") ⟨_, hl1, rfl⟩ ?_)
  rw [if_pos (by decide)]
  refine wpAny_bind (keys_miss hl1 hh fun h₂ tk hk₂ => ?_)
  rw [if_pos (by rfl)]
  refine wpAny_bind (wpAny_rule ?_)
  have hl2 := hk₂ _ _ hl1
  refine wpAny_bind (wpAny_pyIter_list (items := items) ⟨_, hl2, rfl, _, rfl⟩ ?_)
  have hfr := fresh_size h₂
  have hD2 : h₂.DictOf (strKind prog w) s.heap.objs.size [] := by
    obtain ⟨o, es, ep, eo, q⟩ := hnew
    exact ⟨o, es, ep, hk₂ _ _ eo, q⟩
  have hDI : s.heap.objs.size ≠ h₂.objs.size := fun z => by
    obtain ⟨o, es, ep, eo, q⟩ := hD2
    rw [z, hfr] at eo; cases eo
  have hlI : l ≠ h₂.objs.size := fun z => by rw [z, hfr] at hl2; cases hl2
  refine wpAny_pure ⟨plainId_quiet plain_upd_loop _, ?_⟩
  refine upd_loop (A := A.in1) hh s.heap.objs.size h₂.objs.size l hlI hDI hlD items items.toList 0 0 r [] _ rfl (hD2.push _) ⟨_, Heap.get?_push_size _ rfl, rfl, rfl⟩ ⟨_, Heap.get?_push_of_some _ hl2, rfl, _, rfl⟩
    (PrsAt.mono (fun a vs n e => Heap.get?_push_of_some _ (hk₂ _ _ (Heap.get?_push_of_some _ e))) _ _ hp) (by simp; lia) fun h' tk' hD' hk' => ?_
  refine ⟨rfl, h h' tk' hD' fun b o e => hk' b o (Nat.ne_of_lt (Heap.lt_size e)) (fun z => ?_) (Heap.get?_push_of_some _ (hk₂ _ _ (Heap.get?_push_of_some _ e)))⟩
  have := hk₂ _ _ (Heap.get?_push_of_some { cls := .type "dict", data := .dict #[] } e)
  rw [z, hfr] at this; cases this
end

section
variable {cx : Cx} {d : Nat} {σ σ' : Sto} {v x y a b c : AV} {X : List Addr} {hp : Heap} {α : List Addr} {K : Type}
theorem pair_at {k : Str} {v : Value} (r1 : rep X hp α (.tup [.str k, x]) v) : ∃ T t v2 n, v = .ref T ∧ IsT hp T #[.str k t, v2] n ∧ rep X hp α x v2 := by
  rw [rep] at r1
  obtain ⟨T, ws, n, rfl, hx, ht, hr⟩ := r1
  rw [reps] at hr
  obtain ⟨v1, ws', hw, q1, q2⟩ := hr
  rw [reps] at q2
  obtain ⟨v2, ws'', hw', q3, q4⟩ := q2
  rw [reps] at q4
  rw [rep] at q1
  obtain ⟨t, rfl⟩ := q1
  subst q4; subst hw'
  rw [show ws = #[.str k t, v2] from congrArg List.toArray hw] at ht
  exact ⟨T, t, v2, n, rfl, ht, q3⟩
theorem pairs_at (ps : List AV) : ∀ (l : List (Str × AV)) (vs : List Value), pairsOf ps = some l → reps X hp α ps vs → ∃ r, PrsAt hp vs r ∧ repd X hp α l r := by
  induction ps with
  | nil =>
    intro l vs e r
    cases e
    rw [show vs = [] from r]
    exact ⟨[], rfl, rfl⟩
  | cons p ps ih =>
    intro l vs e r
    obtain ⟨v, vs', rfl, r1, r2⟩ := r
    obtain ⟨q, e1, e⟩ := goO_inv e
    obtain ⟨l', e2, e⟩ := goO_inv e
    cases e
    obtain ⟨r', h1, h2⟩ := ih _ _ e2 r2
    rw [pairOf_eq e1] at r1
    obtain ⟨T, t, v2, n, rfl, ht, q3⟩ := pair_at r1
    exact ⟨(q.1, v2) :: r', ⟨T, q.1, t, v2, n, r', rfl, rfl, ht, h1⟩, ⟨v2, r', rfl, q3, h2⟩⟩
theorem nodup_stored [DecidableEq K] {kvs : List (K × Value)} {k : K} {v : Value} (h : (kvs.map (·.1)).Nodup) : ((stored kvs k v).map (·.1)).Nodup := by
  unfold stored
  split
  · rw [keys_map_store]; exact h
  · rename_i hn
    rw [List.map_append, List.nodup_append]
    refine ⟨h, by simp, fun x hx y hy e => hn ?_⟩
    simp only [List.map_cons, List.map_nil, List.mem_singleton] at hy
    subst hy; subst e
    obtain ⟨p, hp, rfl⟩ := List.mem_map.mp hx
    exact List.any_eq_true.mpr ⟨p, hp, by simp⟩
theorem fold_put [DecidableEq K] : ∀ (l : List (K × AV)) (r : List (K × Value)) (m : List (K × AV)) (kvs : List (K × Value)), repd X hp α l r → repd X hp α m kvs → (kvs.map (·.1)).Nodup →
    repd X hp α (l.foldl (fun d p => dput d p.1 p.2) m) (r.foldl (fun d p => stored d p.1 p.2) kvs)
  | [], r, m, kvs, h, h', _ => by
    rw [show r = [] from by simpa only [repd] using h]; exact h'
  | (k, av) :: l, r, m, kvs, h, h', hn => by
    rw [repd] at h
    obtain ⟨v, r', rfl, h1, h2⟩ := h
    exact fold_put l r' _ _ h2 (repd_put k av v h1 _ _ h' hn) (nodup_stored hn)
theorem stored_len [DecidableEq K] : ∀ (r kvs : List (K × Value)), (r.foldl (fun d p => stored d p.1 p.2) kvs).length ≤ kvs.length + r.length
  | [], _ => Nat.le_refl _
  | p :: r, kvs => by
    have h1 := stored_len r (stored kvs p.1 p.2)
    have h2 := stored_length_le kvs p.1 p.2
    rw [List.foldl_cons, List.length_cons]; lia

theorem O_dict_pairs {i : Nat} {ps : List AV} {l : List (Str × AV)} (hi : σ[i]? = some (.lst ps)) (hl : pairsOf ps = some l) :
    OpE cx d [.ref i] σ (callF (.type "dict")) (.ref σ.length) (σ ++ [.sdct (l.foldl (fun d p => dput d p.1 p.2) [])]) :=
  .one fun A α s u R S ra => by
    obtain ⟨t, rfl, ha, hm, ws, ⟨n, ho⟩, hz, hr⟩ := cell_of S hi ra
    obtain ⟨r, h1, h2⟩ := pairs_at _ _ _ hl hr
    refine call_dict_pairs R.handled ho h1 hz fun h' tk hd' hk => ?_
    have hlen : r.length ≤ 100000 := by rw [← PrsAt.length _ _ h1]; simpa using hz
    have hlen' := stored_len r []
    refine ⟨α ++ [s.heap.objs.size], .push S ⟨_, _, rfl⟩ (fresh_size _) hk ⟨_, hd', by simp at hlen'; lia, repd_mono (fun _ _ _ _ t => hk _ _ t) ⟨_, rfl⟩ _ _ (fold_put _ _ _ _ h2 (by simp [repd]) List.nodup_nil)⟩, ?_⟩
    simp only [rep]
    exact ⟨s.heap.objs.size, by rw [← S.len]; simp, rfl⟩
end
end Mine

end

noncomputable section
open PySem PySem.W PyProof.Rows
set_option Elab.async false
set_option maxRecDepth 100000
set_option linter.unusedVariables false
namespace Mine

section
variable {cx : Cx} {d : Nat} {σ σ' : Sto} {v x y a b c dv : AV} {G : GT}

theorem dctS_some {i : Nat} {l : List (Str × AV)} (h : dctS σ i = some l) : ∃ ce, σ[i]? = some ce ∧ dictOfS ce = some l := goO_inv h
theorem dctI_some {i : Nat} {l : List (Int × AV)} (h : dctI σ i = some l) : ∃ ce, σ[i]? = some ce ∧ dictOfI ce = some l := goO_inv h
theorem asRol_inv {c : Cell} {vs : Array Value} (h : asRol c = some vs) : ∃ n, c = .rol vs n := by
  cases c <;> first | exact no h | (cases h; exact ⟨_, rfl⟩)
theorem rolAt_some {i : Nat} {vs : Array Value} (h : rolAt σ i = some vs) : ∃ n, σ[i]? = some (.rol vs n) := by
  obtain ⟨c, e, h⟩ := goO_inv h
  obtain ⟨n, rfl⟩ := asRol_inv h
  exact ⟨n, e⟩
theorem intOf_some {w : Value} (h : intOf w = some v) : ∃ i t, w = .int i t ∧ v = .int i := by
  cases w <;> first | exact no h | exact ⟨_, _, rfl, (Option.some.inj h).symm⟩
theorem asInst_inv {c : Cell} {p : Addr × Nat} (h : asInst c = some p) : c = .inst p.1 p.2 := by
  cases c <;> first | exact no h | (cases h; rfl)
theorem asAttrs_inv {c : Cell} {l : List (Str × AV)} (h : asAttrs c = some l) : c = .attrs l := by
  cases c <;> first | exact no h | (cases h; rfl)
theorem instAt_some {i : Nat} {p : Addr × Nat × List (Str × AV)} (h : instAt σ i = some p) : σ[i]? = some (.inst p.1 p.2.1) ∧ σ[p.2.1]? = some (.attrs p.2.2) := by
  obtain ⟨c, e, h⟩ := goO_inv h
  obtain ⟨q, e1, h⟩ := goO_inv h
  obtain ⟨c', e2, h⟩ := goO_inv h
  obtain ⟨l, e3, h⟩ := goO_inv h
  cases h
  rw [e, e2, asInst_inv e1, asAttrs_inv e3]
  exact ⟨rfl, rfl⟩

theorem ints_ok {f : Int → Int → Option Int} {F : List Value → Sem Value} (O : ∀ i j k, f i j = some k → OpE cx d [.int i, .int j] σ F (.int k) σ) (h : intsV a b σ f = some (v, σ')) : OpE cx d [a, b] σ F v σ' := by
  obtain ⟨i, rfl, h⟩ := asI_inv h
  obtain ⟨j, rfl, h⟩ := asI_inv (a := b) h
  obtain ⟨k, e, h⟩ := goO_inv h
  cases h
  exact O i j k e
theorem addV_ok (h : addV a b σ = some (v, σ')) : OpE cx d [a, b] σ (binF .Add) v σ' := by
  cases a <;> first | exact no h | skip
  · obtain ⟨j, rfl, h⟩ := asI_inv h; cases h; exact O_add
  · obtain ⟨j, rfl, h⟩ := asS_inv h
    obtain ⟨h1, h⟩ := pre_dec h; cases h; exact O_cat h1
  · obtain ⟨j, rfl, h⟩ := asR_inv h
    obtain ⟨l, e1, h⟩ := goO_inv h
    obtain ⟨m, e2, h⟩ := goO_inv h
    obtain ⟨h1, h⟩ := pre_dec h; cases h
    exact O_addL (lstAt_some e1) (lstAt_some e2) h1
theorem binV_ok {op : Operator} (h : binV op a b σ = some (v, σ')) : OpE cx d [a, b] σ (binF op) v σ' := by
  cases op <;> first | exact no h | skip
  case Add => exact addV_ok h
  case Sub => exact ints_ok (fun i j k e => by cases e; exact O_sub) h
  case Mult => exact ints_ok (fun i j k e => by obtain ⟨h1, e⟩ := pre_dec e; cases e; exact O_mul h1) h
  case Mod => exact ints_ok (fun i j k e => by obtain ⟨h1, e⟩ := pre_dec e; cases e; exact O_mod h1) h
  case FloorDiv => exact ints_ok (fun i j k e => by obtain ⟨h1, e⟩ := pre_dec e; cases e; exact O_div h1.1 h1.2) h
  case Pow => exact ints_ok (fun i j k e => by obtain ⟨h1, e⟩ := pre_dec e; cases e; exact O_pow h1.1 h1.2.1 h1.2.2) h

theorem eqR_ok {k : Bool} (h : eqR σ a b = some k) : OpE cx d [a, b] σ (cmpF .Eq) (.bool k) σ ∧ OpE cx d [a, b] σ (cmpF .NotEq) (.bool (!k)) σ := by
  have plain : ∀ {a : AV}, eqV 60 a b = some k → OpE cx d [a, b] σ (cmpF .Eq) (.bool k) σ ∧ OpE cx d [a, b] σ (cmpF .NotEq) (.bool (!k)) σ := fun h => ⟨O_eq h, O_neV (Nat.le_refl _) h⟩
  cases a <;> first | exact plain h | skip
  obtain ⟨j, rfl, h⟩ := asR_inv h
  obtain ⟨l, e1, h⟩ := goO_inv h
  obtain ⟨m, e2, h⟩ := goO_inv h
  obtain ⟨h1, h⟩ := pre_some h
  cases h
  exact ⟨O_eq_lst (lstAt_some e1) (lstAt_some e2) (isE_eq h1), O_ne_lst (lstAt_some e1) (lstAt_some e2) (isE_eq h1)⟩
theorem inR_in {k : Bool} (h : inR σ a b = some k) : OpE cx d [a, b] σ (cmpF .In) (.bool k) σ ∧ OpE cx d [a, b] σ (cmpF .NotIn) (.bool (!k)) σ := by
  cases b <;> first | exact no h | skip
  · obtain ⟨p, rfl, h⟩ := asS_inv h
    cases h; exact ⟨O_in_str, O_notin_str⟩
  · exact ⟨O_in_tup h, O_notin_tup h⟩
  · rcases optG_inv h with ⟨_, h⟩ | ⟨l, e, h⟩
    · obtain ⟨p, rfl, h⟩ := asS_inv h
      obtain ⟨l, e, h⟩ := goO_inv h
      cases h
      obtain ⟨ce, h1, h2⟩ := dctS_some e
      exact ⟨O_in_dct h1 h2, O_notin_dct h1 h2⟩
    · exact ⟨O_in_lst (lstAt_some e) h, O_notin_lst (lstAt_some e) h⟩
theorem intsB_ok {k : Bool} {f : Int → Int → Bool} {F : List Value → Sem Value} (O : ∀ i j, OpE cx d [.int i, .int j] σ F (.bool (f i j)) σ) (h : intsB a b f = some k) : OpE cx d [a, b] σ F (.bool k) σ := by
  obtain ⟨i, rfl, h⟩ := asI_inv h
  obtain ⟨j, rfl, h⟩ := asI_inv (a := b) h
  rw [← Option.some.inj h]
  exact O i j
theorem cmpV_ok {op : CmpOp} {k : Bool} (h : cmpV op a b σ = some k) : OpE cx d [a, b] σ (cmpF op) (.bool k) σ := by
  cases op <;> first | exact no h | skip
  case Eq => exact (eqR_ok h).1
  case NotEq => obtain ⟨k', h1, rfl⟩ := Option.map_eq_some_iff.mp h; exact (eqR_ok h1).2
  case In => exact (inR_in h).1
  case NotIn => obtain ⟨k', h1, rfl⟩ := Option.map_eq_some_iff.mp h; exact (inR_in h1).2
  case Lt => exact intsB_ok (fun _ _ => O_lt) h
  case Gt => exact intsB_ok (fun _ _ => O_gt) h
  case GtE => exact intsB_ok (fun _ _ => O_ge) h

noncomputable abbrev HasGet (cx : Cx) (a : AV) (σ : Sto) : Prop := ∀ α s c, SO cx α σ s.heap → rep cx.ban s.heap α a c → ∃ T id, typeLookup (.type T) "__getitem__" = pure (some (.builtin id)) ∧ Shared.TypeIs s c T
theorem atN_inv {l : List AV} {j : Int} (h : atN l j = some v) : ∃ k : Nat, j = (k : Int) ∧ k < 100000 ∧ l[k]? = some v := by
  obtain ⟨k, rfl, h⟩ := asN_inv h
  obtain ⟨h1, h⟩ := pre_dec h
  exact ⟨k, rfl, h1, h⟩
theorem getR_ok {i : Nat} {j : Int} (h : getR σ i j = some v) : OpE cx d [.ref i, .int j] σ getF v σ ∧ HasGet cx (.ref i) σ := by
  rcases optG_inv h with ⟨_, h⟩ | ⟨l, e, h⟩
  · rcases optG_inv h with ⟨_, h⟩ | ⟨l, e, h⟩
    · obtain ⟨vs, e, h⟩ := goO_inv h
      obtain ⟨k, rfl, h⟩ := asN_inv h
      obtain ⟨h1, h⟩ := pre_dec h
      obtain ⟨w, ew, h⟩ := goO_inv h
      obtain ⟨n, e⟩ := rolAt_some e
      obtain ⟨q, t, rfl, rfl⟩ := intOf_some h
      exact ⟨O_get_rol h1 e ew, T_rol e⟩
    · obtain ⟨ce, h1, h2⟩ := dctI_some e
      exact ⟨O_get_idct h1 h2 h, T_idct h1 h2⟩
  · obtain ⟨k, rfl, h1, h2⟩ := atN_inv h
    exact ⟨O_get_lst h1 (lstAt_some e) h2, T_lst (lstAt_some e)⟩
theorem getV_ok (h : getV a b σ = some v) : OpE cx d [a, b] σ getF v σ ∧ HasGet cx a σ := by
  cases a <;> first | exact no h | skip
  · obtain ⟨j, rfl, h⟩ := asI_inv h
    obtain ⟨k, rfl, h1, h2⟩ := atN_inv h
    exact ⟨O_get_tup h1 h2, T_tup⟩
  · obtain ⟨j, rfl, h⟩ := asI_inv h
    exact getR_ok h

theorem setD_ok {i : Nat} (h : setD σ i b v = some σ') : OpU cx d [.ref i, b, v] σ setItemF σ' := by
  cases b <;> first | exact no h | skip
  · obtain ⟨l, e, h⟩ := goO_inv h
    obtain ⟨h1, h⟩ := pre_dec h; cases h
    obtain ⟨ce, g1, g2⟩ := dctI_some e
    exact U_set_i g1 g2 h1
  · obtain ⟨l, e, h⟩ := goO_inv h
    obtain ⟨h1, h⟩ := pre_dec h; cases h
    obtain ⟨ce, g1, g2⟩ := dctS_some e
    exact U_set_s g1 g2 h1
theorem setV_ok (h : setV a b v σ = some σ') : OpU cx d [a, b, v] σ setItemF σ' := by
  obtain ⟨i, rfl, h⟩ := asR_inv h
  rcases optG_inv h with ⟨_, h⟩ | ⟨l, e, h⟩
  · exact setD_ok h
  · obtain ⟨j, rfl, h⟩ := asI_inv h
    obtain ⟨k, rfl, h⟩ := asN_inv h
    obtain ⟨h1, h⟩ := pre_dec h; cases h; exact U_set_l (lstAt_some e) h1

/-- the table tells the truth -/
structure GOk (G : GT) (cx : Cx) : Prop where
  glob : ∀ x v, G.glob.lookup x = some v → ∃ w, cx.mg x = some w ∧ rep [] cx.h₀ [] v w
  keep : ∀ x a, G.glob.lookup x = some (.val (.ref a)) → KeeperOk cx (.ref a)
  val : ∀ x w, G.glob.lookup x = some (.val w) → ∃ a, w = .ref a
  bi : ∀ x v, G.bi.lookup x = some v → cx.mg x = none ∧ bootBuiltins x = some v ∧ x ≠ "__name__" ∧ KeeperOk cx v
  fn : ∀ a f, G.fn.lookup a = some f → FnOk cx a f ∧ ((cellsFrom 0 f.fd.scope.names []).map (·.1)).Nodup
  cls : ∀ C fI, G.cls.lookup C = some fI → ClsOk cx.K C fI
  meth : ∀ C name f, G.meth.lookup (C, name) = some f → ∃ fI, ClsOk cx.K C fI ∧ findIn cx.K (.ref C) name = some (some (.ref f)) ∧ isFn cx.K (.ref f) = true ∧ KeeperOk cx (.ref f)
  attrs : ∀ C name, (C, name) ∈ G.attrs → ∃ fI, ClsOk cx.K C fI ∧ findIn cx.K (.ref C) name = some none ∧ takerIn cx.K C name = some none

theorem attrV_ok {name : Str} (K : GOk G cx) (h : attrV G a name σ = some v) : OpE cx d [a] σ (attrF name) v σ := by
  obtain ⟨i, rfl, h⟩ := asR_inv h
  obtain ⟨p, e, h⟩ := goO_inv h
  obtain ⟨h1, h⟩ := pre_dec h
  obtain ⟨w, hl, h⟩ := goO_inv h
  obtain ⟨h3, h⟩ := pre_some h
  cases h
  obtain ⟨e1, e2⟩ := instAt_some e
  obtain ⟨fI, k1, k2, k3⟩ := K.attrs _ _ h1
  exact O_attr k1 e1 e2 hl h3 k2
theorem setAttrV_ok {name : Str} (K : GOk G cx) (h : setAttrV G a name v σ = some σ') : OpU cx d [a, v] σ (setAttrF name) σ' := by
  obtain ⟨i, rfl, h⟩ := asR_inv h
  obtain ⟨p, e, h⟩ := goO_inv h
  obtain ⟨h1, h⟩ := pre_dec h
  cases h
  obtain ⟨e1, e2⟩ := instAt_some e
  obtain ⟨fI, k1, k2, k3⟩ := K.attrs _ _ h1.1
  exact U_attr k1 e1 e2 h1.2 k3

theorem meth_list {i : Nat} {l : List AV} {name : Str} {fv : Value} (e : σ[i]? = some (.lst l)) (h : methC G (.lst l) name σ = some fv) : MethAt cx d (.ref i) σ name fv ∧ KeeperOk cx fv := by
  rcases byN_inv h with ⟨rfl, h⟩ | h
  · cases h; exact ⟨M_list e slot_list_append type_list_append, keeper_builtin⟩
  rcases byN_inv h with ⟨rfl, h⟩ | h
  · cases h; exact ⟨M_list e PySem.F.slot_list_extend PySem.F.type_list_extend, keeper_builtin⟩
  rcases byN_inv h with ⟨rfl, h⟩ | h
  · cases h; exact ⟨M_list e PySem.F.slot_list_pop PySem.F.type_list_pop, keeper_builtin⟩
  · exact no h
theorem meth_inst {i : Nat} {C : Addr} {dj : Nat} {name : Str} {fv : Value} (K : GOk G cx) (e : σ[i]? = some (.inst C dj)) (h : methC G (.inst C dj) name σ = some fv) : MethAt cx d (.ref i) σ name fv ∧ KeeperOk cx fv := by
  obtain ⟨c, e2, h⟩ := goO_inv h
  obtain ⟨l, e3, h⟩ := goO_inv h
  rw [asAttrs_inv e3] at e2
  rcases optG_inv h with ⟨hl, h⟩ | ⟨_, _, h⟩
  · obtain ⟨f, hm, h⟩ := goO_inv h
    cases h
    obtain ⟨fI, k1, k2, k3, k4⟩ := K.meth _ _ _ hm
    exact ⟨M_inst k1 e e2 hl k2 k3, k4⟩
  · exact no h
theorem methV_ok {name : Str} {fv : Value} (K : GOk G cx) (h : methV G a name σ = some fv) : MethAt cx d a σ name fv ∧ KeeperOk cx fv := by
  cases a <;> first | exact no h | skip
  · rcases byN_inv h with ⟨rfl, h⟩ | h
    · cases h; exact ⟨M_str PySem.F.slot_str_split PySem.F.type_str_split, keeper_builtin⟩
    · exact no h
  · obtain ⟨c, e, h⟩ := goO_inv h
    have get : ∀ {x : Option Value}, byN name "get" (some (.builtin "dict.get")) none = some fv → (name = "get" ∧ fv = .builtin "dict.get") := fun h => by
      rcases byN_inv h with ⟨rfl, h⟩ | h
      · exact ⟨rfl, (Option.some.inj h).symm⟩
      · exact no h
    cases c <;> first | exact no h | skip
    · exact meth_list e h
    · obtain ⟨rfl, rfl⟩ := get (x := none) h; exact ⟨M_dctS e rfl PySem.F.slot_dict_get PySem.F.type_dict_get, keeper_builtin⟩
    · obtain ⟨rfl, rfl⟩ := get (x := none) h; exact ⟨M_dctS e rfl PySem.F.slot_dict_get PySem.F.type_dict_get, keeper_builtin⟩
    · obtain ⟨rfl, rfl⟩ := get (x := none) h; exact ⟨M_dctI e rfl PySem.F.slot_dict_get PySem.F.type_dict_get, keeper_builtin⟩
    · exact meth_inst K e h

theorem lastOf_nil {r : List AV} (h : lastOf r = none) : r = [] := by
  cases r with
  | nil => rfl
  | cons y r =>
    rcases optG_inv (r := none) h with ⟨_, h⟩ | ⟨_, _, h⟩
    · cases h
    · cases h
theorem lastOf_spec (l : List AV) : ∀ p, lastOf l = some p → l = p.1 ++ [p.2] := by
  induction l with
  | nil => exact fun _ h => no h
  | cons x r ih =>
    intro p h
    rcases optG_inv (r := some p) h with ⟨e, h⟩ | ⟨q, e, h⟩
    · rw [lastOf_nil e, ← Option.some.inj h]; rfl
    · rw [ih _ e, ← Option.some.inj h]; rfl

theorem lenV_ok (h : lenV a σ = some (v, σ')) : OpE cx d [a] σ (callF (.builtin "len")) v σ' := by
  cases a <;> first | exact no h | skip
  · obtain ⟨h1, h⟩ := pre_dec h; cases h; exact O_len_tup h1
  · rcases optG_inv h with ⟨_, h⟩ | ⟨l, e, h⟩
    · rcases optG_inv h with ⟨_, h⟩ | ⟨l, e, h⟩
      · rcases optG_inv h with ⟨_, h⟩ | ⟨l, e, h⟩
        · obtain ⟨vs, e, h⟩ := goO_inv h
          cases h
          obtain ⟨n, e⟩ := rolAt_some e
          exact O_len_rol e
        · cases h
          obtain ⟨ce, g1, g2⟩ := dctI_some e
          exact O_len_dct g1 (.inr (by rw [g2]; rfl))
      · cases h
        obtain ⟨ce, g1, g2⟩ := dctS_some e
        exact O_len_dct g1 (.inl (by rw [g2]; rfl))
    · cases h; exact O_len_lst (lstAt_some e)
theorem popV_ok (h : popV a σ = some (v, σ')) : OpE cx d [a] σ (callF (.builtin "list.pop")) v σ' := by
  obtain ⟨i, rfl, h⟩ := asR_inv h
  obtain ⟨l, e, h⟩ := goO_inv h
  obtain ⟨p, e', h⟩ := goO_inv h
  cases h
  exact O_pop (by rw [lstAt_some e, lastOf_spec _ _ e'])
theorem appV_ok (h : appV a b σ = some (v, σ')) : OpE cx d [a, b] σ (callF (.builtin "list.append")) v σ' := by
  obtain ⟨i, rfl, h⟩ := asR_inv h
  obtain ⟨l, e, h⟩ := goO_inv h
  obtain ⟨h1, h⟩ := pre_dec h; cases h
  exact O_append (lstAt_some e) h1
theorem extV_ok (h : extV a b σ = some (v, σ')) : OpE cx d [a, b] σ (callF (.builtin "list.extend")) v σ' := by
  obtain ⟨i, rfl, h⟩ := asR_inv h
  obtain ⟨l, e, h⟩ := goO_inv h
  rcases asTR_inv h with ⟨m, rfl, h⟩ | ⟨j, rfl, h⟩
  · obtain ⟨h1, h⟩ := pre_dec h; cases h
    exact O_extend_tup (lstAt_some e) h1
  · obtain ⟨m, e', h⟩ := goO_inv h
    obtain ⟨h1, h⟩ := pre_dec h; cases h
    exact O_extend_lst (lstAt_some e) (lstAt_some e') h1
theorem splitV_ok (h : splitV a b σ = some (v, σ')) : OpE cx d [a, b] σ (callF (.builtin "str.split")) v σ' := by
  obtain ⟨p, rfl, h⟩ := asS_inv h
  obtain ⟨q, rfl, h⟩ := asS_inv (a := b) h
  obtain ⟨h1, h⟩ := pre_dec h; cases h
  exact O_split h1.1 h1.2
theorem dgetV_ok (h : dgetV a b c σ = some (v, σ')) : OpE cx d [a, b, c] σ (callF (.builtin "dict.get")) v σ' := by
  obtain ⟨i, rfl, h⟩ := asR_inv h
  cases b <;> first | exact no h | skip
  · obtain ⟨l, e, h⟩ := goO_inv h
    cases h
    obtain ⟨ce, g1, g2⟩ := dctI_some e
    exact O_dget_i g1 g2
  · obtain ⟨l, e, h⟩ := goO_inv h
    cases h
    obtain ⟨ce, g1, g2⟩ := dctS_some e
    exact O_dget_s g1 g2
theorem bi2_ok {id : String} (h : bi2 id a b σ = some (v, σ')) : OpE cx d [a, b] σ (callF (.builtin id)) v σ' := by
  rcases byN_inv h with ⟨e, h⟩ | h
  · rw [e]; exact ints_ok (fun i j k e => by cases e; exact O_max) h
  rcases byN_inv h with ⟨e, h⟩ | h
  · rw [e]; exact ints_ok (fun i j k e => by cases e; exact O_min) h
  rcases byN_inv h with ⟨e, h⟩ | h
  · rw [e]; exact appV_ok h
  rcases byN_inv h with ⟨e, h⟩ | h
  · rw [e]; exact extV_ok h
  rcases byN_inv h with ⟨e, h⟩ | h
  · rw [e]; exact splitV_ok h
  · exact no h
theorem biV_ok {id : String} {as : List AV} (h : biV id as σ = some (v, σ')) : OpE cx d as σ (callF (.builtin id)) v σ' := by
  cases as with
  | nil => exact no h
  | cons a r => cases r with
    | nil =>
      rcases byN_inv h with ⟨e, h⟩ | h
      · rw [e]; exact lenV_ok h
      rcases byN_inv h with ⟨e, h⟩ | h
      · rw [e]; exact popV_ok h
      · exact no h
    | cons b r => cases r with
      | nil => exact bi2_ok h
      | cons c r =>
        obtain ⟨e, h⟩ := pre_some h
        rw [isE_eq e]
        rcases byN_inv h with ⟨e, h⟩ | h
        · rw [e]; exact dgetV_ok h
        · exact no h

theorem dictV_ok (h : dictV a σ = some (v, σ')) : OpE cx d [a] σ (callF (.type "dict")) v σ' := by
  obtain ⟨i, rfl, h⟩ := asR_inv h
  rcases optG_inv h with ⟨_, h⟩ | ⟨l, e, h⟩
  · obtain ⟨ps, e, h⟩ := goO_inv h
    obtain ⟨l, e', h⟩ := goO_inv h
    cases h
    exact O_dict_pairs (lstAt_some e) e'
  · cases h
    obtain ⟨ce, g1, g2⟩ := dctS_some e
    exact O_dict g1 g2
theorem tupV_ok (h : tupV a σ = some (v, σ')) : OpE cx d [a] σ (callF (.type "tuple")) v σ' := by
  rcases asTR_inv h with ⟨m, rfl, h⟩ | ⟨j, rfl, h⟩
  · cases h; exact O_tuple_tup
  · obtain ⟨l, e, h⟩ := goO_inv h
    cases h; exact O_tuple_lst (lstAt_some e)
theorem listV_ok (h : listV a σ = some (v, σ')) : OpE cx d [a] σ (callF (.type "list")) v σ' := by
  rcases asTR_inv h with ⟨m, rfl, h⟩ | ⟨j, rfl, h⟩
  · obtain ⟨h1, h⟩ := pre_dec h; cases h; exact O_list_tup h1
  · obtain ⟨l, e, h⟩ := goO_inv h
    cases h; exact O_list_lst (lstAt_some e)
theorem intT_ok (h : (asB a fun t => some (.int (if t then 1 else 0), σ)) = some (v, σ')) : OpE cx d [a] σ (callF (.type "int")) v σ' := by
  obtain ⟨t, rfl, h⟩ := asB_inv h
  cases h; exact O_int_bool
theorem strT_ok (h : (asI a fun i => pre (decide (i.natAbs < 1000000)) (some (.str (Str.ofString (toString i)), σ))) = some (v, σ')) : OpE cx d [a] σ (callF (.type "str")) v σ' := by
  obtain ⟨t, rfl, h⟩ := asI_inv h
  obtain ⟨h1, h⟩ := pre_dec h; cases h; exact O_str_int h1
theorem tyV_ok {T : String} {as : List AV} (h : tyV T as σ = some (v, σ')) : OpE cx d as σ (callF (.type T)) v σ' := by
  obtain ⟨a, e, h⟩ := goO_inv h
  rw [oneOf_eq e]
  rcases byN_inv h with ⟨e, h⟩ | h
  · rw [e]; exact tupV_ok h
  rcases byN_inv h with ⟨e, h⟩ | h
  · rw [e]; exact listV_ok h
  rcases byN_inv h with ⟨e, h⟩ | h
  · rw [e]; exact dictV_ok h
  rcases byN_inv h with ⟨e, h⟩ | h
  · rw [e]; exact intT_ok h
  rcases byN_inv h with ⟨e, h⟩ | h
  · rw [e]; exact strT_ok h
  · exact no h

noncomputable def OrcOk (cx : Cx) (d : Nat) (orc : Orc) : Prop := ∀ a as σ v σ', orc a as σ = some (v, σ') → CodeE cx d a as σ v σ'
theorem callV_ok {orc : Orc} {fv : Value} {as : List AV} (O : OrcOk cx d orc) (h : callV orc fv as σ = some (v, σ')) : OpE cx d as σ (callF fv) v σ' := by
  cases fv <;> first | exact no h | exact (O _ _ _ _ _ h).op | exact biV_ok h | exact tyV_ok h
end
end Mine

end

noncomputable section
open PySem PySem.W PyProof.Rows
set_option Elab.async false
set_option maxRecDepth 100000
set_option linter.unusedVariables false
namespace Mine

noncomputable def plainTest : Expr → Bool
  | .Name .. | .Call .. | .Attribute .. | .Subscript .. | .Constant .. => true
  | _ => false

noncomputable def intsTo (k : Int) : List AV := (List.range k.toNat).map fun i => .int (i : Nat)

/-- a comprehension over pairs -/
noncomputable def compZ (y z : Str) (tst : Loc → Sto → Option (Bool × Sto)) (elt : Loc → Sto → Option (AV × Sto)) : List (AV × AV) → Loc → Sto → Option (List AV × Sto)
  | [], _, σ => some ([], σ)
  | p :: r, ρ, σ => go (tst (setL (setL ρ y p.1) z p.2) σ) fun t σ₁ => iff t
      (go (elt (setL (setL ρ y p.1) z p.2) σ₁) fun w σ₂ => go (compZ y z tst elt r (setL (setL ρ y p.1) z p.2) σ₂) fun ws σ₃ => some (w :: ws, σ₃))
      (compZ y z tst elt r (setL (setL ρ y p.1) z p.2) σ₁)

noncomputable def scopeOk2 (scope sc : Scope) (ρ : Loc) (y z : Str) : Bool :=
  scopeOk scope sc ρ y && (scope.names.lookup z == some .local) && !(y == z)

section
variable {β : Type}
noncomputable def inCall (e : Expr) (k : Expr → List Expr → List Keyword → Pos → Option β) : Option β := match e with
  | .Call f as ks p => k f as ks p
  | _ => none
noncomputable def inAttr (e : Expr) (k : Expr → Str → Pos → Option β) : Option β := match e with
  | .Attribute o name p => k o name p
  | _ => none
end
noncomputable def npOf (e : Expr) : Option (Str × Pos) := match e with
  | .Name x p => some (x, p)
  | _ => none
noncomputable def nmOf (e : Expr) : Option Str := goO (npOf e) fun p => some p.1
noncomputable def zipOf (e : Expr) : Option (Str × Pos × Expr × Expr) := inCall e fun f as ks _ => goO (npOf f) fun q => pre ks.isEmpty (goO (twoOf as) fun p => some (q.1, q.2, p.1, p.2))
noncomputable def constOf (e : Expr) : Option Const := match e with
  | .Constant c _ _ => some c
  | _ => none
noncomputable def boolC (c : Const) : Option Bool := match c with
  | .bool b => some b
  | _ => none
noncomputable def boolOf (e : Expr) : Option Bool := goO (constOf e) boolC
noncomputable def tupOf (e : Expr) : Option (List Expr) := match e with
  | .Tuple es _ _ => some es
  | _ => none
/-- o of o.values() -/
noncomputable def valsOf (e : Expr) : Option Expr := inCall e fun f as ks pos => inAttr f fun o name apos => pre (as.isEmpty && ks.isEmpty && notSuper o && (apos.endLine == pos.line) && (name == "values")) (some o)
noncomputable def natC (c : Const) : Option Nat := match c with
  | .int i => asN i some
  | _ => none
noncomputable def natOf (e : Expr) : Option Nat := goO (constOf e) natC
noncomputable def unOf (e : Expr) : Option (UnaryOp × Expr) := match e with
  | .UnaryOp op x _ => some (op, x)
  | _ => none
noncomputable def usub (op : UnaryOp) : Bool := match op with
  | .USub => true
  | _ => false
noncomputable def negOf (e : Expr) : Option Expr := goO (unOf e) fun p => pre (usub p.1) (some p.2)
noncomputable def sliceOf (e : Expr) : Option (Option Expr × Option Expr × Option Expr) := match e with
  | .Slice lo hi st _ => some (lo, hi, st)
  | _ => none
noncomputable def nilO {α β : Type} (x : Option α) (y : Option β) : Option β := match x with
  | none => y
  | some _ => none
inductive CompK where
  | one (y : Str) (iter : Expr) (ifs : List Expr)
  | two (y z f : Str) (fp : Pos) (a b : Expr) (ifs : List Expr)
  | vals (y : Str) (o : Expr) (b : Bool)
noncomputable def valK (elt : Expr) (y : Str) (iter : Expr) (ifs : List Expr) : Option (Expr × Bool) :=
  pre ifs.isEmpty (goO (tupOf elt) fun es => goO (twoOf es) fun p => goO (nmOf p.1) fun x => goO (boolOf p.2) fun b => goO (valsOf iter) fun o => pre (x == y) (some (o, b)))
noncomputable def twoK (g : Comprehension) : Option CompK := goO (tupOf g.target) fun es => goO (twoOf es) fun p => goO (nmOf p.1) fun y => goO (nmOf p.2) fun z => goO (zipOf g.iter) fun q => some (.two y z q.1 q.2.1 q.2.2.1 q.2.2.2 g.ifs)
noncomputable def compK (elt : Expr) (gens : List Comprehension) : Option CompK := goO (oneOf gens) fun g => pre (decide (g.is_async = 0))
  (optG (nmOf g.target) (twoK g) fun y => optG (valK elt y g.iter g.ifs) (some (.one y g.iter g.ifs)) fun p => some (.vals y p.1 p.2))
noncomputable def isTy (T : String) (a : AV) : Bool := match a with
  | .val v => match v with
    | .type U => U == T
    | _ => false
  | _ => false

noncomputable def rngOf (e : Expr) : Option (Str × Pos × Expr) := inCall e fun f as ks _ => goO (npOf f) fun q => goO (oneOf as) fun a => pre (ks.isEmpty && notStar a && (q.1 == "range")) (some (q.1, q.2, a))

structure Ev where
  E : ∀ {R : Type}, Scope → Expr → Loc → Sto → (AV → Sto → Option R) → Option R
  L : ∀ {R : Type}, Scope → List Expr → Loc → Sto → (List AV → Sto → Option R) → Option R
  B : ∀ {R : Type}, Scope → Expr → Loc → Sto → (Bool → Sto → Option R) → Option R
  A : ∀ {R : Type}, Scope → BoolOp → List Expr → Loc → Sto → (Bool → Sto → Option R) → Option R
  I : ∀ {R : Type}, Scope → Expr → Loc → Sto → (List AV → Sto → Option R) → Option R

section
variable (G : GT) (orc : Orc) (n : Ev) {R : Type}
noncomputable def impl (kd : NameKind) : Bool := match kd with
  | .globalImplicit => true
  | _ => false
noncomputable def n_name (sc : Scope) (x : Str) (ρ : Loc) (σ : Sto) (k : AV → Sto → Option R) : Option R := pre (!(x == ("__debug__" : Str))) (optG (ρ.lookup x)
  (goO (sc.names.lookup x) fun kd => pre (impl kd) (optG (G.glob.lookup x) (goO (G.bi.lookup x) fun w => k (.val w) σ) fun v => k v σ)) fun v => k v σ)
noncomputable def n_const (c : Const) (σ : Sto) (k : AV → Sto → Option R) : Option R := match c with
  | .int i => k (.int i) σ
  | .str x => k (.str x) σ
  | .bool b => k (.bool b) σ
  | .none => k .none σ
  | _ => none
noncomputable def n_unary (sc : Scope) (op : UnaryOp) (x : Expr) (ρ : Loc) (σ : Sto) (k : AV → Sto → Option R) : Option R := match op with
  | .Not => n.E sc x ρ σ fun a σ₁ => asB a fun t => k (.bool (!t)) σ₁
  | .USub => n.E sc x ρ σ fun a σ₁ => asI a fun t => k (.int (-t)) σ₁
  | _ => none
noncomputable def n_cmp (sc : Scope) (l : Expr) (ops : List CmpOp) (rs : List Expr) (ρ : Loc) (σ : Sto) (k : Bool → Sto → Option R) : Option R :=
  goO (oneOf ops) fun op => goO (oneOf rs) fun r => pre (!behindInMarks op r) (n.E sc l ρ σ fun a σ₁ => n.E sc r ρ σ₁ fun b σ₂ => goO (cmpV op a b σ₂) fun t => k t σ₂)
noncomputable def n_bool (sc : Scope) (op : BoolOp) (vs : List Expr) (ρ : Loc) (σ : Sto) (k : AV → Sto → Option R) : Option R := match op with
  | .And => goO (twoOf vs) fun p => n.E sc p.1 ρ σ fun a σ₁ => asB a fun t => iff t (n.E sc p.2 ρ σ₁ k) (k (.bool false) σ₁)
  | .Or => none
noncomputable def n_slice (lo hi st : Option Expr) (a : AV) (σ₁ : Sto) (k : AV → Sto → Option R) : Option R := nilO hi (optG lo
  (goO st fun s => goO (negOf s) fun x => goO (natOf x) fun j => pre (decide (j = 1)) (asTR a (fun l => pre (decide (l.length ≤ 100000)) (k (.tup l.reverse) σ₁)) fun j => goO (lstAt σ₁ j) fun l => k (.ref σ₁.length) (σ₁ ++ [.lst l.reverse])))
  fun l => nilO st (goO (natOf l) fun j => asT a fun l => pre (decide (1 ≤ j ∧ j ≤ l.length ∧ l.length ≤ 100000)) (k (.tup (l.drop j)) σ₁)))
noncomputable def n_item (sc : Scope) (i : Expr) (a : AV) (ρ : Loc) (σ₁ : Sto) (k : AV → Sto → Option R) : Option R := optG (sliceOf i)
  (n.E sc i ρ σ₁ fun b σ₂ => goO (getV a b σ₂) fun v => k v σ₂) fun q => n_slice q.1 q.2.1 q.2.2 a σ₁ k
noncomputable def n_call (sc : Scope) (f : Expr) (as : List Expr) (pos : Pos) (ρ : Loc) (σ : Sto) (k : AV → Sto → Option R) : Option R := optG (npOf f)
  (inAttr f fun o name apos => pre (notSuper o && (apos.endLine == pos.line)) (n.E sc o ρ σ fun x σ₁ => goO (methV G x name σ₁) fun fv => n.L sc as ρ σ₁ fun vs σ₂ => go (callV orc fv (x :: vs) σ₂) k))
  fun q => pre (ρ.lookup q.1).isNone (n_name G sc q.1 ρ σ fun x σ₁ => asV x fun fv => n.L sc as ρ σ₁ fun vs σ₂ => go (callV orc fv vs σ₂) k)
noncomputable def n_tests (sc : Scope) (es : List Expr) (ρ : Loc) (σ : Sto) (k : Bool → Sto → Option R) : Option R := match es with
  | [] => k true σ
  | e :: r => pre r.isEmpty (n.B sc e ρ σ k)
noncomputable def n_comp (sc : Scope) (elt : Expr) (gens : List Comprehension) (scope : Scope) (ρ : Loc) (σ : Sto) (k : AV → Sto → Option R) : Option R := goO (compK elt gens) fun kd => match kd with
  | .one y iter ifs => pre (scopeOk scope sc ρ y && notSet iter) (n.I sc iter ρ σ fun items σ₁ =>
      pre (decide (items.length ≤ 1000)) (go (compL y (fun ρ σ => n_tests n (relS scope sc) ifs ρ σ fun t σ => some (t, σ)) (fun ρ σ => n.E (relS scope sc) elt ρ σ fun v σ => some (v, σ)) items (capt scope sc ρ) σ₁) fun ws σ₂ => k (.ref σ₂.length) (σ₂ ++ [.lst ws])))
  | .two y z f fp a b ifs => pre (scopeOk2 scope sc ρ y z && noStars [a, b]) (n_name G sc f ρ σ fun x σ₀ => pre (isTy "zip" x)
      (n.E sc a ρ σ₀ fun p σ₁ => asT p fun l => n.E sc b ρ σ₁ fun q σ₂ => asT q fun m => pre (decide (l.length = m.length ∧ l.length ≤ 1000))
        (go (compZ y z (fun ρ σ => n_tests n (relS scope sc) ifs ρ σ fun t σ => some (t, σ)) (fun ρ σ => n.E (relS scope sc) elt ρ σ fun v σ => some (v, σ)) (l.zip m) (capt scope sc ρ) σ₂) fun ws σ₃ => k (.ref σ₃.length) (σ₃ ++ [.lst ws]))))
  | .vals y o b => pre (scopeOk scope sc ρ y && !(y == ("__debug__" : Str))) (n.E sc o ρ σ fun x σ₁ => asR x fun i => goO (dctI σ₁ i) fun l => pre (decide (l.length ≤ 1000)) (k (.ref σ₁.length) (σ₁ ++ [.lst (l.map fun p => .tup [p.2, .bool b])])))
noncomputable def n_E (sc : Scope) (e : Expr) (ρ : Loc) (σ : Sto) (k : AV → Sto → Option R) : Option R := match e with
  | .Name x _ => n_name G sc x ρ σ k
  | .Constant c _ _ => n_const c σ k
  | .BinOp l op r _ => n.E sc l ρ σ fun a σ₁ => n.E sc r ρ σ₁ fun b σ₂ => go (binV op a b σ₂) k
  | .Compare l ops rs _ => n_cmp n sc l ops rs ρ σ fun t σ => k (.bool t) σ
  | .UnaryOp op x _ => n_unary n sc op x ρ σ k
  | .BoolOp op vs _ => n_bool n sc op vs ρ σ k
  | .IfExp t x y _ => n.B sc t ρ σ fun b σ₁ => iff b (n.E sc x ρ σ₁ k) (n.E sc y ρ σ₁ k)
  | .Tuple es _ _ => pre (noStars es) (n.L sc es ρ σ fun vs σ₁ => pre (decide (vs.length ≤ 1000)) (k (.tup vs) σ₁))
  | .List es _ => pre (noStars es) (n.L sc es ρ σ fun vs σ₁ => pre (decide (vs.length ≤ 1000)) (k (.ref σ₁.length) (σ₁ ++ [.lst vs])))
  | .Dict ks vs _ => pre (ks.isEmpty && vs.isEmpty) (k (.ref σ.length) (σ ++ [.edct]))
  | .Attribute o name _ => pre (notSuper o) (n.E sc o ρ σ fun a σ₁ => goO (attrV G a name σ₁) fun v => k v σ₁)
  | .Subscript o i _ => n.E sc o ρ σ fun a σ₁ => n_item n sc i a ρ σ₁ k
  | .Call f as ks pos => pre (noStars as && ks.isEmpty && decide (as.length < 20)) (n_call G orc n sc f as pos ρ σ k)
  | .ListComp elt gens scope _ => n_comp G n sc elt gens scope ρ σ k
  | _ => none
noncomputable def n_L (sc : Scope) (es : List Expr) (ρ : Loc) (σ : Sto) (k : List AV → Sto → Option R) : Option R := match es with
  | [] => k [] σ
  | e :: r => n.E sc e ρ σ fun v σ₁ => n.L sc r ρ σ₁ fun vs σ₂ => k (v :: vs) σ₂
noncomputable def n_Bv (sc : Scope) (e : Expr) (ρ : Loc) (σ : Sto) (k : Bool → Sto → Option R) : Option R := pre (plainTest e) (n.E sc e ρ σ fun a σ₁ => asB a fun t => k t σ₁)
noncomputable def n_B (sc : Scope) (e : Expr) (ρ : Loc) (σ : Sto) (k : Bool → Sto → Option R) : Option R := match e with
  | .UnaryOp op x _ => match op with
    | .Not => n.B sc x ρ σ fun t σ₁ => k (!t) σ₁
    | _ => none
  | .BoolOp op vs _ => n.A sc op vs ρ σ k
  | .Compare l ops rs _ => n_cmp n sc l ops rs ρ σ k
  | e => n_Bv n sc e ρ σ k
noncomputable def n_A (sc : Scope) (op : BoolOp) (es : List Expr) (ρ : Loc) (σ : Sto) (k : Bool → Sto → Option R) : Option R := match es with
  | [] => k (op == .And) σ
  | e :: r => n.B sc e ρ σ fun t σ₁ => match op with
      | .And => iff t (n.A sc .And r ρ σ₁ k) (k false σ₁)
      | .Or => iff t (k true σ₁) (n.A sc .Or r ρ σ₁ k)
noncomputable def n_I (sc : Scope) (e : Expr) (ρ : Loc) (σ : Sto) (k : List AV → Sto → Option R) : Option R := optG (rngOf e)
  (n.E sc e ρ σ fun x σ₁ => asT x fun l => k l σ₁)
  fun q => n_name G sc q.1 ρ σ fun x σ₀ => pre (isTy "range" x) (n.E sc q.2.2 ρ σ₀ fun y σ₁ => asI y fun j => pre (decide (0 ≤ j ∧ j ≤ 1000)) (k (intsTo j) σ₁))
end
noncomputable def evBot : Ev where
  E := fun _ _ _ _ _ => none
  L := fun _ _ _ _ _ => none
  B := fun _ _ _ _ _ => none
  A := fun _ _ _ _ _ _ => none
  I := fun _ _ _ _ _ => none
noncomputable def evUp (G : GT) (orc : Orc) (n : Ev) : Ev where
  E := n_E G orc n
  L := n_L n
  B := n_B n
  A := n_A n
  I := n_I G n
noncomputable def ev (G : GT) (orc : Orc) : Nat → Ev
  | 0 => evBot
  | n + 1 => evUp G orc (ev G orc n)

noncomputable def okVal (e : Expr) : Bool := match e with
  | .Tuple ws _ _ => !ws.all (constantsAlone 8)
  | _ => true
noncomputable def isLC (e : Expr) : Bool := match e with
  | .ListComp .. => true
  | _ => false

structure Es where
  S : ∀ {R : Type}, Scope → Stmt → Loc → Sto → (Flw → Loc → Sto → Option R) → Option R
  Ss : ∀ {R : Type}, Scope → List Stmt → Loc → Sto → (Flw → Loc → Sto → Option R) → Option R
section
variable (G : GT) (F : Ev) (n : Es) {R : Type}
noncomputable def bodyF (sc : Scope) (body : List Stmt) (ρ : Loc) (σ : Sto) : Option (Flw × Loc × Sto) := n.Ss sc body ρ σ fun f ρ σ => some (f, ρ, σ)
noncomputable def n_for (sc : Scope) (y : Str) (iter : Expr) (body : List Stmt) (ρ : Loc) (σ : Sto) (k : Flw → Loc → Sto → Option R) : Option R := pre ((sc.names.lookup y == some .local) && notSet iter) (iff (rngOf iter).isNone
  (F.E sc iter ρ σ fun x σ₁ => asTR x (fun l => go3 (forL y (bodyF n sc body) l ρ σ₁) k) (fun j => go3 (forR y (bodyF n sc body) j 100000 0 ρ σ₁) k))
  (F.I sc iter ρ σ fun items σ₁ => go3 (forL y (bodyF n sc body) items ρ σ₁) k))
noncomputable def n_assign (sc : Scope) (t value : Expr) (ρ : Loc) (σ : Sto) (k : Flw → Loc → Sto → Option R) : Option R := match t with
  | .Name y _ => pre ((sc.names.lookup y == some .local) && !isLC value && notComp value) (F.E sc value ρ σ fun v σ₁ => k .next (setL ρ y v) σ₁)
  | .Tuple es _ _ => goO (tupleNames es) fun xs => pre (notComp value && decide xs.Nodup && xs.all (fun x => sc.names.lookup x == some .local) && okVal value) (F.E sc value ρ σ fun x σ₁ => asT x fun vs => pre (decide (xs.length = vs.length)) (k .next (setLs ρ xs vs) σ₁))
  | .Subscript o i _ => pre (notComp value) (F.E sc value ρ σ fun v σ₁ => F.E sc o ρ σ₁ fun a σ₂ => F.E sc i ρ σ₂ fun b σ₃ => goO (setV a b v σ₃) fun σ₄ => k .next ρ σ₄)
  | .Attribute o name _ => pre (notComp value) (F.E sc value ρ σ fun v σ₁ => F.E sc o ρ σ₁ fun a σ₂ => goO (setAttrV G a name v σ₂) fun σ₃ => k .next ρ σ₃)
  | _ => none
noncomputable def n_S (sc : Scope) (st : Stmt) (ρ : Loc) (σ : Sto) (k : Flw → Loc → Sto → Option R) : Option R := match st with
  | .Expr e _ => pre (notComp e) (F.E sc e ρ σ fun _ σ₁ => k .next ρ σ₁)
  | .Return v _ => goO v fun e => F.E sc e ρ σ fun v σ₁ => k (.ret v) ρ σ₁
  | .Continue _ => k .cont ρ σ
  | .Pass _ => k .next ρ σ
  | .If t xs ys _ => F.B sc t ρ σ fun b σ₁ => iff b (n.Ss sc xs ρ σ₁ k) (n.Ss sc ys ρ σ₁ k)
  | .While t body els _ => pre els.isEmpty (go3 (whileL (fun ρ σ => F.B sc t ρ σ fun b σ => some (b, σ)) (bodyF n sc body) 100000 ρ σ) k)
  | .For t iter body els _ => goO (nmOf t) fun y => pre els.isEmpty (n_for F n sc y iter body ρ σ k)
  | .Assign ts value _ => goO (oneOf ts) fun t => n_assign G F sc t value ρ σ k
  | _ => none
noncomputable def n_Ss (sc : Scope) (ss : List Stmt) (ρ : Loc) (σ : Sto) (k : Flw → Loc → Sto → Option R) : Option R := match ss with
  | [] => k .next ρ σ
  | st :: r => n.S sc st ρ σ fun f ρ₁ σ₁ => match f with
    | .next => n.Ss sc r ρ₁ σ₁ k
    | .brk => k .brk ρ₁ σ₁
    | .cont => k .cont ρ₁ σ₁
    | .ret v => k (.ret v) ρ₁ σ₁
end
noncomputable def esBot : Es where
  S := fun _ _ _ _ _ => none
  Ss := fun _ _ _ _ _ => none
noncomputable def es (G : GT) (F : Ev) : Nat → Es
  | 0 => esBot
  | n + 1 => { S := n_S G F (es G F n), Ss := n_Ss (es G F n) }

/-- a call's body in one piece -/
noncomputable def bodyK (G : GT) (orc : Orc) (f : FnI) (as : List AV) (σ : Sto) : Option (AV × Sto) := (es G (ev G orc 60) 60).Ss f.fd.scope f.body (f.names.zip as) σ fun fl _ σ' => some (flv fl, σ')
noncomputable def noneOf (a : AV) (x : Option α) : Option α := match a with
  | .none => x
  | _ => none
noncomputable def callN (G : GT) : Nat → Orc
  | 0, _, _, _ => none
  | n + 1, a, as, σ => optG (G.fn.lookup a)
    (goO (G.cls.lookup a) fun fI => go (callN G n fI (.ref (σ.length + 1) :: as) (σ ++ [.attrs []] ++ [.inst a σ.length])) fun v σ' => noneOf v (some (.ref (σ.length + 1), σ')))
    fun f => pre (decide (as.length = f.names.length)) (bodyK G (callN G n) f as σ)

theorem callN_fn {d : Nat} {a : Addr} {f : FnI} (hf : G.fn.lookup a = some f) {as : List AV} (hl : as.length = f.names.length) (σ : Sto) : callN G (d + 1) a as σ = bodyK G (callN G d) f as σ := by
  rw [callN, hf]
  show pre (decide (as.length = f.names.length)) _ = _
  rw [decide_eq_true hl]; rfl
theorem callN_cls {d : Nat} {a fI : Addr} (hf : G.fn.lookup a = none) (hc : G.cls.lookup a = some fI) (as : List AV) (σ : Sto) :
    callN G (d + 1) a as σ = go (callN G d fI (.ref (σ.length + 1) :: as) (σ ++ [.attrs []] ++ [.inst a σ.length])) fun v σ' => noneOf v (some (.ref (σ.length + 1), σ')) := by
  rw [callN, hf, hc]; rfl
end Mine

end

noncomputable section
open PySem PySem.W PyProof.Rows
set_option Elab.async false
set_option maxRecDepth 100000
set_option linter.unusedVariables false
namespace Mine
noncomputable abbrev SimI (cx : Cx) (d : Nat) (env : Env) (ρ : Loc) (σ : Sto) (iter : Expr) (items : List AV) (σ₁ : Sto) : Prop :=
  ∀ (A : Around) (α : List Addr) (s : Shared), Room A d → SO cx α σ s.heap → FO cx env α ρ s.heap →
    wpAny (model cx.prog cx.w) A (eval iter env) (fun x s₁ => wpAny (model cx.prog cx.w) A (pyIter x) (fun it s₂ => ∃ I α₁, it = .ref I ∧ Src cx A env α s σ₁ items α₁ I s₂) NoE s₁) NoE s
section
variable {cx : Cx} {d : Nat} {env : Env} {sc : Scope} {ρ ρ' ρ₁ ρ₂ : Loc} {σ σ' σ₁ σ₂ σ₃ : Sto} {v x a b c : AV} {vs : List AV}

theorem src_range (O : EnvOk env sc) {f : Str} {fp pos : Pos} {e : Expr} {k : Int} (hs : notStar e = true) (hf : SimE cx d env ρ σ (eval (.Name f fp) env) (.val (.type "range")) σ₁) (he : SimE cx d env ρ σ₁ (eval e env) (.int k) σ₂) (h0 : 0 ≤ k) (h1 : k ≤ 1000) :
    SimI cx d env ρ σ (.Call (.Name f fp) [e] [] pos) (intsTo k) σ₂ := by
  intro A α s R S F
  show wpAny _ A (do callWith pos (← eval (.Name f fp) env) [] (backTo pos (starEach [e] env)) (backToKw pos (keywordEach [] env))) _ _ s
  refine wpAny_bind (wpAny_mono (hf A α s R S F) (fun fv s₁ ⟨α₁, w₁, r₁⟩ => ?_) fun _ _ e => e)
  simp only [rep] at r₁
  subst r₁
  have hl : SimL cx d env ρ σ₁ (spliced (backTo pos (starEach [e] env))) [.int k] σ₂ := L_cons hs he L_nil
  refine callWith_plain (cx := cx) (by unfold noStars; simp [hs]) keeper_type (wpAny_mono (hl A α₁ s₁ R w₁.so (F.fwd S w₁)) (fun cs s₂ ⟨α₂, w₂, r₂⟩ => ⟨w₂.so.keep, ?_⟩) fun _ _ e => e)
  simp only [reps, rep] at r₂
  obtain ⟨_, _, rfl, ⟨t, rfl⟩, rfl⟩ := r₂
  have w := w₁.trans w₂
  refine call_range_1 ?_
  have hsm : Builtin.Range.small 0 k 1 = true := small_one (by lia) (by lia) (by lia) (by lia)
  refine wpAny_pyIter_range (IsRange.new _ _ _ _ _ _ _) hsm ?_
  have hk : ∀ b o, s₂.heap.get? b = some o → ((s₂.heap.push { cls := .type "range", data := .fields #[.int 0 s₂.toks, .int k t, .int 1 (s₂.toks + 1)] }).push { cls := .type "range_iterator", data := .fields #[rawInt 0, rawInt (Builtin.Range.rangeSize 0 k 1), rawInt 1] }).get? b = some o := fun b o e => Heap.get?_push_of_some _ (Heap.get?_push_of_some _ e)
  have hsz : Builtin.Range.rangeSize 0 k 1 = k := by rw [rangeSize_one]; split <;> lia
  generalize hH : (s₂.heap.push { cls := .type "range", data := .fields #[.int 0 s₂.toks, .int k t, .int 1 (s₂.toks + 1)] }) = H at *
  refine ⟨_, α₂, rfl, ?_⟩
  have hfr := fresh_size H
  have hHk : ∀ b o, s₂.heap.get? b = some o → H.get? b = some o := fun b o e => by rw [← hH]; exact Heap.get?_push_of_some _ e
  have hI2 : s₂.heap.get? H.objs.size = none := by
    cases q : s₂.heap.get? H.objs.size with
    | none => rfl
    | some o => rw [hHk _ o q] at hfr; cases hfr
  have hI0 : s.heap.get? H.objs.size = none := by
    cases q : s.heap.get? H.objs.size with
    | none => rfl
    | some o => exact absurd hI2 (w.live _ (by rw [q]; intro z; cases z))
  have F₂ := F.fwd S w
  refine ⟨w.trans (.keeps w.so ⟨_, _, rfl⟩ hk), [H.objs.size], [H.objs.size], fun i v => ∃ t, v = .int (0 + i * 1) t, fun i h => IsRangeIter h H.objs.size (0 + (i : Nat) * 1) (((intsTo k).length : Int) - (i : Nat)) 1, ?_, ?_, ?_, ?_, ?_⟩
  · exact Walks.range R.handled H.objs.size 0 1 (intsTo k).length
  · have : ((intsTo k).length : Int) = k := by unfold intsTo; rw [List.length_map, List.length_range]; lia
    rw [this]
    show IsRangeIter _ _ _ _ _
    rw [hsz]
    simpa using Heap.get?_push_size _ rfl
  · intro b hb
    simp only [List.mem_cons, List.not_mem_nil, or_false] at hb
    subst hb
    exact ⟨fun m => w.so.live m hI2, fun m => (F₂.off _ m).2 hI2, by rw [Heap.get?_push_size _ rfl]; intro z; cases z⟩
  · intro b hb
    simp only [List.mem_cons, List.not_mem_nil, or_false] at hb
    subst hb
    refine ⟨hI0, fun h i st => ?_⟩
    have st' : h.get? H.objs.size = some _ := st
    exact ⟨(by rw [st']; intro z; cases z), fun vs n e => (by rw [IsT, st'] at e; simp at e)⟩
  · rintro i v av ⟨t, rfl⟩ hav h' α' tk he'
    unfold intsTo at hav
    rw [List.getElem?_map] at hav
    obtain ⟨j, hj, rfl⟩ := Option.map_eq_some_iff.mp hav
    have : j = i := by
      have := List.getElem?_eq_some_iff.mp hj
      obtain ⟨hlt, e⟩ := this
      simp at e; exact e.symm
    subst this
    simp only [rep]
    exact ⟨t, by simp⟩
end
end Mine

end

noncomputable section
open PySem PySem.W PyProof.Rows
set_option Elab.async false
set_option maxRecDepth 100000
set_option linter.unusedVariables false
namespace Mine
section
variable {cx : Cx} {d : Nat} {env : Env} {sc : Scope} {ρ ρ' ρ₁ ρ₂ : Loc} {σ σ' σ₁ σ₂ σ₃ : Sto} {v x a b c : AV} {vs : List AV}

theorem DictOf_at {K : Type} [DecidableEq K] {h : Heap} {knd : KeyKind cx.prog cx.w K} {t : Addr} {kvs : List (K × Value)} (x : h.DictOf knd t kvs) : ∃ ep, h.DictAt knd t kvs ep := by
  obtain ⟨o, es, ep, r⟩ := x
  exact ⟨ep, o, es, r⟩
theorem repd_get {K : Type} {X : List Addr} {h : Heap} {α : List Addr} : ∀ (l : List (K × AV)) (kvs : List (K × Value)), repd X h α l kvs → ∀ (i : Nat) (av : AV), (l.map (·.2))[i]? = some av → ∀ k v, kvs[i]? = some (k, v) → rep X h α av v
  | [], _, r, i, av, e => by simp at e
  | (k', x) :: l, kvs, r, i, av, e => by
    rw [repd] at r
    obtain ⟨v, r', rfl, h1, h2⟩ := r
    intro k u hu
    cases i with
    | zero => simp at e hu; obtain ⟨rfl, rfl⟩ := hu; exact e ▸ h1
    | succ i => exact repd_get l r' h2 i av (by simpa using e) k u (by simpa using hu)

/-- where the walk over a dict's values stands at first -/
structure ValsAt (cx : Cx) (env : Env) (α : List Addr) (s : Shared) (σ₁ : Sto) (l : List (Int × AV)) (s₂ : Shared) (I t : Addr) (α₁ : List Addr) (ep : Nat) (kvs : List (Int × Value)) : Prop where
  w : Fwd cx [] α s σ₁ α₁ s₂
  hm : t ∈ α₁
  hI0 : s.heap.get? I = none
  hIα : I ∉ α₁
  hIt : I ≠ t
  hIf : I ∉ frA env
  hit : s₂.heap.IsValIter I t 0 kvs.length ep
  hat : s₂.heap.DictAt (intKind cx.prog cx.w) t kvs ep
  hr : repd cx.ban s₂.heap α₁ l kvs

theorem vals_iter {A : Around} {α : List Addr} {s : Shared} (R : Room A d) (S : SO cx α σ s.heap) (F : FO cx env α ρ s.heap) {o : Expr} {name : Str} {apos pos : Pos} {i : Nat} {l : List (Int × AV)} (hsup : notSuper o = true) (hline : (apos.endLine == pos.line) = true) (hn : name = "values")
    (ho : SimE cx d env ρ σ (eval o env) (.ref i) σ₁) (hl : dctI σ₁ i = some l) :
    wpAny (model cx.prog cx.w) A (eval (.Call (.Attribute o name apos) [] [] pos) env) (fun x s₁ => wpAny (model cx.prog cx.w) A (pyIter x) (fun it s₂ => ∃ I t α₁ ep kvs, it = .ref I ∧ ValsAt cx env α s σ₁ l s₂ I t α₁ ep kvs) NoE s₁) NoE s := by
  obtain ⟨ce, hi, hc⟩ := dctI_some hl
  rw [arm_eval_Call, base_of hsup]
  refine wpAny_bind (wpAny_mono (ho A α s R S F) (fun f s₁ ⟨α₁, w₁, r₁⟩ => ?_) fun _ _ e => e)
  refine wpAny_bind (wpAny_standAt ?_)
  have hpos : methodCallPos true o env apos pos = pure pos := by unfold methodCallPos; simp [hline]
  unfold methodCall
  rw [show methodCallForm (([] : List Expr).length + ([] : List Keyword).length) (backTo pos (starEach [] env)) (backToKw pos (keywordEach [] env)) = true from rfl]
  subst hn
  refine wpAny_bind (wpAny_holding (M_dctI (d := d) hi hc PySem.F.slot_dict_values PySem.F.type_dict_values A α₁ s₁ f _ _ _ R w₁.so r₁ ?_))
  refine wpAny_bind (wpAny_of_eq hpos ?_)
  refine callWith_plain (cx := cx) (es := []) rfl keeper_builtin (wpAny_items_nil ⟨w₁.so.keep, ?_⟩)
  obtain ⟨t, rfl, ha, hm, hcell⟩ := cell_of w₁.so hi r₁
  obtain ⟨kvs, hd, hz', hr⟩ := cellI hcell hc
  refine call_meetsIn PySem.F.slot_dict_values hd.typeIs PySem.F.entry_dict_values (PySem.F.args_dict_values_1 _) (meets_dict_values (intKind cx.prog cx.w) t (w₁.so.notMod hm)) ⟨⟨kvs, hd⟩, ?_⟩
  show wpAny _ _ _ _ _ _
  obtain ⟨ep, hat⟩ := DictOf_at (hd.push { cls := .type "dict_values", data := .fields #[.ref t] })
  refine wpAny_pyIter_values ⟨_, Heap.get?_push_size _ rfl, rfl, rfl⟩ hat ?_
  have hfr := fresh_size (s₁.heap.push { cls := .type "dict_values", data := .fields #[.ref t] })
  have hHk : ∀ b o, s₁.heap.get? b = some o → (s₁.heap.push { cls := .type "dict_values", data := .fields #[.ref t] }).get? b = some o := fun b o e => Heap.get?_push_of_some _ e
  have hI1 : s₁.heap.get? (s₁.heap.push { cls := .type "dict_values", data := .fields #[.ref t] }).objs.size = none := by
    cases q : s₁.heap.get? (s₁.heap.push { cls := .type "dict_values", data := .fields #[.ref t] }).objs.size with
    | none => rfl
    | some o => rw [hHk _ o q] at hfr; cases hfr
  have F₁ := F.fwd S w₁
  refine ⟨_, t, α₁, ep, kvs, rfl, w₁.trans (.keeps w₁.so ⟨_, _, rfl⟩ fun b o e => Heap.get?_push_of_some _ (hHk b o e)), hm, ?_, fun m => w₁.so.live m hI1, fun z => w₁.so.live hm (z ▸ hI1), fun m => (F₁.off _ m).2 hI1, ⟨_, Heap.get?_push_size _ rfl, rfl, rfl⟩, hat.push _, repd_mono (fun _ _ _ _ t => Heap.get?_push_of_some _ (hHk _ _ t)) ⟨[], (List.append_nil _).symm⟩ _ _ hr⟩
  cases q : s.heap.get? (s₁.heap.push { cls := .type "dict_values", data := .fields #[.ref t] }).objs.size with
  | none => rfl
  | some o => exact absurd hI1 (w₁.live _ (by rw [q]; intro z; cases z))

theorem load_kept {env : Env} {A : Around} {α : List Addr} {s : Shared} (hk : env.scope.kind = .function) {x : Str} {p : Pos} (hd : (x == ("__debug__" : Str)) = false) (F : FO cx env α ρ s.heap) (e : ρ.lookup x = some v) :
    wpAny (model cx.prog cx.w) A (eval (.Name x p) env) (fun cv s' => s' = s ∧ rep cx.ban s.heap α v cv) NoE s := by
  refine wpAny_Name ?_ hd
  obtain ⟨m, hn, hv⟩ := F.vars
  rcases hv x v e with ⟨hl, w, hm, r⟩ | ⟨hl, cc, w, hc, hcell, r⟩
  · exact wpAny_loadName_local hk hl hn hm ⟨rfl, r⟩
  · exact wpAny_loadName_cell hk hl hc hcell ⟨rfl, r⟩

theorem compG_vals {y : Str} {t : Bool} : ∀ (l : List AV) (ρ : Loc) (σ : Sto), compG (fun ρ v => setL ρ y v) (fun _ σ => some (true, σ)) (fun ρ σ => (ρ.lookup y).map fun v => (AV.tup [v, .bool t], σ)) l ρ σ = some (l.map fun v => .tup [v, .bool t], σ)
  | [], _, _ => rfl
  | v :: r, ρ, σ => by
    unfold compG
    simp only [lookup_setL, if_pos, Option.map_some, compG_vals r, List.map_cons]

theorem S_vals (O : EnvOk env sc) {o : Expr} {name y : Str} {py p1 p2 pt apos cpos pos : Pos} {kt kc : Nat} {t : Bool} {scope : Scope} {i : Nat} {l : List (Int × AV)} (hs : scopeOk scope sc ρ y = true) (hyd : (y == ("__debug__" : Str)) = false) (hz : l.length ≤ 1000)
    (hsup : notSuper o = true) (hline : (apos.endLine == cpos.line) = true) (hn : name = "values") (ho : SimE cx d env ρ σ (eval o env) (.ref i) σ₁) (hl : dctI σ₁ i = some l) :
    SimE cx d env ρ σ (eval (.ListComp (.Tuple [.Name y p1, .Constant (.bool t) kc p2] kt pt) [⟨.Name y py, .Call (.Attribute o name apos) [] [] cpos, [], 0⟩] scope pos) env) (.ref σ₁.length) (σ₁ ++ [.lst (l.map fun p => .tup [p.2, .bool t])]) := by
  intro A α s R S F
  obtain ⟨hkind, hy, hcell, hnames, hfree⟩ := scopeOk_parts (cx := cx) O hs
  rw [eval_ListComp]
  refine wpAny_comprehension_free (use := none) rfl (fun x => rfl) (closure_of (hfree F)) hkind hnames ?_
  refine wpAny_mono (vals_iter R S F hsup hline hn ho hl) (fun x s₁ h₁ => wpAny_mono h₁ (fun it s₂ ⟨I, t', α₁, ep, kvs, eI, V⟩ => ?_) fun _ _ e => e) fun _ _ e => e
  subst eI
  have F₂ := F.fwd S V.w
  have hlen : l.length = kvs.length := repd_length _ _ V.hr
  have hval : ∀ h i, h.IsValIter I t' i kvs.length ep ∧ h.DictAt (intKind cx.prog cx.w) t' kvs ep → (h.get? I ≠ none ∧ ∀ vs n, ¬ IsT h I vs n) := fun h i st => by
    obtain ⟨⟨o, eo, _, ed⟩, _⟩ := st
    refine ⟨(by rw [eo]; intro z; cases z), fun vs n e => ?_⟩
    rw [e] at eo; cases eo; cases ed
  have T : Iter cx A (relS scope sc) α s α₁ s₂ (.Name y py) I (l.map (·.2)) (fun ρ v => setL ρ y v) [I, t'] [I] [I] (fun u u' => ∀ b o, u.heap.get? b = some o → u'.heap.get? b = some o) (fun i h => h.IsValIter I t' i kvs.length ep ∧ h.DictAt (intKind cx.prog cx.w) t' kvs ep) := by
    refine iter_walk (relS_local O hy) S V.w (by rw [List.length_map, hlen]; exact Walks.dictValues R.handled I t' (Ne.symm V.hIt) kvs ep) ⟨V.hit, V.hat⟩ (fun b hb => ?_) (fun _ h => h) (fun b hb => ?_) (fun i u u' hk hb st => ?_) (fun b hb => ?_) ?_
    · rcases List.mem_cons.mp hb with e | hb
      · rw [e]; exact (hval _ _ ⟨V.hit, V.hat⟩).1
      · rw [List.mem_singleton.mp hb]; exact V.w.so.live V.hm
    · rw [List.mem_singleton.mp hb]; exact ⟨List.mem_cons_self .., V.hIα⟩
    · exact ⟨st.1.at fun o e => hb _ o e, st.2.at' fun o e => hb _ o e⟩
    · rw [List.mem_singleton.mp hb]; exact ⟨V.hI0, hval⟩
    · rintro i v av ⟨k, hkv⟩ hav h' α' tk he'
      exact rep_mono tk he' _ _ (repd_get _ _ V.hr i av hav k v hkv)
  refine comp_core (ρ := ρ) (elt := .Tuple [.Name y p1, .Constant (.bool t) kc p2] kt pt) (iter := .Call (.Attribute o name apos) [] [] cpos) (ifs := []) (pos := pos) O hcell hkind V.w F₂ S.keep T (fun b hb => ?_) (by rw [List.length_map]; exact hz)
    (fun env' O' ρ σ b σ' e α s S F => wpAny_pure (by cases e; exact ⟨rfl, α, .refl S, fun _ _ h => h⟩))
    (fun env' O' ρ σ v σ' e α s S F => ?_) (compG_vals (t := t) (l.map (·.2)) (capt scope sc ρ) σ₁) (fun cv s' α' w r => ⟨α', by rw [List.map_map] at w; exact w, r⟩)
  · rcases List.mem_cons.mp hb with e | hb
    · rw [e]; exact V.hIf
    · rw [List.mem_singleton.mp hb]; exact fun m' => (F₂.off _ m').1 V.hm
  · cases el : ρ.lookup y with
    | none => rw [el] at e; cases e
    | some x =>
      rw [el] at e
      cases e
      refine wpAny_Tuple (wpAny_items_cons (wpAny_mono (load_kept (by rw [O'.scope]; exact O'.kind) hyd F el) (fun cv s₁ ⟨es, r⟩ => ?_) fun _ _ e => e) rfl)
      subst es
      refine wpAny_items_cons (wpAny_Constant_bool (wpAny_items_nil ?_)) rfl
      refine ⟨by rw [sizeLine_eq]; simp, α, .keeps S ⟨_, _, rfl⟩ fun b o e => Heap.get?_push_of_some _ e, ?_, fun b o e => Heap.get?_push_of_some _ e⟩
      simp only [rep]
      refine ⟨_, #[cv, .bool t], 0, rfl, (fun m => S.banLive _ m (fresh_size _)), Heap.get?_push_size _ rfl, ?_⟩
      simp only [reps, rep]
      exact ⟨cv, _, rfl, rep_mono (fun _ _ _ _ t => Heap.get?_push_of_some _ t) ⟨[], (List.append_nil _).symm⟩ _ _ r, _, _, rfl, rfl, rfl⟩
end
end Mine

end

noncomputable section
open PySem PySem.W PyProof.Rows
set_option Elab.async false
set_option maxRecDepth 100000
set_option linter.unusedVariables false
namespace Mine
section
variable {prog : Program} {w : World} {A : Around} {E : Value → Shared → Prop} {s : Shared}

theorem nextOf_tup {it t : Addr} {i : Nat} {items : Array Value} {x : Value} {Q : Value → Shared → Prop} (hit : s.heap.IsTupleIter it t i) (ht : s.heap.IsTuple t items) (hx : items[i]? = some x)
    (hQ : ∀ h', h'.IsTupleIter it t (i + 1) → Heap.SameBut it s.heap h' → Q x { s with heap := h' }) : wpAny (model prog w) A (Builtin.SmallTypes.nextOf (.ref it)) Q E s := by
  obtain ⟨o, ho, hc, hd⟩ := id hit
  obtain ⟨ot, hot, _, nt, hdt⟩ := ht
  unfold Builtin.SmallTypes.nextOf
  refine wpAny_bind (wpAny_callSpecial?_slot (name := Str.ofString "__next__") hit.typeIs F.slot_tuple_iterator_next (wpAny_call_entry F.slot_tuple_iterator_next hit.typeIs F.entry_tuple_iterator_next ?_ (F.args_tuple_iterator_next_1 _)))
  show wpAny _ _ (field (.ref it) 0 >>= _) _ _ s
  refine wpAny_bind (wpAny_field ho hd (x := .ref t) rfl ?_)
  show wpAny _ _ (if (Value.ref t == Value.none) = true then _ else _) _ _ s
  rw [if_neg (show ¬ ((Value.ref t == Value.none) = true) from Bool.false_ne_true)]
  show wpAny _ _ (field (.ref it) 1 >>= _) _ _ s
  refine wpAny_bind (wpAny_field ho hd (x := .int i 0) rfl ?_)
  show wpAny _ _ (seqItems? (.ref t) >>= _) _ _ s
  refine wpAny_bind (wpAny_seqItems hot hdt ?_)
  simp only [Int.toNat_natCast, hx]
  refine wpAny_bind (wpAny_setField ho hd (by simp) (wpAny_pure ⟨x, rfl, wpAny_pure (hQ _ ⟨_, Heap.get?_update_self _ ho (Obj.isFreed_of_fields (Obj.data_mapFields hd _)), (Obj.cls_mapFields ..).trans hc, ?_⟩ (Heap.SameBut.update ..))⟩))
  rw [Obj.data_mapFields hd]; simp [rawInt]

theorem nextOf_tup_end {it t : Addr} {i : Nat} {items : Array Value} {Q : Value → Shared → Prop} (hh : A.handled = none) (hit : s.heap.IsTupleIter it t i) (ht : s.heap.IsTuple t items) (hx : items[i]? = none)
    (hE : ∀ h' e, Heap.ExtBut it s.heap h' → (∃ o, h'.get? e = some o ∧ o.cls = .type "StopIteration") → E (.ref e) { s with heap := h' }) : wpAny (model prog w) A (Builtin.SmallTypes.nextOf (.ref it)) Q E s := by
  obtain ⟨o, ho, hc, hd⟩ := id hit
  obtain ⟨ot, hot, _, nt, hdt⟩ := ht
  unfold Builtin.SmallTypes.nextOf
  refine wpAny_bind (wpAny_callSpecial?_slot (name := Str.ofString "__next__") hit.typeIs F.slot_tuple_iterator_next (wpAny_call_entry F.slot_tuple_iterator_next hit.typeIs F.entry_tuple_iterator_next ?_ (F.args_tuple_iterator_next_1 _)))
  show wpAny _ _ (field (.ref it) 0 >>= _) _ _ s
  refine wpAny_bind (wpAny_field ho hd (x := .ref t) rfl ?_)
  show wpAny _ _ (if (Value.ref t == Value.none) = true then _ else _) _ _ s
  rw [if_neg (show ¬ ((Value.ref t == Value.none) = true) from Bool.false_ne_true)]
  show wpAny _ _ (field (.ref it) 1 >>= _) _ _ s
  refine wpAny_bind (wpAny_field ho hd (x := .int i 0) rfl ?_)
  show wpAny _ _ (seqItems? (.ref t) >>= _) _ _ s
  refine wpAny_bind (wpAny_seqItems hot hdt ?_)
  simp only [Int.toNat_natCast, hx]
  refine wpAny_bind (wpAny_rule (wpAny_bind (wpAny_setField ho hd (by simp) ?_)))
  show wpAny _ _ (newExc (.type "StopIteration") [] >>= _) _ _ _
  refine wpAny_bind ?_
  simp only [newExc, newTuple]
  refine wpAny_bind (wpAny_newObj_type ?_ (by size_fits))
  refine wpAny_bind (m := firstArgMember _ _) (wpAny_of_eq (a := Value.none) (by first | rfl | (simp only [firstArgMember]; rfl)) ?_)
  refine wpAny_newObj_type ?_ (by size_fits)
  simp only [raiseNew]
  refine wpAny_bind (wpAny_handled ?_)
  rw [show A.in1.handled = none from hh]
  refine wpAny_bind (wpAny_pure (wpAny_throw ?_))
  exact hE _ _ (((Heap.SameBut.update ..).extBut.push _).push _) ⟨_, Heap.get?_push_size _ rfl, rfl⟩

/-- a zip of two tuples, at its k-th item -/
structure ZSt (z TI TO i1 i2 t1 t2 : Addr) (xs ys : Array Value) (f0 : Value) (k : Nat) (h : Heap) : Prop where
  z : IsZip h z TI TO f0
  ti : IsPair h TI (.ref i1) (.ref i2)
  to : ∃ a b, IsPair h TO a b
  it1 : h.IsTupleIter i1 t1 k
  it2 : h.IsTupleIter i2 t2 k
  tu1 : h.IsTuple t1 xs
  tu2 : h.IsTuple t2 ys

section
variable {z TI TO i1 i2 t1 t2 : Addr} {xs ys : Array Value} {k : Nat}
theorem zip_item {x y : Value} {Q : Option Value → Shared → Prop} (D : ZipApart z TI TO i1 i2 t1 t2) (Z : ZSt z TI TO i1 i2 t1 t2 xs ys .none k s.heap) (hx : xs[k]? = some x) (hy : ys[k]? = some y)
    (hQ : ∀ h' T, s.heap.get? T = none → IsPair h' T x y → ZSt z TI TO i1 i2 t1 t2 xs ys (rawInt T) (k + 1) h' → (∀ c o, c ≠ z → c ≠ TO → c ≠ i1 → c ≠ i2 → s.heap.get? c = some o → h'.get? c = some o) → Q (some (.ref T)) { s with heap := h' }) :
    wpAny (model prog w) A (pyNext (.ref z)) Q E s := by
  have hT : s.TypeIs (.ref z) "zip" := ⟨_, Z.z, rfl⟩
  unfold pyNext
  refine wpAny_bind (wpAny_attempt (wpAny_callSpecial?_slot (name := Str.ofString "__next__") hT F.slot_zip_next (wpAny_call_entry F.slot_zip_next hT F.entry_zip_next ?_ (F.args_zip_next_1 _))))
  obtain ⟨a, b, hTO⟩ := Z.to
  show wpAny _ _ (field (.ref z) 2 >>= _) _ _ _
  refine wpAny_bind (wpAny_field Z.z rfl (x := .bool false) rfl ?_)
  show wpAny _ _ (field (.ref z) 3 >>= _) _ _ _
  refine wpAny_bind (wpAny_field Z.z rfl (x := .ref TI) rfl ?_)
  refine wpAny_bind (wpAny_seqItems Z.ti rfl ?_)
  show wpAny _ _ (Builtin.SmallTypes.ownedTupleIsFree (.ref z) >>= _) _ _ _
  refine wpAny_bind ?_
  unfold Builtin.SmallTypes.ownedTupleIsFree
  refine wpAny_bind (wpAny_field Z.z rfl (x := .none) rfl (wpAny_pure ?_))
  simp only [if_true]
  refine wpAny_bind (wpAny_rule ?_)
  refine wpAny_bind (wpAny_field Z.z rfl (x := .ref TO) rfl ?_)
  refine wpAny_bind (wpAny_setField_rec Z.z (by simp) fun h₁ hz₁ hs₁ => ?_)
  replace hz₁ : IsZip h₁ z TI TO .ellipsis := hz₁
  refine wpAny_bind ?_
  simp only [List.zipIdx_cons, List.zipIdx_nil, List.forIn_cons, List.forIn_nil]
  refine wpAny_bind (wpAny_bind (wpAny_onRaise ?_))
  refine wpAny_bind (nextOf_tup (Z.it1.extBut hs₁.extBut D.i1z) (Z.tu1.extBut hs₁.extBut D.l1z) hx fun h₂ h1₂ hs₂ => wpAny_pure ?_)
  have hTO₂ : IsPair h₂ TO a b := hs₂.extBut _ _ D.TOi1 (hs₁.extBut _ _ D.TOz hTO)
  refine wpAny_bind (wpAny_seqItems hTO₂ rfl ?_)
  refine wpAny_bind (wpAny_updateSeq_pair hTO₂ fun h₃ hTO₃ hs₃ => ?_)
  replace hTO₃ : IsPair h₃ TO x b := hTO₃
  refine wpAny_bind (wpAny_letGo (wpAny_pure ?_))
  refine wpAny_bind (wpAny_bind (wpAny_onRaise ?_))
  refine wpAny_bind (nextOf_tup (((Z.it2.extBut hs₁.extBut D.i2z).extBut hs₂.extBut D.i12.symm).extBut hs₃.extBut D.TOi2.symm)
    (((Z.tu2.extBut hs₁.extBut D.l2z).extBut hs₂.extBut D.l2i1).extBut hs₃.extBut D.l2TO) hy fun h₄ h2₄ hs₄ => wpAny_pure ?_)
  have hTO₄ : IsPair h₄ TO x b := hs₄.extBut _ _ D.TOi2 hTO₃
  refine wpAny_bind (wpAny_seqItems hTO₄ rfl ?_)
  refine wpAny_bind (wpAny_updateSeq_pair hTO₄ fun h₅ hTO₅ hs₅ => ?_)
  replace hTO₅ : IsPair h₅ TO x y := hTO₅
  refine wpAny_bind (wpAny_letGo (wpAny_pure (wpAny_pure ?_)))
  refine wpAny_bind (wpAny_seqItems hTO₅ rfl ?_)
  refine wpAny_bind (wpAny_newTuple ?_)
  have hk₅ : ∀ c o, c ≠ z → c ≠ TO → c ≠ i1 → c ≠ i2 → s.heap.get? c = some o → h₅.get? c = some o := fun c o c1 c2 c3 c4 e =>
    hs₅.extBut _ _ c2 (hs₄.extBut _ _ c4 (hs₃.extBut _ _ c2 (hs₂.extBut _ _ c3 (hs₁.extBut _ _ c1 e))))
  have hz₅ : IsZip h₅ z TI TO .ellipsis := hs₅.extBut _ _ D.TOz.symm (hs₄.extBut _ _ D.i2z.symm (hs₃.extBut _ _ D.TOz.symm (hs₂.extBut _ _ D.i1z.symm hz₁)))
  have h1₅ : h₅.IsTupleIter i1 t1 (k + 1) := ((h1₂.extBut hs₃.extBut D.TOi1.symm).extBut hs₄.extBut D.i12).extBut hs₅.extBut D.TOi1.symm
  have h2₅ : h₅.IsTupleIter i2 t2 (k + 1) := h2₄.extBut hs₅.extBut D.TOi2.symm
  have hsz : h₅.objs.size = s.heap.objs.size := by rw [hs₅.1, hs₄.1, hs₃.1, hs₂.1, hs₁.1]
  have hzne : h₅.objs.size ≠ z := Nat.ne_of_gt (Heap.lt_size hz₅)
  show wpAny _ _ (Builtin.SmallTypes.ownedTupleHandOut (.ref z) (.ref h₅.objs.size) >>= _) _ _ _
  refine wpAny_bind ?_
  unfold Builtin.SmallTypes.ownedTupleHandOut
  have hz₆ : IsZip (h₅.push { cls := .type "tuple", data := .seq #[x, y] }) z TI TO .ellipsis := Heap.get?_push_of_some _ hz₅
  refine wpAny_bind (wpAny_setField_rec hz₆ (by simp) fun h₇ hz₇ hs₇ => ?_)
  replace hz₇ : IsZip h₇ z TI TO (rawInt h₅.objs.size) := hz₇
  refine wpAny_setField_rec hz₇ (by simp) fun h₈ hz₈ hs₈ => ?_
  replace hz₈ : IsZip h₈ z TI TO (rawInt h₅.objs.size) := hz₈
  have up : ∀ c o, c ≠ z → h₅.get? c = some o → h₈.get? c = some o := fun c o c1 e => hs₈.extBut _ _ c1 (hs₇.extBut _ _ c1 (Heap.get?_push_of_some _ e))
  have hk : ∀ c o, c ≠ z → c ≠ TO → c ≠ i1 → c ≠ i2 → s.heap.get? c = some o → h₈.get? c = some o := fun c o c1 c2 c3 c4 e => up c o c1 (hk₅ c o c1 c2 c3 c4 e)
  have fin' : Q (some (.ref h₅.objs.size)) { s with heap := h₈ } := by
    refine hQ h₈ h₅.objs.size (hsz ▸ fresh_size s.heap) (hs₈.extBut _ _ hzne (hs₇.extBut _ _ hzne (Heap.get?_push_size _ rfl))) ⟨hz₈, hk _ _ D.TIz D.TITO D.TIi1 D.TIi2 Z.ti, ⟨x, y, up _ _ D.TOz hTO₅⟩, ?_, ?_, ?_, ?_⟩ hk
    · obtain ⟨o, e, q⟩ := h1₅; exact ⟨o, up _ o D.i1z e, q⟩
    · obtain ⟨o, e, q⟩ := h2₅; exact ⟨o, up _ o D.i2z e, q⟩
    · obtain ⟨o, e, q⟩ := Z.tu1; exact ⟨o, hk _ o D.l1z D.l1TO D.l1i1 D.l1i2 e, q⟩
    · obtain ⟨o, e, q⟩ := Z.tu2; exact ⟨o, hk _ o D.l2z D.l2TO D.l2i1 D.l2i2 e, q⟩
  exact wpAny_pure ⟨_, rfl, wpAny_pure fin'⟩

theorem zip_end {Q : Option Value → Shared → Prop} (hh : A.handled = none) (D : ZipApart z TI TO i1 i2 t1 t2) (Z : ZSt z TI TO i1 i2 t1 t2 xs ys .none k s.heap) (hx : xs[k]? = none)
    (hQ : ∀ h', (∀ c o, c ≠ z → c ≠ i1 → s.heap.get? c = some o → h'.get? c = some o) → Q none { s with heap := h' }) :
    wpAny (model prog w) A (pyNext (.ref z)) Q E s := by
  have hT : s.TypeIs (.ref z) "zip" := ⟨_, Z.z, rfl⟩
  unfold pyNext
  refine wpAny_bind (wpAny_attempt (wpAny_callSpecial?_slot (name := Str.ofString "__next__") hT F.slot_zip_next (wpAny_call_entry F.slot_zip_next hT F.entry_zip_next ?_ (F.args_zip_next_1 _))))
  show wpAny _ _ (field (.ref z) 2 >>= _) _ _ _
  refine wpAny_bind (wpAny_field Z.z rfl (x := .bool false) rfl ?_)
  show wpAny _ _ (field (.ref z) 3 >>= _) _ _ _
  refine wpAny_bind (wpAny_field Z.z rfl (x := .ref TI) rfl ?_)
  refine wpAny_bind (wpAny_seqItems Z.ti rfl ?_)
  show wpAny _ _ (Builtin.SmallTypes.ownedTupleIsFree (.ref z) >>= _) _ _ _
  refine wpAny_bind ?_
  unfold Builtin.SmallTypes.ownedTupleIsFree
  refine wpAny_bind (wpAny_field Z.z rfl (x := .none) rfl (wpAny_pure ?_))
  simp only [if_true]
  refine wpAny_bind (wpAny_rule ?_)
  refine wpAny_bind (wpAny_field Z.z rfl (x := .ref TO) rfl ?_)
  refine wpAny_bind (wpAny_setField_rec Z.z (by simp) fun h₁ hz₁ hs₁ => ?_)
  replace hz₁ : IsZip h₁ z TI TO .ellipsis := hz₁
  refine wpAny_bind ?_
  simp only [List.zipIdx_cons, List.zipIdx_nil, List.forIn_cons, List.forIn_nil]
  refine wpAny_bind (wpAny_bind (wpAny_onRaise ?_))
  refine wpAny_bind (nextOf_tup_end hh (Z.it1.extBut hs₁.extBut D.i1z) (Z.tu1.extBut hs₁.extBut D.l1z) hx fun h₂ e hs₂ he => ?_)
  obtain ⟨oe, hoe, hce⟩ := he
  have hz₂ : IsZip h₂ z TI TO .ellipsis := hs₂ _ _ D.i1z.symm hz₁
  have hez : e ≠ z := fun x => by subst x; rw [hz₂] at hoe; cases hoe; simp at hce
  refine wpAny_setField_rec hz₂ (by simp) fun h₃ _ hs₃ => ?_
  refine wpAny_bind (wpAny_isInstance (T := "StopIteration") (b := true) ⟨oe, hs₃.extBut _ _ hez hoe, hce⟩ isSubtype_stop ?_)
  exact wpAny_pure (hQ _ fun c o c1 c2 x => hs₃.extBut _ _ c1 (hs₂ _ _ c2 (hs₁.extBut _ _ c1 x)))
end

end
noncomputable def tupIt (t : Addr) : Obj := { cls := .type "tuple_iterator", data := .fields #[.ref t, .int 0 0] }
noncomputable def tupOf2 (a b : Value) : Obj := { cls := .type "tuple", data := .seq #[a, b] }
noncomputable def zipOb (TI TO : Addr) : Obj := { cls := .type "zip", data := .fields #[.none, .bool false, .bool false, .ref TI, .ref TO] }
noncomputable def zp1 (h : Heap) (t1 : Addr) : Heap := h.push (tupIt t1)
noncomputable def zp2 (h : Heap) (t1 t2 : Addr) : Heap := (zp1 h t1).push (tupIt t2)
noncomputable def zp3 (h : Heap) (t1 t2 : Addr) : Heap := (zp2 h t1 t2).push (tupOf2 (.ref h.objs.size) (.ref (zp1 h t1).objs.size))
noncomputable def zp4 (h : Heap) (t1 t2 : Addr) : Heap := (zp3 h t1 t2).push (tupOf2 .none .none)
noncomputable def zp5 (h : Heap) (t1 t2 : Addr) : Heap := (zp4 h t1 t2).push (zipOb (zp2 h t1 t2).objs.size (zp3 h t1 t2).objs.size)
theorem zip_new_tup (t1 t2 : Addr) (xs ys : Array Value) :
    Meets (Builtin.«zip.__new__» ⟨[.type "zip", .ref t1, .ref t2], []⟩) (fun _ R s => s.heap.IsTuple t1 xs ∧ s.heap.IsTuple t2 ys ∧ R (.ok (.ret (.ref (zp4 s.heap t1 t2).objs.size))) { s with heap := zp5 s.heap t1 t2 }) :=
  .of_wp fun prog w A R s h => by
    obtain ⟨hp, g, d, tk, os⟩ := s; obtain ⟨hl1, hl2, h⟩ := h
    have hsub := sub_zip
    have hL1 : Heap.IsTuple (Shared.heap ⟨hp, g, d, tk, os⟩) t1 xs := hl1
    have hL2 : Heap.IsTuple (Shared.heap ⟨hp.push { cls := .type "tuple_iterator", data := .fields #[.ref t1, .int 0 0] }, g, d, tk, os⟩) t2 ys := hl2.push _
    wp_walk using wpAny_pyIter_tuple hL1, wpAny_pyIter_tuple hL2
    exact ⟨_, rfl, h⟩
theorem zp_facts {h : Heap} {t1 t2 : Addr} {xs ys : Array Value} (h1 : h.IsTuple t1 xs) (h2 : h.IsTuple t2 ys) :
    ∃ z TI TO i1 i2, (zp4 h t1 t2).objs.size = z ∧ ZipApart z TI TO i1 i2 t1 t2 ∧ ZSt z TI TO i1 i2 t1 t2 xs ys .none 0 (zp5 h t1 t2) ∧ (∀ c, c = z ∨ c = TI ∨ c = TO ∨ c = i1 ∨ c = i2 → h.get? c = none) ∧ ∀ c o, h.get? c = some o → (zp5 h t1 t2).get? c = some o := by
  have z1 : (zp1 h t1).objs.size = h.objs.size + 1 := Heap.size_push ..
  have z2 : (zp2 h t1 t2).objs.size = h.objs.size + 2 := by rw [zp2, Heap.size_push, z1]
  have z3 : (zp3 h t1 t2).objs.size = h.objs.size + 3 := by rw [zp3, Heap.size_push, z2]
  have z4 : (zp4 h t1 t2).objs.size = h.objs.size + 4 := by rw [zp4, Heap.size_push, z3]
  have k1 : ∀ c o, h.get? c = some o → (zp1 h t1).get? c = some o := fun c o e => Heap.get?_push_of_some _ e
  have k2 : ∀ c o, (zp1 h t1).get? c = some o → (zp2 h t1 t2).get? c = some o := fun c o e => Heap.get?_push_of_some _ e
  have k3 : ∀ c o, (zp2 h t1 t2).get? c = some o → (zp3 h t1 t2).get? c = some o := fun c o e => Heap.get?_push_of_some _ e
  have k4 : ∀ c o, (zp3 h t1 t2).get? c = some o → (zp4 h t1 t2).get? c = some o := fun c o e => Heap.get?_push_of_some _ e
  have k5 : ∀ c o, (zp4 h t1 t2).get? c = some o → (zp5 h t1 t2).get? c = some o := fun c o e => Heap.get?_push_of_some _ e
  have keep : ∀ c o, h.get? c = some o → (zp5 h t1 t2).get? c = some o := fun c o e => k5 _ _ (k4 _ _ (k3 _ _ (k2 _ _ (k1 _ _ e))))
  have g1 : (zp1 h t1).get? h.objs.size = some (tupIt t1) := Heap.get?_push_size _ rfl
  have g2 : (zp2 h t1 t2).get? (zp1 h t1).objs.size = some (tupIt t2) := Heap.get?_push_size _ rfl
  have g3 : (zp3 h t1 t2).get? (zp2 h t1 t2).objs.size = some (tupOf2 (.ref h.objs.size) (.ref (zp1 h t1).objs.size)) := Heap.get?_push_size _ rfl
  have g4 : (zp4 h t1 t2).get? (zp3 h t1 t2).objs.size = some (tupOf2 .none .none) := Heap.get?_push_size _ rfl
  have g5 : (zp5 h t1 t2).get? (zp4 h t1 t2).objs.size = some (zipOb (zp2 h t1 t2).objs.size (zp3 h t1 t2).objs.size) := Heap.get?_push_size _ rfl
  have lt1 : t1 < h.objs.size := by obtain ⟨_, e, _⟩ := h1; exact Heap.lt_size e
  have lt2 : t2 < h.objs.size := by obtain ⟨_, e, _⟩ := h2; exact Heap.lt_size e
  rw [z1] at g2 g3; rw [z2] at g3 g5; rw [z3] at g4 g5; rw [z4] at g5
  have new : ∀ c, h.objs.size ≤ c → h.get? c = none := fun c hc => by
    cases q : h.get? c with
    | none => rfl
    | some o => exact absurd (Heap.lt_size q) (Nat.not_lt.mpr hc)
  refine ⟨h.objs.size + 4, h.objs.size + 2, h.objs.size + 3, h.objs.size, h.objs.size + 1, z4, zipApart_new lt1 lt2, ⟨g5, k5 _ _ (k4 _ _ g3), ⟨_, _, k5 _ _ g4⟩, ⟨_, k5 _ _ (k4 _ _ (k3 _ _ (k2 _ _ g1))), rfl, rfl⟩, ⟨_, k5 _ _ (k4 _ _ (k3 _ _ g2)), rfl, rfl⟩, ?_, ?_⟩, fun c hc => new c ?_, keep⟩
  · obtain ⟨o, e, q⟩ := h1; exact ⟨o, keep _ o e, q⟩
  · obtain ⟨o, e, q⟩ := h2; exact ⟨o, keep _ o e, q⟩
  · rcases hc with rfl | rfl | rfl | rfl | rfl
    · exact Nat.le_add_right _ 4
    · exact Nat.le_add_right _ 2
    · exact Nat.le_add_right _ 3
    · exact Nat.le_refl _
    · exact Nat.le_add_right _ 1
section
variable {prog : Program} {w : World} {A : Around} {E : Value → Shared → Prop} {s : Shared}
theorem call_zip_tup {t1 t2 : Addr} {xs ys : Array Value} {Q : Value → Shared → Prop} (h1 : s.heap.IsTuple t1 xs) (h2 : s.heap.IsTuple t2 ys)
    (h : ∀ h' z TI TO i1 i2, ZipApart z TI TO i1 i2 t1 t2 → ZSt z TI TO i1 i2 t1 t2 xs ys .none 0 h' → (∀ c, c = z ∨ c = TI ∨ c = TO ∨ c = i1 ∨ c = i2 → s.heap.get? c = none) → (∀ c o, s.heap.get? c = some o → h'.get? c = some o) → Q (.ref z) { s with heap := h' }) :
    wpAny (model prog w) A (call (.type "zip") [.ref t1, .ref t2]) Q E s := by
  obtain ⟨z, TI, TO, i1, i2, ez, D, Z, hn, hk⟩ := zp_facts h1 h2
  refine callType_new F.called_zip (by decide) (F.typeCall_zip_2 _ _) (F.newCall_zip_2 _ _) (fun obj => F.args_object_init_3 obj _ _) F.entry_zip_new (zip_new_tup t1 t2 xs ys) ⟨h1, h2, ?_⟩
  show _ ∧ _
  rw [ez]
  exact ⟨⟨_, Z.z, rfl⟩, h _ z TI TO i1 i2 D Z hn hk⟩
end
end Mine

end

noncomputable section
open PySem PySem.W PyProof.Rows
set_option Elab.async false
set_option maxRecDepth 100000
set_option maxHeartbeats 1000000
set_option linter.unusedVariables false
namespace Mine

noncomputable def Cx.wb (cx : Cx) (b : List Addr) (h : ∀ x ∈ b, cx.h₀.get? x = none) : Cx := { cx with ban := b, banNew := h }

/-! more banned, and fewer -/
section
variable {X : List Addr} {T : Addr} {h h' : Heap} {α : List Addr}
mutual
theorem rep_more (hT : h.get? T = none) (hk : ∀ b o, h.get? b = some o → h'.get? b = some o) : ∀ (x : AV) (v : Value), rep X h α x v → rep (T :: X) h' α x v
  | .none, _, r => r
  | .bool _, _, r => r
  | .int _, _, r => r
  | .str _, _, r => r
  | .tup l, v, ⟨a, vs, n, e, x, t, q⟩ => ⟨a, vs, n, e, fun m => by
      rcases List.mem_cons.mp m with z | m
      · rw [IsT, z, hT] at t; cases t
      · exact x m, hk _ _ t, reps_more hT hk l _ q⟩
  | .ref i, v, r => r
  | .val _, _, r => r
theorem reps_more (hT : h.get? T = none) (hk : ∀ b o, h.get? b = some o → h'.get? b = some o) : ∀ (l : List AV) (vs : List Value), reps X h α l vs → reps (T :: X) h' α l vs
  | [], _, r => r
  | x :: l, vs, ⟨v, vs', e, q, p⟩ => ⟨v, vs', e, rep_more hT hk x v q, reps_more hT hk l vs' p⟩
end
mutual
theorem rep_less : ∀ (x : AV) (v : Value), rep (T :: X) h α x v → rep X h α x v
  | .none, _, r => r
  | .bool _, _, r => r
  | .int _, _, r => r
  | .str _, _, r => r
  | .tup l, v, ⟨a, vs, n, e, x, t, q⟩ => ⟨a, vs, n, e, fun m => x (List.mem_cons_of_mem _ m), t, reps_less l _ q⟩
  | .ref i, v, r => r
  | .val _, _, r => r
theorem reps_less : ∀ (l : List AV) (vs : List Value), reps (T :: X) h α l vs → reps X h α l vs
  | [], _, r => r
  | x :: l, vs, ⟨v, vs', e, q, p⟩ => ⟨v, vs', e, rep_less x v q, reps_less l vs' p⟩
end
theorem repd_more {K : Type} (hT : h.get? T = none) (hk : ∀ b o, h.get? b = some o → h'.get? b = some o) : ∀ (l : List (K × AV)) (kvs : List (K × Value)), repd X h α l kvs → repd (T :: X) h' α l kvs
  | [], _, r => r
  | (k, x) :: l, vs, ⟨v, vs', e, q, p⟩ => ⟨v, vs', e, rep_more hT hk x v q, repd_more hT hk l vs' p⟩
theorem repd_less {K : Type} : ∀ (l : List (K × AV)) (kvs : List (K × Value)), repd (T :: X) h α l kvs → repd X h α l kvs
  | [], _, r => r
  | (k, x) :: l, vs, ⟨v, vs', e, q, p⟩ => ⟨v, vs', e, rep_less x v q, repd_less l vs' p⟩
theorem repa_more (hT : h.get? T = none) (hk : ∀ b o, h.get? b = some o → h'.get? b = some o) : ∀ (l : List (Str × AV)) (es : List DictEntry), repa X h α l es → repa (T :: X) h' α l es
  | [], _, r => r
  | (k, x) :: l, vs, ⟨v, vs', t, e, e', q, p⟩ => ⟨v, vs', t, e, e', rep_more hT hk x _ q, repa_more hT hk l vs' p⟩
theorem repa_less : ∀ (l : List (Str × AV)) (es : List DictEntry), repa (T :: X) h α l es → repa X h α l es
  | [], _, r => r
  | (k, x) :: l, vs, ⟨v, vs', t, e, e', q, p⟩ => ⟨v, vs', t, e, e', rep_less x _ q, repa_less l vs' p⟩
end

section
variable {cx : Cx} {d : Nat} {env : Env} {sc : Scope} {ρ ρ' ρ₁ ρ₂ : Loc} {σ σ' σ₁ σ₂ σ₃ : Sto} {v x a b c : AV} {vs : List AV} {T : Addr} {hb : ∀ x ∈ T :: cx.ban, cx.h₀.get? x = none} {h h' : Heap} {α : List Addr}
theorem dict_keeps {K : Type} [DecidableEq K] {knd : KeyKind cx.prog cx.w K} {t : Addr} {kvs : List (K × Value)} (hk : ∀ b o, h.get? b = some o → h'.get? b = some o) (x : h.DictOf knd t kvs) : h'.DictOf knd t kvs :=
  let ⟨o, es, ep, e, r⟩ := x; ⟨o, es, ep, hk _ _ e, r⟩
theorem cell_more (hT : h.get? T = none) (hk : ∀ b o, h.get? b = some o → h'.get? b = some o) {c : Cell} {t : Addr} (x : CellAt cx h α c t) : CellAt (cx.wb (T :: cx.ban) hb) h' α c t := by
  cases c with
  | lst l => exact let ⟨vs, ⟨k, e⟩, z, r⟩ := x; ⟨vs, ⟨k, hk _ _ e⟩, z, reps_more hT hk _ _ r⟩
  | edct => exact ⟨dict_keeps hk x.1, dict_keeps hk x.2⟩
  | sdct l => exact let ⟨kvs, e, z, r⟩ := x; ⟨kvs, dict_keeps hk e, z, repd_more hT hk _ _ r⟩
  | idct l => exact let ⟨kvs, e, z, r⟩ := x; ⟨kvs, dict_keeps hk e, z, repd_more hT hk _ _ r⟩
  | attrs l => exact let ⟨es, n, e, z, r⟩ := x; ⟨es, n, hk _ _ e, z, repa_more hT hk _ _ r⟩
  | inst C d => exact let ⟨dx, e, r⟩ := x; ⟨dx, e, hk _ _ r⟩
  | rol vs n => exact ⟨hk _ _ x.1, x.2⟩
theorem cell_less {c : Cell} {t : Addr} (x : CellAt (cx.wb (T :: cx.ban) hb) h α c t) : CellAt cx h α c t := by
  cases c with
  | lst l => exact let ⟨vs, e, z, r⟩ := x; ⟨vs, e, z, reps_less _ _ r⟩
  | edct => exact x
  | sdct l => exact let ⟨kvs, e, z, r⟩ := x; ⟨kvs, e, z, repd_less _ _ r⟩
  | idct l => exact let ⟨kvs, e, z, r⟩ := x; ⟨kvs, e, z, repd_less _ _ r⟩
  | attrs l => exact let ⟨es, n, e, z, r⟩ := x; ⟨es, n, e, z, repa_less _ _ r⟩
  | inst C d => exact x
  | rol vs n => exact x
theorem SO.more (S : SO cx α σ h) (hT : h.get? T = none) (hk : ∀ b o, h.get? b = some o → h'.get? b = some o) (hl : h'.get? T ≠ none) : SO (cx.wb (T :: cx.ban) hb) α σ h' where
  keep := fun b o e => hk _ _ (S.keep b o e)
  len := S.len
  nd := S.nd
  cell := fun i c a e e' => cell_more hT hk (S.cell i c a e e')
  new := S.new
  banLive := fun b m => by
    rcases List.mem_cons.mp m with z | m
    · rw [z]; exact hl
    · exact live_keeps hk (S.banLive b m)
theorem SO.less (S : SO (cx.wb (T :: cx.ban) hb) α σ h) : SO cx α σ h :=
  ⟨S.keep, S.len, S.nd, fun i c a e e' => cell_less (S.cell i c a e e'), S.new, fun b m => S.banLive b (List.mem_cons_of_mem _ m)⟩
theorem FO.more (F : FO cx env α ρ h) (hT : h.get? T = none) (hk : ∀ b o, h.get? b = some o → h'.get? b = some o) : FO (cx.wb (T :: cx.ban) hb) env α ρ h' := by
  obtain ⟨m, hn, hv⟩ := F.vars
  refine ⟨⟨m, hn.at' (hk _), fun x av e => ?_⟩, fun b m => ⟨(F.off b m).1, live_keeps hk (F.off b m).2⟩, fun b m => let ⟨v, o, e, r⟩ := F.cells b m; ⟨v, o, hk _ _ e, r⟩, F.new⟩
  rcases hv x av e with ⟨k, v, e1, r⟩ | ⟨k, c, v, e1, ⟨o, eo, ed⟩, r⟩
  · exact .inl ⟨k, v, e1, rep_more hT hk _ _ r⟩
  · exact .inr ⟨k, c, v, e1, ⟨o, hk _ _ eo, ed⟩, rep_more hT hk _ _ r⟩

theorem compZ_eq {y z : Str} {tst : Loc → Sto → Option (Bool × Sto)} {elt : Loc → Sto → Option (AV × Sto)} : ∀ (l : List (AV × AV)) (ρ : Loc) (σ : Sto), compZ y z tst elt l ρ σ = compG (fun ρ p => setL (setL ρ y p.1) z p.2) tst elt l ρ σ
  | [], _, _ => rfl
  | p :: r, ρ, σ => by
    have ih := compZ_eq (y := y) (z := z) (tst := tst) (elt := elt) r
    unfold compZ compG
    cases h1 : tst (setL (setL ρ y p.1) z p.2) σ with
    | none => rfl
    | some q =>
      obtain ⟨b, σ₁⟩ := q
      cases b with
      | false => exact ih _ _
      | true =>
        cases h2 : elt (setL (setL ρ y p.1) z p.2) σ₁ with
        | none => simp only [h2, go, iff]
        | some q =>
          cases h3 : compG (fun ρ p => setL (setL ρ y p.1) z p.2) tst elt r (setL (setL ρ y p.1) z p.2) q.2 with
          | none => simp only [h2, h3, go, iff, ih]
          | some q => simp only [h2, h3, go, iff, ih]

theorem ZSt.frame {z TI TO i1 i2 t1 t2 : Addr} {xs ys : Array Value} {f0 : Value} {k : Nat} (Z : ZSt z TI TO i1 i2 t1 t2 xs ys f0 k h) (hk : ∀ b ∈ [z, TI, TO, i1, i2, t1, t2], ∀ o, h.get? b = some o → h'.get? b = some o) : ZSt z TI TO i1 i2 t1 t2 xs ys f0 k h' := by
  obtain ⟨a, b, hTO⟩ := Z.to
  exact ⟨hk z (by simp) _ Z.z, hk TI (by simp) _ Z.ti, ⟨a, b, hk TO (by simp) _ hTO⟩, Z.it1.at fun o e => hk i1 (by simp) o e, Z.it2.at fun o e => hk i2 (by simp) o e, Z.tu1.at fun o e => hk t1 (by simp) o e, Z.tu2.at fun o e => hk t2 (by simp) o e⟩
theorem ZSt.noTup {z TI TO i1 i2 t1 t2 : Addr} {xs ys : Array Value} {f0 : Value} {k : Nat} (Z : ZSt z TI TO i1 i2 t1 t2 xs ys f0 k h) {I : Addr} (hI : I = z ∨ I = i1 ∨ I = i2) (vs : Array Value) (n : Nat) : ¬ IsT h I vs n := by
  intro t
  rcases hI with rfl | rfl | rfl
  · have := Z.z; rw [IsZip, show h.get? I = some _ from t] at this; simp at this
  · obtain ⟨o, e, _, ed⟩ := Z.it1; rw [show h.get? I = some _ from t] at e; cases e; cases ed
  · obtain ⟨o, e, _, ed⟩ := Z.it2; rw [show h.get? I = some _ from t] at e; cases e; cases ed

/-- a zip as a source of pairs -/
theorem iter_zip {cx : Cx} {A : Around} {α α₁ : List Addr} {s s₂ : Shared} {sc' : Scope} {l m : List AV} {y z : Str} {py pz pt : Pos} {kt : Nat} {zz TI TO i1 i2 t1 t2 : Addr} {xs ys : Array Value} (hh : A.handled = none) (hy : sc'.names.lookup y = some .local) (hzl : sc'.names.lookup z = some .local)
    (hS : ∀ b o, cx.h₀.get? b = some o → s.heap.get? b = some o) (w : Fwd cx [] α s σ₁ α₁ s₂) (D : ZipApart zz TI TO i1 i2 t1 t2) (Z : ZSt zz TI TO i1 i2 t1 t2 xs ys .none 0 s₂.heap) (hTO : TO ∈ cx.ban) (hzb : zz ∉ cx.ban) (hib : i1 ∉ cx.ban)
    (hnew : ∀ c, c = zz ∨ c = TI ∨ c = TO ∨ c = i1 ∨ c = i2 → s.heap.get? c = none ∧ c ∉ α₁) (ht : t1 ∉ α₁ ∧ t2 ∉ α₁) (hlen : l.length = m.length) (hl : reps cx.ban s₂.heap α₁ l xs.toList) (hm : reps cx.ban s₂.heap α₁ m ys.toList) :
    Iter cx A sc' α s α₁ s₂ (.Tuple [.Name y py, .Name z pz] kt pt) zz (l.zip m) (fun ρ p => setL (setL ρ y p.1) z p.2) [zz, TI, TO, i1, i2, t1, t2] [zz, TI, TO, i1, i2, t1, t2] [zz, TO, i1, i2] (fun _ _ => True) (fun k h => ZSt zz TI TO i1 i2 t1 t2 xs ys .none k h) := by
  have lenx : l.length = xs.size := by rw [reps_length _ _ hl]; simp
  refine ⟨fun b hb => ?_, fun i h h' Z hk => Z.frame hk, fun i u u' hk _ Z => Z.frame hk, Z, fun b hb => ?_, fun b hb => ⟨hb, ?_⟩, ?_, ?_, fun u Q Z h => wpAny_pyIter_zip Z.z h⟩
  · simp only [List.mem_cons, List.not_mem_nil, or_false] at hb ⊢
    rcases hb with h | h | h | h <;> simp [h]
  · simp only [List.mem_cons, List.not_mem_nil, or_false] at hb
    rcases hb with h | h | h | h | h | h | h <;> rw [h]
    · rw [Z.z]; intro z; cases z
    · rw [Z.ti]; intro z; cases z
    · obtain ⟨a, b, e⟩ := Z.to; rw [e]; intro z; cases z
    · obtain ⟨o, e, _⟩ := Z.it1; rw [e]; intro z; cases z
    · obtain ⟨o, e, _⟩ := Z.it2; rw [e]; intro z; cases z
    · obtain ⟨o, e, _⟩ := Z.tu1; rw [e]; intro z; cases z
    · obtain ⟨o, e, _⟩ := Z.tu2; rw [e]; intro z; cases z
  · simp only [List.mem_cons, List.not_mem_nil, or_false] at hb
    rcases hb with h | h | h | h | h | h | h
    · exact (hnew b (.inl h)).2
    · exact (hnew b (.inr (.inl h))).2
    · exact (hnew b (.inr (.inr (.inl h)))).2
    · exact (hnew b (.inr (.inr (.inr (.inl h))))).2
    · exact (hnew b (.inr (.inr (.inr (.inr h))))).2
    · rw [h]; exact ht.1
    · rw [h]; exact ht.2
  · intro cenv OC hC hfC i p ρ₂ σ₃ α₂ s' hp V
    obtain ⟨hp1, hp2⟩ := List.getElem?_zip_eq_some.mp hp
    obtain ⟨x', hx', rx⟩ := reps_get _ _ hl i p.1 hp1
    obtain ⟨y', hy', ry⟩ := reps_get _ _ hm i p.2 hp2
    rw [Array.getElem?_toList] at hx' hy'
    refine zip_item D V.st hx' hy' fun h₆ T' hT hpr Z₆ hk₆ => ⟨_, rfl, ?_⟩
    refine wpAny_letOwnedTupleGo_zip Z₆.z fun h₇ hz₇ hs₇ => ?_
    have Z₇ : ZSt zz TI TO i1 i2 t1 t2 xs ys .none (i + 1) h₇ := by
      obtain ⟨a, b, e⟩ := Z₆.to
      exact ⟨hz₇, hs₇.extBut _ _ D.TIz Z₆.ti, ⟨a, b, hs₇.extBut _ _ D.TOz e⟩, Z₆.it1.extBut hs₇.extBut D.i1z, Z₆.it2.extBut hs₇.extBut D.i2z, Z₆.tu1.extBut hs₇.extBut D.l1z, Z₆.tu2.extBut hs₇.extBut D.l2z⟩
    have hTz : T' ≠ zz := fun e => by rw [e, V.st.z] at hT; cases hT
    have hk₇ : ∀ b o, b ∉ [zz, TO, i1, i2] → s'.heap.get? b = some o → h₇.get? b = some o := fun b o hb e => by
      simp only [List.mem_cons, List.not_mem_nil, or_false, not_or] at hb
      exact hs₇.extBut _ _ hb.1 (hk₆ b o hb.1 hb.2.1 hb.2.2.1 hb.2.2.2 e)
    have hw : ∀ I ∈ [zz, TO, i1, i2], s.heap.get? I = none ∧ I ∉ α₂ ∧ I ∉ frA cenv ∧ h₇.get? I ≠ none ∧ (I ∈ cx.ban ∨ ∀ vs n, ¬ IsT s'.heap I vs n) := fun I hI => by
      have hI' : I ∈ [zz, TI, TO, i1, i2, t1, t2] := by
        simp only [List.mem_cons, List.not_mem_nil, or_false] at hI ⊢
        rcases hI with h | h | h | h <;> simp [h]
      refine ⟨?_, (V.fq I hI').1, hfC I hI', ?_, ?_⟩
      · simp only [List.mem_cons, List.not_mem_nil, or_false] at hI
        rcases hI with h | h | h | h
        · exact (hnew I (.inl h)).1
        · exact (hnew I (.inr (.inr (.inl h)))).1
        · exact (hnew I (.inr (.inr (.inr (.inl h))))).1
        · exact (hnew I (.inr (.inr (.inr (.inr h))))).1
      · simp only [List.mem_cons, List.not_mem_nil, or_false] at hI
        rcases hI with h | h | h | h <;> rw [h]
        · rw [Z₇.z]; intro z; cases z
        · obtain ⟨a, b, e⟩ := Z₇.to; rw [e]; intro z; cases z
        · obtain ⟨o, e, _⟩ := Z₇.it1; rw [e]; intro z; cases z
        · obtain ⟨o, e, _⟩ := Z₇.it2; rw [e]; intro z; cases z
      · simp only [List.mem_cons, List.not_mem_nil, or_false] at hI
        rcases hI with h | h | h | h
        · exact .inr (V.st.noTup (.inl h))
        · exact .inl (h ▸ hTO)
        · exact .inr (V.st.noTup (.inr (.inl h)))
        · exact .inr (V.st.noTup (.inr (.inr h)))
    obtain ⟨V₇, t₇⟩ := V.touch (tk := s'.toks) (j := i + 1) hS hw hk₇ Z₇
    have hT₇ : IsTup h₇ T' #[x', y'] := ⟨_, hs₇.extBut _ _ hTz hpr, rfl, _, rfl⟩
    refine assign_Tuple_tuple hh hT₇ rfl rfl fun h₈ he => ?_
    have he' : ∀ b o, h₇.get? b = some o → h₈.get? b = some o := fun b o e => he b o (Nat.ne_of_lt (Heap.lt_size e)) e
    obtain ⟨V₈, t₈⟩ := V₇.touch (tk := s'.toks) (h' := h₈) (wr := []) (j := i + 1) hS (fun I hI => by cases hI) (fun b o _ e => he' b o e) (Z₇.frame fun b _ o e => he' b o e)
    refine assignInOrder_cons (wpAny_assign_Name (wpAny_mono (store_localK OC hy V₈.w.so V₈.F (rep_mono V₈.tk V₈.ext _ _ rx)) (fun _ s₉ ⟨w₉, F₉, t₉, k₉⟩ => ?_) fun _ _ e => e))
    have tk₉ : TupKeep cx.ban s₂.heap s₉.heap := fun a vs n q t => t₉ a vs n q (V₈.tk a vs n q t)
    refine assignInOrder_cons (wpAny_assign_Name (wpAny_mono (store_localK OC hzl w₉.so F₉ (rep_mono tk₉ V₈.ext _ _ ry)) (fun _ s₁₀ ⟨w₁₀, F₁₀, t₁₀, k₁₀⟩ => ?_) fun _ _ e => e))
    refine assignInOrder_nil ?_
    have hCs : s.heap.get? cenv.locals = none := by
      cases q : s.heap.get? cenv.locals with
      | none => rfl
      | some o => exact absurd hC (w.live _ (by rw [q]; intro z; cases z))
    have k8 : ∀ b o, b ≠ cenv.locals → h₈.get? b = some o → s₁₀.heap.get? b = some o := fun b o h1 e => k₁₀ b o (k₉ b o e h1) h1
    exact ⟨⟨(((V₈.w.weaken (fr := [cenv.locals])).trans w₉).trans w₁₀).drop fun b hb => by rw [List.mem_singleton.mp hb]; exact hCs, F₁₀, V₈.st.frame fun b hb o e => k8 b o (fun z => hfC b hb (z ▸ List.mem_cons_self ..)) e, V₈.ext, fun a vs n q t => t₁₀ a vs n q (tk₉ a vs n q t), fun b hb => ⟨(V.fq b hb).1, w₁₀.live b (w₉.live b (V₈.fq b hb).2)⟩⟩,
      fun a vs n q t => t₁₀ a vs n q (t₉ a vs n q (t₈ a vs n q (t₇ a vs n q t))), fun b o h1 h2 _ e => k8 b o h1 (he' b o (hk₇ b o h2 e))⟩
  · intro cenv hC hfC ρ₂ σ₃ α₂ s' V
    have hend : xs[(l.zip m).length]? = none := by
      rw [Array.getElem?_eq_none_iff, List.length_zip]; lia
    refine zip_end hh D V.st hend fun h₆ hk₆ => ?_
    have hw : ∀ I ∈ [zz, i1], s.heap.get? I = none ∧ I ∉ α₂ ∧ I ∉ frA cenv ∧ (I ∈ cx.ban → h₆.get? I ≠ none) ∧ (I ∈ cx.ban ∨ ∀ vs n, ¬ IsT s'.heap I vs n) := fun I hI => by
      simp only [List.mem_cons, List.not_mem_nil, or_false] at hI
      rcases hI with h | h
      · rw [h]; exact ⟨(hnew zz (.inl rfl)).1, (V.fq zz (by simp)).1, hfC zz (by simp), fun m => absurd m hzb, .inr (V.st.noTup (.inl rfl))⟩
      · rw [h]; exact ⟨(hnew i1 (.inr (.inr (.inr (.inl rfl))))).1, (V.fq i1 (by simp)).1, hfC i1 (by simp), fun m => absurd m hib, .inr (V.st.noTup (.inr (.inl rfl)))⟩
    obtain ⟨w₆, F₆, t₆⟩ := touch (tk := s'.toks) (wr := [zz, i1]) hS V.w V.F hw fun b o hb e => by
      simp only [List.mem_cons, List.not_mem_nil, or_false, not_or] at hb
      exact hk₆ b o hb.1 hb.2 e
    exact ⟨rfl, ⟨w₆, F₆, trivial, V.ext, fun a vs n x t => t₆ a vs n x (V.tk a vs n x t), fun _ h => by cases h⟩, t₆, fun b o _ h2 _ e => hk₆ b o (fun z => h2 (by simp [z])) (fun z => h2 (by simp [z])) e⟩

theorem S_zip (O : EnvOk env sc) {elt : Expr} {ea eb : Expr} {f y z : Str} {py pz pt pf pos zpos : Pos} {kt : Nat} {ifs : List Expr} {scope : Scope} {l m ws : List AV} {tst : Loc → Sto → Option (Bool × Sto)} {el : Loc → Sto → Option (AV × Sto)}
    (hs : scopeOk2 scope sc ρ y z = true) (hst : noStars [ea, eb] = true) (hlen : l.length = m.length) (hz : l.length ≤ 1000)
    (hf : SimE cx d env ρ σ (eval (.Name f pf) env) (.val (.type "zip")) σ₁) (ha : SimE cx d env ρ σ₁ (eval ea env) (.tup l) σ₂) (hb : SimE cx d env ρ σ₂ (eval eb env) (.tup m) σ₃)
    (ht : ∀ b h env', EnvOk env' (relS scope sc) → ∀ ρ σ k σ', tst ρ σ = some (k, σ') → SimB (cx.wb b h) d env' ρ σ (testsT ifs env') k σ')
    (he : ∀ b h env', EnvOk env' (relS scope sc) → ∀ ρ σ v σ', el ρ σ = some (v, σ') → SimE (cx.wb b h) d env' ρ σ (eval elt env') v σ')
    (h : compZ y z tst el (l.zip m) (capt scope sc ρ) σ₃ = some (ws, σ')) :
    SimE cx d env ρ σ (eval (.ListComp elt [⟨.Tuple [.Name y py, .Name z pz] kt pt, .Call (.Name f pf) [ea, eb] [] zpos, ifs, 0⟩] scope pos) env) (.ref σ'.length) (σ' ++ [.lst ws]) := by
  intro A α s R S F
  unfold scopeOk2 at hs
  simp only [Bool.and_eq_true, beq_iff_eq] at hs
  obtain ⟨⟨hs, hzl⟩, _⟩ := hs
  obtain ⟨hkind, hy, hcell, hnames, hfree⟩ := scopeOk_parts (cx := cx) O hs
  rw [eval_ListComp]
  refine wpAny_comprehension_free (use := none) rfl (fun x => rfl) (closure_of (hfree F)) hkind hnames ?_
  show wpAny _ A (do callWith zpos (← eval (.Name f pf) env) [] (backTo zpos (starEach [ea, eb] env)) (backToKw zpos (keywordEach [] env))) _ _ s
  refine wpAny_bind (wpAny_mono (hf A α s R S F) (fun fv s₁ ⟨α₁, w₁, r₁⟩ => ?_) fun _ _ e => e)
  rw [show fv = .type "zip" from r₁]
  obtain ⟨hsa, hsb⟩ := noStars_cons hst
  have hl : SimL cx d env ρ σ₁ (spliced (backTo zpos (starEach [ea, eb] env))) [.tup l, .tup m] σ₃ := L_cons hsa ha (L_cons (noStars_cons hsb).1 hb L_nil)
  refine callWith_plain (cx := cx) hst keeper_type (wpAny_mono (hl A α₁ s₁ R w₁.so (F.fwd S w₁)) (fun cs s₂ ⟨α₂, w₂, r₂⟩ => ⟨w₂.so.keep, ?_⟩) fun _ _ e => e)
  obtain ⟨c1, _, rfl, ⟨t1, xs, n1, rfl, hx1, ht1, hr1⟩, c2, _, rfl, ⟨t2, ys, n2, rfl, hx2, ht2, hr2⟩, rfl⟩ := r₂
  have w := w₁.trans w₂
  have F₂ := F.fwd S w
  refine call_zip_tup (xs := xs) (ys := ys) ⟨_, ht1, rfl, _, rfl⟩ ⟨_, ht2, rfl, _, rfl⟩ fun h₃ zz TI TO i1 i2 D Z hn hk => wpAny_pyIter_zip Z.z ?_
  have back : ∀ b, s₂.heap.get? b = none → s.heap.get? b = none := fun b e => by
    cases q : s.heap.get? b with
    | none => rfl
    | some o => exact absurd e (w.live b (by rw [q]; intro z; cases z))
  have hTO : s₂.heap.get? TO = none := hn TO (.inr (.inr (.inl rfl)))
  have hban : ∀ x ∈ TO :: cx.ban, cx.h₀.get? x = none := fun x hx => by
    rcases List.mem_cons.mp hx with e | hx
    · rw [e]
      cases q : cx.h₀.get? TO with
      | none => rfl
      | some o => have := w.so.keep TO o q; rw [hTO] at this; cases this
    · exact cx.banNew x hx
  have hTOl : h₃.get? TO ≠ none := by obtain ⟨a, b, e⟩ := Z.to; rw [e]; intro z; cases z
  have S₃ : SO (cx.wb (TO :: cx.ban) hban) α₂ σ₃ h₃ := w.so.more hTO hk hTOl
  have w₃ : Fwd (cx.wb (TO :: cx.ban) hban) [] α s σ₃ α₂ { s₂ with heap := h₃ } := by
    obtain ⟨h', tk', e⟩ := w.same
    exact ⟨⟨h₃, tk', by rw [e]⟩, w.ext, S₃, fun b e => live_keeps hk (w.live b e), fun b o e h1 h2 => hk _ _ (w.pres b o e h1 h2)⟩
  have F₃ : FO (cx.wb (TO :: cx.ban) hban) env α₂ ρ h₃ := F₂.more hTO hk
  have offα : ∀ c, s₂.heap.get? c = none → c ∉ α₂ := fun c e m => w.so.live m e
  have T := iter_zip (cx := cx.wb (TO :: cx.ban) hban) (A := A) (s₂ := { s₂ with heap := h₃ }) (py := py) (pz := pz) (pt := pt) (kt := kt) R.handled (relS_local O hy) (relS_local O hzl) S.keep w₃ D Z (List.mem_cons_self ..)
    (fun m => by
      rcases List.mem_cons.mp m with e | m
      · exact D.TOz e.symm
      · exact w.so.banLive zz m (hn zz (.inl rfl)))
    (fun m => by
      rcases List.mem_cons.mp m with e | m
      · exact D.TOi1 e.symm
      · exact w.so.banLive i1 m (hn i1 (.inr (.inr (.inr (.inl rfl))))))
    (fun c hc => ⟨back c (hn c hc), offα c (hn c hc)⟩) ⟨(tup_off (A := A) w.so F₂ ht1).1, (tup_off (A := A) w.so F₂ ht2).1⟩ hlen (reps_more hTO hk _ _ hr1) (reps_more hTO hk _ _ hr2)
  rw [compZ_eq] at h
  refine comp_core (cx := cx.wb (TO :: cx.ban) hban) (iter := .Call (.Name f pf) [ea, eb] [] zpos) (pos := pos) O hcell hkind w₃ F₃ S.keep T (fun b hb => ?_) (by rw [List.length_zip]; lia)
    (fun env' O' ρ σ k σ' e α s S F => wpAny_mono (ht _ hban env' O' ρ σ k σ' e A α s R S F) (fun _ _ ⟨a, α', w⟩ => ⟨a, α', w, trivial⟩) fun _ _ e => e)
    (fun env' O' ρ σ v σ' e α s S F => wpAny_mono (he _ hban env' O' ρ σ v σ' e A α s R S F) (fun _ _ ⟨α', w, r⟩ => ⟨α', w, r, trivial⟩) fun _ _ e => e) h fun cv s' α' w r => ?_
  · simp only [List.mem_cons, List.not_mem_nil, or_false] at hb
    have new : ∀ c, s₂.heap.get? c = none → c ∉ frA env := fun c e m => (F₂.off c m).2 e
    rcases hb with e | e | e | e | e | e | e <;> rw [e]
    · exact new _ (hn _ (.inl rfl))
    · exact new _ (hn _ (.inr (.inl rfl)))
    · exact new _ (hn _ (.inr (.inr (.inl rfl))))
    · exact new _ (hn _ (.inr (.inr (.inr (.inl rfl)))))
    · exact new _ (hn _ (.inr (.inr (.inr (.inr rfl)))))
    · exact (tup_off (A := A) w.so F₂ ht1).2
    · exact (tup_off (A := A) w.so F₂ ht2).2
  · exact ⟨α', ⟨w.same, w.ext, w.so.less, w.live, w.pres⟩, r⟩
end
end Mine

end

noncomputable section
open PySem PySem.W PyProof.Rows
set_option Elab.async false
set_option maxRecDepth 100000
set_option maxHeartbeats 1000000
set_option linter.unusedVariables false
namespace Mine

section
variable {cx : Cx} {d : Nat} {env : Env} {sc : Scope} {ρ ρ' ρ₁ ρ₂ : Loc} {σ σ' σ₁ σ₂ σ₃ : Sto} {v x a b c : AV} {vs : List AV}
theorem I_tuple {iter : Expr} {l : List AV} (h : SimE cx d env ρ σ (eval iter env) (.tup l) σ₁) : SimI cx d env ρ σ iter l σ₁ := src_tuple h
theorem T_nilT : SimB cx d env ρ σ (testsT [] env) true σ := fun A α s R S F => wpAny_pure ⟨rfl, α, .refl S⟩
theorem T_oneT {e : Expr} {t : Bool} (h : SimB cx d env ρ σ (isTrue e env (eval e env)) t σ₁) : SimB cx d env ρ σ (testsT [e] env) t σ₁ := by
  intro A α s R S F
  unfold testsT
  simp only [List.forIn_cons, List.forIn_nil, if_true]
  refine wpAny_bind (wpAny_bind (wpAny_mono (h A α s R S F) (fun k s' h' => ?_) fun _ _ e => e))
  exact wpAny_pure (wpAny_pure h')
theorem isTrue_of_plain {e : Expr} (h : plainTest e = true) (whole : Sem Value) : isTrue e env whole = (do let v ← whole; standAt e.pos; holding [v] (truthy v)) := by
  cases e <;> first | rfl | exact Bool.noConfusion h

section
variable {α β : Type} {r : β} {e : Expr}
theorem npOf_eq {q : Str × Pos} (h : npOf e = some q) : e = .Name q.1 q.2 := by
  cases e <;> first | exact no h | (cases h; rfl)
theorem inCall_inv {k : Expr → List Expr → List Keyword → Pos → Option β} (h : inCall e k = some r) : ∃ f as ks p, e = .Call f as ks p ∧ k f as ks p = some r := by
  cases e <;> first | exact no h | exact ⟨_, _, _, _, rfl, h⟩
theorem inAttr_inv {k : Expr → Str → Pos → Option β} (h : inAttr e k = some r) : ∃ o x p, e = .Attribute o x p ∧ k o x p = some r := by
  cases e <;> first | exact no h | exact ⟨_, _, _, rfl, h⟩
theorem nmOf_eq {x : Str} (h : nmOf e = some x) : ∃ p, e = .Name x p := by
  obtain ⟨q, h1, h⟩ := goO_inv h
  exact ⟨q.2, by rw [← Option.some.inj h]; exact npOf_eq h1⟩
theorem zipOf_eq {q : Str × Pos × Expr × Expr} (h : zipOf e = some q) : ∃ p, e = .Call (.Name q.1 q.2.1) [q.2.2.1, q.2.2.2] [] p := by
  obtain ⟨f, as, ks, p, e0, h⟩ := inCall_inv h
  obtain ⟨x, e1, h⟩ := goO_inv h
  obtain ⟨h1, h⟩ := pre_some h
  obtain ⟨y, h2, h⟩ := goO_inv h
  rw [← Option.some.inj h]
  exact ⟨p, by rw [e0, npOf_eq e1, twoOf_eq h2, isE_eq h1]⟩
theorem constOf_eq {c : Const} (h : constOf e = some c) : ∃ k p, e = .Constant c k p := by
  cases e <;> first | exact no h | (cases h; exact ⟨_, _, rfl⟩)
theorem boolOf_eq {x : Bool} (h : boolOf e = some x) : ∃ k p, e = .Constant (.bool x) k p := by
  obtain ⟨c, h1, h⟩ := goO_inv h
  cases c <;> first | exact no h | skip
  cases h
  exact constOf_eq h1
theorem tupOf_eq {x : List Expr} (h : tupOf e = some x) : ∃ k p, e = .Tuple x k p := by
  cases e <;> first | exact no h | (cases h; exact ⟨_, _, rfl⟩)
theorem valsOf_eq {o : Expr} (h : valsOf e = some o) : ∃ name apos pos, e = .Call (.Attribute o name apos) [] [] pos ∧ notSuper o = true ∧ (apos.endLine == pos.line) = true ∧ name = "values" := by
  obtain ⟨f, as, ks, p, e0, h⟩ := inCall_inv h
  obtain ⟨o', name, apos, e1, h⟩ := inAttr_inv h
  obtain ⟨h1, h⟩ := pre_some h
  cases h
  simp only [Bool.and_eq_true, beq_iff_eq (a := (_ : Str))] at h1
  obtain ⟨⟨⟨⟨h1, h2⟩, h3⟩, h4⟩, h5⟩ := h1
  exact ⟨_, _, _, by rw [e0, e1, isE_eq h1, isE_eq h2], h3, h4, h5⟩
theorem natOf_eq {j : Nat} (h : natOf e = some j) : ∃ k p, e = .Constant (.int (.ofNat j)) k p := by
  obtain ⟨c, h1, h⟩ := goO_inv h
  cases c <;> first | exact no h | skip
  obtain ⟨t, rfl, h⟩ := asN_inv h
  cases h
  exact constOf_eq h1
theorem unOf_eq {q : UnaryOp × Expr} (h : unOf e = some q) : ∃ p, e = .UnaryOp q.1 q.2 p := by
  cases e <;> first | exact no h | (cases h; exact ⟨_, rfl⟩)
theorem negOf_eq {x : Expr} (h : negOf e = some x) : ∃ p, e = .UnaryOp .USub x p := by
  obtain ⟨⟨op, y⟩, h1, h⟩ := goO_inv h
  obtain ⟨h2, h⟩ := pre_some h
  cases op <;> first | cases h2; done | skip
  rw [← Option.some.inj h]
  exact unOf_eq h1
theorem sliceOf_eq {q : Option Expr × Option Expr × Option Expr} (h : sliceOf e = some q) : ∃ p, e = .Slice q.1 q.2.1 q.2.2 p := by
  cases e <;> first | exact no h | (cases h; exact ⟨_, rfl⟩)
theorem nilO_inv {x : Option α} {y : Option β} (h : nilO x y = some r) : x = none ∧ y = some r := by
  cases x with
  | none => exact ⟨rfl, h⟩
  | some _ => exact no h
end
/-- what a kind of comprehension says of its text -/
noncomputable def CompP (elt : Expr) (gens : List Comprehension) : CompK → Prop
  | .one y iter ifs => ∃ p, gens = [⟨.Name y p, iter, ifs, 0⟩]
  | .two y z f fp a b ifs => ∃ p q kt pt zp, gens = [⟨.Tuple [.Name y p, .Name z q] kt pt, .Call (.Name f fp) [a, b] [] zp, ifs, 0⟩]
  | .vals y o t => ∃ p p1 p2 pt kt kc name apos pos, gens = [⟨.Name y p, .Call (.Attribute o name apos) [] [] pos, [], 0⟩] ∧ elt = .Tuple [.Name y p1, .Constant (.bool t) kc p2] kt pt ∧ notSuper o = true ∧ (apos.endLine == pos.line) = true ∧ name = "values"
theorem twoK_is {elt t it : Expr} {ifs : List Expr} {kd : CompK} (h : twoK ⟨t, it, ifs, 0⟩ = some kd) : CompP elt [⟨t, it, ifs, 0⟩] kd := by
  obtain ⟨es, h1, h⟩ := goO_inv h
  obtain ⟨p, h2, h⟩ := goO_inv h
  obtain ⟨y, h3, h⟩ := goO_inv h
  obtain ⟨z, h4, h⟩ := goO_inv h
  obtain ⟨q, h5, h⟩ := goO_inv h
  rw [← Option.some.inj h]
  obtain ⟨k, p0, e1⟩ := tupOf_eq h1
  obtain ⟨p1, e3⟩ := nmOf_eq h3
  obtain ⟨p2, e4⟩ := nmOf_eq h4
  obtain ⟨p5, e5⟩ := zipOf_eq h5
  exact ⟨p1, p2, k, p0, p5, by rw [show t = _ from e1, show it = _ from e5, twoOf_eq h2, e3, e4]⟩
theorem valK_is {elt it o : Expr} {y : Str} {p : Pos} {ifs : List Expr} {t : Bool} (h : valK elt y it ifs = some (o, t)) : CompP elt [⟨.Name y p, it, ifs, 0⟩] (.vals y o t) := by
  obtain ⟨h1, h⟩ := pre_some h
  obtain ⟨es, h2, h⟩ := goO_inv h
  obtain ⟨q, h3, h⟩ := goO_inv h
  obtain ⟨x, h4, h⟩ := goO_inv h
  obtain ⟨b, h5, h⟩ := goO_inv h
  obtain ⟨o', h6, h⟩ := goO_inv h
  obtain ⟨h7, h⟩ := pre_some h
  cases h
  obtain ⟨k, p0, e1⟩ := tupOf_eq h2
  obtain ⟨p1, e3⟩ := nmOf_eq h4
  obtain ⟨kc, p2, e4⟩ := boolOf_eq h5
  obtain ⟨name, apos, pos, e5, a1, a2, a3⟩ := valsOf_eq h6
  exact ⟨p, p1, p2, p0, k, kc, name, apos, pos, by rw [e5, isE_eq h1], by rw [e1, twoOf_eq h3, e3, e4, beq_iff_eq.mp h7], a1, a2, a3⟩
theorem compK_is {elt : Expr} {gens : List Comprehension} {kd : CompK} (h : compK elt gens = some kd) : CompP elt gens kd := by
  obtain ⟨⟨t, it, fs, a⟩, hg, h⟩ := goO_inv h
  rw [oneOf_eq hg]
  obtain ⟨ha, h⟩ := pre_dec h
  rw [show a = 0 from ha]
  rcases optG_inv h with ⟨_, h⟩ | ⟨y, hy, h⟩
  · exact twoK_is (show twoK ⟨t, it, fs, 0⟩ = _ from h)
  · obtain ⟨p, e⟩ := nmOf_eq hy
    rw [show t = _ from e]
    rcases optG_inv h with ⟨_, h⟩ | ⟨q, hv, h⟩
    · rw [← Option.some.inj h]; exact ⟨p, rfl⟩
    · rw [← Option.some.inj h]; exact valK_is hv
theorem isTy_eq {T : String} {x : AV} (h : isTy T x = true) : x = .val (.type T) := by
  cases x <;> first | exact Bool.noConfusion h | skip
  rename_i v
  cases v <;> first | exact Bool.noConfusion h | skip
  rw [beq_iff_eq.mp h]
theorem rngOf_eq {e : Expr} {q : Str × Pos × Expr} (h : rngOf e = some q) : ∃ pos, e = .Call (.Name q.1 q.2.1) [q.2.2] [] pos ∧ notStar q.2.2 = true := by
  obtain ⟨f, as, ks, p, e0, h⟩ := inCall_inv h
  obtain ⟨x, e1, h⟩ := goO_inv h
  obtain ⟨a', h1, h⟩ := goO_inv h
  obtain ⟨h2, h⟩ := pre_some h
  simp only [Bool.and_eq_true] at h2
  rw [← Option.some.inj h]
  exact ⟨p, by rw [e0, npOf_eq e1, oneOf_eq h1, isE_eq h2.1.1], h2.1.2⟩
end

/-! what an answer says -/
section
variable (cx : Cx) (d : Nat) (env : Env) (ρ : Loc) (σ : Sto) {R : Type}
noncomputable def OkE (t : Sem Value) (k : AV → Sto → Option R) (r : R) : Prop := ∃ v σ', SimE cx d env ρ σ t v σ' ∧ k v σ' = some r
noncomputable def OkL (t : Sem (List Value)) (k : List AV → Sto → Option R) (r : R) : Prop := ∃ v σ', SimL cx d env ρ σ t v σ' ∧ k v σ' = some r
noncomputable def OkB (t : Sem Bool) (k : Bool → Sto → Option R) (r : R) : Prop := ∃ v σ', SimB cx d env ρ σ t v σ' ∧ k v σ' = some r
noncomputable def OkI (t : Expr) (k : List AV → Sto → Option R) (r : R) : Prop := ∃ v σ', SimI cx d env ρ σ t v σ' ∧ k v σ' = some r
noncomputable def OkS (t : Sem Flow) (k : Flw → Loc → Sto → Option R) (r : R) : Prop := ∃ f ρ' σ', SimS cx d env ρ σ t f ρ' σ' ∧ k f ρ' σ' = some r
end
section
variable {cx : Cx} {d : Nat} {env : Env} {ρ : Loc} {σ : Sto} {R : Type} {r : R} {P : Prop}
theorem OkE.mk {t : Sem Value} {k : AV → Sto → Option R} {v : AV} {σ' : Sto} (h : SimE cx d env ρ σ t v σ') (e : k v σ' = some r) : OkE cx d env ρ σ t k r := ⟨v, σ', h, e⟩
theorem OkL.mk {t : Sem (List Value)} {k : List AV → Sto → Option R} {v : List AV} {σ' : Sto} (h : SimL cx d env ρ σ t v σ') (e : k v σ' = some r) : OkL cx d env ρ σ t k r := ⟨v, σ', h, e⟩
theorem OkB.mk {t : Sem Bool} {k : Bool → Sto → Option R} {v : Bool} {σ' : Sto} (h : SimB cx d env ρ σ t v σ') (e : k v σ' = some r) : OkB cx d env ρ σ t k r := ⟨v, σ', h, e⟩
theorem OkI.mk {t : Expr} {k : List AV → Sto → Option R} {v : List AV} {σ' : Sto} (h : SimI cx d env ρ σ t v σ') (e : k v σ' = some r) : OkI cx d env ρ σ t k r := ⟨v, σ', h, e⟩
theorem OkS.mk {t : Sem Flow} {k : Flw → Loc → Sto → Option R} {f : Flw} {ρ' : Loc} {σ' : Sto} (h : SimS cx d env ρ σ t f ρ' σ') (e : k f ρ' σ' = some r) : OkS cx d env ρ σ t k r := ⟨f, ρ', σ', h, e⟩
theorem OkE.on {t : Sem Value} {k : AV → Sto → Option R} (h : OkE cx d env ρ σ t k r) (f : ∀ v σ', SimE cx d env ρ σ t v σ' → k v σ' = some r → P) : P := let ⟨v, σ', h, e⟩ := h; f v σ' h e
theorem OkL.on {t : Sem (List Value)} {k : List AV → Sto → Option R} (h : OkL cx d env ρ σ t k r) (f : ∀ v σ', SimL cx d env ρ σ t v σ' → k v σ' = some r → P) : P := let ⟨v, σ', h, e⟩ := h; f v σ' h e
theorem OkB.on {t : Sem Bool} {k : Bool → Sto → Option R} (h : OkB cx d env ρ σ t k r) (f : ∀ v σ', SimB cx d env ρ σ t v σ' → k v σ' = some r → P) : P := let ⟨v, σ', h, e⟩ := h; f v σ' h e
theorem OkI.on {t : Expr} {k : List AV → Sto → Option R} (h : OkI cx d env ρ σ t k r) (f : ∀ v σ', SimI cx d env ρ σ t v σ' → k v σ' = some r → P) : P := let ⟨v, σ', h, e⟩ := h; f v σ' h e
theorem OkS.on {t : Sem Flow} {k : Flw → Loc → Sto → Option R} (h : OkS cx d env ρ σ t k r) (f : ∀ v ρ' σ', SimS cx d env ρ σ t v ρ' σ' → k v ρ' σ' = some r → P) : P := let ⟨v, ρ', σ', h, e⟩ := h; f v ρ' σ' h e
end

structure Snd (n : Ev) (cx : Cx) (d : Nat) : Prop where
  E : ∀ b h env sc, EnvOk env sc → ∀ {R : Type} e ρ σ (k : AV → Sto → Option R) r, n.E sc e ρ σ k = some r → OkE (cx.wb b h) d env ρ σ (eval e env) k r
  L : ∀ b h env sc, EnvOk env sc → ∀ {R : Type} es ρ σ (k : List AV → Sto → Option R) r p, noStars es = true → n.L sc es ρ σ k = some r → OkL (cx.wb b h) d env ρ σ (spliced (backTo p (starEach es env))) k r
  B : ∀ b h env sc, EnvOk env sc → ∀ {R : Type} e ρ σ (k : Bool → Sto → Option R) r, n.B sc e ρ σ k = some r → OkB (cx.wb b h) d env ρ σ (isTrue e env (eval e env)) k r
  A : ∀ b h env sc, EnvOk env sc → ∀ {R : Type} op es ρ σ (k : Bool → Sto → Option R) r, n.A sc op es ρ σ k = some r → OkB (cx.wb b h) d env ρ σ (allTrue op es env) k r
  I : ∀ b h env sc, EnvOk env sc → ∀ {R : Type} e ρ σ (k : List AV → Sto → Option R) r, n.I sc e ρ σ k = some r → OkI (cx.wb b h) d env ρ σ e k r

section
variable {G : GT} {orc : Orc} {cx : Cx} {d : Nat} {n : Ev} {R : Type} {env : Env} {sc : Scope} {ρ : Loc} {σ : Sto} {r : R} {b : List Addr} {h : ∀ x ∈ b, cx.h₀.get? x = none}

theorem ok_name {x : Str} {p : Pos} {k : AV → Sto → Option R} (K : GOk G cx) (O : EnvOk env sc) (hv : n_name G sc x ρ σ k = some r) :
    ∃ v, SimE cx d env ρ σ (eval (.Name x p) env) v σ ∧ k v σ = some r ∧ (ρ.lookup x = none → ∀ fv, v = .val fv → KeeperOk cx fv) := by
  obtain ⟨hd, hv⟩ := pre_some hv
  have hd : (x == ("__debug__" : Str)) = false := by cases q : (x == ("__debug__" : Str)) with | false => rfl | true => rw [q] at hd; cases hd
  rcases optG_inv hv with ⟨_, hv⟩ | ⟨v', hl, hv⟩
  · obtain ⟨kd, hx, hv⟩ := goO_inv hv
    obtain ⟨hi, hv⟩ := pre_some hv
    cases kd <;> first | cases hi; done | skip
    rcases optG_inv hv with ⟨_, hv⟩ | ⟨v', hg, hv⟩
    · obtain ⟨w, hb, hv⟩ := goO_inv hv
      obtain ⟨h1, h2, h3, h4⟩ := K.bi _ _ hb
      exact ⟨_, S_name_builtin O hx hd h1 h2 h3, hv, fun _ fv e => by cases e; exact h4⟩
    · obtain ⟨w, h1, h2⟩ := K.glob _ _ hg
      refine ⟨v', S_name_global O hx hd h1 h2, hv, fun _ fv e => ?_⟩
      subst e
      obtain ⟨a, rfl⟩ := K.val _ _ hg
      exact K.keep _ _ hg
  · exact ⟨v', S_name_local (by rw [O.scope]; exact O.kind) hd hl, hv, fun e => by rw [hl] at e; cases e⟩
theorem ok_const {c : Const} {kk : Nat} {p : Pos} {k : AV → Sto → Option R} (hv : n_const c σ k = some r) : OkE cx d env ρ σ (eval (.Constant c kk p) env) k r := by
  cases c <;> first | exact no hv | exact .mk S_int hv | exact .mk S_str hv | exact .mk S_bool hv | exact .mk S_none hv
theorem ok_tests (ih : Snd n cx d) (O : EnvOk env sc) {ifs : List Expr} {k : Bool → Sto → Option R} (hv : n_tests n sc ifs ρ σ k = some r) : OkB (cx.wb b h) d env ρ σ (testsT ifs env) k r := by
  cases ifs with
  | nil => exact .mk T_nilT hv
  | cons e q =>
    obtain ⟨h1, hv⟩ := pre_some hv
    rw [isE_eq h1]
    exact (ih.B b h _ _ O _ _ _ _ _ hv).on fun v σ' h2 h3 => .mk (T_oneT h2) h3
theorem ok_cmp (ih : Snd n cx d) (O : EnvOk env sc) {l : Expr} {ops : List CmpOp} {rs : List Expr} {k : Bool → Sto → Option R} (hv : n_cmp n sc l ops rs ρ σ k = some r) {P : Prop}
    (H : ∀ op rt a b' σ₁ σ₂ t, ops = [op] → rs = [rt] → behindInMarks op rt = false → SimE (cx.wb b h) d env ρ σ (eval l env) a σ₁ → SimE (cx.wb b h) d env ρ σ₁ (eval rt env) b' σ₂ → OpE (cx.wb b h) d [a, b'] σ₂ (cmpF op) (.bool t) σ₂ → k t σ₂ = some r → P) : P := by
  obtain ⟨op, h1, hv⟩ := goO_inv hv
  obtain ⟨rt, h2, hv⟩ := goO_inv hv
  obtain ⟨h3, hv⟩ := pre_some hv
  refine (ih.E b h _ _ O _ _ _ _ _ hv).on fun a σ₁ h4 hv => ?_
  refine (ih.E b h _ _ O _ _ _ _ _ hv).on fun b' σ₂ h5 hv => ?_
  obtain ⟨t, h6, hv⟩ := goO_inv hv
  exact H op rt a b' σ₁ σ₂ t (oneOf_eq h1) (oneOf_eq h2) (by cases q : behindInMarks op rt with | false => rfl | true => rw [q] at h3; cases h3) h4 h5 (cmpV_ok h6) hv
theorem ok_slice {o : Expr} {lo hi st : Option Expr} {p sp : Pos} {a : AV} {σ₁ : Sto} {k : AV → Sto → Option R} (ho : SimE cx d env ρ σ (eval o env) a σ₁) (hv : n_slice lo hi st a σ₁ k = some r) :
    OkE cx d env ρ σ (eval (.Subscript o (.Slice lo hi st sp) p) env) k r := by
  obtain ⟨e1, hv⟩ := nilO_inv hv
  rw [e1]
  rcases optG_inv hv with ⟨e2, hv⟩ | ⟨l, e2, hv⟩
  · obtain ⟨s, e3, hv⟩ := goO_inv hv
    obtain ⟨x, e4, hv⟩ := goO_inv hv
    obtain ⟨j, e5, hv⟩ := goO_inv hv
    obtain ⟨e6, hv⟩ := pre_dec hv
    obtain ⟨p', e4⟩ := negOf_eq e4
    obtain ⟨kd, p, e5⟩ := natOf_eq e5
    rw [e2, e3, e4, e5, e6]
    rcases asTR_inv hv with ⟨l, rfl, hv⟩ | ⟨j, rfl, hv⟩
    · obtain ⟨hz, hv⟩ := pre_dec hv
      exact .mk (S_rev_tup ho (S_usub S_int) hz) hv
    · obtain ⟨l, hl, hv⟩ := goO_inv hv
      exact .mk (S_rev_lst ho (lstAt_some hl) (S_usub S_int)) hv
  · obtain ⟨e3, hv⟩ := nilO_inv hv
    obtain ⟨j, e4, hv⟩ := goO_inv hv
    obtain ⟨kd, p, e4⟩ := natOf_eq e4
    rw [e2, e3, e4]
    obtain ⟨l, rfl, hv⟩ := asT_inv hv
    obtain ⟨hz, hv⟩ := pre_dec hv
    exact .mk (S_from ho hz.1 hz.2.1 hz.2.2) hv
theorem ok_item (ih : Snd n cx d) (O : EnvOk env sc) {o i : Expr} {p : Pos} {a : AV} {σ₁ : Sto} {k : AV → Sto → Option R} (ho : SimE (cx.wb b h) d env ρ σ (eval o env) a σ₁) (hv : n_item n sc i a ρ σ₁ k = some r) :
    OkE (cx.wb b h) d env ρ σ (eval (.Subscript o i p) env) k r := by
  rcases optG_inv hv with ⟨_, hv⟩ | ⟨q, e, hv⟩
  · refine (ih.E b h _ _ O _ _ _ _ _ hv).on fun b' σ₂ h2 hv => ?_
    obtain ⟨w, h3, hv⟩ := goO_inv hv
    have g := getV_ok (cx := cx.wb b h) (d := d) h3
    exact .mk (S_subscript ho h2 g.2 g.1) hv
  · obtain ⟨sp, e⟩ := sliceOf_eq e
    rw [e]
    exact ok_slice ho hv
theorem ok_call (K : ∀ b h, GOk G (cx.wb b h)) (Oo : ∀ b h, OrcOk (cx.wb b h) d orc) (ih : Snd n cx d) (O : EnvOk env sc) {f : Expr} {as : List Expr} {pos : Pos} {k : AV → Sto → Option R} (hs : noStars as = true) (hn : as.length < 20)
    (hv : n_call G orc n sc f as pos ρ σ k = some r) : OkE (cx.wb b h) d env ρ σ (eval (.Call f as [] pos) env) k r := by
  rcases optG_inv hv with ⟨_, hv⟩ | ⟨q, e, hv⟩
  · obtain ⟨o, name, apos, e, hv⟩ := inAttr_inv hv
    rw [e]
    obtain ⟨hp, hv⟩ := pre_some hv
    simp only [Bool.and_eq_true] at hp
    refine (ih.E b h _ _ O _ _ _ _ _ hv).on fun x σ₁ h1 hv => ?_
    obtain ⟨fv, hm, hv⟩ := goO_inv hv
    refine (ih.L b h _ _ O _ _ _ _ _ pos hs hv).on fun vs σ₂ h2 hv => ?_
    obtain ⟨v, σ', h3, hv⟩ := go_inv hv
    have g := methV_ok (d := d) (K b h) hm
    exact .mk (S_call_method hs hn hp.1 hp.2 h1 g.1 g.2 h2 (callV_ok (Oo b h) h3)) hv
  · rw [npOf_eq e]
    obtain ⟨hl, hv⟩ := pre_some hv
    obtain ⟨x, h1, hv, hk⟩ := ok_name (K b h) O (p := q.2) (d := d) hv
    obtain ⟨fv, rfl, hv⟩ := asV_inv hv
    refine (ih.L b h _ _ O _ _ _ _ _ pos hs hv).on fun vs σ₂ h2 hv => ?_
    obtain ⟨v, σ', h3, hv⟩ := go_inv hv
    exact .mk (S_call_name hs h1 (hk (Option.isNone_iff_eq_none.mp hl) _ rfl) h2 (callV_ok (Oo b h) h3)) hv
theorem some_pair {α : Type} {v w : α} {σ σ' : Sto} (e : some (v, σ) = some (w, σ')) : v = w ∧ σ = σ' := by cases e; exact ⟨rfl, rfl⟩
theorem ok_comp (K : ∀ b h, GOk G (cx.wb b h)) (ih : Snd n cx d) (O : EnvOk env sc) {elt : Expr} {gens : List Comprehension} {scope : Scope} {pos : Pos} {k : AV → Sto → Option R}
    (hv : n_comp G n sc elt gens scope ρ σ k = some r) : OkE (cx.wb b h) d env ρ σ (eval (.ListComp elt gens scope pos) env) k r := by
  have hT : ∀ b h ifs env', EnvOk env' (relS scope sc) → ∀ ρ σ k σ', (n_tests n (relS scope sc) ifs ρ σ fun t σ => some (t, σ)) = some (k, σ') → SimB (cx.wb b h) d env' ρ σ (testsT ifs env') k σ' :=
    fun b h ifs env' O' ρ σ k σ' q => (ok_tests (b := b) (h := h) ih O' q).on fun v σ₁ h1 e => by
      obtain ⟨rfl, rfl⟩ := some_pair e
      exact h1
  have hE : ∀ b h env', EnvOk env' (relS scope sc) → ∀ ρ σ v σ', (n.E (relS scope sc) elt ρ σ fun t σ => some (t, σ)) = some (v, σ') → SimE (cx.wb b h) d env' ρ σ (eval elt env') v σ' :=
    fun b h env' O' ρ σ k σ' q => (ih.E b h _ _ O' _ _ _ _ _ q).on fun v σ₁ h1 e => by
      obtain ⟨rfl, rfl⟩ := some_pair e
      exact h1
  obtain ⟨kd, hk, hv⟩ := goO_inv hv
  have hk := compK_is hk
  cases kd with
  | one y iter ifs =>
    obtain ⟨p, e⟩ := hk
    rw [e]
    obtain ⟨hp, hv⟩ := pre_some hv
    simp only [Bool.and_eq_true] at hp
    refine (ih.I b h _ _ O _ _ _ _ _ hv).on fun items σ₁ h1 hv => ?_
    obtain ⟨hz, hv⟩ := pre_dec hv
    obtain ⟨ws, σ₂, h2, hv⟩ := go_inv hv
    exact .mk (S_listcomp O hp.1 hp.2 hz h1 (fun env' O' => hT b h _ env' O') (fun env' O' => hE b h env' O') h2) hv
  | two y z f fp a b' ifs =>
    obtain ⟨p, q, kt, pt, zp, e⟩ := hk
    rw [e]
    obtain ⟨hp, hv⟩ := pre_some hv
    simp only [Bool.and_eq_true] at hp
    obtain ⟨x, h0, hv, _⟩ := ok_name (K b h) O (p := fp) (d := d) hv
    obtain ⟨hx, hv⟩ := pre_some hv
    rw [isTy_eq hx] at h0
    refine (ih.E b h _ _ O _ _ _ _ _ hv).on fun a σ₁ h1 hv => ?_
    obtain ⟨l, rfl, hv⟩ := asT_inv hv
    refine (ih.E b h _ _ O _ _ _ _ _ hv).on fun a σ₂ h2 hv => ?_
    obtain ⟨m, rfl, hv⟩ := asT_inv hv
    obtain ⟨hz, hv⟩ := pre_dec hv
    obtain ⟨ws, σ₃, h3, hv⟩ := go_inv hv
    exact .mk (S_zip O hp.1 hp.2 hz.1 hz.2 h0 h1 h2 (fun b' h' env' O' => hT b' h' _ env' O') (fun b' h' env' O' => hE b' h' env' O') h3) hv
  | vals y o t =>
    obtain ⟨p, p1, p2, pt, kt, kc, name, apos, pos, e1, e2, a1, a2, a3⟩ := hk
    rw [e1, e2]
    obtain ⟨hp, hv⟩ := pre_some hv
    refine (ih.E b h _ _ O _ _ _ _ _ hv).on fun x σ₁ h1 hv => ?_
    obtain ⟨i, rfl, hv⟩ := asR_inv hv
    obtain ⟨l, hl, hv⟩ := goO_inv hv
    obtain ⟨hz, hv⟩ := pre_dec hv
    simp only [Bool.and_eq_true, Bool.not_eq_true'] at hp
    exact .mk (S_vals O hp.1 hp.2 hz a1 a2 a3 h1 hl) hv

theorem ok_E (K : ∀ b h, GOk G (cx.wb b h)) (Oo : ∀ b h, OrcOk (cx.wb b h) d orc) (ih : Snd n cx d) (O : EnvOk env sc) (e : Expr) (k : AV → Sto → Option R) (hv : n_E G orc n sc e ρ σ k = some r) :
    OkE (cx.wb b h) d env ρ σ (eval e env) k r := by
  cases e <;> first | exact no hv | skip
  case Name x p =>
    obtain ⟨v, h1, h2, _⟩ := ok_name (K b h) O (p := p) (d := d) hv
    exact .mk h1 h2
  case Constant c kk p => exact ok_const hv
  case BinOp l op rt p =>
    refine (ih.E b h _ _ O _ _ _ _ _ hv).on fun a σ₁ h1 hv => ?_
    refine (ih.E b h _ _ O _ _ _ _ _ hv).on fun c σ₂ h2 hv => ?_
    obtain ⟨v, σ', h3, hv⟩ := go_inv hv
    exact .mk (S_binop h1 h2 (binV_ok h3)) hv
  case Compare l ops rs p =>
    exact ok_cmp (b := b) (h := h) ih O hv fun op rt a c σ₁ σ₂ t e1 e2 h1 h2 h3 h4 hv => by
      rw [e1, e2]
      exact .mk (S_compare h2 h3 h4 h1) hv
  case UnaryOp op x p =>
    cases op <;> first | exact no hv | skip
    · refine (ih.E b h _ _ O _ _ _ _ _ hv).on fun a σ₁ h1 hv => ?_
      obtain ⟨t, rfl, hv⟩ := asB_inv hv
      exact .mk (S_not h1) hv
    · refine (ih.E b h _ _ O _ _ _ _ _ hv).on fun a σ₁ h1 hv => ?_
      obtain ⟨t, rfl, hv⟩ := asI_inv hv
      exact .mk (S_usub h1) hv
  case BoolOp op vs p =>
    cases op with
    | Or => cases hv
    | And =>
      obtain ⟨q, h1, hv⟩ := goO_inv hv
      rw [twoOf_eq h1]
      refine (ih.E b h _ _ O _ _ _ _ _ hv).on fun a σ₁ h2 hv => ?_
      obtain ⟨t, rfl, hv⟩ := asB_inv hv
      cases t with
      | true =>
        refine (ih.E b h _ _ O _ _ _ _ _ hv).on fun a σ₂ h3 hv => ?_
        exact .mk (S_and_true h2 h3) hv
      | false => exact .mk (S_and_false h2) hv
  case IfExp t x y p =>
    refine (ih.B b h _ _ O _ _ _ _ _ hv).on fun t σ₁ h2 hv => ?_
    cases t with
    | true =>
      refine (ih.E b h _ _ O _ _ _ _ _ hv).on fun a σ₂ h3 hv => ?_
      exact .mk (S_ifexp h2 (fun _ => h3) (fun e => by cases e)) hv
    | false =>
      refine (ih.E b h _ _ O _ _ _ _ _ hv).on fun a σ₂ h3 hv => ?_
      exact .mk (S_ifexp h2 (fun e => by cases e) (fun _ => h3)) hv
  case Tuple es kk p =>
    obtain ⟨hs, hv⟩ := pre_some hv
    refine (ih.L b h _ _ O _ _ _ _ _ p hs hv).on fun vs σ₁ h1 hv => ?_
    obtain ⟨hz, hv⟩ := pre_dec hv
    exact .mk (S_tuple h1 hz) hv
  case List es p =>
    obtain ⟨hs, hv⟩ := pre_some hv
    refine (ih.L b h _ _ O _ _ _ _ _ p hs hv).on fun vs σ₁ h1 hv => ?_
    obtain ⟨hz, hv⟩ := pre_dec hv
    exact .mk (S_list h1 hz) hv
  case Dict ks vs p =>
    obtain ⟨hs, hv⟩ := pre_some hv
    simp only [Bool.and_eq_true] at hs
    rw [isE_eq hs.1, isE_eq hs.2]
    exact .mk (S_dict) hv
  case Attribute o name p =>
    obtain ⟨hs, hv⟩ := pre_some hv
    refine (ih.E b h _ _ O _ _ _ _ _ hv).on fun a σ₁ h1 hv => ?_
    obtain ⟨v, h2, hv⟩ := goO_inv hv
    exact .mk (S_attribute hs h1 (attrV_ok (K b h) h2)) hv
  case Subscript o i p =>
    refine (ih.E b h _ _ O _ _ _ _ _ hv).on fun a σ₁ h1 hv => ?_
    exact ok_item ih O h1 hv
  case Call f as ks pos =>
    obtain ⟨hp, hv⟩ := pre_some hv
    simp only [Bool.and_eq_true, decide_eq_true_eq] at hp
    obtain ⟨⟨hs, hks⟩, hn⟩ := hp
    rw [isE_eq hks]
    exact ok_call K Oo ih O hs hn hv
  case ListComp elt gens scope pos => exact ok_comp K ih O hv

theorem ok_Bv (ih : Snd n cx d) (O : EnvOk env sc) {e : Expr} {k : Bool → Sto → Option R} (hv : n_Bv n sc e ρ σ k = some r) : OkB (cx.wb b h) d env ρ σ (isTrue e env (eval e env)) k r := by
  obtain ⟨hm, hv⟩ := pre_some hv
  refine (ih.E b h _ _ O _ _ _ _ _ hv).on fun a σ₁ h1 hv => ?_
  obtain ⟨t, rfl, hv⟩ := asB_inv hv
  exact .mk (B_value h1 (isTrue_of_plain hm _)) hv
theorem ok_B (ih : Snd n cx d) (O : EnvOk env sc) (e : Expr) (k : Bool → Sto → Option R) (hv : n_B n sc e ρ σ k = some r) : OkB (cx.wb b h) d env ρ σ (isTrue e env (eval e env)) k r := by
  cases e <;> first | exact ok_Bv ih O hv | skip
  case UnaryOp op x p =>
    cases op <;> first | exact no hv | skip
    exact (ih.B b h _ _ O _ _ _ _ _ hv).on fun t σ₁ h1 hv => .mk (B_not h1) hv
  case BoolOp op vs p => exact (ih.A b h _ _ O _ _ _ _ _ _ hv).on fun t σ₁ h1 hv => .mk (B_boolop h1) hv
  case Compare l ops rs p =>
    exact ok_cmp (b := b) (h := h) ih O hv fun op rt a c σ₁ σ₂ t e1 e2 h1 h2 h3 h4 hv => by
      rw [e1, e2]
      exact .mk (B_compare h2 h3 h4 h1) hv
theorem ok_A (ih : Snd n cx d) (O : EnvOk env sc) (op : BoolOp) (es : List Expr) (k : Bool → Sto → Option R) (hv : n_A n sc op es ρ σ k = some r) : OkB (cx.wb b h) d env ρ σ (allTrue op es env) k r := by
  cases es with
  | nil =>
    cases op with
    | And => exact .mk B_and_nil hv
    | Or => exact .mk B_or_nil hv
  | cons e q =>
    refine (ih.B b h _ _ O _ _ _ _ _ hv).on fun t σ₁ hb hv => ?_
    cases op with
    | And => cases t with
      | true =>
        refine (ih.A b h _ _ O _ _ _ _ _ _ hv).on fun t σ₂ h2 hv => ?_
        exact .mk (B_and_true hb h2) hv
      | false => exact .mk (B_and_false hb) hv
    | Or => cases t with
      | true => exact .mk (B_or_true hb) hv
      | false =>
        refine (ih.A b h _ _ O _ _ _ _ _ _ hv).on fun t σ₂ h2 hv => ?_
        exact .mk (B_or_false hb h2) hv
theorem ok_I (K : ∀ b h, GOk G (cx.wb b h)) (ih : Snd n cx d) (O : EnvOk env sc) (e : Expr) (k : List AV → Sto → Option R) (hv : n_I G n sc e ρ σ k = some r) : OkI (cx.wb b h) d env ρ σ e k r := by
  rcases optG_inv hv with ⟨_, hv⟩ | ⟨q, e, hv⟩
  · refine (ih.E b h _ _ O _ _ _ _ _ hv).on fun a σ₁ h1 hv => ?_
    obtain ⟨j, rfl, hv⟩ := asT_inv hv
    exact .mk (I_tuple h1) hv
  · obtain ⟨pos, e, hs⟩ := rngOf_eq e
    rw [e]
    obtain ⟨x, h0, hv, _⟩ := ok_name (K b h) O (d := d) (p := q.2.1) hv
    obtain ⟨hx, hv⟩ := pre_some hv
    rw [isTy_eq hx] at h0
    refine (ih.E b h _ _ O _ _ _ _ _ hv).on fun a σ₁ h1 hv => ?_
    obtain ⟨j, rfl, hv⟩ := asI_inv hv
    obtain ⟨hz, hv⟩ := pre_dec hv
    exact .mk (src_range O hs h0 h1 hz.1 hz.2) hv

theorem snd (K : ∀ b h, GOk G (cx.wb b h)) (Oo : ∀ b h, OrcOk (cx.wb b h) d orc) : ∀ n, Snd (ev G orc n) cx d
  | 0 => by refine ⟨?_, ?_, ?_, ?_, ?_⟩ <;> (intros; rename_i hv; cases hv)
  | n + 1 => by
    have ih := snd K Oo n
    refine ⟨fun b h env sc O R e ρ σ k r hv => ok_E K Oo ih O e k hv, ?_, fun b h env sc O R e ρ σ k r hv => ok_B ih O e k hv, fun b h env sc O R op e ρ σ k r hv => ok_A ih O op e k hv, fun b h env sc O R e ρ σ k r hv => ok_I K ih O e k hv⟩
    intro b h env sc O R es ρ σ k r p hs hv
    cases es with
    | nil => exact .mk (L_nil) hv
    | cons e q =>
      obtain ⟨hs1, hs2⟩ := noStars_cons hs
      refine (ih.E b h _ _ O _ _ _ _ _ hv).on fun v σ₁ h1 hv => ?_
      refine (ih.L b h _ _ O _ _ _ _ _ p hs2 hv).on fun vs σ₂ h2 hv => ?_
      exact .mk (L_cons hs1 h1 h2) hv

structure SndS (n : Es) (cx : Cx) (d : Nat) : Prop where
  S : ∀ b h env sc, EnvOk env sc → ∀ {R : Type} st ρ σ (k : Flw → Loc → Sto → Option R) r, n.S sc st ρ σ k = some r → OkS (cx.wb b h) d env ρ σ (exec st env) k r
  Ss : ∀ b h env sc, EnvOk env sc → ∀ {R : Type} st ρ σ (k : Flw → Loc → Sto → Option R) r, n.Ss sc st ρ σ k = some r → OkS (cx.wb b h) d env ρ σ (execs st env) k r

variable {F : Ev} {m : Es}
theorem some_trip {f f' : Flw} {ρ ρ' : Loc} {σ σ' : Sto} (e : some (f, ρ, σ) = some (f', ρ', σ')) : f = f' ∧ ρ = ρ' ∧ σ = σ' := by cases e; exact ⟨rfl, rfl, rfl⟩
theorem ok_body (ih : SndS m cx d) (O : EnvOk env sc) (body : List Stmt) : ∀ ρ σ f ρ' σ', bodyF m sc body ρ σ = some (f, ρ', σ') → SimS (cx.wb b h) d env ρ σ (execs body env) f ρ' σ' :=
  fun ρ σ f ρ' σ' q => (ih.Ss b h _ _ O _ _ _ _ _ q).on fun f1 ρ1 σ1 h1 e => by
    obtain ⟨rfl, rfl, rfl⟩ := some_trip e
    exact h1
theorem ok_for (e : Snd F cx d) (ih : SndS m cx d) (O : EnvOk env sc) {y : Str} {p pos : Pos} {iter : Expr} {body : List Stmt} {k : Flw → Loc → Sto → Option R} (hv : n_for F m sc y iter body ρ σ k = some r) :
    OkS (cx.wb b h) d env ρ σ (exec (.For (.Name y p) iter body [] pos) env) k r := by
  obtain ⟨hp, hv⟩ := pre_some hv
  simp only [Bool.and_eq_true, beq_iff_eq] at hp
  have hb := ok_body (b := b) (h := h) ih O body
  rcases iff_inv hv with ⟨_, hv⟩ | ⟨_, hv⟩
  · refine (e.E b h _ _ O _ _ _ _ _ hv).on fun x σ₁ h1 hv => ?_
    rcases asTR_inv hv with ⟨l, rfl, hv⟩ | ⟨j, rfl, hv⟩
    · obtain ⟨f, ρ', σ', h2, hv⟩ := go3_inv hv
      exact .mk (T_for O hp.1 hp.2 (I_tuple h1) hb h2) hv
    · obtain ⟨f, ρ', σ', h2, hv⟩ := go3_inv hv
      exact .mk (T_forR O hp.1 hp.2 h1 hb h2) hv
  · refine (e.I b h _ _ O _ _ _ _ _ hv).on fun x σ₁ h1 hv => ?_
    obtain ⟨f, ρ', σ', h2, hv⟩ := go3_inv hv
    exact .mk (T_for O hp.1 hp.2 h1 hb h2) hv
theorem ok_assign (K : ∀ b h, GOk G (cx.wb b h)) (e : Snd F cx d) (O : EnvOk env sc) {t value : Expr} {pos : Pos} {k : Flw → Loc → Sto → Option R} (hv : n_assign G F sc t value ρ σ k = some r) :
    OkS (cx.wb b h) d env ρ σ (exec (.Assign [t] value pos) env) k r := by
  cases t <;> first | exact no hv | skip
  · obtain ⟨hc, hv⟩ := pre_some hv
    refine (e.E b h _ _ O _ _ _ _ _ hv).on fun v σ₁ h1 hv => ?_
    refine (e.E b h _ _ O _ _ _ _ _ hv).on fun a σ₂ h2 hv => ?_
    obtain ⟨σ₄, h4, hv⟩ := goO_inv hv
    exact .mk (T_assign_attribute hc h1 h2 (setAttrV_ok (K b h) h4)) hv
  · obtain ⟨hc, hv⟩ := pre_some hv
    refine (e.E b h _ _ O _ _ _ _ _ hv).on fun v σ₁ h1 hv => ?_
    refine (e.E b h _ _ O _ _ _ _ _ hv).on fun a σ₂ h2 hv => ?_
    refine (e.E b h _ _ O _ _ _ _ _ hv).on fun i σ₃ h3 hv => ?_
    obtain ⟨σ₄, h4, hv⟩ := goO_inv hv
    exact .mk (T_assign_subscript hc h1 h2 h3 (setV_ok h4)) hv
  · obtain ⟨hp, hv⟩ := pre_some hv
    simp only [Bool.and_eq_true, beq_iff_eq] at hp
    refine (e.E b h _ _ O _ _ _ _ _ hv).on fun v σ₁ h1 hv => ?_
    exact .mk (T_assign_name O hp.1.1 hp.2 h1) hv
  · obtain ⟨xs, hxs, hv⟩ := goO_inv hv
    obtain ⟨hp, hv⟩ := pre_some hv
    simp only [Bool.and_eq_true, decide_eq_true_eq] at hp
    obtain ⟨⟨⟨hc, hnd⟩, hall⟩, hval⟩ := hp
    refine (e.E b h _ _ O _ _ _ _ _ hv).on fun x σ₁ h1 hv => ?_
    obtain ⟨vs, rfl, hv⟩ := asT_inv hv
    obtain ⟨hl, hv⟩ := pre_dec hv
    refine .mk (T_assign_tuple O hxs hnd hl (fun x hx => beq_iff_eq.mp (List.all_eq_true.mp hall x hx)) hc (fun ws k p q => ?_) h1) hv
    subst q
    simpa [okVal] using hval
theorem ok_S (K : ∀ b h, GOk G (cx.wb b h)) (e : Snd F cx d) (ih : SndS m cx d) (O : EnvOk env sc) (st : Stmt) (k : Flw → Loc → Sto → Option R) (hv : n_S G F m sc st ρ σ k = some r) :
    OkS (cx.wb b h) d env ρ σ (exec st env) k r := by
  cases st <;> first | exact no hv | skip
  case Expr =>
    obtain ⟨hc, hv⟩ := pre_some hv
    refine (e.E b h _ _ O _ _ _ _ _ hv).on fun v σ₁ h1 hv => ?_
    exact .mk (T_expr O hc h1) hv
  case Return =>
    obtain ⟨v, rfl, hv⟩ := goO_inv hv
    refine (e.E b h _ _ O _ _ _ _ _ hv).on fun v σ₁ h1 hv => ?_
    exact .mk (T_return h1) hv
  case Continue =>
    exact .mk (T_continue) hv
  case Pass =>
    exact .mk (T_pass) hv
  case If =>
    refine (e.B b h _ _ O _ _ _ _ _ hv).on fun t σ₁ h1 hv => ?_
    cases t with
    | true =>
      refine (ih.Ss b h _ _ O _ _ _ _ _ hv).on fun f ρ' σ' h2 hv => ?_
      exact .mk (T_if h1 (fun _ => h2) (fun q => by cases q)) hv
    | false =>
      refine (ih.Ss b h _ _ O _ _ _ _ _ hv).on fun f ρ' σ' h2 hv => ?_
      exact .mk (T_if h1 (fun q => by cases q) (fun _ => h2)) hv
  case While =>
    obtain ⟨he, hv⟩ := pre_some hv
    rw [isE_eq he]
    obtain ⟨f, ρ', σ', h2, hv⟩ := go3_inv hv
    refine ⟨_, _, _, T_while (fun ρ σ b' σ₁ q => ?_) (ok_body (b := b) (h := h) ih O _) h2, hv⟩
    obtain ⟨t, σ2, h1, e⟩ := e.B b h _ _ O _ _ _ _ _ q
    obtain ⟨rfl, rfl⟩ := some_pair e
    exact h1
  case For =>
    obtain ⟨y, hy, hv⟩ := goO_inv hv
    obtain ⟨p, rfl⟩ := nmOf_eq hy
    obtain ⟨he, hv⟩ := pre_some hv
    rw [isE_eq he]
    exact ok_for e ih O hv
  case Assign =>
    obtain ⟨t, ht, hv⟩ := goO_inv hv
    rw [oneOf_eq ht]
    exact ok_assign K e O hv

theorem sndS (K : ∀ b h, GOk G (cx.wb b h)) (e : Snd F cx d) : ∀ n, SndS (es G F n) cx d
  | 0 => by refine ⟨?_, ?_⟩ <;> (intros; rename_i hv; cases hv)
  | n + 1 => by
    have ih := sndS K e n
    refine ⟨fun b h env sc O R st ρ σ k r hv => ok_S K e ih O st k hv, ?_⟩
    intro b h env sc O R ss ρ σ k r hv
    cases ss with
    | nil => exact .mk (T_nil) hv
    | cons st q =>
      refine (ih.S b h _ _ O _ _ _ _ _ hv).on fun f ρ₁ σ₁ h1 hv => ?_
      cases f with
      | next =>
        refine (ih.Ss b h _ _ O _ _ _ _ _ hv).on fun f ρ' σ' h2 hv => ?_
        exact .mk (T_cons_next h1 h2) hv
      | brk => exact .mk (T_cons_stop (fun X h α fl r e => by subst e; simp [repF] at r) h1) hv
      | cont => exact .mk (T_cons_stop (fun X h α fl r e => by subst e; simp [repF] at r) h1) hv
      | ret v => exact .mk (T_cons_stop (fun X h α fl r e => by subst e; simp [repF] at r) h1) hv

/-- the frame of a call is what a scope wants -/
theorem callEnv_ok {cx : Cx} {a : Addr} {f : FnI} (K : FnOk cx a f) (L : Addr) : EnvOk (callEnvC f.fd L a) f.fd.scope :=
  ⟨rfl, K.kind, K.glob, K.bt⟩

theorem callN_ok (K : ∀ b h, GOk G (cx.wb b h)) (d : Nat) : ∀ b h, OrcOk (cx.wb b h) d (callN G d) := by
  induction d with
  | zero => exact fun b h a as σ v σ' hv => no hv
  | succ d ih =>
    intro b h a as σ v σ' hv
    rcases optG_inv hv with ⟨_, hv⟩ | ⟨f, hf, hv⟩
    · obtain ⟨fI, hc, hv⟩ := goO_inv hv
      obtain ⟨v', σ₁, h1, hv⟩ := go_inv hv
      cases v' <;> first | exact no hv | skip
      cases hv
      exact C_new ((K b h).cls _ _ hc) (ih b h _ _ _ _ _ h1)
    · obtain ⟨hl, hv⟩ := pre_dec hv
      have k := (K b h).fn _ _ hf
      intro A α s cs Rr R S r hR
      refine C_code (d := d) k.1 hl k.2 (fun L => ?_) A α s cs R S r (fun v s' α' w q => hR v s' α' w q)
      refine ((sndS K (snd K ih 60) 60).Ss b h _ _ (callEnv_ok k.1 L) _ _ _ _ _ hv).on fun fl ρ' σ₁ h1 hv => ?_
      cases hv
      exact ⟨fl, ρ', rfl, h1⟩
end
end Mine

end

noncomputable section
open PySem PySem.W PyProof.Rows
set_option Elab.async false
set_option maxRecDepth 100000
namespace Mine

noncomputable abbrev pw : Program := PySem.Challenge.pw_pc0208_01
noncomputable def argNames : List Arg → List Str
  | [] => []
  | ⟨n, _, _⟩ :: r => n :: argNames r
noncomputable def mkFn (q : Str → Str) (n : Str) (ps : Arguments) (b : List Stmt) (sc : Scope) (a : Addr) (pm : Str) (tk : Tok) : FnI where
  fd := { name := n, qualname := q n, params := ps, body := .stmts b, scope := sc, globals := 3, closure := [], defaults := .none, kwdefaults := .none, pyModule := .str pm tk, code := .ref (a - 1), builtins := 0 }
  body := b
  names := argNames ps.args
noncomputable def noFn : FnI := { fd := default, body := [], names := [] }
noncomputable def fnFrom (q : Str → Str) (s : Option Stmt) (a : Addr) (pm : Str) (tk : Tok) : FnI := match s with
  | some (.FunctionDef n ps b _ _ _ sc _ _ _) => mkFn q n ps b sc a pm tk
  | _ => noFn
noncomputable def topFn (i : Nat) (a : Addr) (pm : Str) (tk : Tok) : FnI := fnFrom id (pw.main.body[i]?) a pm tk
noncomputable def clsBody (i : Nat) : List Stmt := match pw.main.body[i]? with
  | some (.ClassDef _ _ _ b _ _ _ _ _ _ _) => b
  | _ => []
noncomputable def clsFn (i j : Nat) (c : Str) (a : Addr) (pm : Str) (tk : Tok) : FnI := fnFrom (fun n => c ++ ("." ++ n)) ((clsBody i)[j]?) a pm tk

noncomputable abbrev a_expr : Addr := 21
noncomputable def F_expr : FnI := topFn 1 21 "methodrows.forms" 187
noncomputable abbrev a_is_expr : Addr := 28
noncomputable def F_is_expr : FnI := topFn 2 28 "methodrows.forms" 187
noncomputable abbrev a_head_of : Addr := 35
noncomputable def F_head_of : FnI := topFn 3 35 "methodrows.forms" 187
noncomputable abbrev a_parts_of : Addr := 42
noncomputable def F_parts_of : FnI := topFn 4 42 "methodrows.forms" 187
noncomputable abbrev a_is_sym : Addr := 49
noncomputable def F_is_sym : FnI := topFn 5 49 "methodrows.forms" 187
noncomputable abbrev a_place_names : Addr := 58
noncomputable def F_place_names : FnI := topFn 9 58 "methodrows.binders" 226
noncomputable abbrev a_declared_names : Addr := 65
noncomputable def F_declared_names : FnI := topFn 10 65 "methodrows.binders" 226
noncomputable abbrev a_own_names : Addr := 70
noncomputable def F_own_names : FnI := topFn 11 70 "methodrows.binders" 226
noncomputable abbrev a_argument_names : Addr := 77
noncomputable def F_argument_names : FnI := topFn 12 77 "methodrows.binders" 226
noncomputable abbrev a_head_call : Addr := 84
noncomputable def F_head_call : FnI := topFn 13 84 "methodrows.binders" 226
noncomputable abbrev a_head_names : Addr := 91
noncomputable def F_head_names : FnI := topFn 14 91 "methodrows.binders" 226
noncomputable abbrev a_keyword_names : Addr := 98
noncomputable def F_keyword_names : FnI := topFn 15 98 "methodrows.binders" 226
noncomputable abbrev a_where_names : Addr := 105
noncomputable def F_where_names : FnI := topFn 16 105 "methodrows.binders" 226
noncomputable abbrev a_bare : Addr := 173
noncomputable def F_bare : FnI := topFn 23 173 "methodrows.hygiene" 370
noncomputable abbrev a_renamed_locals : Addr := 291
noncomputable def F_renamed_locals : FnI := topFn 25 291 "methodrows.hygiene" 370
noncomputable abbrev a_law_urn : Addr := 298
noncomputable def F_law_urn : FnI := topFn 27 298 "law_pc0208_01" 610
noncomputable abbrev a_law_next : Addr := 305
noncomputable def F_law_next : FnI := topFn 28 305 "law_pc0208_01" 610
noncomputable abbrev a_law_name : Addr := 312
noncomputable def F_law_name : FnI := topFn 29 312 "law_pc0208_01" 610
noncomputable abbrev a_law_tree : Addr := 319
noncomputable def F_law_tree : FnI := topFn 30 319 "law_pc0208_01" 610
noncomputable abbrev a_law_bound : Addr := 326
noncomputable def F_law_bound : FnI := topFn 31 326 "law_pc0208_01" 610
noncomputable abbrev a_law_new : Addr := 333
noncomputable def F_law_new : FnI := topFn 32 333 "law_pc0208_01" 610
noncomputable abbrev a_law_scope : Addr := 340
noncomputable def F_law_scope : FnI := topFn 33 340 "law_pc0208_01" 610
noncomputable abbrev a_law_marked : Addr := 345
noncomputable def F_law_marked : FnI := topFn 34 345 "law_pc0208_01" 610
noncomputable abbrev a_law_fits : Addr := 350
noncomputable def F_law_fits : FnI := topFn 35 350 "law_pc0208_01" 610
noncomputable abbrev a_law : Addr := 355
noncomputable def F_law : FnI := topFn 36 355 "law_pc0208_01" 610
noncomputable abbrev a_S_init : Addr := 152
noncomputable def F_S_init : FnI := clsFn 22 0 "NameSupply" 152 "methodrows.hygiene" 370
noncomputable abbrev a_S_next : Addr := 159
noncomputable def F_S_next : FnI := clsFn 22 1 "NameSupply" 159 "methodrows.hygiene" 370
noncomputable abbrev a_R_init : Addr := 187
noncomputable def F_R_init : FnI := clsFn 24 0 "Renamer" 187 "methodrows.hygiene" 370
noncomputable abbrev a_R_fresh : Addr := 194
noncomputable def F_R_fresh : FnI := clsFn 24 1 "Renamer" 194 "methodrows.hygiene" 370
noncomputable abbrev a_R_opened : Addr := 201
noncomputable def F_R_opened : FnI := clsFn 24 2 "Renamer" 201 "methodrows.hygiene" 370
noncomputable abbrev a_R_body : Addr := 208
noncomputable def F_R_body : FnI := clsFn 24 3 "Renamer" 208 "methodrows.hygiene" 370
noncomputable abbrev a_R_all_of : Addr := 213
noncomputable def F_R_all_of : FnI := clsFn 24 4 "Renamer" 213 "methodrows.hygiene" 370
noncomputable abbrev a_R_of : Addr := 220
noncomputable def F_R_of : FnI := clsFn 24 5 "Renamer" 220 "methodrows.hygiene" 370
noncomputable abbrev a_R_named : Addr := 225
noncomputable def F_R_named : FnI := clsFn 24 6 "Renamer" 225 "methodrows.hygiene" 370
noncomputable abbrev a_R_kept : Addr := 232
noncomputable def F_R_kept : FnI := clsFn 24 7 "Renamer" 232 "methodrows.hygiene" 370
noncomputable abbrev a_R_function : Addr := 239
noncomputable def F_R_function : FnI := clsFn 24 8 "Renamer" 239 "methodrows.hygiene" 370
noncomputable abbrev a_R_head : Addr := 244
noncomputable def F_R_head : FnI := clsFn 24 9 "Renamer" 244 "methodrows.hygiene" 370
noncomputable abbrev a_R_argument : Addr := 251
noncomputable def F_R_argument : FnI := clsFn 24 10 "Renamer" 251 "methodrows.hygiene" 370
noncomputable abbrev a_R_scope : Addr := 258
noncomputable def F_R_scope : FnI := clsFn 24 11 "Renamer" 258 "methodrows.hygiene" 370
noncomputable abbrev a_R_let : Addr := 265
noncomputable def F_R_let : FnI := clsFn 24 12 "Renamer" 265 "methodrows.hygiene" 370
noncomputable abbrev a_R_tried : Addr := 270
noncomputable def F_R_tried : FnI := clsFn 24 13 "Renamer" 270 "methodrows.hygiene" 370
noncomputable abbrev a_R_gathered : Addr := 277
noncomputable def F_R_gathered : FnI := clsFn 24 14 "Renamer" 277 "methodrows.hygiene" 370
noncomputable abbrev c_S : Addr := 162
noncomputable abbrev c_R : Addr := 280
noncomputable def vOPENING : AV := .tup [.str "function", .str "->", .str "do", .str "let", .str "for", .str "while", .str "try", .str "comprehension", .str "generator", .str "macro", .str "quote", .str "escape", .str "struct", .str "abstract", .str "generated"]
noncomputable def vCHANGING : AV := .tup [.str "+=", .str "-=", .str "*=", .str "//=", .str "%=", .str "|=", .str "&="]
noncomputable def G : GT where
  glob := [("expr", .val (.ref 21)), ("is_expr", .val (.ref 28)), ("head_of", .val (.ref 35)), ("parts_of", .val (.ref 42)), ("is_sym", .val (.ref 49)), ("place_names", .val (.ref 58)), ("declared_names", .val (.ref 65)), ("own_names", .val (.ref 70)), ("argument_names", .val (.ref 77)), ("head_call", .val (.ref 84)), ("head_names", .val (.ref 91)), ("keyword_names", .val (.ref 98)), ("where_names", .val (.ref 105)), ("bare", .val (.ref 173)), ("renamed_locals", .val (.ref 291)), ("_law_urn", .val (.ref 298)), ("_law_next", .val (.ref 305)), ("_law_name", .val (.ref 312)), ("_law_tree", .val (.ref 319)), ("_law_bound", .val (.ref 326)), ("_law_new", .val (.ref 333)), ("_law_scope", .val (.ref 340)), ("_law_marked", .val (.ref 345)), ("_law_fits", .val (.ref 350)), ("law", .val (.ref 355)), ("NameSupply", .val (.ref 162)), ("Renamer", .val (.ref 280)), ("MOST_DEEP", .int 120), ("OPENING", vOPENING), ("CHANGING", vCHANGING)]
  bi := [("tuple", .type "tuple"), ("list", .type "list"), ("dict", .type "dict"), ("int", .type "int"), ("str", .type "str"), ("range", .type "range"), ("zip", .type "zip"), ("len", .builtin "len"), ("max", .builtin "max"), ("min", .builtin "min")]
  fn := [(21, F_expr), (28, F_is_expr), (35, F_head_of), (42, F_parts_of), (49, F_is_sym), (58, F_place_names), (65, F_declared_names), (70, F_own_names), (77, F_argument_names), (84, F_head_call), (91, F_head_names), (98, F_keyword_names), (105, F_where_names), (173, F_bare), (291, F_renamed_locals), (298, F_law_urn), (305, F_law_next), (312, F_law_name), (319, F_law_tree), (326, F_law_bound), (333, F_law_new), (340, F_law_scope), (345, F_law_marked), (350, F_law_fits), (355, F_law), (152, F_S_init), (159, F_S_next), (187, F_R_init), (194, F_R_fresh), (201, F_R_opened), (208, F_R_body), (213, F_R_all_of), (220, F_R_of), (225, F_R_named), (232, F_R_kept), (239, F_R_function), (244, F_R_head), (251, F_R_argument), (258, F_R_scope), (265, F_R_let), (270, F_R_tried), (277, F_R_gathered)]
  cls := [(162, 152), (280, 187)]
  meth := [(((162 : Nat), ("__init__" : Str)), 152), (((162 : Nat), ("next" : Str)), 159), (((280 : Nat), ("__init__" : Str)), 187), (((280 : Nat), ("fresh" : Str)), 194), (((280 : Nat), ("opened" : Str)), 201), (((280 : Nat), ("body" : Str)), 208), (((280 : Nat), ("all_of" : Str)), 213), (((280 : Nat), ("of" : Str)), 220), (((280 : Nat), ("named" : Str)), 225), (((280 : Nat), ("kept" : Str)), 232), (((280 : Nat), ("function" : Str)), 239), (((280 : Nat), ("head" : Str)), 244), (((280 : Nat), ("argument" : Str)), 251), (((280 : Nat), ("scope" : Str)), 258), (((280 : Nat), ("let" : Str)), 265), (((280 : Nat), ("tried" : Str)), 270), (((280 : Nat), ("gathered" : Str)), 277)]
  attrs := [(162, "many"), (280, "supply")]
end Mine

end

noncomputable section
open PySem PySem.W PyProof.Rows
set_option Elab.async false
set_option maxRecDepth 100000
set_option linter.unusedVariables false
namespace Mine

noncomputable abbrev RV := Option (AV × Sto)
noncomputable abbrev RS := Option (Flw × Loc × Sto)
variable {β : Type}
noncomputable def lk (ρ : Loc) (x : Str) (k : AV → Option β) : Option β := match ρ.lookup x with
  | some v => k v
  | none => none
noncomputable def gcall (ρ : Loc) (x : Str) (w : Value) (k : Value → Option β) : Option β := pre (ρ.lookup x).isNone (match ρ.lookup x with
  | some v => match v with
    | .val fv => k fv
    | _ => none
  | none => k w)
noncomputable def gk (ρ : Loc) (x : Str) (w : AV) (k : AV → Option β) : Option β := match ρ.lookup x with
  | some v => k v
  | none => k w
noncomputable def aft (x : RS) (k : Loc → Sto → RV) : RV := go3 x fun f ρ σ => match f with
  | .next => k ρ σ
  | .brk => some (.none, σ)
  | .cont => some (.none, σ)
  | .ret v => some (v, σ)
noncomputable def aftL (x : RS) (k : Loc → Sto → RS) : RS := go3 x fun f ρ σ => match f with
  | .next => k ρ σ
  | .brk => some (.brk, ρ, σ)
  | .cont => some (.cont, ρ, σ)
  | .ret v => some (.ret v, ρ, σ)
/-- an item -/
noncomputable def gI (a : AV) (i : Nat) (σ : Sto) (k : AV → Option β) : Option β := goO (getV a (.int (i : Nat)) σ) k
noncomputable def eqs (op : CmpOp) (a b : AV) (σ : Sto) (k : Bool → Option β) : Option β := goO (cmpV op a b σ) k
noncomputable def meth (orc : Orc) (o : AV) (name : Str) (as : List AV) (σ : Sto) (k : AV → Sto → Option β) : Option β := goO (methV G o name σ) fun fv => go (callV orc fv (o :: as) σ) k
/-- a call of a def, whose answer is a test -/
noncomputable def callB (orc : Orc) (a : Addr) (as : List AV) (σ : Sto) (k : Bool → Sto → Option β) : Option β := go (orc a as σ) fun r σ => asB r fun b => k b σ

noncomputable def s_expr (h ps : AV) (σ : Sto) : RV := go (tyV "tuple" [ps] σ) fun p σ => some (.tup [.str "expr", h, p], σ)
theorem b_expr (orc : Orc) (h ps : AV) (σ : Sto) : bodyK G orc F_expr [h, ps] σ = s_expr h ps σ := by kernel_rfl
noncomputable def s_is_expr (t h : AV) (σ : Sto) : RV := gI t 0 σ fun a => eqs .Eq a (.str "expr") σ fun b => iff b (gI t 1 σ fun c => eqs .Eq c h σ fun d => some (.bool d, σ)) (some (.bool false, σ))
theorem b_is_expr (orc : Orc) (t h : AV) (σ : Sto) : bodyK G orc F_is_expr [t, h] σ = s_is_expr t h σ := by kernel_rfl
noncomputable def s_head_of (t : AV) (σ : Sto) : RV := gI t 0 σ fun a => eqs .Eq a (.str "expr") σ fun b => iff b (gI t 1 σ fun c => some (c, σ)) (some (.str "", σ))
theorem b_head_of (orc : Orc) (t : AV) (σ : Sto) : bodyK G orc F_head_of [t] σ = s_head_of t σ := by kernel_rfl
noncomputable def s_parts_of (t : AV) (σ : Sto) : RV := gI t 0 σ fun a => eqs .Eq a (.str "expr") σ fun b => iff b (gI t 2 σ fun c => some (c, σ)) (some (.tup [], σ))
theorem b_parts_of (orc : Orc) (t : AV) (σ : Sto) : bodyK G orc F_parts_of [t] σ = s_parts_of t σ := by kernel_rfl
noncomputable def s_is_sym (t : AV) (σ : Sto) : RV := gI t 0 σ fun a => eqs .Eq a (.str "sym") σ fun d => some (.bool d, σ)
theorem b_is_sym (orc : Orc) (t : AV) (σ : Sto) : bodyK G orc F_is_sym [t] σ = s_is_sym t σ := by kernel_rfl

/-! place_names -/
noncomputable def t_place (ρ : Loc) (σ : Sto) : Option (Bool × Sto) := lk ρ "left" fun l => eqs .NotEq l (.ref σ.length) (σ ++ [.lst []]) fun b => some (b, σ ++ [.lst []])
noncomputable def d_place (orc : Orc) (ρ : Loc) (σ : Sto) : RS := lk ρ "left" fun l => meth orc l "pop" [] σ fun here σ =>
  (fun ρ : Loc => gcall ρ "is_sym" (.ref a_is_sym) fun f => lk ρ "here" fun h => go (callV orc f [h] σ) fun r σ => asB r fun b => iff b
    (lk ρ "found" fun o => goO (methV G o "append" σ) fun fv => lk ρ "here" fun h => gI h 1 σ fun x => go (callV orc fv [o, x] σ) fun _ σ => some (.next, ρ, σ))
    (gcall ρ "is_expr" (.ref a_is_expr) fun f => lk ρ "here" fun h => go (callV orc f [h, .str "::"] σ) fun r σ => asB r fun b =>
      let els := fun σ : Sto => gcall ρ "head_of" (.ref a_head_of) fun f => lk ρ "here" fun h => go (callV orc f [h] σ) fun r σ => eqs .In r (.tup [.str "tuple", .str "..."]) σ fun b => iff b
          (lk ρ "left" fun o => goO (methV G o "extend" σ) fun fv => lk ρ "here" fun h => gI h 2 σ fun x => match x with
            | .tup l => pre (decide (l.length ≤ 100000)) (go (callV orc fv [o, .tup l.reverse] σ) fun _ σ => some (.next, ρ, σ))
            | .ref j => goO (lstAt σ j) fun l => go (callV orc fv [o, .ref σ.length] (σ ++ [.lst l.reverse])) fun _ σ => some (.next, ρ, σ)
            | _ => none)
          (some (.next, ρ, σ))
      let two := fun σ : Sto => lk ρ "left" fun o => goO (methV G o "append" σ) fun fv => lk ρ "here" fun h => gI h 2 σ fun x => gI x 0 σ fun y => go (callV orc fv [o, y] σ) fun _ σ => some (.next, ρ, σ)
      iff b (gcall ρ "len" (.builtin "len") fun f => lk ρ "here" fun h => gI h 2 σ fun x => go (callV orc f [x] σ) fun n σ => eqs .Eq n (.int 2) σ fun b => iff b (iff true (two σ) (els σ)) (iff false (two σ) (els σ))) (iff false (two σ) (els σ)))) (setL ρ "here" here)
noncomputable def s_place_names (orc : Orc) (p : AV) (σ : Sto) : RV :=
  aft (whileL t_place (d_place orc) 100000 [("place", p), ("found", .ref σ.length), ("left", .ref (σ ++ [Cell.lst []]).length)] (σ ++ [.lst []] ++ [.lst [p]])) fun ρ σ => lk ρ "found" fun v => some (v, σ)
theorem b_place_names (orc : Orc) (p : AV) (σ : Sto) : bodyK G orc F_place_names [p] σ = s_place_names orc p σ := by kernel_rfl
end Mine

end

noncomputable section
open PySem PySem.W PyProof.Rows
set_option Elab.async false
set_option maxRecDepth 100000
set_option linter.unusedVariables false
namespace Mine
variable {β : Type}

noncomputable def cn (ρ : Loc) (x : Str) (a : Addr) (k : Value → Option β) : Option β := gcall ρ x (.ref a) k
/-- turned about -/
noncomputable def rev (x : AV) (σ : Sto) (k : AV → Sto → Option β) : Option β := match x with
  | .tup l => pre (decide (l.length ≤ 100000)) (k (.tup l.reverse) σ)
  | .ref j => goO (lstAt σ j) fun l => k (.ref σ.length) (σ ++ [.lst l.reverse])
  | _ => none
/-- items from the first on -/
noncomputable def tail1 (x : AV) (σ : Sto) (k : AV → Sto → Option β) : Option β := match x with
  | .tup l => pre (decide (1 ≤ 1 ∧ 1 ≤ l.length ∧ l.length ≤ 100000)) (k (.tup (l.drop 1)) σ)
  | _ => none
noncomputable def loopF (y : Str) (bod : Loc → Sto → RS) (x : AV) (ρ : Loc) (σ : Sto) (k : Loc → Sto → RV) : RV := match x with
  | .tup l => aft (forL y bod l ρ σ) k
  | .ref j => aft (forR y bod j 100000 0 ρ σ) k
  | _ => none
noncomputable def loopG (y : Str) (bod : Loc → Sto → RS) (x : AV) (ρ : Loc) (σ : Sto) (k : Loc → Sto → RS) : RS := match x with
  | .tup l => aftL (forL y bod l ρ σ) k
  | .ref j => aftL (forR y bod j 100000 0 ρ σ) k
  | _ => none
noncomputable def unp (ρ : Loc) (xs : List Str) (x : AV) (k : Loc → Option β) : Option β := match x with
  | .tup vs => pre (decide (xs.length = vs.length)) (k (setLs ρ xs vs))
  | _ => none
noncomputable def inc (d : AV) (σ : Sto) (k : AV → Sto → Option β) : Option β := go (binV .Add d (.int 1) σ) k

/-! declared_names -/
noncomputable def d_decl (orc : Orc) (ρ : Loc) (σ : Sto) : RS := lk ρ "found" fun o => goO (methV G o "extend" σ) fun fv => cn ρ "place_names" a_place_names fun f => cn ρ "is_expr" a_is_expr fun g => lk ρ "part" fun p =>
  go (callV orc g [p, .str "="] σ) fun r σ => asB r fun b =>
    let K := fun (v : AV) => go (callV orc f [v] σ) fun w σ => go (callV orc fv [o, w] σ) fun _ σ => (some (.next, ρ, σ) : RS)
    iff b (lk ρ "part" fun p => gI p 2 σ fun x => gI x 0 σ fun y => K y) (lk ρ "part" fun p => K p)
noncomputable def s_declared_names (orc : Orc) (t : AV) (σ : Sto) : RV := gI t 2 (σ ++ [.lst []]) fun x =>
  match x with
  | .tup l => aft (forL "part" (d_decl orc) l [("tree", t), ("found", .ref σ.length)] (σ ++ [.lst []])) fun ρ σ => lk ρ "found" fun v => some (v, σ)
  | .ref j => aft (forR "part" (d_decl orc) j 100000 0 [("tree", t), ("found", .ref σ.length)] (σ ++ [.lst []])) fun ρ σ => lk ρ "found" fun v => some (v, σ)
  | _ => none
theorem b_declared_names (orc : Orc) (t : AV) (σ : Sto) : bodyK G orc F_declared_names [t] σ = s_declared_names orc t σ := by kernel_rfl

/-! own_names -/
noncomputable def scp (names : List (Str × NameKind)) : Scope := { kind := .function, names := names, isGenerator := false, isCoroutine := false, more := [] }
noncomputable def sc_own : Scope := scp [(".0", .local), ("part", .local), ("is_expr", .globalImplicit)]
noncomputable def t_left (ρ : Loc) (σ : Sto) : Option (Bool × Sto) := lk ρ "left" fun l => eqs .NotEq l (.ref σ.length) (σ ++ [.lst []]) fun b => some (b, σ ++ [.lst []])
noncomputable def own_last (orc : Orc) (ρ : Loc) (σ : Sto) : RS := lk ρ "left" fun o => goO (methV G o "extend" σ) fun fv => cn ρ "parts_of" a_parts_of fun f => lk ρ "here" fun h => go (callV orc f [h] σ) fun x σ => rev x σ fun y σ => go (callV orc fv [o, y] σ) fun _ σ => some (.next, ρ, σ)
noncomputable def own_bnd (orc : Orc) (ρ : Loc) (σ : Sto) : RS := lk ρ "bound" fun o => goO (methV G o "extend" σ) fun fv => cn ρ "place_names" a_place_names fun f => lk ρ "here" fun h => gI h 2 σ fun x => gI x 0 σ fun y => go (callV orc f [y] σ) fun w σ => go (callV orc fv [o, w] σ) fun _ σ => own_last orc ρ σ
noncomputable def own_told (orc : Orc) (σ : Sto) (ρ : Loc) : RS := lk ρ "told" fun o => goO (methV G o "extend" σ) fun fv => cn ρ "declared_names" a_declared_names fun f => lk ρ "here" fun h => go (callV orc f [h] σ) fun w σ => go (callV orc fv [o, w] σ) fun _ σ =>
  lk ρ "left" fun o => goO (methV G o "extend" σ) fun fv => lk ρ "here" fun h => gI h 2 σ fun x => rev x σ fun y σ => asT y fun l => pre (decide (l.length ≤ 1000)) (go (compL "part" (fun ρ σ => cn ρ "is_expr" a_is_expr fun g => lk ρ "part" fun p => go (callV orc g [p, .str "="] σ) fun r σ => asB r fun b => some (b, σ))
      (fun ρ σ => lk ρ "part" fun p => gI p 2 σ fun x => gI x 1 σ fun y => some (y, σ)) l (capt sc_own F_own_names.fd.scope ρ) σ) fun ws σ => go (callV orc fv [o, .ref σ.length] (σ ++ [.lst ws])) fun _ σ => some (.cont, ρ, σ))
noncomputable def own_els (orc : Orc) (ρ : Loc) (σ : Sto) : RS := lk ρ "head" fun hd => eqs .In hd (.tup [.str "local", .str "global"]) σ fun b => iff b
  (lk ρ "head" fun hd => eqs .Eq hd (.str "local") σ fun b => iff b (lk ρ "bound" fun v => own_told orc σ (setL ρ "told" v)) (lk ρ "told_global" fun v => own_told orc σ (setL ρ "told" v)))
  (own_last orc ρ σ)
noncomputable def own_mid (orc : Orc) (ρ : Loc) (σ : Sto) : RS := lk ρ "head" fun hd => gk ρ "OPENING" vOPENING fun o => eqs .In hd o σ fun b => iff b (some (.cont, ρ, σ))
  (lk ρ "head" fun hd => eqs .Eq hd (.str "=") σ fun b => iff b (own_bnd orc ρ σ) (lk ρ "head" fun hd => gk ρ "CHANGING" vCHANGING fun o => eqs .In hd o σ fun b => iff b (own_bnd orc ρ σ) (own_els orc ρ σ)))
noncomputable def d_own (orc : Orc) (ρ : Loc) (σ : Sto) : RS := lk ρ "left" fun l => meth orc l "pop" [] σ fun here σ => (fun ρ : Loc =>
  cn ρ "head_of" a_head_of fun f => lk ρ "here" fun h => go (callV orc f [h] σ) fun hd σ => own_mid orc (setL ρ "head" hd) σ) (setL ρ "here" here)
noncomputable def s_own_names (orc : Orc) (ts : AV) (σ : Sto) : RV := go (tyV "list" [ts] (σ ++ [.lst []] ++ [.lst []])) fun x σ₁ => rev x σ₁ fun y σ₁ =>
  aft (whileL t_left (d_own orc) 100000 [("trees", ts), ("bound", .ref σ.length), ("told_global", .ref (σ ++ [Cell.lst []]).length), ("left", y)] σ₁) fun ρ σ => lk ρ "bound" fun b => lk ρ "told_global" fun t => some (.tup [b, t], σ)
theorem b_own_names (orc : Orc) (ts : AV) (σ : Sto) : bodyK G orc F_own_names [ts] σ = s_own_names orc ts σ := by kernel_rfl
end Mine

end

noncomputable section
open PySem PySem.W PyProof.Rows
set_option Elab.async false
set_option maxRecDepth 100000
set_option linter.unusedVariables false
namespace Mine
variable {β : Type}

/-- a test by a def of the text, its first name global, where the frame is known -/
noncomputable def cb (orc : Orc) (a : Addr) (as : List AV) (σ : Sto) (k : Bool → Sto → Option β) : Option β := go (orc a as σ) fun r σ => asB r fun b => k b σ
noncomputable def cbl (orc : Orc) (ρ : Loc) (x : Str) (a : Addr) (as : AV → List AV) (y : Str) (σ : Sto) (k : Bool → Sto → Option β) : Option β :=
  cn ρ x a fun f => lk ρ y fun v => go (callV orc f (as v) σ) fun r σ => asB r fun b => k b σ

/-! argument_names(argument) -/
noncomputable def s_argument_names (orc : Orc) (t : AV) (σ : Sto) : RV := cb orc a_is_expr [t, .str "kw"] σ fun b σ => iff b
  (gI t 2 σ fun x => gI x 0 σ fun y => go (orc a_place_names [y] σ) fun v σ => some (v, σ))
  (cb orc a_is_expr [t, .str "parameters"] σ fun b σ => iff b (some (.ref σ.length, σ ++ [.lst []])) (go (orc a_place_names [t] σ) fun v σ => some (v, σ)))
theorem b_argument_names (orc : Orc) (t : AV) (σ : Sto) : bodyK G orc F_argument_names [t] σ = s_argument_names orc t σ := by kernel_rfl

/-! head_call(head) -/
noncomputable def t_hc (orc : Orc) (ρ : Loc) (σ : Sto) : Option (Bool × Sto) := cbl orc ρ "is_expr" a_is_expr (fun v => [v, .str "where"]) "head" σ fun b σ => iff b (some (true, σ))
  (cbl orc ρ "is_expr" a_is_expr (fun v => [v, .str "::"]) "head" σ fun b σ => iff b (cn ρ "head_of" a_head_of fun f => lk ρ "head" fun h => gI h 2 σ fun x => gI x 0 σ fun y => go (callV orc f [y] σ) fun r σ => eqs .In r (.tup [.str "call", .str "where", .str "tuple", .str "::"]) σ fun b => iff b (some (true, σ)) (some (false, σ))) (some (false, σ)))
noncomputable def d_hc (ρ : Loc) (σ : Sto) : RS := lk ρ "head" fun h => gI h 2 σ fun x => gI x 0 σ fun y => some (.next, setL ρ "head" y, σ)
noncomputable def s_head_call (orc : Orc) (t : AV) (σ : Sto) : RV := aft (whileL (t_hc orc) d_hc 100000 [("head", t)] σ) fun ρ σ => lk ρ "head" fun v => some (v, σ)
theorem b_head_call (orc : Orc) (t : AV) (σ : Sto) : bodyK G orc F_head_call [t] σ = s_head_call orc t σ := by kernel_rfl

/-! head_names(head) -/
noncomputable def d_hn (orc : Orc) (ρ : Loc) (σ : Sto) : RS := lk ρ "found" fun o => goO (methV G o "extend" σ) fun fv => cn ρ "argument_names" a_argument_names fun f => lk ρ "argument" fun v => go (callV orc f [v] σ) fun w σ => go (callV orc fv [o, w] σ) fun _ σ => some (.next, ρ, σ)
noncomputable def s_head_names (orc : Orc) (t : AV) (σ : Sto) : RV := go (orc a_head_call [t] σ) fun inner σ => cb orc a_is_sym [inner] σ fun b σ => iff b
  (gI inner 1 σ fun x => some (.ref σ.length, σ ++ [.lst [x]]))
  (gI inner 2 σ fun args =>
    let fin := fun (fd as : AV) (σ : Sto) => loopF "argument" (d_hn orc) as [("head", t), ("inner", inner), ("arguments", as), ("found", fd)] σ fun ρ σ => lk ρ "found" fun v => some (v, σ)
    cb orc a_is_expr [inner, .str "call"] (σ ++ [.lst []]) fun b σ₁ => iff b
      (gI inner 2 σ₁ fun x => gI x 0 σ₁ fun y => cb orc a_is_expr [y, .str "::"] σ₁ fun b σ₁ =>
        let fin2 := fun (fd : AV) (σ₁ : Sto) => gI inner 2 σ₁ fun x => tail1 x σ₁ fun as σ₁ => fin fd as σ₁
        iff b (gI inner 2 σ₁ fun x => gI x 0 σ₁ fun y => go (orc a_place_names [y] σ₁) fun fd σ₁ => fin2 fd σ₁) (fin2 (.ref σ₁.length) (σ₁ ++ [.lst []])))
      (cb orc a_is_expr [inner, .str "tuple"] σ₁ fun b σ₁ => iff (!b) (go (orc a_place_names [inner] σ₁) fun v σ₁ => some (v, σ₁)) (fin (.ref σ.length) args σ₁)))
theorem b_head_names (orc : Orc) (t : AV) (σ : Sto) : bodyK G orc F_head_names [t] σ = s_head_names orc t σ := by kernel_rfl

/-! keyword_names(head) -/
noncomputable def d_kn2 (orc : Orc) (ρ : Loc) (σ : Sto) : RS := lk ρ "found" fun o => goO (methV G o "extend" σ) fun fv => cn ρ "place_names" a_place_names fun f => cbl orc ρ "is_expr" a_is_expr (fun v => [v, .str "kw"]) "keyword" σ fun b σ =>
  let K := fun (v : AV) => go (callV orc f [v] σ) fun w σ => go (callV orc fv [o, w] σ) fun _ σ => (some (.next, ρ, σ) : RS)
  iff b (lk ρ "keyword" fun p => gI p 2 σ fun x => gI x 0 σ fun y => K y) (lk ρ "keyword" fun p => K p)
noncomputable def d_kn (orc : Orc) (ρ : Loc) (σ : Sto) : RS := cbl orc ρ "is_expr" a_is_expr (fun v => [v, .str "parameters"]) "argument" σ fun b σ => iff b
  (lk ρ "argument" fun v => gI v 2 σ fun x => loopG "keyword" (d_kn2 orc) x ρ σ fun ρ σ => some (.next, ρ, σ)) (some (.next, ρ, σ))
noncomputable def s_keyword_names (orc : Orc) (t : AV) (σ : Sto) : RV := go (orc a_head_call [t] (σ ++ [.lst []])) fun x σ₁ => go (orc a_parts_of [x] σ₁) fun y σ₁ =>
  loopF "argument" (d_kn orc) y [("head", t), ("found", .ref σ.length)] σ₁ fun ρ σ => lk ρ "found" fun v => some (v, σ)
theorem b_keyword_names (orc : Orc) (t : AV) (σ : Sto) : bodyK G orc F_keyword_names [t] σ = s_keyword_names orc t σ := by kernel_rfl

/-! NameSupply -/
noncomputable def s_S_init (self : AV) (σ : Sto) : RV := goO (setAttrV G self "many" (.int 0) σ) fun σ => some (.none, σ)
theorem b_S_init (orc : Orc) (self : AV) (σ : Sto) : bodyK G orc F_S_init [self] σ = s_S_init self σ := by kernel_rfl
noncomputable def s_S_next (orc : Orc) (self base : AV) (σ : Sto) : RV := goO (attrV G self "many" σ) fun m => go (binV .Add m (.int 1) σ) fun m σ => goO (setAttrV G self "many" m σ) fun σ =>
  goO (methV G base "split" σ) fun fv => go (callV orc fv [base, .str "#"] σ) fun l σ => gI l 0 σ fun x => go (binV .Add x (.str "#") σ) fun y σ => goO (attrV G self "many" σ) fun m => go (tyV "str" [m] σ) fun z σ => go (binV .Add y z σ) fun r σ => some (r, σ)
theorem b_S_next (orc : Orc) (self base : AV) (σ : Sto) : bodyK G orc F_S_next [self, base] σ = s_S_next orc self base σ := by kernel_rfl

/-! Renamer -/
noncomputable def s_R_init (self sup : AV) (σ : Sto) : RV := goO (setAttrV G self "supply" sup σ) fun σ => some (.none, σ)
theorem b_R_init (orc : Orc) (self sup : AV) (σ : Sto) : bodyK G orc F_R_init [self, sup] σ = s_R_init self sup σ := by kernel_rfl
noncomputable def d_fresh (orc : Orc) (ρ : Loc) (σ : Sto) : RS := lk ρ "self" fun s => goO (attrV G s "supply" σ) fun p => goO (methV G p "next" σ) fun fv => lk ρ "name" fun n => go (callV orc fv [p, n] σ) fun v σ => lk ρ "found" fun f => lk ρ "name" fun n => goO (setV f n v σ) fun σ => some (.next, ρ, σ)
noncomputable def s_R_fresh (orc : Orc) (self env ns : AV) (σ : Sto) : RV := go (tyV "dict" [env] σ) fun f σ => loopF "name" (d_fresh orc) ns [("self", self), ("env", env), ("names", ns), ("found", f)] σ fun ρ σ => lk ρ "found" fun v => some (v, σ)
theorem b_R_fresh (orc : Orc) (self env ns : AV) (σ : Sto) : bodyK G orc F_R_fresh [self, env, ns] σ = s_R_fresh orc self env ns σ := by kernel_rfl
noncomputable def d_op1 (orc : Orc) (ρ : Loc) (σ : Sto) : RS := lk ρ "name" fun n => lk ρ "env" fun e => eqs .NotIn n e σ fun b => iff b
  (lk ρ "name" fun n => lk ρ "fresh" fun e => eqs .NotIn n e σ fun b => iff b
    (lk ρ "name" fun n => lk ρ "told_global" fun e => eqs .NotIn n e σ fun b => iff b (lk ρ "fresh" fun o => goO (methV G o "append" σ) fun fv => lk ρ "name" fun n => go (callV orc fv [o, n] σ) fun _ σ => some (.next, ρ, σ)) (some (.next, ρ, σ)))
    (some (.next, ρ, σ))) (some (.next, ρ, σ))
noncomputable def d_op2 (ρ : Loc) (σ : Sto) : RS := lk ρ "name" fun v => lk ρ "found" fun f => lk ρ "name" fun n => goO (setV f n v σ) fun σ => some (.next, ρ, σ)
noncomputable def s_R_opened (orc : Orc) (self env ts : AV) (σ : Sto) : RV := go (orc a_own_names [ts] σ) fun x σ => unp [("self", self), ("env", env), ("trees", ts)] ["bound", "told_global"] x fun ρ =>
  (fun (ρ : Loc) (σ : Sto) => lk ρ "bound" fun b => loopF "name" (d_op1 orc) b ρ σ fun ρ σ => lk ρ "self" fun s => goO (methV G s "fresh" σ) fun fv => lk ρ "env" fun e => lk ρ "fresh" fun f => go (callV orc fv [s, e, f] σ) fun v σ =>
    (fun ρ : Loc => lk ρ "told_global" fun t => loopF "name" d_op2 t ρ σ fun ρ σ => lk ρ "found" fun v => some (v, σ)) (setL ρ "found" v)) (setL ρ "fresh" (.ref σ.length)) (σ ++ [.lst []])
theorem b_R_opened (orc : Orc) (self env ts : AV) (σ : Sto) : bodyK G orc F_R_opened [self, env, ts] σ = s_R_opened orc self env ts σ := by kernel_rfl
noncomputable def s_R_body (orc : Orc) (self env t d : AV) (σ : Sto) : RV := goO (methV G self "of" σ) fun fv => goO (methV G self "opened" σ) fun fo => go (callV orc fo [self, env, .ref σ.length] (σ ++ [.lst [t]])) fun e σ => go (callV orc fv [self, e, t, d] σ) fun v σ => some (v, σ)
theorem b_R_body (orc : Orc) (self env t d : AV) (σ : Sto) : bodyK G orc F_R_body [self, env, t, d] σ = s_R_body orc self env t d σ := by kernel_rfl
noncomputable def e_all (orc : Orc) (ρ : Loc) (σ : Sto) : RV := lk ρ "self" fun s => goO (methV G s "of" σ) fun fv => lk ρ "env" fun e => lk ρ "tree" fun t => lk ρ "deep" fun d => go (callV orc fv [s, e, t, d] σ) fun v σ => some (v, σ)
noncomputable def yes (ρ : Loc) (σ : Sto) : Option (Bool × Sto) := some (true, σ)
/-- a comprehension without a test, over a tuple -/
noncomputable def compr (y : Str) (el : Loc → Sto → RV) (x : AV) (ρ : Loc) (σ : Sto) (k : AV → Sto → Option β) : Option β := match x with
  | .tup l => pre (decide (l.length ≤ 1000)) (go (compL y yes el l ρ σ) fun ws σ => k (.ref σ.length) (σ ++ [.lst ws]))
  | _ => none
noncomputable def s_R_all_of (orc : Orc) (self env ts d : AV) (σ : Sto) : RV := compr "tree" (e_all orc) ts [("self", self), ("env", env), ("deep", d)] σ fun v σ => some (v, σ)
theorem b_R_all_of (orc : Orc) (self env ts d : AV) (σ : Sto) : bodyK G orc F_R_all_of [self, env, ts, d] σ = s_R_all_of orc self env ts d σ := by kernel_rfl
noncomputable def s_R_of (orc : Orc) (self env t d : AV) (σ : Sto) : RV := eqs .Gt d (.int 120) σ fun b => iff b none (cb orc a_is_sym [t] σ fun b σ => iff b
  (goO (methV G env "get" σ) fun fv => gI t 1 σ fun y => gI t 1 σ fun z => go (callV orc fv [env, y, z] σ) fun v σ => some (.tup [.str "sym", v], σ))
  (gI t 0 σ fun x => eqs .NotEq x (.str "expr") σ fun b => iff b (some (t, σ)) (gI t 1 σ fun h => gI t 2 σ fun ps =>
    eqs .Eq h (.str "escape") σ fun b => iff b (gI ps 0 σ fun v => some (v, σ)) (
    eqs .In h (.tup [.str "quote", .str "struct", .str "abstract"]) σ fun b => iff b (go (orc a_bare [t] σ) fun v σ => some (v, σ)) (
    eqs .In h (.tup [.str "function", .str "macro", .str "->"]) σ fun b => iff b (meth orc self "function" [env, t, d] σ fun v σ => some (v, σ)) (
    eqs .In h (.tup [.str "let", .str "for", .str "while", .str "try", .str "comprehension", .str "generator"]) σ fun b => iff b (meth orc self "scope" [env, t, d] σ fun v σ => some (v, σ)) (
    eqs .In h (.tup [.str ".", .str "kw", .str "macrocall"]) σ fun b => iff b (meth orc self "named" [env, t, d] σ fun v σ => some (v, σ)) (
    goO (methV G self "all_of" σ) fun fv => inc d σ fun d σ => go (callV orc fv [self, env, ps, d] σ) fun w σ => go (orc a_expr [h, w] σ) fun v σ => some (v, σ)))))))))
theorem b_R_of (orc : Orc) (self env t d : AV) (σ : Sto) : bodyK G orc F_R_of [self, env, t, d] σ = s_R_of orc self env t d σ := by kernel_rfl
end Mine

end

noncomputable section
open PySem PySem.W PyProof.Rows
set_option Elab.async false
set_option maxRecDepth 100000
set_option linter.unusedVariables false
namespace Mine
variable {β : Type}

/-- self.name(.., deep + 1), the frame known -/
noncomputable def mInc (orc : Orc) (self : AV) (name : Str) (as : List AV) (d : AV) (σ : Sto) (k : AV → Sto → Option β) : Option β := goO (methV G self name σ) fun fv => inc d σ fun d σ => go (callV orc fv (self :: (as ++ [d])) σ) k

noncomputable def e_kept (orc : Orc) (ρ : Loc) (σ : Sto) : RV := lk ρ "self" fun s => goO (methV G s "kept" σ) fun fv => lk ρ "env" fun e => lk ρ "part" fun t => lk ρ "deep" fun d => go (callV orc fv [s, e, t, d] σ) fun v σ => some (v, σ)
noncomputable def s_R_named (orc : Orc) (self env t d : AV) (σ : Sto) : RV := gI t 1 σ fun h => gI t 2 σ fun ps => eqs .Eq h (.str ".") σ fun b => iff b
  (goO (methV G self "of" σ) fun fv => gI ps 0 σ fun x => inc d σ fun d' σ => go (callV orc fv [self, env, x, d'] σ) fun v σ => tail1 ps (σ ++ [.lst [v]]) fun x σ' => compr "part" (e_kept orc) x [("self", self), ("env", env), ("deep", d)] σ' fun w σ' => go (binV .Add (.ref σ.length) w σ') fun z σ => go (orc a_expr [h, z] σ) fun v σ => some (v, σ))
  (goO (methV G self "kept" σ) fun fv => gI ps 0 σ fun x => go (callV orc fv [self, env, x, d] σ) fun v σ => goO (methV G self "all_of" (σ ++ [.lst [v]])) fun fa => tail1 ps (σ ++ [.lst [v]]) fun x σ' => inc d σ' fun d' σ' => go (callV orc fa [self, env, x, d'] σ') fun w σ' => go (binV .Add (.ref σ.length) w σ') fun z σ => go (orc a_expr [h, z] σ) fun v σ => some (v, σ))
theorem b_R_named (orc : Orc) (self env t d : AV) (σ : Sto) : bodyK G orc F_R_named [self, env, t, d] σ = s_R_named orc self env t d σ := by kernel_rfl
noncomputable def s_R_kept (orc : Orc) (self env t d : AV) (σ : Sto) : RV := cb orc a_is_sym [t] σ fun b σ => iff b (some (t, σ)) (mInc orc self "of" [env, t] d σ fun v σ => some (v, σ))
theorem b_R_kept (orc : Orc) (self env t d : AV) (σ : Sto) : bodyK G orc F_R_kept [self, env, t, d] σ = s_R_kept orc self env t d σ := by kernel_rfl

noncomputable def d_own2 (ρ : Loc) (σ : Sto) : RS := lk ρ "name" fun v => lk ρ "own" fun f => lk ρ "name" fun n => goO (setV f n v σ) fun σ => some (.next, ρ, σ)
noncomputable def fn_fin (orc : Orc) (ρ : Loc) (σ : Sto) : RV := cn ρ "expr" a_expr fun f => lk ρ "tree" fun t => gI t 1 σ fun hd => lk ρ "self" fun s => goO (methV G s "head" σ) fun fv => lk ρ "env" fun e => lk ρ "own" fun o => lk ρ "head" fun h => lk ρ "deep" fun d => inc d σ fun d σ => go (callV orc fv [s, e, o, h, d] σ) fun v1 σ =>
      lk ρ "self" fun s => goO (methV G s "body" σ) fun fv => lk ρ "own" fun o => lk ρ "body" fun b => lk ρ "deep" fun d => inc d σ fun d σ => go (callV orc fv [s, o, b, d] σ) fun v2 σ => go (callV orc f [hd, .tup [v1, v2]] σ) fun v σ => some (v, σ)
noncomputable def s_R_function (orc : Orc) (self env t d : AV) (σ : Sto) : RV := gI t 2 σ fun x => unp [("self", self), ("env", env), ("tree", t), ("deep", d)] ["head", "body"] x fun ρ =>
  lk ρ "self" fun s => goO (methV G s "fresh" σ) fun fv => lk ρ "env" fun e => cn ρ "where_names" a_where_names fun f => lk ρ "head" fun h => go (callV orc f [h] σ) fun w1 σ => cn ρ "head_names" a_head_names fun f => lk ρ "head" fun h => go (callV orc f [h] σ) fun w2 σ =>
  go (binV .Add w1 w2 σ) fun n σ => go (callV orc fv [s, e, n] σ) fun own σ => (fun ρ : Loc => cn ρ "keyword_names" a_keyword_names fun f => lk ρ "head" fun h => go (callV orc f [h] σ) fun x σ => loopF "name" d_own2 x ρ σ fun ρ σ =>
    fn_fin orc ρ σ) (setL ρ "own" own)
theorem b_R_function (orc : Orc) (self env t d : AV) (σ : Sto) : bodyK G orc F_R_function [self, env, t, d] σ = s_R_function orc self env t d σ := by kernel_rfl
noncomputable def e_arg (orc : Orc) (ρ : Loc) (σ : Sto) : RV := lk ρ "self" fun s => goO (methV G s "argument" σ) fun fv => lk ρ "own" fun e => lk ρ "one" fun t => lk ρ "deep" fun d => inc d σ fun d σ => go (callV orc fv [s, e, t, d] σ) fun v σ => some (v, σ)
noncomputable def s_R_head (orc : Orc) (self env own t d : AV) (σ : Sto) : RV := eqs .Gt d (.int 120) σ fun b => iff b none (
  let R3 := fun (σ : Sto) => cb orc a_is_expr [t, .str "tuple"] σ fun b σ => iff b
    (gI t 2 σ fun x => compr "one" (e_arg orc) x [("self", self), ("own", own), ("deep", d)] σ fun w σ => go (orc a_expr [.str "tuple", w] σ) fun v σ => (some (v, σ) : RV))
    (mInc orc self "of" [own, t] d σ fun v σ => some (v, σ))
  let R2 := fun (σ : Sto) => cb orc a_is_expr [t, .str "call"] σ fun b σ => iff b
    (gI t 2 σ fun x => gI x 0 σ fun callee => cb orc a_is_expr [callee, .str "::"] σ fun b σ =>
      let K := fun (called : AV) (σ : Sto) => gI t 2 (σ ++ [.lst [called]]) fun x => tail1 x (σ ++ [.lst [called]]) fun x σ' => compr "one" (e_arg orc) x [("self", self), ("own", own), ("deep", d)] σ' fun w σ' => go (binV .Add (.ref σ.length) w σ') fun z σ => go (orc a_expr [.str "call", z] σ) fun v σ => (some (v, σ) : RV)
      iff b (mInc orc self "of" [own, callee] d σ K) (mInc orc self "of" [env, callee] d σ K)) (R3 σ)
  let R1 := fun (σ : Sto) => goO (methV G self "head" σ) fun fv => gI t 2 σ fun x => gI x 0 σ fun y => inc d σ fun d' σ => go (callV orc fv [self, env, own, y, d'] σ) fun inner σ => gI t 1 σ fun h => goO (methV G self "all_of" (σ ++ [.lst [inner]])) fun fa => gI t 2 (σ ++ [.lst [inner]]) fun x => tail1 x (σ ++ [.lst [inner]]) fun x σ' => inc d σ' fun d' σ' => go (callV orc fa [self, own, x, d'] σ') fun w σ' => go (binV .Add (.ref σ.length) w σ') fun z σ => go (orc a_expr [h, z] σ) fun v σ => (some (v, σ) : RV)
  cb orc a_is_expr [t, .str "where"] σ fun b σ => iff b (R1 σ) (cb orc a_is_expr [t, .str "::"] σ fun b σ => iff b (gI t 2 σ fun x => gI x 0 σ fun y => go (orc a_head_of [y] σ) fun r σ => eqs .In r (.tup [.str "call", .str "where", .str "tuple"]) σ fun b => iff b (R1 σ) (R2 σ)) (R2 σ)))
theorem b_R_head (orc : Orc) (self env own t d : AV) (σ : Sto) : bodyK G orc F_R_head [self, env, own, t, d] σ = s_R_head orc self env own t d σ := by kernel_rfl
noncomputable def s_R_argument (orc : Orc) (self own t d : AV) (σ : Sto) : RV := cb orc a_is_expr [t, .str "kw"] σ fun b σ => iff b
  (goO (methV G self "all_of" σ) fun fa => gI t 2 σ fun x => inc d σ fun d' σ => go (callV orc fa [self, own, x, d'] σ) fun w σ => go (orc a_expr [.str "kw", w] σ) fun v σ => some (v, σ))
  (meth orc self "of" [own, t, d] σ fun v σ => some (v, σ))
theorem b_R_argument (orc : Orc) (self own t d : AV) (σ : Sto) : bodyK G orc F_R_argument [self, own, t, d] σ = s_R_argument orc self own t d σ := by kernel_rfl
noncomputable def s_R_scope (orc : Orc) (self env t d : AV) (σ : Sto) : RV := gI t 1 σ fun h => gI t 2 σ fun ps => eqs .Eq h (.str "let") σ fun b => iff b (meth orc self "let" [env, ps, d] σ fun v σ => some (v, σ)) (
  eqs .Eq h (.str "for") σ fun b => iff b
    (gI ps 0 σ fun x => gI x 2 σ fun y => unp [("self", self), ("env", env), ("tree", t), ("deep", d), ("head", h), ("parts", ps)] ["pattern", "iterable"] y fun ρ =>
      lk ρ "self" fun s => goO (methV G s "fresh" σ) fun fv => lk ρ "env" fun e => cn ρ "place_names" a_place_names fun f => lk ρ "pattern" fun p => go (callV orc f [p] σ) fun n σ => go (callV orc fv [s, e, n] σ) fun own σ => (fun ρ : Loc =>
        cn ρ "expr" a_expr fun f => lk ρ "self" fun s => goO (methV G s "of" σ) fun fv => lk ρ "own" fun o => lk ρ "pattern" fun p => lk ρ "deep" fun d => inc d σ fun d σ => go (callV orc fv [s, o, p, d] σ) fun v1 σ =>
          lk ρ "self" fun s => goO (methV G s "of" σ) fun fv => lk ρ "env" fun e => lk ρ "iterable" fun p => lk ρ "deep" fun d => inc d σ fun d σ => go (callV orc fv [s, e, p, d] σ) fun v2 σ => go (callV orc f [.str "in", .tup [v1, v2]] σ) fun turn σ => (fun ρ : Loc =>
            cn ρ "expr" a_expr fun f => lk ρ "head" fun h => lk ρ "turn" fun v1 => lk ρ "self" fun s => goO (methV G s "body" σ) fun fv => lk ρ "own" fun o => lk ρ "parts" fun ps => gI ps 1 σ fun b => lk ρ "deep" fun d => inc d σ fun d σ => go (callV orc fv [s, o, b, d] σ) fun v2 σ => go (callV orc f [h, .tup [v1, v2]] σ) fun v σ => (some (v, σ) : RV)) (setL ρ "turn" turn)) (setL ρ "own" own))
    (eqs .Eq h (.str "while") σ fun b => iff b
      (goO (methV G self "of" σ) fun fv => gI ps 0 σ fun x => inc d σ fun d' σ => go (callV orc fv [self, env, x, d'] σ) fun v1 σ => goO (methV G self "body" σ) fun fv => gI ps 1 σ fun x => inc d σ fun d' σ => go (callV orc fv [self, env, x, d'] σ) fun v2 σ => go (orc a_expr [h, .tup [v1, v2]] σ) fun v σ => some (v, σ))
      (eqs .Eq h (.str "try") σ fun b => iff b (meth orc self "tried" [env, ps, d] σ fun v σ => some (v, σ)) (meth orc self "gathered" [env, t, d] σ fun v σ => some (v, σ)))))
theorem b_R_scope (orc : Orc) (self env t d : AV) (σ : Sto) : bodyK G orc F_R_scope [self, env, t, d] σ = s_R_scope orc self env t d σ := by kernel_rfl
noncomputable def d_let (orc : Orc) (ρ : Loc) (σ : Sto) : RS := cbl orc ρ "is_expr" a_is_expr (fun v => [v, .str "="]) "row" σ fun b σ => iff b
  (lk ρ "self" fun s => goO (methV G s "of" σ) fun fv => lk ρ "own" fun o => lk ρ "row" fun r => gI r 2 σ fun x => gI x 1 σ fun y => lk ρ "deep" fun d => inc d σ fun d σ => go (callV orc fv [s, o, y, d] σ) fun worth σ => (fun ρ : Loc =>
    lk ρ "self" fun s => goO (methV G s "fresh" σ) fun fv => lk ρ "own" fun o => cn ρ "place_names" a_place_names fun f => lk ρ "row" fun r => gI r 2 σ fun x => gI x 0 σ fun y => go (callV orc f [y] σ) fun n σ => go (callV orc fv [s, o, n] σ) fun own σ => (fun ρ : Loc =>
      lk ρ "rows" fun rs => goO (methV G rs "append" σ) fun fa => cn ρ "expr" a_expr fun f => lk ρ "self" fun s => goO (methV G s "of" σ) fun fv => lk ρ "own" fun o => lk ρ "row" fun r => gI r 2 σ fun x => gI x 0 σ fun y => lk ρ "deep" fun d => inc d σ fun d σ => go (callV orc fv [s, o, y, d] σ) fun v1 σ => lk ρ "worth" fun v2 => go (callV orc f [.str "=", .tup [v1, v2]] σ) fun v σ => go (callV orc fa [rs, v] σ) fun _ σ => (some (.next, ρ, σ) : RS)) (setL ρ "own" own)) (setL ρ "worth" worth))
  (lk ρ "self" fun s => goO (methV G s "fresh" σ) fun fv => lk ρ "own" fun o => cn ρ "place_names" a_place_names fun f => lk ρ "row" fun r => go (callV orc f [r] σ) fun n σ => go (callV orc fv [s, o, n] σ) fun own σ => (fun ρ : Loc =>
      lk ρ "rows" fun rs => goO (methV G rs "append" σ) fun fa => lk ρ "self" fun s => goO (methV G s "of" σ) fun fv => lk ρ "own" fun o => lk ρ "row" fun r => lk ρ "deep" fun d => inc d σ fun d σ => go (callV orc fv [s, o, r, d] σ) fun v σ => go (callV orc fa [rs, v] σ) fun _ σ => (some (.next, ρ, σ) : RS)) (setL ρ "own" own))
noncomputable def s_R_let (orc : Orc) (self env ps d : AV) (σ : Sto) : RV :=
  let ρ₀ : Loc := [("self", self), ("env", env), ("parts", ps), ("deep", d), ("own", env), ("rows", .ref σ.length)]
  let K := fun (ρ : Loc) (σ : Sto) => cn ρ "expr" a_expr fun f => cn ρ "expr" a_expr fun f2 => lk ρ "rows" fun rs => go (callV orc f2 [.str "block", rs] σ) fun v1 σ => lk ρ "self" fun s => goO (methV G s "body" σ) fun fv => lk ρ "own" fun o => lk ρ "parts" fun ps => gI ps 1 σ fun b => lk ρ "deep" fun d => inc d σ fun d σ => go (callV orc fv [s, o, b, d] σ) fun v2 σ => go (callV orc f [.str "let", .tup [v1, v2]] σ) fun v σ => (some (v, σ) : RV)
  gI ps 0 (σ ++ [.lst []]) fun p => cb orc a_is_expr [p, .str "block"] (σ ++ [.lst []]) fun b σ => iff b
    (gI ps 0 σ fun p => gI p 2 σ fun x => loopF "row" (d_let orc) x ρ₀ σ K)
    (gI ps 0 σ fun p => loopF "row" (d_let orc) (.tup [p]) ρ₀ σ K)
theorem b_R_let (orc : Orc) (self env ps d : AV) (σ : Sto) : bodyK G orc F_R_let [self, env, ps, d] σ = s_R_let orc self env ps d σ := by kernel_rfl
noncomputable def s_renamed_locals (orc : Orc) (t sup : AV) (σ : Sto) : RV := go (orc c_R [sup] σ) fun r σ => goO (methV G r "body" σ) fun fv => go (callV orc fv [r, .ref σ.length, t, .int 0] (σ ++ [.edct])) fun v σ => some (v, σ)
theorem b_renamed_locals (orc : Orc) (t sup : AV) (σ : Sto) : bodyK G orc F_renamed_locals [t, sup] σ = s_renamed_locals orc t sup σ := by kernel_rfl
end Mine

end

noncomputable section
open PySem PySem.W PyProof.Rows
set_option Elab.async false
set_option maxRecDepth 100000
set_option linter.unusedVariables false
namespace Mine
variable {β : Type}

/-! the law's own defs -/
noncomputable def urn3 (tu cell size v : AV) (σ : Sto) : RV := go (binV .Mod size (.int 999983) σ) fun m σ => go (binV .Mult m (.int 353) σ) fun a σ => go (binV .Mult (.int 131) tu σ) fun b σ => go (binV .Add a b σ) fun c σ =>
    eqs .Lt cell (.int 0) σ fun t => go (tyV "int" [.bool t] σ) fun i σ => go (binV .Mult (.int 29) i σ) fun e σ => go (binV .Add c e σ) fun f σ => go (binV .Add f (.int 7) σ) fun g σ => go (binV .Mod g (.int 65519) σ) fun r σ => some (.ref σ.length, σ ++ [.lst [v, r]])
noncomputable def urn2 (tu cell size : AV) (σ : Sto) : RV := go (binV .Pow (.int 10) (.int 15) σ) fun p σ => eqs .GtE size p σ fun b => iff b (urn3 tu cell size size σ) (urn3 tu cell size (.int 0) σ)
noncomputable def urn1 (tu cell : AV) (σ : Sto) : RV := eqs .GtE cell (.int 0) σ fun b => iff b (urn2 tu cell cell σ) (go (binV .Sub (.int 0) cell σ) fun s σ => urn2 tu cell s σ)
noncomputable def s_law_urn (sc tu : AV) (σ : Sto) : RV := go (biV "len" [sc] σ) fun n σ => eqs .Lt tu n σ fun b => iff b (goO (getV sc tu σ) fun c => urn1 tu c σ) (urn1 tu (.int 0) σ)
theorem b_law_urn (orc : Orc) (sc tu : AV) (σ : Sto) : bodyK G orc F_law_urn [sc, tu] σ = s_law_urn sc tu σ := by kernel_rfl
noncomputable def s_law_next (u m : AV) (σ : Sto) : RV := gI u 0 σ fun a => eqs .Gt a (.int 0) σ fun b => iff b
  (gI u 0 σ fun a => go (binV .Mod a m σ) fun f σ => gI u 0 σ fun a => go (binV .FloorDiv a m σ) fun q σ => goO (setV u (.int 0) q σ) fun σ => some (f, σ))
  (gI u 1 σ fun a => go (binV .Mult a (.int 75) σ) fun x σ => go (binV .Add x (.int 15013) σ) fun y σ => go (binV .Mod y (.int 65519) σ) fun z σ => goO (setV u (.int 1) z σ) fun σ => gI u 1 σ fun a => go (binV .FloorDiv a (.int 5) σ) fun x σ => go (binV .Mod x m σ) fun r σ => some (r, σ))
theorem b_law_next (orc : Orc) (u m : AV) (σ : Sto) : bodyK G orc F_law_next [u, m] σ = s_law_next u m σ := by kernel_rfl
noncomputable def s_law_name (orc : Orc) (u : AV) (σ : Sto) : RV := go (orc a_law_next [u, .int 3] (σ ++ [.lst [.str "a", .str "b", .str "c"]])) fun n σ' => goO (getV (.ref σ.length) n σ') fun v => some (.tup [.str "sym", v], σ')
theorem b_law_name (orc : Orc) (u : AV) (σ : Sto) : bodyK G orc F_law_name [u] σ = s_law_name orc u σ := by kernel_rfl
noncomputable def ex (h : Str) (l : List AV) : AV := .tup [.str "expr", .str h, .tup l]
/-- a name, a tree one lower -/
noncomputable def nm (orc : Orc) (u : AV) (σ : Sto) (k : AV → Sto → RV) : RV := go (orc a_law_name [u] σ) k
noncomputable def tr (orc : Orc) (u hi : AV) (σ : Sto) (k : AV → Sto → RV) : RV := go (binV .Sub hi (.int 1) σ) fun h σ => go (orc a_law_tree [u, h] σ) k
noncomputable def lt_K (orc : Orc) (u hi way : AV) (σ : Sto) : RV := eqs .Lt way (.int 2) σ fun b => iff b
    (eqs .Eq way (.int 0) σ fun b => iff b (nm orc u σ fun v σ => some (v, σ)) (some (.tup [.str "int", .int 1], σ))) (
    eqs .Lt way (.int 4) σ fun b => iff b (nm orc u σ fun x σ => tr orc u hi σ fun y σ => some (ex "=" [x, y], σ)) (
    eqs .Eq way (.int 4) σ fun b => iff b (tr orc u hi σ fun x σ => tr orc u hi σ fun y σ => tr orc u hi σ fun z σ => some (ex "block" [x, y, z], σ)) (
    eqs .Eq way (.int 5) σ fun b => iff b (nm orc u σ fun x σ => tr orc u hi σ fun y σ => tr orc u hi σ fun z σ => some (ex "call" [.tup [.str "sym", .str "f"], ex "parameters" [ex "kw" [x, y]], z], σ)) (
    eqs .Eq way (.int 6) σ fun b => iff b (tr orc u hi σ fun x σ => nm orc u σ fun y σ => some (ex "." [x, y], σ)) (
    eqs .Eq way (.int 7) σ fun b => iff b (nm orc u σ fun x σ => tr orc u hi σ fun y σ => tr orc u hi σ fun z σ => some (ex "let" [ex "block" [ex "=" [x, y]], z], σ)) (
    eqs .Eq way (.int 8) σ fun b => iff b (nm orc u σ fun x σ => tr orc u hi σ fun y σ => tr orc u hi σ fun z σ => some (ex "for" [ex "in" [x, y], z], σ)) (
    eqs .Eq way (.int 9) σ fun b => iff b (nm orc u σ fun x σ => tr orc u hi σ fun y σ => some (ex "->" [ex "tuple" [x], y], σ)) (
    eqs .Eq way (.int 10) σ fun b => iff b (nm orc u σ fun x σ => tr orc u hi σ fun y σ => tr orc u hi σ fun z σ => some (ex "function" [ex "call" [.tup [.str "sym", .str "g"], ex "kw" [x, y]], z], σ)) (
    eqs .Eq way (.int 11) σ fun b => iff b (go (orc a_law_next [u, .int 2] (σ ++ [.lst [.str "local", .str "global"]])) fun n σ' => goO (getV (.ref σ.length) n σ') fun h => nm orc u σ' fun x σ => some (.tup [.str "expr", h, .tup [x]], σ)) (
    eqs .Eq way (.int 12) σ fun b => iff b (tr orc u hi σ fun x σ => tr orc u hi σ fun y σ => some (ex "while" [x, y], σ)) (
    tr orc u hi σ fun x σ => (some (ex "escape" [x], σ) : RV))))))))))))
noncomputable def s_law_tree (orc : Orc) (u hi : AV) (σ : Sto) : RV :=
  eqs .Gt hi (.int 0) σ fun b => iff b (go (orc a_law_next [u, .int 14] σ) fun way σ => lt_K orc u hi way σ) (go (orc a_law_next [u, .int 2] σ) fun way σ => lt_K orc u hi way σ)
theorem b_law_tree (orc : Orc) (u hi : AV) (σ : Sto) : bodyK G orc F_law_tree [u, hi] σ = s_law_tree orc u hi σ := by kernel_rfl

/-! _law_bound -/
noncomputable def two (σ : Sto) : RV := some (.tup [.ref σ.length, .ref (σ ++ [Cell.lst []]).length], σ ++ [.lst []] ++ [.lst []])
noncomputable def d_lb (orc : Orc) (ρ : Loc) (σ : Sto) : RS := cn ρ "_law_bound" a_law_bound fun f => lk ρ "part" fun p => go (callV orc f [p] σ) fun x σ => unp ρ ["some", "others"] x fun ρ =>
  lk ρ "bound" fun a => lk ρ "some" fun b => go (binV .Add a b σ) fun x σ => lk ρ "outer" fun a => lk ρ "others" fun b => go (binV .Add a b σ) fun y σ => some (.next, setL (setL ρ "bound" x) "outer" y, σ)
noncomputable def s_law_bound (orc : Orc) (t : AV) (σ : Sto) : RV :=
  let R := fun (σ : Sto) => gI t 1 σ fun h => eqs .In h (.tup [.str "local", .str "global"]) σ fun b => iff b
    (gI t 1 σ fun h => eqs .Eq h (.str "local") σ fun b => iff b
      (gI t 2 σ fun x => gI x 0 σ fun y => gI y 1 σ fun n => some (.tup [.ref σ.length, .ref (σ ++ [Cell.lst [n]]).length], σ ++ [.lst [n]] ++ [.lst []]))
      (gI t 2 (σ ++ [.lst []]) fun x => gI x 0 (σ ++ [.lst []]) fun y => gI y 1 (σ ++ [.lst []]) fun n => some (.tup [.ref σ.length, .ref (σ ++ [Cell.lst []]).length], σ ++ [.lst []] ++ [.lst [n]])))
    (let K := fun (bd : AV) (σ : Sto) => gI t 2 (σ ++ [.lst []]) fun x => loopF "part" (d_lb orc) x [("tree", t), ("bound", bd), ("outer", .ref σ.length)] (σ ++ [.lst []]) fun ρ σ => lk ρ "bound" fun a => lk ρ "outer" fun b => (some (.tup [a, b], σ) : RV)
     gI t 1 σ fun h => eqs .Eq h (.str "=") σ fun b => iff b (gI t 2 σ fun x => gI x 0 σ fun y => gI y 1 σ fun n => K (.ref σ.length) (σ ++ [.lst [n]])) (K (.ref σ.length) (σ ++ [.lst []])))
  gI t 0 σ fun a => eqs .NotEq a (.str "expr") σ fun b => iff b (two σ) (gI t 1 σ fun h => eqs .In h (.tup [.str "let", .str "for", .str "->", .str "function", .str "while", .str "escape"]) σ fun b => iff b (two σ) (R σ))
theorem b_law_bound (orc : Orc) (t : AV) (σ : Sto) : bodyK G orc F_law_bound [t] σ = s_law_bound orc t σ := by kernel_rfl
noncomputable def d_ln (orc : Orc) (ρ : Loc) (σ : Sto) : RS := lk ρ "counter" fun c => goO (methV G c "append" σ) fun fv => lk ρ "name" fun n => go (callV orc fv [c, n] σ) fun _ σ => gcall ρ "len" (.builtin "len") fun f => lk ρ "counter" fun c => go (callV orc f [c] σ) fun v σ => lk ρ "found" fun f => lk ρ "name" fun n => goO (setV f n v σ) fun σ => some (.next, ρ, σ)
noncomputable def s_law_new (orc : Orc) (env ns c : AV) (σ : Sto) : RV := go (tyV "dict" [env] σ) fun f σ => loopF "name" (d_ln orc) ns [("env", env), ("names", ns), ("counter", c), ("found", f)] σ fun ρ σ => lk ρ "found" fun v => some (v, σ)
theorem b_law_new (orc : Orc) (env ns c : AV) (σ : Sto) : bodyK G orc F_law_new [env, ns, c] σ = s_law_new orc env ns c σ := by kernel_rfl
noncomputable def d_ls1 (orc : Orc) (ρ : Loc) (σ : Sto) : RS := lk ρ "name" fun n => lk ρ "env" fun e => eqs .NotIn n e σ fun b => iff b
  (lk ρ "name" fun n => lk ρ "outer" fun e => eqs .NotIn n e σ fun b => iff b
    (lk ρ "name" fun n => lk ρ "fresh" fun e => eqs .NotIn n e σ fun b => iff b (lk ρ "fresh" fun o => goO (methV G o "append" σ) fun fv => lk ρ "name" fun n => go (callV orc fv [o, n] σ) fun _ σ => some (.next, ρ, σ)) (some (.next, ρ, σ)))
    (some (.next, ρ, σ))) (some (.next, ρ, σ))
noncomputable def d_ls2 (ρ : Loc) (σ : Sto) : RS := lk ρ "own" fun f => lk ρ "name" fun n => goO (setV f n (.int 0) σ) fun σ => some (.next, ρ, σ)
noncomputable def s_law_scope (orc : Orc) (t env c : AV) (σ : Sto) : RV := go (orc a_law_bound [t] σ) fun x σ => unp [("tree", t), ("env", env), ("counter", c)] ["bound", "outer"] x fun ρ => (fun (ρ : Loc) (σ : Sto) =>
  lk ρ "bound" fun b => loopF "name" (d_ls1 orc) b ρ σ fun ρ σ => cn ρ "_law_new" a_law_new fun f => lk ρ "env" fun e => lk ρ "fresh" fun n => lk ρ "counter" fun c => go (callV orc f [e, n, c] σ) fun own σ => (fun ρ : Loc =>
    lk ρ "outer" fun o => loopF "name" d_ls2 o ρ σ fun ρ σ => cn ρ "_law_marked" a_law_marked fun f => lk ρ "tree" fun t => lk ρ "own" fun o => lk ρ "counter" fun c => go (callV orc f [t, o, c] σ) fun v σ => (some (v, σ) : RV)) (setL ρ "own" own)) (setL ρ "fresh" (.ref σ.length)) (σ ++ [.lst []])
theorem b_law_scope (orc : Orc) (t env c : AV) (σ : Sto) : bodyK G orc F_law_scope [t, env, c] σ = s_law_scope orc t env c σ := by kernel_rfl
noncomputable def mark (x n : AV) : AV := .tup [.str "mark", x, n]
noncomputable def e_mk (orc : Orc) (ρ : Loc) (σ : Sto) : RV := cn ρ "_law_marked" a_law_marked fun f => lk ρ "part" fun t => lk ρ "env" fun e => lk ρ "counter" fun c => go (callV orc f [t, e, c] σ) fun v σ => some (v, σ)
noncomputable def s_law_marked (orc : Orc) (t env c : AV) (σ : Sto) : RV :=
  let M := fun (t e : AV) (σ : Sto) (k : AV → Sto → RV) => go (orc a_law_marked [t, e, c] σ) k
  let S := fun (t e : AV) (σ : Sto) (k : AV → Sto → RV) => go (orc a_law_scope [t, e, c] σ) k
  let N := fun (n : AV) (σ : Sto) (k : AV → Sto → RV) => go (orc a_law_new [env, .ref σ.length, c] (σ ++ [.lst [n]])) k
  gI t 0 σ fun a => eqs .Eq a (.str "sym") σ fun b => iff b
    (gI t 1 σ fun x => goO (methV G env "get" σ) fun fv => gI t 1 σ fun y => go (callV orc fv [env, y, .int 0] σ) fun v σ => some (mark x v, σ)) (
  gI t 0 σ fun a => eqs .NotEq a (.str "expr") σ fun b => iff b (some (t, σ)) (
  gI t 1 σ fun h => gI t 2 σ fun ps =>
  eqs .Eq h (.str "escape") σ fun b => iff b (gI ps 0 σ fun v => some (.tup [.str "kept", v], σ)) (
  eqs .Eq h (.str ".") σ fun b => iff b (gI ps 0 σ fun x => M x env σ fun v σ => gI ps 1 σ fun y => gI y 1 σ fun n => some (.tup [.str "expr", h, .tup [v, mark n (.int 0)]], σ)) (
  eqs .Eq h (.str "kw") σ fun b => iff b (gI ps 0 σ fun x => gI x 1 σ fun n => gI ps 1 σ fun y => M y env σ fun v σ => some (.tup [.str "expr", h, .tup [mark n (.int 0), v]], σ)) (
  eqs .Eq h (.str "let") σ fun b => iff b
    (gI ps 0 σ fun x => gI x 2 σ fun x => gI x 0 σ fun x => gI x 2 σ fun x => gI x 1 σ fun worth => gI ps 0 σ fun x => gI x 2 σ fun x => gI x 0 σ fun x => gI x 2 σ fun x => gI x 0 σ fun name =>
      M worth env σ fun worth σ => gI name 1 σ fun n => N n σ fun own σ => M name own σ fun v1 σ => gI ps 1 σ fun y => S y own σ fun v2 σ => some (.tup [.str "expr", h, .tup [.tup [.str "expr", .str "block", .tup [.tup [.str "expr", .str "=", .tup [v1, worth]]]], v2]], σ)) (
  eqs .Eq h (.str "for") σ fun b => iff b
    (gI ps 0 σ fun x => gI x 2 σ fun x => gI x 1 σ fun x => M x env σ fun it σ => gI ps 0 σ fun x => gI x 2 σ fun x => gI x 0 σ fun x => gI x 1 σ fun n => N n σ fun own σ => gI ps 0 σ fun x => gI x 2 σ fun x => gI x 0 σ fun x => M x own σ fun v1 σ => gI ps 1 σ fun y => S y own σ fun v2 σ =>
      some (.tup [.str "expr", h, .tup [.tup [.str "expr", .str "in", .tup [v1, it]], v2]], σ)) (
  eqs .Eq h (.str "->") σ fun b => iff b
    (gI ps 0 σ fun x => gI x 2 σ fun x => gI x 0 σ fun x => gI x 1 σ fun n => N n σ fun own σ => gI ps 0 σ fun x => M x own σ fun v1 σ => gI ps 1 σ fun y => S y own σ fun v2 σ => some (.tup [.str "expr", h, .tup [v1, v2]], σ)) (
  eqs .Eq h (.str "function") σ fun b => iff b
    (gI ps 0 σ fun x => gI x 2 σ fun x => gI x 1 σ fun df => gI df 2 σ fun x => gI x 0 σ fun x => gI x 1 σ fun n => N n σ fun own σ => gI df 2 σ fun x => gI x 0 σ fun x => M x own σ fun v1 σ => gI df 2 σ fun x => gI x 1 σ fun x => M x own σ fun v2 σ =>
      gI ps 0 σ fun x => gI x 2 σ fun x => gI x 0 σ fun x => M x env σ fun v3 σ => gI ps 1 σ fun y => S y own σ fun v4 σ => some (.tup [.str "expr", h, .tup [.tup [.str "expr", .str "call", .tup [v3, .tup [.str "expr", .str "kw", .tup [v1, v2]]]], v4]], σ)) (
  eqs .Eq h (.str "while") σ fun b => iff b (gI ps 0 σ fun x => M x env σ fun v1 σ => gI ps 1 σ fun y => S y env σ fun v2 σ => some (.tup [.str "expr", h, .tup [v1, v2]], σ)) (
  compr "part" (e_mk orc) ps [("env", env), ("counter", c)] σ fun w σ => go (tyV "tuple" [w] σ) fun w σ => some (.tup [.str "expr", h, w], σ)))))))))))
theorem b_law_marked (orc : Orc) (t env c : AV) (σ : Sto) : bodyK G orc F_law_marked [t, env, c] σ = s_law_marked orc t env c σ := by kernel_rfl
end Mine

end

noncomputable section
open PySem PySem.W PyProof.Rows
set_option Elab.async false
set_option maxRecDepth 100000
set_option linter.unusedVariables false
namespace Mine
variable {β : Type}

/-! where_names -/
noncomputable def whileB (o : Option Stmt) : List Stmt := match o with
  | some (.While _ b _ _) => b
  | _ => []
noncomputable def t_wn (orc : Orc) (ρ : Loc) (σ : Sto) : Option (Bool × Sto) := cbl orc ρ "is_expr" a_is_expr (fun v => [v, .str "where"]) "head" σ fun b σ => iff b (some (true, σ))
  (cbl orc ρ "is_expr" a_is_expr (fun v => [v, .str "::"]) "head" σ fun b σ => iff b (some (true, σ)) (some (false, σ)))
noncomputable def s_where_names (orc : Orc) (t : AV) (σ : Sto) : RV := aft (whileL (t_wn orc) (fun ρ σ => (es G (ev G orc 60) 57).Ss F_where_names.fd.scope (whileB (F_where_names.body[1]?)) ρ σ fun f ρ σ => some (f, ρ, σ)) 100000 [("head", t), ("found", .ref σ.length)] (σ ++ [.lst []])) fun ρ σ => lk ρ "found" fun v => some (v, σ)
theorem b_where_names (orc : Orc) (t : AV) (σ : Sto) : bodyK G orc F_where_names [t] σ = s_where_names orc t σ := by kernel_rfl

/-! _law_fits -/
noncomputable def retB (b : Bool) (σ : Sto) : RV := some (.bool b, σ)
noncomputable def sc_fits : Scope := scp [(".0", .local), ("one", .local), ("other", .local), ("_law_fits", .globalImplicit), ("given", .free)]
noncomputable def t_fits (orc : Orc) (ρ : Loc) (σ : Sto) : Option (Bool × Sto) := cn ρ "_law_fits" a_law_fits fun f => lk ρ "one" fun a => lk ρ "other" fun b => lk ρ "given" fun g => go (callV orc f [a, b, g] σ) fun r σ => asB r fun t => some (!t, σ)
noncomputable def e_fits (ρ : Loc) (σ : Sto) : RV := some (.int 1, σ)
noncomputable def s_law_fits (orc : Orc) (m t g : AV) (σ : Sto) : RV :=
  let Z := fun (σ : Sto) => gI t 0 σ fun a => eqs .NotEq a (.str "expr") σ fun b => iff b (retB false σ) (gI t 1 σ fun p => gI m 1 σ fun q => eqs .NotEq p q σ fun b => iff b (retB false σ)
    (gI t 2 σ fun p => go (biV "len" [p] σ) fun x σ => gI m 2 σ fun q => go (biV "len" [q] σ) fun y σ => eqs .NotEq x y σ fun b => iff b (retB false σ)
      (gI m 2 σ fun p => asT p fun l => gI t 2 σ fun q => asT q fun r => pre (decide (l.length = r.length ∧ l.length ≤ 1000)) (go (compZ "one" "other" (t_fits orc) e_fits (l.zip r) (capt sc_fits F_law_fits.fd.scope [("marked", m), ("told", t), ("given", g)]) σ) fun ws σ =>
        eqs .Eq (.ref σ.length) (.ref (σ ++ [Cell.lst ws]).length) (σ ++ [.lst ws] ++ [.lst []]) fun b => retB b (σ ++ [.lst ws] ++ [.lst []])))))
  let Y := fun (σ : Sto) => gI m 2 σ fun k => eqs .Eq k (.int 0) σ fun b => iff b (gI m 1 σ fun x => eqs .Eq t (.tup [.str "sym", x]) σ fun b => retB b σ)
    (gI t 0 σ fun a => eqs .NotEq a (.str "sym") σ fun b => iff b (retB false σ) (gI t 1 σ fun u => goO (methV G u "split" σ) fun fv => go (callV orc fv [u, .str "#"] σ) fun l σ => gI l 0 σ fun p => gI m 1 σ fun x => eqs .NotEq p x σ fun b => iff b (retB false σ)
      (gI t 1 σ fun u => eqs .NotIn (.str "#") u σ fun b => iff b (retB false σ)
        (goO (methV G g "get" σ) fun fv => gI m 2 σ fun k => gI t 1 σ fun u => go (callV orc fv [g, k, u] σ) fun v σ => gI m 2 σ fun k => goO (setV g k v σ) fun σ => gI m 2 σ fun k => goO (getV g k σ) fun v => gI t 1 σ fun u => eqs .Eq v u σ fun b => retB b σ))))
  gI m 0 σ fun a => eqs .Eq a (.str "kept") σ fun b => iff b (gI m 1 σ fun x => eqs .Eq t x σ fun b => retB b σ)
    (gI m 0 σ fun a => eqs .Eq a (.str "mark") σ fun b => iff b (Y σ) (gI m 0 σ fun a => eqs .NotEq a (.str "expr") σ fun b => iff b (eqs .Eq t m σ fun b => retB b σ) (Z σ)))
theorem b_law_fits (orc : Orc) (m t g : AV) (σ : Sto) : bodyK G orc F_law_fits [m, t, g] σ = s_law_fits orc m t g σ := by kernel_rfl

/-! law -/
noncomputable def sym (x : Str) : AV := .tup [.str "sym", .str x]
noncomputable def fixedT : AV := ex "let" [ex "block" [ex "=" [sym "a", sym "a"]], ex "block" [ex "=" [sym "b", sym "a"], ex "escape" [sym "a"], sym "f"]]
noncomputable def gIs (a : AV) (is : List Nat) (σ : Sto) (k : AV → Option β) : Option β := match is with
  | [] => k a
  | i :: r => gI a i σ fun x => gIs x r σ k
noncomputable def rsB (b : Bool) (ρ : Loc) (σ : Sto) : RS := some (.ret (.bool b), ρ, σ)
noncomputable def d_law (orc : Orc) (ρ : Loc) (σ : Sto) : RS := cn ρ "_law_urn" a_law_urn fun f => lk ρ "script" fun s => lk ρ "turn" fun t => go (callV orc f [s, t] σ) fun u σ => cn ρ "NameSupply" c_S fun f => go (callV orc f [] σ) fun p σ => (fun ρ : Loc =>
  cn ρ "_law_tree" a_law_tree fun f => lk ρ "urn" fun u => go (callV orc f [u, .int 3] σ) fun t1 σ => cn ρ "_law_tree" a_law_tree fun f => lk ρ "urn" fun u => go (callV orc f [u, .int 2] σ) fun t2 σ => cn ρ "_law_tree" a_law_tree fun f => lk ρ "urn" fun u => go (callV orc f [u, .int 2] σ) fun t3 σ =>
  (fun (ρ : Loc) (σ : Sto) => cn ρ "_law_fits" a_law_fits fun ff => cn ρ "_law_scope" a_law_scope fun f => lk ρ "tree" fun t => go (callV orc f [t, .ref σ.length, .ref (σ ++ [Cell.edct]).length] (σ ++ [.edct] ++ [.lst []])) fun m σ =>
    cn ρ "renamed_locals" a_renamed_locals fun f => lk ρ "tree" fun t => lk ρ "supply" fun p => go (callV orc f [t, p] σ) fun w σ => lk ρ "given" fun g => go (callV orc ff [m, w, g] σ) fun r σ => asB r fun b => iff (!b) (rsB false ρ σ)
      (gcall ρ "len" (.builtin "len") fun fl => gcall ρ "dict" (.type "dict") fun fd => lk ρ "given" fun g => asR g fun i => goO (dctI σ i) fun l => pre (decide (l.length ≤ 1000)) (go (callV orc fd [.ref σ.length] (σ ++ [.lst (l.map fun p => .tup [p.2, .bool true])])) fun d σ => go (callV orc fl [d] σ) fun x σ =>
        gcall ρ "len" (.builtin "len") fun fl => lk ρ "given" fun g => go (callV orc fl [g] σ) fun y σ => eqs .NotEq x y σ fun b => iff b (rsB false ρ σ) (some (.next, ρ, σ)))))
    (setL (setL ρ "tree" (ex "block" [t1, t2, t3])) "given" (.ref σ.length)) (σ ++ [.edct])) (setLs ρ ["urn", "supply"] [u, p])
noncomputable def law_end (orc : Orc) (sc w new : AV) (σ : Sto) : RV := go (biV "len" [sc] σ) fun n σ => go (biV "min" [n, .int 2] σ) fun n σ => go (biV "max" [.int 1, n] σ) fun n σ => asI n fun j => pre (decide (0 ≤ j ∧ j ≤ 1000))
  (aft (forL "turn" (d_law orc) (intsTo j) [("script", sc), ("fixed", fixedT), ("told", w), ("new", new)] σ) fun ρ σ => retB true σ)
noncomputable def law_mid (orc : Orc) (sc w : AV) (σ : Sto) : RV := gIs w [2, 0, 2, 0, 2, 0, 1] σ fun new => gIs w [2, 0, 2, 0, 2, 1] σ fun x => eqs .NotEq x (sym "a") σ fun b => iff b (retB false σ)
    (gIs w [2, 1, 2, 0, 2, 1] σ fun x => eqs .NotEq x (.tup [.str "sym", new]) σ fun b => iff b (retB false σ) (eqs .Eq new (.str "a") σ fun b => iff b (retB false σ)
      (gIs w [2, 1, 2] σ fun x => tail1 x σ fun y σ => eqs .NotEq y (.tup [sym "a", sym "f"]) σ fun b => iff b (retB false σ) (gIs w [2, 1, 2, 0, 2, 0] σ fun x => eqs .In x (.tup [sym "b", .tup [.str "sym", new]]) σ fun b => iff b (retB false σ)
        (law_end orc sc w new σ)))))
noncomputable def s_law (orc : Orc) (sc : AV) (σ : Sto) : RV := go (orc c_S [] σ) fun p σ => go (orc a_renamed_locals [fixedT, p] σ) fun w σ => law_mid orc sc w σ
theorem b_law (orc : Orc) (sc : AV) (σ : Sto) : bodyK G orc F_law [sc] σ = s_law orc sc σ := by kernel_rfl
end Mine

end

noncomputable section
open PySem PySem.W PyProof.Rows
set_option Elab.async false
set_option maxRecDepth 100000
set_option linter.unusedVariables false
namespace Mine
section
variable {α β : Type} {x : Option α} {a : α} {b : Bool}
theorem goO_of {k : α → Option β} (h : x = some a) : goO x k = k a := by rw [h]; rfl
theorem optG_of {y : β} {k : α → β} (h : x = some a) : optG x y k = k a := by rw [h]; rfl
theorem optG_no {y : β} {k : α → β} (h : x = none) : optG x y k = y := by rw [h]; rfl
theorem pre_of {y : Option β} (h : b = true) : pre b y = y := by rw [h]; rfl
theorem go_of {x : Option (α × Sto)} {a : α} {σ : Sto} {k : α → Sto → Option β} (h : x = some (a, σ)) : go x k = k a σ := by rw [h]; rfl
end

/-! what holds of an answer -/
noncomputable def W {β : Type} (x : Option β) (P : β → Prop) : Prop := ∃ b, x = some b ∧ P b
section
variable {α β : Type} {σ σ₁ : Sto} {P : β → Prop} {a : AV} {ρ : Loc}
theorem W.out {x : Option (α × Sto)} {R : α → Sto → Prop} (h : W x (fun p => R p.1 p.2)) : ∃ v σ', x = some (v, σ') ∧ R v σ' := let ⟨p, e, r⟩ := h; ⟨p.1, p.2, e, r⟩
theorem W.outV {x : RV} {v : AV} {R : Sto → Prop} (h : W x (fun p => p.1 = v ∧ R p.2)) : ∃ σ', x = some (v, σ') ∧ R σ' := let ⟨p, e, q, r⟩ := h; ⟨p.2, by rw [e, ← q], r⟩
theorem W.outN {x : RS} {R : Loc → Sto → Prop} (h : W x (fun p => p.1 = .next ∧ R p.2.1 p.2.2)) : ∃ ρ σ', x = some (.next, ρ, σ') ∧ R ρ σ' := let ⟨p, e, q, r⟩ := h; ⟨p.2.1, p.2.2, by rw [e, ← q], r⟩
theorem w_some {b : β} (h : P b) : W (some b) P := ⟨b, rfl, h⟩
theorem w_go {x : Option (α × Sto)} {b : α} {k : α → Sto → Option β} (e : x = some (b, σ)) (h : W (k b σ) P) : W (go x k) P := by subst e; exact h
theorem w_goO {x : Option α} {b : α} {k : α → Option β} (e : x = some b) (h : W (k b) P) : W (goO x k) P := by subst e; exact h
theorem w_lk {x : Str} {k : AV → Option β} (e : ρ.lookup x = some a) (h : W (k a) P) : W (lk ρ x k) P := by unfold lk; rw [e]; exact h
theorem w_cn {x : Str} {f : Addr} {k : Value → Option β} (e : ρ.lookup x = none) (h : W (k (.ref f)) P) : W (cn ρ x f k) P := by unfold cn gcall; rw [e]; exact h
theorem w_gcall {x : Str} {w : Value} {k : Value → Option β} (e : ρ.lookup x = none) (h : W (k w) P) : W (gcall ρ x w k) P := by unfold gcall; rw [e]; exact h
theorem w_gk {x : Str} {w : AV} {k : AV → Option β} (e : ρ.lookup x = none) (h : W (k w) P) : W (gk ρ x w k) P := by unfold gk; rw [e]; exact h
theorem w_iff {b b' : Bool} {x y : Option β} (e : b = b') (h : W (iff b' x y) P) : W (iff b x y) P := by subst e; exact h
theorem w_asB {t : Bool} {k : Bool → Option β} (h : W (k t) P) : W (asB (.bool t) k) P := h
theorem w_t {x y : Option β} (h : W x P) : W (iff true x y) P := h
theorem w_f {x y : Option β} (h : W y P) : W (iff false x y) P := h
theorem w_pre {b : Bool} {x : Option β} (e : b = true) (h : W x P) : W (pre b x) P := by subst e; exact h
theorem w_aft {x : RS} {k : Loc → Sto → RV} {P : AV × Sto → Prop} (e : x = some (.next, ρ, σ)) (h : W (k ρ σ) P) : W (aft x k) P := by subst e; exact h
theorem w_aftL {x : RS} {k : Loc → Sto → RS} {P : Flw × Loc × Sto → Prop} (e : x = some (.next, ρ, σ)) (h : W (k ρ σ) P) : W (aftL x k) P := by subst e; exact h
theorem w_unp {xs : List Str} {vs : List AV} {k : Loc → Option β} (e : decide (xs.length = vs.length) = true) (h : W (k (setLs ρ xs vs)) P) : W (unp ρ xs (.tup vs) k) P := w_pre e h
theorem w_loopR {y : Str} {bod : Loc → Sto → RS} {j : Nat} {ρ₀ : Loc} {σ₀ : Sto} {k : Loc → Sto → RV} {P : AV × Sto → Prop} (e : forR y bod j 100000 0 ρ₀ σ₀ = some (.next, ρ, σ)) (h : W (k ρ σ) P) : W (loopF y bod (.ref j) ρ₀ σ₀ k) P := w_aft e h
theorem sl_eq (ρ : Loc) (x : Str) (v : AV) : (setL ρ x v).lookup x = some v := by rw [lookup_setL]; simp
theorem sl_ne {x y : Str} {v : AV} {r : Option AV} (h : ¬ x = y) (e : ρ.lookup x = r) : (setL ρ y v).lookup x = r := by rw [lookup_setL, if_neg h]; exact e
end

/-! stores: what stands -/
structure Kp (I : List Nat) (σ σ' : Sto) : Prop where
  len : σ.length ≤ σ'.length
  keep : ∀ j c, σ[j]? = some c → j ∉ I → σ'[j]? = some c
section
variable {I J : List Nat} {σ σ₁ σ₂ σ' : Sto} {l : List AV} {i : Nat} {c : Cell}
theorem Kp.refl : Kp I σ σ := ⟨Nat.le_refl _, fun _ _ h _ => h⟩
theorem Kp.trans (a : Kp I σ σ₁) (b : Kp I σ₁ σ₂) : Kp I σ σ₂ := ⟨Nat.le_trans a.len b.len, fun j c h hj => b.keep j c (a.keep j c h hj) hj⟩
theorem Kp.app (τ : Sto) : Kp I σ (σ ++ τ) := ⟨by simp, fun j c h _ => by
  rw [List.getElem?_append_left (List.getElem?_eq_some_iff.mp h).1]; exact h⟩
theorem Kp.set (hi : i ∈ I) : Kp I σ (σ.set i c) := ⟨by simp, fun j d h hj => by
  have : i ≠ j := fun e => hj (by rw [← e]; exact hi)
  rw [List.getElem?_set_ne this]; exact h⟩
theorem Kp.mono (a : Kp I σ σ₁) (h : ∀ j ∈ I, j ∈ J) : Kp J σ σ₁ := ⟨a.len, fun j c e hj => a.keep j c e fun q => hj (h j q)⟩
theorem Kp.nil (a : Kp [] σ σ₁) : Kp J σ σ₁ := a.mono (fun _ h => by cases h)
/-- what changed is new: away from the old -/
theorem Kp.drop (a : Kp (i :: I) σ σ₁) (h : σ.length ≤ i) : Kp I σ σ₁ := ⟨a.len, fun j c e hj => a.keep j c e fun q => by
  rcases List.mem_cons.mp q with rfl | q
  · exact absurd (List.getElem?_eq_some_iff.mp e).1 (Nat.not_lt.mpr h)
  · exact hj q⟩
theorem Kp.old (a : Kp I σ σ₁) (b : Kp (i :: I) σ₁ σ₂) (h : σ.length ≤ i) : Kp I σ σ₂ := ((a.mono fun _ q => List.mem_cons_of_mem _ q).trans b).drop h
theorem at_end : (σ ++ [c])[σ.length]? = some c := by simp
theorem at_old (h : σ[i]? = some c) (d : Sto) : (σ ++ d)[i]? = some c := (Kp.app (I := []) d).keep i c h (by simp)
theorem lt_of_at (h : σ[i]? = some c) : i < σ.length := (List.getElem?_eq_some_iff.mp h).1
theorem at_set (h : i < σ.length) : (σ.set i c)[i]? = some c := by rw [List.getElem?_set_self h]
theorem lstAt_of (h : σ[i]? = some (.lst l)) : lstAt σ i = some l := by unfold lstAt; rw [h]; rfl
theorem inst_at {C : Addr} {d : Nat} {l : List (Str × AV)} (h : σ[i]? = some (.inst C d)) (h' : σ[d]? = some (.attrs l)) : instAt σ i = some (C, d, l) := (goO_of h).trans ((goO_of h').trans rfl)
end

/-! names and trees -/
inductive Nm where | a | b | c
  deriving DecidableEq
noncomputable def Nm.s : Nm → Str
  | .a => "a"
  | .b => "b"
  | .c => "c"
theorem Nm.inj {x y : Nm} (h : x.s = y.s) : x = y := by cases x <;> cases y <;> first | rfl | (exfalso; revert h; decide)

inductive Tr where
  | sym (x : Nm)
  | one
  | asg (x : Nm) (t : Tr)
  | blk (a b c : Tr)
  | call (x : Nm) (t u : Tr)
  | dot (t : Tr) (x : Nm)
  | lt (x : Nm) (t b : Tr)
  | fr (x : Nm) (t b : Tr)
  | arr (x : Nm) (b : Tr)
  | fn (x : Nm) (d b : Tr)
  | loc (x : Nm)
  | glb (x : Nm)
  | wh (a b : Tr)
  | esc (t : Tr)

noncomputable def nmV (x : Nm) : AV := .tup [.str "sym", .str x.s]
noncomputable def Tr.av : Tr → AV
  | .sym x => nmV x
  | .one => .tup [.str "int", .int 1]
  | .asg x t => ex "=" [nmV x, t.av]
  | .blk a b c => ex "block" [a.av, b.av, c.av]
  | .call x t u => ex "call" [.tup [.str "sym", .str "f"], ex "parameters" [ex "kw" [nmV x, t.av]], u.av]
  | .dot t x => ex "." [t.av, nmV x]
  | .lt x t b => ex "let" [ex "block" [ex "=" [nmV x, t.av]], b.av]
  | .fr x t b => ex "for" [ex "in" [nmV x, t.av], b.av]
  | .arr x b => ex "->" [ex "tuple" [nmV x], b.av]
  | .fn x d b => ex "function" [ex "call" [.tup [.str "sym", .str "g"], ex "kw" [nmV x, d.av]], b.av]
  | .loc x => ex "local" [nmV x]
  | .glb x => ex "global" [nmV x]
  | .wh a b => ex "while" [a.av, b.av]
  | .esc t => ex "escape" [t.av]
noncomputable def Tr.hg : Tr → Nat
  | .sym _ | .one | .loc _ | .glb _ => 0
  | .asg _ t | .dot t _ | .arr _ t | .esc t => t.hg + 1
  | .blk a b c => max a.hg (max b.hg c.hg) + 1
  | .call _ a b | .lt _ a b | .fr _ a b | .fn _ a b | .wh a b => max a.hg b.hg + 1
/-- the names that a scope's tree binds -/
noncomputable def Tr.bnd : Tr → List Nm
  | .asg x t => x :: t.bnd
  | .blk a b c => a.bnd ++ (b.bnd ++ c.bnd)
  | .call _ t u => t.bnd ++ u.bnd
  | .dot t _ => t.bnd
  | .loc x => [x]
  | _ => []
/-- the names that it tells global -/
noncomputable def Tr.out : Tr → List Nm
  | .asg _ t => t.out
  | .blk a b c => a.out ++ (b.out ++ c.out)
  | .call _ t u => t.out ++ u.out
  | .dot t _ => t.out
  | .glb x => [x]
  | _ => []

/-! what a name is in a scope: unknown, global, or a number -/
noncomputable abbrev En := Nm → Option Nat
noncomputable def En.put (E : En) (x : Nm) (n : Nat) : En := fun y => if y = x then some n else E y
noncomputable def En.none : En := fun _ => Option.none
/-- the new names, each once -/
noncomputable def frs (E : En) (out : List Nm) : List Nm → List Nm → List Nm
  | [], acc => acc
  | x :: r, acc => frs E out r (if (E x).isNone && !(out.contains x) && !(acc.contains x) then acc ++ [x] else acc)
noncomputable def putNew (E : En) : List Nm → Nat → En
  | [], _ => E
  | x :: r, s => putNew (E.put x (s + 1)) r (s + 1)
noncomputable def putOut (E : En) : List Nm → En
  | [] => E
  | x :: r => putOut (E.put x 0) r
noncomputable def opE (E : En) (t : Tr) (s : Nat) : En := putOut (putNew E (frs E t.out t.bnd []) s) t.out
noncomputable def opN (E : En) (t : Tr) (s : Nat) : Nat := s + (frs E t.out t.bnd []).length

/-- the walk, by either of the two: o, a for's name is numbered ahead of its iterable; lf, a leaf; es, what is told as it is -/
noncomputable def wk (o : Bool) (lf : Str → Nat → AV) (es : AV → AV) : Tr → En → Nat → AV × Nat
  | .sym x, E, s => (lf x.s ((E x).getD 0), s)
  | .one, _, s => (.tup [.str "int", .int 1], s)
  | .asg x t, E, s => (ex "=" [lf x.s ((E x).getD 0), (wk o lf es t E s).1], (wk o lf es t E s).2)
  | .blk a b c, E, s =>
    let p := wk o lf es a E s
    let q := wk o lf es b E p.2
    let r := wk o lf es c E q.2
    (ex "block" [p.1, q.1, r.1], r.2)
  | .call x t u, E, s =>
    let p := wk o lf es t E s
    let q := wk o lf es u E p.2
    (ex "call" [lf "f" 0, ex "parameters" [ex "kw" [lf x.s 0, p.1]], q.1], q.2)
  | .dot t x, E, s =>
    let p := wk o lf es t E s
    (ex "." [p.1, lf x.s 0], p.2)
  | .lt x t b, E, s =>
    let p := wk o lf es t E s
    let E' := E.put x (p.2 + 1)
    let q := wk o lf es b (opE E' b (p.2 + 1)) (opN E' b (p.2 + 1))
    (ex "let" [ex "block" [ex "=" [lf x.s (p.2 + 1), p.1]], q.1], q.2)
  | .fr x t b, E, s =>
    let p := wk o lf es t E (if o then s + 1 else s)
    let m := if o then s + 1 else p.2 + 1
    let n := if o then p.2 else p.2 + 1
    let E' := E.put x m
    let q := wk o lf es b (opE E' b n) (opN E' b n)
    (ex "for" [ex "in" [lf x.s m, p.1], q.1], q.2)
  | .arr x b, E, s =>
    let E' := E.put x (s + 1)
    let q := wk o lf es b (opE E' b (s + 1)) (opN E' b (s + 1))
    (ex "->" [ex "tuple" [lf x.s (s + 1)], q.1], q.2)
  | .fn x d b, E, s =>
    let E' := E.put x (s + 1)
    let p := wk o lf es d E' (s + 1)
    let q := wk o lf es b (opE E' b p.2) (opN E' b p.2)
    (ex "function" [ex "call" [lf "g" 0, ex "kw" [lf x.s (s + 1), p.1]], q.1], q.2)
  | .loc x, E, s => (ex "local" [lf x.s ((E x).getD 0)], s)
  | .glb x, E, s => (ex "global" [lf x.s ((E x).getD 0)], s)
  | .wh a b, E, s =>
    let p := wk o lf es a E s
    let q := wk o lf es b (opE E b p.2) (opN E b p.2)
    (ex "while" [p.1, q.1], q.2)
  | .esc t, _, s => (es t.av, s)
end Mine

end

noncomputable section
open PySem PySem.W PyProof.Rows
set_option Elab.async false
set_option maxRecDepth 100000
set_option linter.unusedVariables false
namespace Mine

/-! sizes -/
noncomputable def Tr.sz : Tr → Nat
  | .sym _ | .one | .loc _ | .glb _ => 1
  | .asg _ t | .dot t _ | .arr _ t | .esc t => t.sz + 1
  | .blk a b c => a.sz + b.sz + c.sz + 1
  | .call _ a b | .lt _ a b | .fr _ a b | .fn _ a b | .wh a b => a.sz + b.sz + 1
noncomputable def Tr.wt : Tr → Nat
  | .sym _ | .one | .loc _ | .glb _ | .esc _ => 0
  | .asg _ t | .dot t _ => t.wt
  | .arr _ t => 1 + t.bnd.length + t.wt
  | .blk a b c => a.wt + b.wt + c.wt
  | .call _ a b => a.wt + b.wt
  | .wh a b => a.wt + b.bnd.length + b.wt
  | .lt _ a b | .fr _ a b | .fn _ a b => a.wt + 1 + b.bnd.length + b.wt
theorem Tr.wt_le : ∀ t : Tr, t.wt + t.bnd.length ≤ 2 * t.sz
  | .sym _ | .one | .loc _ | .glb _ => by simp [Tr.wt, Tr.bnd, Tr.sz]
  | .esc _ => by simp [Tr.wt, Tr.bnd, Tr.sz]
  | .asg _ t | .dot t _ | .arr _ t => by have := t.wt_le; simp [Tr.wt, Tr.bnd, Tr.sz]; lia
  | .blk a b c => by have := a.wt_le; have := b.wt_le; have := c.wt_le; simp [Tr.wt, Tr.bnd, Tr.sz]; lia
  | .call _ a b | .lt _ a b | .fr _ a b | .fn _ a b | .wh a b => by have := a.wt_le; have := b.wt_le; simp [Tr.wt, Tr.bnd, Tr.sz]; lia
theorem Tr.out_le : ∀ t : Tr, t.out.length ≤ t.sz
  | .sym _ | .one | .loc _ | .glb _ => by simp [Tr.out, Tr.sz]
  | .esc _ | .lt _ _ _ | .fr _ _ _ | .fn _ _ _ | .wh _ _ | .arr _ _ => by simp [Tr.out]
  | .asg _ t | .dot t _ => by have := t.out_le; simp [Tr.out, Tr.sz]; lia
  | .blk a b c => by have := a.out_le; have := b.out_le; have := c.out_le; simp [Tr.out, Tr.sz]; lia
  | .call _ a b => by have := a.out_le; have := b.out_le; simp [Tr.out, Tr.sz]; lia
theorem frs_len (E : En) (out : List Nm) : ∀ l acc, (frs E out l acc).length ≤ acc.length + l.length
  | [], acc => by simp [frs]
  | x :: r, acc => by
    unfold frs
    have := frs_len E out r (if (E x).isNone && !(out.contains x) && !(acc.contains x) then acc ++ [x] else acc)
    split at this
    · rename_i h; rw [if_pos h]; simp at this ⊢; lia
    · rename_i h; rw [if_neg h]; simp at this ⊢; lia
theorem opN_le (E : En) (t : Tr) (s : Nat) : opN E t s ≤ s + t.bnd.length := by
  have := frs_len E t.out t.bnd []
  unfold opN; simp at this; lia
theorem opN_ge (E : En) (t : Tr) (s : Nat) : s ≤ opN E t s := Nat.le_add_right _ _
noncomputable def Btw (a b k : Nat) : Prop := a ≤ b ∧ b ≤ a + k
theorem Btw.trans {a b c m n : Nat} (h : Btw a b m) (h' : Btw b c n) : Btw a c (m + n) := ⟨Nat.le_trans h.1 h'.1, by have := h.2; have := h'.2; lia⟩
theorem Btw.one (a : Nat) : Btw a (a + 1) 1 := ⟨Nat.le_succ _, Nat.le_refl _⟩
theorem Btw.refl (a : Nat) : Btw a a 0 := ⟨Nat.le_refl _, Nat.le_refl _⟩
theorem Btw.op (E : En) (t : Tr) (s : Nat) : Btw s (opN E t s) t.bnd.length := ⟨opN_ge E t s, opN_le E t s⟩
theorem Btw.swap {a b m n : Nat} (h : Btw a b (m + n)) : Btw a b (n + m) := Nat.add_comm m n ▸ h
theorem wk_btw (o : Bool) (lf : Str → Nat → AV) (es : AV → AV) (t : Tr) : ∀ (E : En) (s : Nat), Btw s (wk o lf es t E s).2 t.wt := by
  induction t with
  | sym _ => exact fun E s => .refl s
  | one => exact fun E s => .refl s
  | loc _ => exact fun E s => .refl s
  | glb _ => exact fun E s => .refl s
  | esc _ => exact fun E s => .refl s
  | asg _ t ih => exact fun E s => ih E s
  | dot t _ ih => exact fun E s => ih E s
  | blk a b c ia ib ic => exact fun E s => ((ia E s).trans (ib E _)).trans (ic E _)
  | call _ a b ia ib => exact fun E s => (ia E s).trans (ib E _)
  | wh a b ia ib => exact fun E s => ((ia E s).trans (.op E b _)).trans (ib _ _)
  | arr x b ib => exact fun E s => ((Btw.one s).trans (.op (E.put x (s + 1)) b _)).trans (ib _ _)
  | lt x a b ia ib => exact fun E s => (((ia E s).trans (.one _)).trans (.op (E.put x ((wk o lf es a E s).2 + 1)) b _)).trans (ib _ _)
  | fn x a b ia ib => exact fun E s => (((Btw.one s).trans (ia (E.put x (s + 1)) (s + 1))).swap.trans (.op (E.put x (s + 1)) b _)).trans (ib _ _)
  | fr x a b ia ib =>
    intro E s
    cases o with
    | true => exact (((Btw.one s).trans (ia E (s + 1))).swap.trans (.op (E.put x (s + 1)) b _)).trans (ib _ _)
    | false => exact (((ia E s).trans (.one _)).trans (.op (E.put x ((wk false lf es a E s).2 + 1)) b _)).trans (ib _ _)
theorem wk_le (o : Bool) (lf : Str → Nat → AV) (es : AV → AV) (t : Tr) (E : En) (s : Nat) : s ≤ (wk o lf es t E s).2 ∧ (wk o lf es t E s).2 ≤ s + t.wt := wk_btw o lf es t E s

/-! scopes in the store -/
theorem dlook_dput {K : Type} [DecidableEq K] (k k' : K) (v : AV) : ∀ l : List (K × AV), dlook (dput l k v) k' = if k = k' then some v else dlook l k'
  | [] => by simp [dput, dlook]
  | (q, w) :: r => by
    unfold dput
    by_cases h : q = k
    · rw [if_pos h]; subst h
      simp only [dlook]
      split <;> rfl
    · rw [if_neg h]
      simp only [dlook, dlook_dput k k' v r]
      by_cases h2 : q = k'
      · rw [if_pos h2]
        have : ¬ k = k' := fun e => h (h2.trans e.symm)
        rw [if_neg this, if_pos h2]
      · rw [if_neg h2]
        simp only [if_neg h2]
theorem dput_len {K : Type} [DecidableEq K] (k : K) (v : AV) : ∀ l : List (K × AV), (dput l k v).length = l.length + (if (dlook l k).isSome then 0 else 1)
  | [] => by simp [dput, dlook]
  | (q, w) :: r => by
    unfold dput
    by_cases h : q = k
    · rw [if_pos h]; simp [dlook, h]
    · rw [if_neg h]; simp only [List.length_cons, dput_len k v r, dlook, if_neg h]; lia
noncomputable def En.card (E : En) : Nat := (if (E .a).isSome then 1 else 0) + (if (E .b).isSome then 1 else 0) + (if (E .c).isSome then 1 else 0)
theorem En.card_le (E : En) : E.card ≤ 3 := by unfold En.card; split <;> split <;> split <;> lia
theorem card1 (b : Bool) : (if b then 1 else 0) + (if b then 0 else 1) = 1 := by cases b <;> rfl
theorem card3 (p q r x : Nat) (h : p + x = 1) : 1 + q + r = p + q + r + x := by lia
theorem card3' (p q r x : Nat) (h : q + x = 1) : p + 1 + r = p + q + r + x := by lia
theorem card3'' (p q r x : Nat) (h : r + x = 1) : p + q + 1 = p + q + r + x := by lia
theorem En.card_put (E : En) (x : Nm) (n : Nat) : (E.put x n).card = E.card + (if (E x).isSome then 0 else 1) := by
  cases x with
  | a => exact card3 _ _ _ _ (card1 (E .a).isSome)
  | b => exact card3' _ _ _ _ (card1 (E .b).isSome)
  | c => exact card3'' _ _ _ _ (card1 (E .c).isSome)
theorem lstAt_dct {σ : Sto} {e : Nat} {l : List (Str × AV)} (h : dctS σ e = some l) : lstAt σ e = none := by
  obtain ⟨c, q, h⟩ := goO_inv h
  unfold lstAt; rw [q]
  cases c <;> first | rfl | exact no h
theorem setV_S {σ : Sto} {e : Nat} {l : List (Str × AV)} {k : Str} {v : AV} (h : dctS σ e = some l) (hl : l.length < 100000) : setV (.ref e) (.str k) v σ = some (σ.set e (.sdct (dput l k v))) := by
  show optG (lstAt σ e) (goO (dctS σ e) fun l => pre (decide (l.length < 100000)) (some (σ.set e (.sdct (dput l k v))))) _ = _
  rw [lstAt_dct h, h]
  show pre (decide (l.length < 100000)) _ = _
  rw [decide_eq_true hl]; rfl
theorem dctS_lt {σ : Sto} {e : Nat} {l : List (Str × AV)} (h : dctS σ e = some l) : e < σ.length := by
  obtain ⟨c, q, h⟩ := goO_inv h
  exact lt_of_at q
theorem dctS_kp {I : List Nat} {σ σ' : Sto} {e : Nat} {l : List (Str × AV)} (h : dctS σ e = some l) (k : Kp I σ σ') (he : e ∉ I) : dctS σ' e = some l := by
  obtain ⟨c, q, h⟩ := goO_inv h
  unfold dctS; rw [k.keep _ _ q he]; exact h

structure EnvG (val : Nm → Nat → AV) (σ : Sto) (e : Nat) (E : En) : Prop where
  ex : ∃ l, dctS σ e = some l ∧ l.length ≤ E.card ∧ (∀ x, dlook l x.s = (E x).map (val x)) ∧ ∀ k, (∀ x : Nm, k ≠ x.s) → dlook l k = none
section
variable {val : Nm → Nat → AV} {σ σ' : Sto} {e : Nat} {E : En} {x : Nm} {n : Nat} {I : List Nat}
theorem EnvG.kp (h : EnvG val σ e E) (k : Kp I σ σ') (he : e ∉ I) : EnvG val σ' e E := let ⟨l, h1, h2⟩ := h.ex; ⟨l, dctS_kp h1 k he, h2⟩
theorem EnvG.lt (h : EnvG val σ e E) : e < σ.length := let ⟨l, h1, _⟩ := h.ex; dctS_lt h1
theorem EnvG.put (h : EnvG val σ e E) : ∃ c, setV (.ref e) (.str x.s) (val x n) σ = some (σ.set e c) ∧ EnvG val (σ.set e c) e (E.put x n) := by
  obtain ⟨l, h1, h2, h3, h4⟩ := h.ex
  refine ⟨_, setV_S h1 (by have := E.card_le; lia), ⟨dput l x.s (val x n), ?_, ?_, fun y => ?_, fun k hk => by rw [dlook_dput, if_neg (fun q => hk x q.symm)]; exact h4 k hk⟩⟩
  · unfold dctS; rw [at_set (dctS_lt h1)]; rfl
  · rw [dput_len, En.card_put, h3]
    simp only [Option.isSome_map]; lia
  · rw [dlook_dput]
    unfold En.put
    by_cases q : y = x
    · subst q; simp
    · rw [if_neg q, if_neg (fun z => q (Nm.inj z).symm)]; exact h3 y
theorem dict_new (h : EnvG val σ e E) : ∃ l, tyV "dict" [.ref e] σ = some (.ref σ.length, σ ++ [.sdct l]) ∧ EnvG val (σ ++ [.sdct l]) σ.length E := by
  obtain ⟨l, h1, h2⟩ := h.ex
  refine ⟨l, ?_, ⟨l, ?_, h2⟩⟩
  · show optG (dctS σ e) _ (fun l => some (AV.ref σ.length, σ ++ [Cell.sdct l])) = _
    rw [h1]; rfl
  · unfold dctS; rw [at_end]; rfl
theorem env_in (h : EnvG val σ e E) : cmpV .NotIn (.str x.s) (.ref e) σ = some (E x).isNone := by
  obtain ⟨l, h1, h2, h3, _⟩ := h.ex
  show (inR σ (.str x.s) (.ref e)).map (!·) = _
  rw [show inR σ (.str x.s) (.ref e) = optG (lstAt σ e) (goO (dctS σ e) fun l => some (dlook l x.s).isSome) (fun l => inL (eqV 20) (.str x.s) l) from rfl, lstAt_dct h1, h1]
  show some (!(dlook l x.s).isSome) = _
  rw [h3]; cases E x <;> rfl
theorem env_meth (h : EnvG val σ e E) : methV G (.ref e) "get" σ = some (.builtin "dict.get") := by
  obtain ⟨l, h1, _⟩ := h.ex
  obtain ⟨c, q, h1⟩ := goO_inv h1
  show goO σ[e]? _ = _
  rw [q]
  cases c <;> first | exact no h1 | rfl
theorem env_get (h : EnvG val σ e E) (d : AV) (orc : Orc) : callV orc (.builtin "dict.get") [.ref e, .str x.s, d] σ = some (((E x).map (val x)).getD d, σ) := by
  obtain ⟨l, h1, h2, h3, _⟩ := h.ex
  show goO (dctS σ e) (fun l => some ((dlook l x.s).getD d, σ)) = _
  rw [h1, ← h3]; rfl
theorem env_not (h : EnvG val σ e E) (d : AV) (orc : Orc) {k : Str} (hk : ∀ x : Nm, k ≠ x.s) : callV orc (.builtin "dict.get") [.ref e, .str k, d] σ = some (d, σ) := by
  obtain ⟨l, h1, h2, _, h3⟩ := h.ex
  show goO (dctS σ e) (fun l => some ((dlook l k).getD d, σ)) = _
  rw [h1]
  show some ((dlook l k).getD d, σ) = _
  rw [h3 k hk]; rfl
end

/-! loops -/
theorem forR_list {y : Str} {bod : Loc → Sto → RS} {j : Nat} {l : List AV} (Inv : List AV → Loc → Sto → Prop) (hj : ∀ r ρ σ, Inv r ρ σ → σ[j]? = some (.lst l))
    (step : ∀ v r ρ σ, Inv (v :: r) ρ σ → ∃ ρ' σ', bod (setL ρ y v) σ = some (.next, ρ', σ') ∧ Inv r ρ' σ') :
    ∀ (n i : Nat) (ρ : Loc) (σ : Sto), Inv (l.drop i) ρ σ → l.length - i < n → ∃ ρ' σ', forR y bod j n i ρ σ = some (.next, ρ', σ') ∧ Inv [] ρ' σ'
  | 0, i, ρ, σ, h, hn => absurd hn (Nat.not_lt_zero _)
  | n + 1, i, ρ, σ, h, hn => by
    rw [forR, lstAt_of (hj _ _ _ h)]
    show ∃ ρ' σ', optG l[i]? _ _ = _ ∧ _
    cases q : l[i]? with
    | none =>
      rw [List.drop_eq_nil_of_le (List.getElem?_eq_none_iff.mp q)] at h
      exact ⟨_, _, rfl, h⟩
    | some v =>
      obtain ⟨hi, e⟩ := List.getElem?_eq_some_iff.mp q
      rw [List.drop_eq_getElem_cons hi, e] at h
      obtain ⟨ρ', σ', e1, h'⟩ := step _ _ _ _ h
      show ∃ ρ' σ', nextL (bod (setL ρ y v) σ) _ = _ ∧ _
      rw [e1]
      exact forR_list Inv hj step n (i + 1) ρ' σ' h' (by lia)
theorem forL_list {y : Str} {bod : Loc → Sto → RS} (Inv : List AV → Loc → Sto → Prop)
    (step : ∀ v r ρ σ, Inv (v :: r) ρ σ → ∃ ρ' σ', bod (setL ρ y v) σ = some (.next, ρ', σ') ∧ Inv r ρ' σ') :
    ∀ (l : List AV) (ρ : Loc) (σ : Sto), Inv l ρ σ → ∃ ρ' σ', forL y bod l ρ σ = some (.next, ρ', σ') ∧ Inv [] ρ' σ'
  | [], ρ, σ, h => ⟨_, _, rfl, h⟩
  | v :: r, ρ, σ, h => by
    obtain ⟨ρ', σ', e1, h'⟩ := step _ _ _ _ h
    rw [forL, e1]
    exact forL_list Inv step r ρ' σ' h'
theorem compL_list {y : Str} {el : Loc → Sto → RV} (Inv : List AV → List AV → Loc → Sto → Prop)
    (step : ∀ v r ws ρ σ, Inv (v :: r) ws ρ σ → ∃ w ws' σ', ws = w :: ws' ∧ el (setL ρ y v) σ = some (w, σ') ∧ Inv r ws' (setL ρ y v) σ') (nil : ∀ ws ρ σ, Inv [] ws ρ σ → ws = []) :
    ∀ (l ws : List AV) (ρ : Loc) (σ : Sto), Inv l ws ρ σ → ∃ ρ' σ', compL y yes el l ρ σ = some (ws, σ') ∧ Inv [] [] ρ' σ'
  | [], ws, ρ, σ, h => by have := nil _ _ _ h; subst this; exact ⟨_, _, rfl, h⟩
  | v :: r, ws, ρ, σ, h => by
    obtain ⟨w, ws', σ', rfl, e1, h'⟩ := step _ _ _ _ _ h
    obtain ⟨ρ₂, σ₂, e2, h₂⟩ := compL_list Inv step nil r ws' _ _ h'
    refine ⟨ρ₂, σ₂, ?_, h₂⟩
    rw [compL]
    simp only [yes, e1, e2]

noncomputable def nms (l : List Nm) : List AV := l.map fun x => .str x.s
theorem in_nms {x : Nm} : ∀ l : List Nm, inL (eqV 20) (.str x.s) (nms l) = some (l.contains x)
  | [] => rfl
  | y :: r => by
    show (match eqV 20 (.str y.s) (.str x.s), inL (eqV 20) (.str x.s) (nms r) with | some p, some q => some (p || q) | _, _ => none) = _
    rw [in_nms r]
    have : eqV 20 (.str y.s) (.str x.s) = some (x == y) := by cases x <;> cases y <;> decide
    rw [this, List.contains_cons]
theorem lst_notin {σ : Sto} {i : Nat} {l : List Nm} {x : Nm} (h : σ[i]? = some (.lst (nms l))) : cmpV .NotIn (.str x.s) (.ref i) σ = some (!(l.contains x)) := by
  show (inR σ (.str x.s) (.ref i)).map (!·) = _
  rw [show inR σ (.str x.s) (.ref i) = optG (lstAt σ i) _ (fun l => inL (eqV 20) (.str x.s) l) from rfl, lstAt_of h]
  show (inL (eqV 20) (.str x.s) (nms l)).map (!·) = _
  rw [in_nms]
  rfl
end Mine

end

noncomputable section
open PySem PySem.W PyProof.Rows
set_option Elab.async false
set_option maxRecDepth 100000
set_option linter.unusedVariables false
namespace Mine

/-! the law's own side -/
structure Cnt (σ : Sto) (cn c : Nat) : Prop where
  ex : ∃ l, σ[cn]? = some (.lst l) ∧ l.length = c
noncomputable def lvL (_ : Nm) (n : Nat) : AV := .int n
noncomputable abbrev EnvL := EnvG lvL
section
variable {σ σ' : Sto} {e cn c n : Nat} {E : En} {x : Nm}
theorem ne_cnt (h : EnvL σ e E) (k : Cnt σ cn c) : e ∉ [cn] := by
  intro q
  simp only [List.mem_cons, List.not_mem_nil, or_false] at q
  subst q
  obtain ⟨l, h1, _⟩ := h.ex
  obtain ⟨m, h2, _⟩ := k.ex
  have := lstAt_dct h1
  rw [lstAt_of h2] at this; cases this

theorem u_new (e j c : AV) : callN G (n + 1) a_law_new [e, j, c] σ = s_law_new (callN G n) e j c σ := by kernel_rfl
theorem append_ok {i : Nat} {l : List AV} {v : AV} (h : σ[i]? = some (.lst l)) (hz : l.length < 100000) (orc : Orc) : callV orc (.builtin "list.append") [.ref i, v] σ = some (.none, σ.set i (.lst (l ++ [v]))) := by
  show goO (lstAt σ i) (fun l => pre (decide (l.length < 100000)) (some (AV.none, σ.set i (.lst (l ++ [v]))))) = _
  rw [lstAt_of h]
  show pre (decide (l.length < 100000)) _ = _
  rw [decide_eq_true hz]; rfl
theorem extend_ok {i j : Nat} {l m : List AV} (h : σ[i]? = some (.lst l)) (h' : σ[j]? = some (.lst m)) (hz : l.length + m.length ≤ 100000) (orc : Orc) : callV orc (.builtin "list.extend") [.ref i, .ref j] σ = some (.none, σ.set i (.lst (l ++ m))) := by
  show goO (lstAt σ i) (fun l => goO (lstAt σ j) fun m => pre (decide (l.length + m.length ≤ 100000)) (some (AV.none, σ.set i (.lst (l ++ m))))) = _
  rw [lstAt_of h, lstAt_of h']
  show pre (decide (l.length + m.length ≤ 100000)) _ = _
  rw [decide_eq_true hz]; rfl
theorem len_ok {i : Nat} {l : List AV} (h : σ[i]? = some (.lst l)) (orc : Orc) : callV orc (.builtin "len") [.ref i] σ = some (.int l.length, σ) := by
  show optG (lstAt σ i) _ (fun l => some (AV.int l.length, σ)) = _
  rw [lstAt_of h]; rfl
theorem m_append {i : Nat} {l : List AV} (h : σ[i]? = some (.lst l)) : methV G (.ref i) "append" σ = some (.builtin "list.append") := by
  show goO σ[i]? _ = _
  rw [h]; rfl
theorem m_extend {i : Nat} {l : List AV} (h : σ[i]? = some (.lst l)) : methV G (.ref i) "extend" σ = some (.builtin "list.extend") := by
  show goO σ[i]? _ = _
  rw [h]; rfl
theorem m_pop {i : Nat} {l : List AV} (h : σ[i]? = some (.lst l)) : methV G (.ref i) "pop" σ = some (.builtin "list.pop") := by
  show goO σ[i]? _ = _
  rw [h]; rfl

theorem new_ok (hE : EnvL σ e E) (hC : Cnt σ cn c) {j : Nat} {xs : List Nm} (hj : σ[j]? = some (.lst (nms xs))) (hjc : j ≠ cn) (hb : c + xs.length ≤ 50000) :
    ∃ e' σ', callN G (n + 1) a_law_new [.ref e, .ref j, .ref cn] σ = some (.ref e', σ') ∧ σ.length ≤ e' ∧ Kp [cn] σ σ' ∧ EnvL σ' e' (putNew E xs c) ∧ Cnt σ' cn (c + xs.length) := by
  rw [u_new]
  obtain ⟨d, e1, hE1⟩ := dict_new hE
  have k1 : Kp [cn] σ (σ ++ [.sdct d]) := .app _
  have hC1 : Cnt (σ ++ [.sdct d]) cn c := let ⟨l, a, b⟩ := hC.ex; ⟨l, at_old a _, b⟩
  have loop := forR_list (y := "name") (bod := d_ln (callN G n)) (j := j) (l := nms xs)
    (fun r ρ σ₁ => ∃ ys F b, r = nms ys ∧ EnvL σ₁ σ.length F ∧ Cnt σ₁ cn b ∧ σ₁[j]? = some (.lst (nms xs)) ∧ Kp [cn] σ σ₁ ∧ b + ys.length = c + xs.length ∧ putNew F ys b = putNew E xs c ∧
      ρ.lookup ("counter" : Str) = some (.ref cn) ∧ ρ.lookup ("found" : Str) = some (.ref σ.length) ∧ ρ.lookup ("len" : Str) = none)
    (fun r ρ σ ⟨_, _, _, _, _, _, h, _⟩ => h) (fun v r ρ σ₁ h => by
      obtain ⟨ys, F, b, e2, hF, hB, hj₁, k₁, hlen, hput, r1, r2, r3⟩ := h
      cases ys with
      | nil => cases e2
      | cons y ys =>
      cases e2
      obtain ⟨l, hl, rfl⟩ := hB.ex
      have hn := ne_cnt hF hB
      simp only [List.length_cons] at hlen
      refine W.outN ?_
      unfold d_ln
      refine w_lk (sl_ne (by decide) r1) ?_
      refine w_goO (m_append hl) ?_
      refine w_lk (sl_eq _ _ _) ?_
      refine w_go (append_ok hl (by lia) _) ?_
      refine w_gcall (sl_ne (by decide) r3) ?_
      refine w_lk (sl_ne (by decide) r1) ?_
      have hl2 := at_set (c := .lst (l ++ [.str y.s])) (lt_of_at hl)
      refine w_go (len_ok hl2 _) ?_
      refine w_lk (sl_ne (by decide) r2) ?_
      refine w_lk (sl_eq _ _ _) ?_
      have k2 : Kp [cn] σ₁ (σ₁.set cn (.lst (l ++ [.str y.s]))) := .set (by simp)
      obtain ⟨cc, e3, hF2⟩ := (hF.kp k2 hn).put (x := y) (n := (l ++ [AV.str y.s]).length)
      refine w_goO e3 (w_some ⟨rfl, ys, F.put y (l.length + 1), l.length + 1, rfl, ?_, ⟨_, (Kp.set (I := [σ.length]) (by simp)).keep _ _ hl2 (by simpa using fun q : cn = σ.length => hn (by simp [q])), by simp⟩, ?_, ?_, by lia, ?_, sl_ne (by decide) r1, sl_ne (by decide) r2, sl_ne (by decide) r3⟩)
      · simpa using hF2
      · have hj2 := k2.keep _ _ hj₁ (by simpa using hjc)
        refine (Kp.set (I := [σ.length]) (by simp)).keep _ _ hj2 ?_
        intro q
        simp only [List.mem_cons, List.not_mem_nil, or_false] at q
        have := lt_of_at hj
        lia
      · exact (k₁.trans k2).old (.set (by simp)) (Nat.le_refl _)
      · rw [← hput]; rfl)
  obtain ⟨ρ', σ', e4, ys, F, b, e5, hF, hB, _, k₁, hlen, hput, r1, r2, r3⟩ := loop 100000 0 [("env", .ref e), ("names", .ref j), ("counter", .ref cn), ("found", .ref σ.length)] _ ⟨xs, E, c, rfl, hE1, hC1, at_old hj _, k1, rfl, rfl, by rfl, by rfl, by rfl⟩ (by unfold nms; simp; lia)
  cases ys with
  | cons y ys => cases e5
  | nil =>
  refine W.out (α := AV) (x := s_law_new (callN G n) (.ref e) (.ref j) (.ref cn) σ) (R := fun v σ' => ∃ e', v = .ref e' ∧ σ.length ≤ e' ∧ Kp [cn] σ σ' ∧ EnvL σ' e' (putNew E xs c) ∧ Cnt σ' cn (c + xs.length)) ?_ |> fun ⟨v, σ'', a, e', b, q⟩ => ⟨e', σ'', by rw [a, b], q⟩
  unfold s_law_new
  refine w_go e1 ?_
  refine w_aft e4 ?_
  refine w_lk r2 (w_some ⟨_, rfl, Nat.le_refl _, k₁, ?_, ?_⟩)
  · rw [← hput]; exact hF
  · simp only [List.length_nil, Nat.add_zero] at hlen; rw [← hlen]; exact hB
end
end Mine

end

noncomputable section
open PySem PySem.W PyProof.Rows
set_option Elab.async false
set_option maxRecDepth 100000
set_option linter.unusedVariables false
namespace Mine
section
variable {σ σ' : Sto} {e cn c n : Nat} {E : En} {x : Nm}
theorem add_ok {i j : Nat} {l m : List AV} (h : σ[i]? = some (.lst l)) (h' : σ[j]? = some (.lst m)) (hz : l.length + m.length ≤ 100000) : binV .Add (.ref i) (.ref j) σ = some (.ref σ.length, σ ++ [.lst (l ++ m)]) := by
  exact (goO_of (lstAt_of h)).trans ((goO_of (lstAt_of h')).trans (pre_of (decide_eq_true hz)))

/-- what _law_bound says of a value -/
noncomputable def LB (n : Nat) (v : AV) (b o : List Nm) : Prop := ∀ σ, ∃ i j σ', callN G n a_law_bound [v] σ = some (.tup [.ref i, .ref j], σ') ∧ Kp [] σ σ' ∧ σ.length ≤ i ∧ σ.length ≤ j ∧ σ'[i]? = some (.lst (nms b)) ∧ σ'[j]? = some (.lst (nms o))
theorem LB.two {v : AV} (h : ∀ σ, callN G n a_law_bound [v] σ = Mine.two σ) : LB n v [] [] := fun σ =>
  ⟨_, _, _, h σ, (Kp.app _).trans (.app _), Nat.le_refl _, by simp, at_old at_end _, at_end⟩
inductive LBs (n : Nat) : List AV → List Nm → List Nm → Prop
  | nil : LBs n [] [] []
  | cons {v l b o bs os} : LB n v b o → LBs n l bs os → LBs n (v :: l) (b ++ bs) (o ++ os)
structure LbInv (n : Nat) (σ : Sto) (B b o : List Nm) (r : List AV) (ρ : Loc) (σ₁ : Sto) (i j : Nat) (B' O' b' o' : List Nm) : Prop where
  h : LBs n r b' o'
  r1 : ρ.lookup ("bound" : Str) = some (.ref i)
  r2 : ρ.lookup ("outer" : Str) = some (.ref j)
  r3 : ρ.lookup ("_law_bound" : Str) = none
  k1 : σ₁[i]? = some (.lst (nms B'))
  k2 : σ₁[j]? = some (.lst (nms O'))
  kp : Kp [] σ σ₁
  li : σ.length ≤ i
  lj : σ.length ≤ j
  e1 : B' ++ b' = B ++ b
  e2 : O' ++ o' = o
theorem len_mid {p q r z : List Nm} (h : p ++ (q ++ r) = z) (hz : z.length ≤ 50000) : p.length + q.length ≤ 100000 := by
  have := congrArg List.length h
  rw [List.length_append, List.length_append] at this
  lia
theorem nms_app (p q : List Nm) : nms (p ++ q) = nms p ++ nms q := List.map_append
theorem nms_len (p : List Nm) : (nms p).length = p.length := List.length_map _
theorem lb_turn {B b o : List Nm} (zb : (B ++ b).length ≤ 50000) (zo : o.length ≤ 50000) {v : AV} {r : List AV} {ρ : Loc} {σ₁ : Sto} {i j : Nat} {B' O' b' o' : List Nm} (V : LbInv n σ B b o (v :: r) ρ σ₁ i j B' O' b' o') :
    ∃ ρ' σ', d_lb (callN G n) (setL ρ "part" v) σ₁ = some (.next, ρ', σ') ∧ ∃ i j B' O' b' o', LbInv n σ B b o r ρ' σ' i j B' O' b' o' := by
  cases V.h with
  | @cons _ _ b1 o1 bs os hv hr =>
  obtain ⟨p, q, σ₂, e2, w2, p1, p2, p3, p4⟩ := hv σ₁
  refine W.outN ?_
  refine w_cn (sl_ne (by decide) V.r3) (w_lk (sl_eq _ _ _) (w_go e2 ?_))
  refine w_unp (by rfl) ?_
  refine w_lk (sl_ne (by decide) (sl_ne (by decide) (sl_ne (by decide) V.r1))) (w_lk (sl_ne (by decide) (sl_eq _ _ _)) ?_)
  refine w_go (add_ok (w2.keep _ _ V.k1 (by simp)) p3 (by rw [nms_len, nms_len]; exact len_mid V.e1 zb)) ?_
  refine w_lk (sl_ne (by decide) (sl_ne (by decide) (sl_ne (by decide) V.r2))) (w_lk (sl_eq _ _ _) ?_)
  refine w_go (add_ok (at_old (w2.keep _ _ V.k2 (by simp)) _) (at_old p4 _) (by rw [nms_len, nms_len]; exact len_mid V.e2 zo)) (w_some ⟨rfl, ?_⟩)
  have k := V.kp.trans w2
  exact ⟨σ₂.length, (σ₂ ++ [Cell.lst (nms B' ++ nms b1)]).length, B' ++ b1, O' ++ o1, bs, os, hr, sl_ne (by decide) (sl_eq _ _ _), sl_eq _ _ _, sl_ne (by decide) (sl_ne (by decide) (sl_ne (by decide) (sl_ne (by decide) (sl_ne (by decide) V.r3)))),
    by rw [nms_app]; exact at_old at_end _, by rw [nms_app]; exact at_end, (k.trans (.app _)).trans (.app _), k.len, (k.trans (.app _)).len, by rw [List.append_assoc]; exact V.e1, by rw [List.append_assoc]; exact V.e2⟩
theorem lb_loop {l : List AV} {b o : List Nm} (h : LBs n l b o) {t : AV} {i j : Nat} {B : List Nm} (hi : σ'[i]? = some (.lst (nms B))) (hj : σ'[j]? = some (.lst (nms []))) (hk : Kp [] σ σ') (li : σ.length ≤ i) (lj : σ.length ≤ j) (zb : (B ++ b).length ≤ 50000) (zo : o.length ≤ 50000) :
    ∃ i' j' σ₂, (aft (forL "part" (d_lb (callN G n)) l [("tree", t), ("bound", .ref i), ("outer", .ref j)] σ') fun ρ σ => lk ρ "bound" fun a => lk ρ "outer" fun b => some (.tup [a, b], σ)) = some (.tup [.ref i', .ref j'], σ₂) ∧ Kp [] σ σ₂ ∧ σ.length ≤ i' ∧ σ.length ≤ j' ∧ σ₂[i']? = some (.lst (nms (B ++ b))) ∧ σ₂[j']? = some (.lst (nms o)) := by
  obtain ⟨ρ', σ₂, e1, i', j', B', O', b', o', V⟩ := forL_list (y := "part") (bod := d_lb (callN G n)) (fun r ρ σ₁ => ∃ i j B' O' b' o', LbInv n σ B b o r ρ σ₁ i j B' O' b' o') (fun v r ρ σ₁ ⟨i, j, B', O', b', o', V⟩ => lb_turn zb zo V)
    l [("tree", t), ("bound", .ref i), ("outer", .ref j)] σ' ⟨i, j, B, [], b, o, h, by rfl, by rfl, by rfl, hi, hj, hk, li, lj, rfl, rfl⟩
  cases V.h
  have q1 := V.e1; have q2 := V.e2
  rw [List.append_nil] at q1 q2
  refine ⟨i', j', σ₂, ?_, V.kp, V.li, V.lj, by rw [← q1]; exact V.k1, by rw [← q2]; exact V.k2⟩
  rw [e1]
  show lk ρ' "bound" _ = _
  unfold lk
  rw [V.r1, V.r2]

theorem LB.node {h : Str} {l : List AV} {b o : List Nm} (H : LBs n l b o) (zb : b.length ≤ 50000) (zo : o.length ≤ 50000)
    (hs : ∀ σ, callN G (n + 1) a_law_bound [.tup [.str "expr", .str h, .tup l]] σ = aft (forL "part" (d_lb (callN G n)) l [("tree", .tup [.str "expr", .str h, .tup l]), ("bound", .ref σ.length), ("outer", .ref (σ ++ [Cell.lst []]).length)] (σ ++ [.lst []] ++ [.lst []])) fun ρ σ => lk ρ "bound" fun a => lk ρ "outer" fun b => some (.tup [a, b], σ)) :
    LB (n + 1) (.tup [.str "expr", .str h, .tup l]) b o := fun σ => by
  rw [hs]
  exact lb_loop (B := []) H (at_old at_end _) at_end ((Kp.app _).trans (.app _)) (Nat.le_refl _) (by simp) (by simpa using zb) zo
theorem LB.asg {l : List AV} {b o : List Nm} (H : LBs n (nmV x :: l) b o) (zb : b.length < 50000) (zo : o.length ≤ 50000) :
    LB (n + 1) (ex "=" (nmV x :: l)) (x :: b) o := fun σ => by
  have : callN G (n + 1) a_law_bound [ex "=" (nmV x :: l)] σ = aft (forL "part" (d_lb (callN G n)) (nmV x :: l) [("tree", ex "=" (nmV x :: l)), ("bound", .ref σ.length), ("outer", .ref (σ ++ [Cell.lst [AV.str x.s]]).length)] (σ ++ [.lst [.str x.s]] ++ [.lst []])) fun ρ σ => lk ρ "bound" fun a => lk ρ "outer" fun b => some (.tup [a, b], σ) := by kernel_rfl
  rw [this]
  exact lb_loop (B := [x]) H (at_old at_end _) at_end ((Kp.app _).trans (.app _)) (Nat.le_refl _) (by simp) (by simp; lia) zo
theorem lb_sym (s : AV) : LB (n + 1) (.tup [.str "sym", s]) [] [] := .two fun σ => by kernel_rfl
theorem lb_ok : ∀ (t : Tr) (n : Nat), 3 * t.hg < n → t.sz ≤ 10000 → LB n t.av t.bnd t.out
  | _, 0, h, _ => absurd h (Nat.not_lt_zero _)
  | .sym x, n + 1, _, _ => lb_sym _
  | .one, n + 1, _, _ => .two fun σ => by kernel_rfl
  | .lt x t b, n + 1, _, _ => .two fun σ => by kernel_rfl
  | .fr x t b, n + 1, _, _ => .two fun σ => by kernel_rfl
  | .arr x b, n + 1, _, _ => .two fun σ => by kernel_rfl
  | .fn x t b, n + 1, _, _ => .two fun σ => by kernel_rfl
  | .wh x t, n + 1, _, _ => .two fun σ => by kernel_rfl
  | .esc x, n + 1, _, _ => .two fun σ => by kernel_rfl
  | .loc x, n + 1, _, _ => fun σ => ⟨_, _, _, by kernel_rfl, (Kp.app [.lst (nms [x])]).trans (.app [.lst (nms [])]), Nat.le_refl _, by simp, at_old at_end _, at_end⟩
  | .glb x, n + 1, _, _ => fun σ => ⟨_, _, _, by kernel_rfl, (Kp.app [.lst (nms [])]).trans (.app [.lst (nms [x])]), Nat.le_refl _, by simp, at_old at_end _, at_end⟩
  | .asg x t, n + 1, h, z => by
    simp only [Tr.hg, Tr.sz] at h z
    have z1 := t.wt_le
    have z2 := t.out_le
    cases n with
    | zero => lia
    | succ n =>
    have := LB.asg (x := x) (l := [t.av]) (.cons (lb_sym _) (.cons (lb_ok t (n + 1) (by lia) (by lia)) .nil)) (by simp; lia) (by simp; lia)
    simp only [List.append_nil, List.nil_append] at this
    exact this
  | .blk p q r, n + 1, h, z => by
    simp only [Tr.hg, Tr.sz] at h z
    have z1 := p.wt_le
    have z2 := p.out_le
    have z3 := q.wt_le
    have z4 := q.out_le
    have z5 := r.wt_le
    have z6 := r.out_le
    have := LB.node (h := "block") (.cons (lb_ok p n (by lia) (by lia)) (.cons (lb_ok q n (by lia) (by lia)) (.cons (lb_ok r n (by lia) (by lia)) .nil))) (by simp; lia) (by simp; lia) (fun σ => by kernel_rfl)
    simp only [List.append_nil, List.nil_append] at this
    exact this
  | .dot t x, n + 1, h, z => by
    simp only [Tr.hg, Tr.sz] at h z
    have z1 := t.wt_le
    have z2 := t.out_le
    cases n with
    | zero => lia
    | succ n =>
    have := LB.node (h := ".") (.cons (lb_ok t (n + 1) (by lia) (by lia)) (.cons (lb_sym (.str x.s)) .nil)) (by simp; lia) (by simp; lia) (fun σ => by kernel_rfl)
    simp only [List.append_nil, List.nil_append] at this
    exact this
  | .call x t u, n + 1, h, z => by
    simp only [Tr.hg, Tr.sz] at h z
    have z1 := t.wt_le
    have z2 := t.out_le
    have z3 := u.wt_le
    have z4 := u.out_le
    rcases n with _ | _ | _ | n
    · lia
    · lia
    · lia
    have h1 := LB.node (h := "kw") (.cons (lb_sym (.str x.s)) (.cons (lb_ok t (n + 1) (by lia) (by lia)) .nil)) (by simp; lia) (by simp; lia) (fun σ => by kernel_rfl)
    have h2 := LB.node (h := "parameters") (.cons h1 .nil) (by simp; lia) (by simp; lia) (fun σ => by kernel_rfl)
    have := LB.node (h := "call") (.cons (lb_sym (.str "f")) (.cons h2 (.cons (lb_ok u (n + 3) (by lia) (by lia)) .nil))) (by simp; lia) (by simp; lia) (fun σ => by kernel_rfl)
    simp only [List.append_nil, List.nil_append] at this
    exact this
end
end Mine

end

noncomputable section
open PySem PySem.W PyProof.Rows
set_option Elab.async false
set_option maxRecDepth 100000
set_option linter.unusedVariables false
namespace Mine
section
variable {σ σ' σ₁ σ₂ : Sto} {e cn c c' n : Nat} {E : En} {x : Nm} {ρ : Loc}
theorem go_eq {α β : Type} {x : Option (α × Sto)} {a : α} {σ : Sto} {k : α → Sto → Option β} {r : Option β} (e : x = some (a, σ)) (h : k a σ = r) : go x k = r := by subst e; exact h

theorem Cnt.kp {I : List Nat} (h : Cnt σ cn c) (k : Kp I σ σ') (hc : cn ∉ I) : Cnt σ' cn c := let ⟨l, a, b⟩ := h.ex; ⟨l, k.keep _ _ a hc, b⟩
theorem Cnt.lt (h : Cnt σ cn c) : cn < σ.length := let ⟨l, a, b⟩ := h.ex; lt_of_at a

/-- what _law_marked makes of a value -/
structure MkAt (n : Nat) (σ : Sto) (e cn : Nat) (f : Addr) (v w : AV) (c' : Nat) : Prop where
  ex : ∃ σ', callN G n f [v, .ref e, .ref cn] σ = some (w, σ') ∧ Kp [cn] σ σ' ∧ Cnt σ' cn c'
theorem MkAt.elim {f : Addr} {v w : AV} {P : Prop} (h : MkAt n σ e cn f v w c') (k : ∀ σ', callN G n f [v, .ref e, .ref cn] σ = some (w, σ') → Kp [cn] σ σ' → Cnt σ' cn c' → P) : P := let ⟨σ', a, b, d⟩ := h.ex; k σ' a b d
noncomputable def Mk (n : Nat) (v : AV) (E : En) (c : Nat) (w : AV) (c' : Nat) : Prop := ∀ σ e cn, EnvL σ e E → Cnt σ cn c → MkAt n σ e cn a_law_marked v w c'
noncomputable def Sc (n : Nat) (v : AV) (E : En) (c : Nat) (w : AV) (c' : Nat) : Prop := ∀ σ e cn, EnvL σ e E → Cnt σ cn c → MkAt n σ e cn a_law_scope v w c'

/-! the loop that gathers the new names -/
noncomputable def fresh1 (E : En) (out acc : List Nm) (x : Nm) : Bool := (E x).isNone && !(out.contains x) && !(acc.contains x)
structure NewInv (E : En) (out fin : List Nm) (σ₀ : Sto) (f : Nat) (F : Loc → Prop) (r : List AV) (ρ : Loc) (σ : Sto) : Prop where
  ex : ∃ ys acc, r = nms ys ∧ σ[f]? = some (.lst (nms acc)) ∧ acc.length + ys.length ≤ 50000 ∧ frs E out ys acc = fin
  kp : Kp [f] σ₀ σ
  fr : F ρ
theorem new_loop {bod : Loc → Sto → RS} {out l : List Nm} {b f : Nat} {F : Loc → Prop} (hF : ∀ ρ v, F ρ → F (setL ρ "name" v)) (hbf : b ∉ [f])
    (hb : ∀ ρ σ₁ y acc, F ρ → Kp [f] σ σ₁ → σ₁[f]? = some (.lst (nms acc)) → acc.length < 50000 → bod (setL ρ "name" (.str y.s)) σ₁ = some (.next, setL ρ "name" (.str y.s), if fresh1 E out acc y = true then σ₁.set f (.lst (nms acc ++ [.str y.s])) else σ₁))
    (hbt : σ[b]? = some (.lst (nms l))) (hf : σ[f]? = some (.lst (nms []))) (hz : l.length ≤ 50000) (h0 : F ρ) :
    ∃ ρ' σ', forR "name" bod b 100000 0 ρ σ = some (.next, ρ', σ') ∧ NewInv E out (frs E out l []) σ f F [] ρ' σ' :=
  forR_list (NewInv E out (frs E out l []) σ f F) (l := nms l) (fun r ρ σ h => h.kp.keep _ _ hbt hbf) (fun v r ρ σ₁ h => by
    obtain ⟨ys, acc, e1, h1, h2, h3⟩ := h.ex
    cases ys with
    | nil => cases e1
    | cons y ys =>
    cases e1
    simp only [List.length_cons] at h2
    refine ⟨_, _, hb ρ σ₁ y acc h.fr h.kp h1 (by lia), ?_⟩
    by_cases q : fresh1 E out acc y = true
    · rw [if_pos q]
      refine ⟨⟨ys, acc ++ [y], rfl, ?_, by simp; lia, ?_⟩, h.kp.trans (.set (by simp)), hF _ _ h.fr⟩
      · have : nms (acc ++ [y]) = nms acc ++ [.str y.s] := List.map_append
        rw [this]; exact at_set (lt_of_at h1)
      · rw [← h3, frs]
        unfold fresh1 at q
        rw [if_pos q]
    · rw [if_neg q]
      refine ⟨⟨ys, acc, rfl, h1, by lia, ?_⟩, h.kp, hF _ _ h.fr⟩
      rw [← h3, frs]
      unfold fresh1 at q
      rw [if_neg q]) 100000 0 ρ σ ⟨⟨l, [], rfl, hf, by simpa using hz, rfl⟩, .refl, h0⟩ (by unfold nms; simp; lia)
/-! the loop that sets what is told -/
structure OutInv (val : Nm → Nat → AV) (fin : En) (σ₀ : Sto) (e : Nat) (F : Loc → Prop) (r : List AV) (ρ : Loc) (σ : Sto) : Prop where
  ex : ∃ ys E, r = nms ys ∧ EnvG val σ e E ∧ putOut E ys = fin
  kp : Kp [e] σ₀ σ
  fr : F ρ
theorem out_loop {val : Nm → Nat → AV} {bod : Loc → Sto → RS} {l : List Nm} {b : Nat} {F : Loc → Prop} (hF : ∀ ρ v, F ρ → F (setL ρ "name" v)) (hbf : b ∉ [e])
    (hb : ∀ ρ σ₁ y c, F ρ → setV (.ref e) (.str y.s) (val y 0) σ₁ = some (σ₁.set e c) → bod (setL ρ "name" (.str y.s)) σ₁ = some (.next, setL ρ "name" (.str y.s), σ₁.set e c))
    (hbt : σ[b]? = some (.lst (nms l))) (hE : EnvG val σ e E) (hz : l.length ≤ 50000) (h0 : F ρ) :
    ∃ ρ' σ', forR "name" bod b 100000 0 ρ σ = some (.next, ρ', σ') ∧ OutInv val (putOut E l) σ e F [] ρ' σ' :=
  forR_list (OutInv val (putOut E l) σ e F) (l := nms l) (fun r ρ σ h => h.kp.keep _ _ hbt hbf) (fun v r ρ σ₁ h => by
    obtain ⟨ys, E1, e1, h1, h2⟩ := h.ex
    cases ys with
    | nil => cases e1
    | cons y ys =>
    cases e1
    obtain ⟨c, e2, h3⟩ := h1.put (x := y) (n := 0)
    exact ⟨_, _, hb ρ σ₁ y c h.fr e2, ⟨ys, _, rfl, h3, h2⟩, h.kp.trans (.set (by simp)), hF _ _ h.fr⟩) 100000 0 ρ σ ⟨⟨l, E, rfl, hE, rfl⟩, .refl, h0⟩ (by unfold nms; simp; lia)

theorem u_scope (t e c : AV) : callN G (n + 1) a_law_scope [t, e, c] σ = s_law_scope (callN G n) t e c σ := by kernel_rfl
theorem EnvG.notlst {val : Nm → Nat → AV} {i : Nat} {l : List AV} (h : EnvG val σ e E) (k : σ[i]? = some (.lst l)) : i ≠ e := by
  rintro rfl
  obtain ⟨d, h1, _⟩ := h.ex
  have := lstAt_dct h1
  rw [lstAt_of k] at this; cases this
theorem not1 {i j : Nat} (h : i ≠ j) : i ∉ [j] := by simpa using h
structure FrS (t e c b o f : AV) (ρ : Loc) : Prop where
  e : ρ.lookup ("env" : Str) = some e
  c : ρ.lookup ("counter" : Str) = some c
  t : ρ.lookup ("tree" : Str) = some t
  o : ρ.lookup ("outer" : Str) = some o
  f : ρ.lookup ("fresh" : Str) = some f
  n1 : ρ.lookup ("_law_new" : Str) = none
  n2 : ρ.lookup ("_law_marked" : Str) = none
theorem FrS.set {t e c b o f v : AV} {y : Str} (h : FrS t e c b o f ρ) (hy : y = "name" ∨ y = "own") : FrS t e c b o f (setL ρ y v) := by
  rcases hy with rfl | rfl <;> exact ⟨sl_ne (by decide) h.e, sl_ne (by decide) h.c, sl_ne (by decide) h.t, sl_ne (by decide) h.o, sl_ne (by decide) h.f, sl_ne (by decide) h.n1, sl_ne (by decide) h.n2⟩

theorem ls1 {orc : Orc} {t e' c b o : AV} {f : Nat} {y : Nm} {out acc : List Nm} {i : Nat} {ce : Nat} (he : e' = .ref ce) (ho : o = .ref i) (hF : FrS t e' c b o (.ref f) ρ) (hE : EnvL σ ce E) (h1 : σ[i]? = some (.lst (nms out))) (hf : σ[f]? = some (.lst (nms acc))) (hz : acc.length < 50000) :
    d_ls1 orc (setL ρ "name" (.str y.s)) σ = some (.next, setL ρ "name" (.str y.s), if fresh1 E out acc y = true then σ.set f (.lst (nms acc ++ [.str y.s])) else σ) := by
  subst he ho
  have hF := hF.set (y := "name") (v := .str y.s) (.inl rfl)
  have hN : (setL ρ "name" (.str y.s)).lookup ("name" : Str) = some (.str y.s) := sl_eq _ _ _
  refine (show W (d_ls1 _ _ _) (fun p => p = _) from ?_) |> fun ⟨p, a, b⟩ => a.trans (congrArg some b)
  unfold fresh1
  refine w_lk hN (w_lk hF.e (w_goO (env_in hE) ?_))
  cases (E y).isNone with
  | false => exact w_some rfl
  | true =>
  refine w_lk hN (w_lk hF.o (w_goO (lst_notin h1) ?_))
  cases out.contains y with
  | true => exact w_some rfl
  | false =>
  refine w_lk hN (w_lk hF.f (w_goO (lst_notin hf) ?_))
  cases acc.contains y with
  | true => exact w_some rfl
  | false => exact w_lk hF.f (w_goO (m_append hf) (w_lk hN (w_go (append_ok hf (by unfold nms; simp; lia) _) (w_some rfl))))
theorem sc_of {t : Tr} {w : AV} (hz : t.sz ≤ 10000) (hb : LB (n + 1) t.av t.bnd t.out) (hc : c + t.bnd.length ≤ 50000) (hm : Mk (n + 1) t.av (opE E t c) (opN E t c) w c') : Sc (n + 2) t.av E c w c' := fun σ e cn hE hC => by
  have z1 : t.bnd.length ≤ 50000 := by have := t.wt_le; lia
  have z2 : t.out.length ≤ 50000 := by have := t.out_le; lia
  have z3 : c + (frs E t.out t.bnd []).length ≤ 50000 := by have := frs_len E t.out t.bnd []; simp at this; lia
  obtain ⟨b, o, σ₁, e1, k1, lb, lo, hb1, ho1⟩ := hb σ
  have hE1 := hE.kp k1 (by simp)
  have hC1 := hC.kp k1 (by simp)
  have hlb := lt_of_at hb1
  have hlo := lt_of_at ho1
  have kf : Kp [σ₁.length] σ₁ (σ₁ ++ [.lst []]) := .app _
  obtain ⟨ρ₂, σ₂, e2, i2⟩ := new_loop (σ := σ₁ ++ [.lst []]) (E := E) (out := t.out) (l := t.bnd) (b := b) (f := σ₁.length) (bod := d_ls1 (callN G (n + 1))) (F := FrS t.av (.ref e) (.ref cn) (.ref b) (.ref o) (.ref σ₁.length)) (ρ := setL (setLs [("tree", t.av), ("env", .ref e), ("counter", .ref cn)] ["bound", "outer"] [.ref b, .ref o]) "fresh" (.ref σ₁.length))
    (fun ρ v h => h.set (.inl rfl)) (not1 (Nat.ne_of_lt hlb))
    (fun ρ σ₃ y acc hF k3 hf hz => ls1 rfl rfl hF (hE1.kp (kf.trans k3) (not1 (Nat.ne_of_lt hE1.lt))) ((kf.trans k3).keep _ _ ho1 (not1 (Nat.ne_of_lt hlo))) hf hz)
    (at_old hb1 _) at_end z1 ⟨by rfl, by rfl, by rfl, by rfl, by rfl, by rfl, by rfl⟩
  obtain ⟨ys, acc, q1, hf2, _, q2⟩ := i2.ex
  cases ys with
  | cons _ _ => cases q1
  | nil =>
  have q2 : acc = frs E t.out t.bnd [] := q2
  have k2 := kf.trans i2.kp
  have hE2 := hE1.kp k2 (not1 (Nat.ne_of_lt hE1.lt))
  have hC2 := hC1.kp k2 (not1 (Nat.ne_of_lt hC1.lt))
  rw [q2] at hf2
  obtain ⟨e', σ₃, e3, le', k3, hE3, hC3⟩ := new_ok (n := n) hE2 hC2 hf2 (Nat.ne_of_gt hC1.lt) z3
  have ho2 := k2.keep _ _ ho1 (not1 (Nat.ne_of_lt hlo))
  have ho3 := k3.keep _ _ ho2 (not1 (Nat.ne_of_gt (Nat.lt_of_lt_of_le hC.lt lo)))
  have hF2 := i2.fr
  obtain ⟨ρ₄, σ₄, e4, i4⟩ := out_loop (σ := σ₃) (val := lvL) (E := putNew E (frs E t.out t.bnd []) c) (l := t.out) (b := o) (e := e') (bod := d_ls2) (F := fun ρ => FrS t.av (.ref e) (.ref cn) (.ref b) (.ref o) (.ref σ₁.length) ρ ∧ ρ.lookup ("own" : Str) = some (.ref e')) (ρ := setL ρ₂ "own" (.ref e'))
    (fun ρ v h => ⟨h.1.set (.inl rfl), sl_ne (by decide) h.2⟩) (not1 (hE3.notlst ho3)) (fun ρ σ₅ y cc hF h5 => by
      refine (show W (d_ls2 _ _) (fun p => p = _) from ?_) |> fun ⟨p, a, b⟩ => a.trans (congrArg some b)
      exact w_lk (sl_ne (by decide) hF.2) (w_lk (sl_eq _ _ _) (w_goO h5 (w_some rfl))))
    ho3 hE3 z2 ⟨hF2.set (.inr rfl), sl_eq _ _ _⟩
  obtain ⟨ys, E4, q3, hE4, q4⟩ := i4.ex
  cases ys with
  | cons _ _ => cases q3
  | nil =>
  have q4 : E4 = opE E t c := q4
  subst q4
  have hC4 := hC3.kp i4.kp (let ⟨_, a, _⟩ := hC3.ex; not1 (hE3.notlst a))
  refine (hm σ₄ e' cn hE4 hC4).elim fun σ₅ e5 k5 hC5 => ⟨σ₅, ?_, ?_, hC5⟩
  · rw [u_scope]
    refine (show W (s_law_scope _ _ _ _ _) (fun p => p = _) from ?_) |> fun ⟨p, a, b⟩ => a.trans (congrArg some b)
    refine w_go e1 ?_
    refine w_unp (by rfl) ?_
    refine w_lk (a := .ref b) (by rfl) (w_loopR e2 (w_cn hF2.n1 (w_lk hF2.e (w_lk hF2.f (w_lk hF2.c (w_go e3 ?_))))))
    exact w_lk (sl_ne (by decide) hF2.o) (w_loopR e4 (w_cn i4.fr.1.n2 (w_lk i4.fr.1.t (w_lk i4.fr.2 (w_lk i4.fr.1.c (w_go e5 (w_some rfl)))))))
  · have a2 : Kp [cn] σ σ₂ := k1.nil.old (k2.mono (by simp)) k1.len
    exact ((a2.trans k3).old (i4.kp.mono (by simp)) (Nat.le_trans a2.len le')).trans k5
end
end Mine

end

noncomputable section
open PySem PySem.W PyProof.Rows
set_option Elab.async false
set_option maxRecDepth 100000
set_option linter.unusedVariables false
namespace Mine
noncomputable def lfL (s : Str) (n : Nat) : AV := mark (.str s) (.int n)
noncomputable def kpt (v : AV) : AV := .tup [.str "kept", v]
section
variable {σ σ' σ₁ σ₂ : Sto} {e cn c c' c1 c2 n : Nat} {E : En} {x : Nm} {ρ : Loc} {t b u w w' w1 : AV}
theorem mk_sym : Mk (n + 1) (nmV x) E c (lfL x.s ((E x).getD 0)) c := fun σ e cn hE hC => by
  have : callN G (n + 1) a_law_marked [nmV x, .ref e, .ref cn] σ = goO (methV G (.ref e) "get" σ) fun fv => go (callV (callN G n) fv [.ref e, .str x.s, .int 0] σ) fun v σ => some (mark (.str x.s) v, σ) := by kernel_rfl
  refine ⟨σ, ?_, .refl, hC⟩
  rw [this, env_meth hE]
  refine go_eq (env_get hE _ _) ?_
  cases E x <;> rfl
theorem mk_not {k : Str} (hk : ∀ x : Nm, k ≠ x.s) : Mk (n + 1) (.tup [.str "sym", .str k]) E c (lfL k 0) c := fun σ e cn hE hC => by
  have : callN G (n + 1) a_law_marked [.tup [.str "sym", .str k], .ref e, .ref cn] σ = goO (methV G (.ref e) "get" σ) fun fv => go (callV (callN G n) fv [.ref e, .str k, .int 0] σ) fun v σ => some (mark (.str k) v, σ) := by kernel_rfl
  refine ⟨σ, ?_, .refl, hC⟩
  rw [this, env_meth hE]
  exact go_eq (env_not hE _ _ hk) rfl
theorem mk_one : Mk (n + 1) (.tup [.str "int", .int 1]) E c (.tup [.str "int", .int 1]) c := fun σ e cn hE hC => ⟨σ, by kernel_rfl, .refl, hC⟩
theorem mk_esc : Mk (n + 1) (ex "escape" [t]) E c (kpt t) c := fun σ e cn hE hC => ⟨σ, by kernel_rfl, .refl, hC⟩

inductive Mks (n : Nat) (E : En) : List AV → Nat → List AV → Nat → Prop
  | nil : ∀ {c : Nat}, Mks n E [] c [] c
  | cons : ∀ {v : AV} {l : List AV} {c : Nat} {w : AV} {c1 : Nat} {ws : List AV} {c2 : Nat}, Mk n v E c w c1 → Mks n E l c1 ws c2 → Mks n E (v :: l) c (w :: ws) c2
structure MkInv (n : Nat) (E : En) (c' : Nat) (σ : Sto) (e cn : Nat) (r ws : List AV) (ρ : Loc) (σ₁ : Sto) : Prop where
  ex : ∃ b, Mks n E r b ws c' ∧ Cnt σ₁ cn b
  kp : Kp [cn] σ σ₁
  r1 : ρ.lookup ("env" : Str) = some (.ref e)
  r2 : ρ.lookup ("counter" : Str) = some (.ref cn)
  r3 : ρ.lookup ("_law_marked" : Str) = none
theorem mk_node {h : Str} {l ws : List AV} (hl : l.length ≤ 1000) (H : Mks n E l c ws c')
    (hs : ∀ σ e cn, callN G (n + 1) a_law_marked [.tup [.str "expr", .str h, .tup l], .ref e, .ref cn] σ = compr "part" (e_mk (callN G n)) (.tup l) [("env", .ref e), ("counter", .ref cn)] σ fun w σ => go (tyV "tuple" [w] σ) fun w σ => some (.tup [.str "expr", .str h, w], σ)) :
    Mk (n + 1) (.tup [.str "expr", .str h, .tup l]) E c (.tup [.str "expr", .str h, .tup ws]) c' := fun σ e cn hE hC => by
  obtain ⟨ρ', σ', e1, i⟩ := compL_list (y := "part") (el := e_mk (callN G n)) (MkInv n E c' σ e cn) (fun v r ws ρ σ₁ i => by
    obtain ⟨b, hm, hB⟩ := i.ex
    cases hm with
    | @cons _ _ _ w b1 ws' _ h1 h2 =>
    have hn := ne_cnt hE hC
    refine (h1 σ₁ e cn (hE.kp i.kp hn) hB).elim fun σ₂ e2 k2 hC2 => ⟨w, ws', σ₂, rfl, ?_, ⟨b1, h2, hC2⟩, i.kp.trans k2, sl_ne (by decide) i.r1, sl_ne (by decide) i.r2, sl_ne (by decide) i.r3⟩
    refine (show W (e_mk _ _ _) (fun p => p = _) from ?_) |> fun ⟨p, a, b⟩ => a.trans (congrArg some b)
    exact w_cn (sl_ne (by decide) i.r3) (w_lk (sl_eq _ _ _) (w_lk (sl_ne (by decide) i.r1) (w_lk (sl_ne (by decide) i.r2) (w_go e2 (w_some rfl))))))
    (fun ws ρ σ₁ i => by obtain ⟨b, h, _⟩ := i.ex; cases h; rfl) l ws [("env", .ref e), ("counter", .ref cn)] σ ⟨⟨c, H, hC⟩, .refl, by rfl, by rfl, by rfl⟩
  obtain ⟨b, hm, hB⟩ := i.ex
  cases hm
  refine ⟨σ' ++ [Cell.lst ws], ?_, i.kp.trans (.app _), hB.kp (.app (I := []) [Cell.lst ws]) (by simp)⟩
  rw [hs]
  refine (show W (compr _ _ _ _ _ _) (fun p => p = _) from ?_) |> fun ⟨p, a, b⟩ => a.trans (congrArg some b)
  refine w_pre (decide_eq_true hl) (w_go e1 (w_go (b := .tup ws) (σ := σ' ++ [Cell.lst ws]) ?_ (w_some rfl)))
  exact goO_of (lstAt_of at_end)
theorem new1 (hE : EnvL σ e E) (hC : Cnt σ cn c) (hz : c < 50000) : ∃ e' σ', callN G (n + 1) a_law_new [.ref e, .ref σ.length, .ref cn] (σ ++ [.lst [.str x.s]]) = some (.ref e', σ') ∧ Kp [cn] σ σ' ∧ EnvL σ' e' (E.put x (c + 1)) ∧ Cnt σ' cn (c + 1) := by
  have k : Kp [] σ (σ ++ [.lst [.str x.s]]) := .app _
  obtain ⟨e', σ', e1, _, k1, h1, h2⟩ := new_ok (n := n) (hE.kp k (by simp)) (hC.kp k (by simp)) (j := σ.length) (xs := [x]) at_end (Nat.ne_of_gt hC.lt) (by simp; lia)
  exact ⟨e', σ', e1, k.nil.trans k1, h1, h2⟩
theorem mk_dot (ht : Mk n t E c w c1) : Mk (n + 1) (ex "." [t, nmV x]) E c (ex "." [w, lfL x.s 0]) c1 := fun σ e cn hE hC =>
  (ht σ e cn hE hC).elim fun σ₁ e1 k1 hC1 => ⟨σ₁, by
    have : callN G (n + 1) a_law_marked [ex "." [t, nmV x], .ref e, .ref cn] σ = go (callN G n a_law_marked [t, .ref e, .ref cn] σ) fun v σ => some (ex "." [v, mark (.str x.s) (.int 0)], σ) := by kernel_rfl
    rw [this]; exact go_eq e1 rfl, k1, hC1⟩
theorem mk_kw (ht : Mk n t E c w c1) : Mk (n + 1) (ex "kw" [nmV x, t]) E c (ex "kw" [lfL x.s 0, w]) c1 := fun σ e cn hE hC =>
  (ht σ e cn hE hC).elim fun σ₁ e1 k1 hC1 => ⟨σ₁, by
    have : callN G (n + 1) a_law_marked [ex "kw" [nmV x, t], .ref e, .ref cn] σ = go (callN G n a_law_marked [t, .ref e, .ref cn] σ) fun v σ => some (ex "kw" [mark (.str x.s) (.int 0), v], σ) := by kernel_rfl
    rw [this]; exact go_eq e1 rfl, k1, hC1⟩
theorem mk_wh (ht : Mk n t E c w c1) (hb : Sc n b E c1 w' c2) : Mk (n + 1) (ex "while" [t, b]) E c (ex "while" [w, w']) c2 := fun σ e cn hE hC =>
  (ht σ e cn hE hC).elim fun σ₁ e1 k1 hC1 => (hb σ₁ e cn (hE.kp k1 (ne_cnt hE hC)) hC1).elim fun σ₂ e2 k2 hC2 => ⟨σ₂, by
    have : callN G (n + 1) a_law_marked [ex "while" [t, b], .ref e, .ref cn] σ = go (callN G n a_law_marked [t, .ref e, .ref cn] σ) fun v σ => go (callN G n a_law_scope [b, .ref e, .ref cn] σ) fun v' σ => some (ex "while" [v, v'], σ) := by kernel_rfl
    rw [this]; exact go_eq e1 (go_eq e2 rfl), k1.trans k2, hC2⟩
theorem put_get : ((E.put x n) x).getD 0 = n := by unfold En.put; rw [if_pos rfl]; rfl
theorem mk_lt (ht : Mk (n + 1) t E c w c1) (hz : c1 < 50000) (hb : Sc (n + 1) b (E.put x (c1 + 1)) (c1 + 1) w' c2) : Mk (n + 2) (ex "let" [ex "block" [ex "=" [nmV x, t]], b]) E c (ex "let" [ex "block" [ex "=" [lfL x.s (c1 + 1), w]], w']) c2 := fun σ e cn hE hC => by
  refine (ht σ e cn hE hC).elim fun σ₁ e1 k1 hC1 => ?_
  obtain ⟨e', σ₂, e2, k2, hE2, hC2⟩ := new1 (n := n) (x := x) (hE.kp k1 (ne_cnt hE hC)) hC1 hz
  refine (mk_sym (n := n) (x := x) σ₂ e' cn hE2 hC2).elim fun σ₃ e3 k3 hC3 => (hb σ₃ e' cn (hE2.kp k3 (ne_cnt hE2 hC2)) hC3).elim fun σ₄ e4 k4 hC4 => ⟨σ₄, ?_, (k1.trans k2).trans (k3.trans k4), hC4⟩
  have : callN G (n + 2) a_law_marked [ex "let" [ex "block" [ex "=" [nmV x, t]], b], .ref e, .ref cn] σ = go (callN G (n + 1) a_law_marked [t, .ref e, .ref cn] σ) fun w σ => go (callN G (n + 1) a_law_new [.ref e, .ref σ.length, .ref cn] (σ ++ [.lst [.str x.s]])) fun own σ =>
    go (callN G (n + 1) a_law_marked [nmV x, own, .ref cn] σ) fun v σ => go (callN G (n + 1) a_law_scope [b, own, .ref cn] σ) fun w' σ => some (ex "let" [ex "block" [ex "=" [v, w]], w'], σ) := by kernel_rfl
  rw [put_get] at e3
  rw [this]; exact go_eq e1 (go_eq e2 (go_eq e3 (go_eq e4 rfl)))
theorem mk_fr (ht : Mk (n + 1) t E c w c1) (hz : c1 < 50000) (hb : Sc (n + 1) b (E.put x (c1 + 1)) (c1 + 1) w' c2) : Mk (n + 2) (ex "for" [ex "in" [nmV x, t], b]) E c (ex "for" [ex "in" [lfL x.s (c1 + 1), w], w']) c2 := fun σ e cn hE hC => by
  refine (ht σ e cn hE hC).elim fun σ₁ e1 k1 hC1 => ?_
  obtain ⟨e', σ₂, e2, k2, hE2, hC2⟩ := new1 (n := n) (x := x) (hE.kp k1 (ne_cnt hE hC)) hC1 hz
  refine (mk_sym (n := n) (x := x) σ₂ e' cn hE2 hC2).elim fun σ₃ e3 k3 hC3 => (hb σ₃ e' cn (hE2.kp k3 (ne_cnt hE2 hC2)) hC3).elim fun σ₄ e4 k4 hC4 => ⟨σ₄, ?_, (k1.trans k2).trans (k3.trans k4), hC4⟩
  have : callN G (n + 2) a_law_marked [ex "for" [ex "in" [nmV x, t], b], .ref e, .ref cn] σ = go (callN G (n + 1) a_law_marked [t, .ref e, .ref cn] σ) fun w σ => go (callN G (n + 1) a_law_new [.ref e, .ref σ.length, .ref cn] (σ ++ [.lst [.str x.s]])) fun own σ =>
    go (callN G (n + 1) a_law_marked [nmV x, own, .ref cn] σ) fun v σ => go (callN G (n + 1) a_law_scope [b, own, .ref cn] σ) fun w' σ => some (ex "for" [ex "in" [v, w], w'], σ) := by kernel_rfl
  rw [put_get] at e3
  rw [this]; exact go_eq e1 (go_eq e2 (go_eq e3 (go_eq e4 rfl)))
theorem mk_arr (hz : c < 50000) (hb : Sc (n + 2) b (E.put x (c + 1)) (c + 1) w' c2) : Mk (n + 3) (ex "->" [ex "tuple" [nmV x], b]) E c (ex "->" [ex "tuple" [lfL x.s (c + 1)], w']) c2 := fun σ e cn hE hC => by
  obtain ⟨e', σ₂, e2, k2, hE2, hC2⟩ := new1 (n := n + 1) (x := x) hE hC hz
  have hm : Mk (n + 2) (ex "tuple" [nmV x]) (E.put x (c + 1)) (c + 1) (ex "tuple" [lfL x.s (((E.put x (c + 1)) x).getD 0)]) (c + 1) := mk_node (by simp) (.cons mk_sym .nil) (fun σ e cn => by kernel_rfl)
  rw [put_get] at hm
  refine (hm σ₂ e' cn hE2 hC2).elim fun σ₃ e3 k3 hC3 => (hb σ₃ e' cn (hE2.kp k3 (ne_cnt hE2 hC2)) hC3).elim fun σ₄ e4 k4 hC4 => ⟨σ₄, ?_, k2.trans (k3.trans k4), hC4⟩
  have : callN G (n + 3) a_law_marked [ex "->" [ex "tuple" [nmV x], b], .ref e, .ref cn] σ = go (callN G (n + 2) a_law_new [.ref e, .ref σ.length, .ref cn] (σ ++ [.lst [.str x.s]])) fun own σ =>
    go (callN G (n + 2) a_law_marked [ex "tuple" [nmV x], own, .ref cn] σ) fun v σ => go (callN G (n + 2) a_law_scope [b, own, .ref cn] σ) fun w' σ => some (ex "->" [v, w'], σ) := by kernel_rfl
  rw [this]; exact go_eq e2 (go_eq e3 (go_eq e4 rfl))
theorem not_g : ∀ x : Nm, ("g" : Str) ≠ x.s := fun x => by cases x <;> decide
theorem not_f : ∀ x : Nm, ("f" : Str) ≠ x.s := fun x => by cases x <;> decide
theorem mk_fn (hz : c < 50000) (ht : Mk (n + 1) t (E.put x (c + 1)) (c + 1) w c1) (hb : Sc (n + 1) b (E.put x (c + 1)) c1 w' c2) : Mk (n + 2) (ex "function" [ex "call" [.tup [.str "sym", .str "g"], ex "kw" [nmV x, t]], b]) E c (ex "function" [ex "call" [lfL "g" 0, ex "kw" [lfL x.s (c + 1), w]], w']) c2 := fun σ e cn hE hC => by
  obtain ⟨e', σ₁, e1, k1, hE1, hC1⟩ := new1 (n := n) (x := x) hE hC hz
  refine (mk_sym (n := n) (x := x) σ₁ e' cn hE1 hC1).elim fun σ₂ e2 k2 hC2 => ?_
  have hE2 := hE1.kp k2 (ne_cnt hE1 hC1)
  refine (ht σ₂ e' cn hE2 hC2).elim fun σ₃ e3 k3 hC3 => ?_
  have hE3 := hE.kp ((k1.trans k2).trans k3) (ne_cnt hE hC)
  refine (mk_not (n := n) not_g σ₃ e cn hE3 hC3).elim fun σ₄ e4 k4 hC4 => ?_
  refine (hb σ₄ e' cn (hE2.kp (k3.trans k4) (ne_cnt hE2 hC2)) hC4).elim fun σ₅ e5 k5 hC5 => ⟨σ₅, ?_, ((k1.trans k2).trans k3).trans (k4.trans k5), hC5⟩
  have : callN G (n + 2) a_law_marked [ex "function" [ex "call" [.tup [.str "sym", .str "g"], ex "kw" [nmV x, t]], b], .ref e, .ref cn] σ = go (callN G (n + 1) a_law_new [.ref e, .ref σ.length, .ref cn] (σ ++ [.lst [.str x.s]])) fun own σ =>
    go (callN G (n + 1) a_law_marked [nmV x, own, .ref cn] σ) fun v1 σ => go (callN G (n + 1) a_law_marked [t, own, .ref cn] σ) fun v2 σ => go (callN G (n + 1) a_law_marked [.tup [.str "sym", .str "g"], .ref e, .ref cn] σ) fun v3 σ =>
    go (callN G (n + 1) a_law_scope [b, own, .ref cn] σ) fun w' σ => some (ex "function" [ex "call" [v3, ex "kw" [v1, v2]], w'], σ) := by kernel_rfl
  rw [put_get] at e2
  rw [this]; exact go_eq e1 (go_eq e2 (go_eq e3 (go_eq e4 (go_eq e5 rfl))))

theorem le_max1 {a m k : Nat} (i : a ≤ m) (h : 3 * (m + 1) + 3 ≤ k) : 3 * a + 6 ≤ k := Nat.le_trans (Nat.add_le_add_right (Nat.mul_le_mul_left 3 (Nat.succ_le_succ i)) 3) h
theorem le_max3 {a b c k : Nat} (h : 3 * (max a (max b c) + 1) + 3 ≤ k) : 3 * a + 6 ≤ k ∧ 3 * b + 6 ≤ k ∧ 3 * c + 6 ≤ k :=
  ⟨le_max1 (Nat.le_max_left _ _) h, le_max1 (Nat.le_trans (Nat.le_max_left _ _) (Nat.le_max_right _ _)) h, le_max1 (Nat.le_trans (Nat.le_max_right _ _) (Nat.le_max_right _ _)) h⟩
theorem le_max2 {a b k : Nat} (h : 3 * (max a b + 1) + 3 ≤ k) : 3 * a + 6 ≤ k ∧ 3 * b + 6 ≤ k := ⟨le_max1 (Nat.le_max_left _ _) h, le_max1 (Nat.le_max_right _ _) h⟩
noncomputable abbrev wkL := wk false lfL kpt
theorem wkL_le (t : Tr) (E : En) (c : Nat) : (wkL t E c).2 ≤ c + t.wt := (wk_le false lfL kpt t E c).2
/-- what is asked of a tree's bulk -/
structure Fits (n : Nat) (t : Tr) (c : Nat) : Prop where
  hg : 3 * t.hg + 3 ≤ n
  sz : t.sz ≤ 10000
  wt : c + t.wt ≤ 50000
theorem sc_ok {t : Tr} (h : t.sz ≤ 10000) (hc : c + t.bnd.length ≤ 50000) (ih : Mk (n + 2) t.av (opE E t c) (opN E t c) w c') (hh : 3 * t.hg + 3 ≤ n + 2) : Sc (n + 3) t.av E c w c' := sc_of h (lb_ok t (n + 2) (by lia) h) hc ih
theorem mk_ok : ∀ (t : Tr) (n : Nat) (E : En) (c : Nat), Fits n t c → Mk n t.av E c (wkL t E c).1 (wkL t E c).2 := by
  intro t
  induction t with
  | sym x => intro n E c h; obtain ⟨m, rfl⟩ := Nat.exists_eq_add_of_le' (Nat.le_trans (Nat.le_add_left 3 _) h.hg); exact mk_sym
  | one => intro n E c h; obtain ⟨m, rfl⟩ := Nat.exists_eq_add_of_le' (Nat.le_trans (Nat.le_add_left 3 _) h.hg); exact mk_one
  | loc x => intro n E c h; obtain ⟨m, rfl⟩ := Nat.exists_eq_add_of_le' (Nat.le_trans (Nat.le_add_left 3 _) h.hg); exact mk_node (by simp) (.cons mk_sym .nil) (fun σ e cn => by kernel_rfl)
  | glb x => intro n E c h; obtain ⟨m, rfl⟩ := Nat.exists_eq_add_of_le' (Nat.le_trans (Nat.le_add_left 3 _) h.hg); exact mk_node (by simp) (.cons mk_sym .nil) (fun σ e cn => by kernel_rfl)
  | esc t ih => intro n E c h; obtain ⟨m, rfl⟩ := Nat.exists_eq_add_of_le' (Nat.le_trans (Nat.le_add_left 3 _) h.hg); exact mk_esc
  | asg x t ih =>
    intro n E c ⟨h1, h2, h3⟩
    obtain ⟨m, rfl⟩ := Nat.exists_eq_add_of_le' (Nat.le_trans (Nat.le_add_left 3 _) h1)
    simp only [Tr.hg, Tr.sz, Tr.wt] at h1 h2 h3
    exact mk_node (by simp) (.cons mk_sym (.cons (ih (m + 2) E c ⟨by lia, by lia, h3⟩) .nil)) (fun σ e cn => by kernel_rfl)
  | blk p q r ip iq ir =>
    intro n E c ⟨h1, h2, h3⟩
    obtain ⟨m, rfl⟩ := Nat.exists_eq_add_of_le' (Nat.le_trans (Nat.le_add_left 3 _) h1)
    simp only [Tr.hg, Tr.sz, Tr.wt] at h1 h2 h3
    have a1 := wkL_le p E c
    have a2 := wkL_le q E (wkL p E c).2
    exact mk_node (by simp) (.cons (ip (m + 2) E c ⟨by lia, by lia, by lia⟩) (.cons (iq (m + 2) E _ ⟨by lia, by lia, by lia⟩) (.cons (ir (m + 2) E _ ⟨by lia, by lia, by lia⟩) .nil))) (fun σ e cn => by kernel_rfl)
  | call x t u it iu =>
    intro n E c ⟨h1, h2, h3⟩
    simp only [Tr.hg, Tr.sz, Tr.wt] at h1 h2 h3
    obtain ⟨m, rfl⟩ := Nat.exists_eq_add_of_le' (show 6 ≤ n by lia)
    have a1 := wkL_le t E c
    refine mk_node (by simp) (.cons (mk_not not_f) (.cons (mk_node (n := m + 4) (by simp) (.cons (mk_kw (it (m + 3) E c ⟨by lia, by lia, by lia⟩)) .nil) (fun σ e cn => by kernel_rfl)) (.cons (iu (m + 5) E _ ⟨by lia, by lia, by lia⟩) .nil))) (fun σ e cn => by kernel_rfl)
  | dot t x ih =>
    intro n E c ⟨h1, h2, h3⟩
    simp only [Tr.hg, Tr.sz, Tr.wt] at h1 h2 h3
    obtain ⟨m, rfl⟩ := Nat.exists_eq_add_of_le' (show 6 ≤ n by lia)
    exact mk_dot (ih (m + 5) E c ⟨by lia, by lia, h3⟩)
  | wh t b it ib =>
    intro n E c ⟨h1, h2, h3⟩
    simp only [Tr.hg, Tr.sz, Tr.wt] at h1 h2 h3
    obtain ⟨m, rfl⟩ := Nat.exists_eq_add_of_le' (show 6 ≤ n by lia)
    have a1 := wkL_le t E c
    have a2 := opN_le E b (wkL t E c).2
    exact mk_wh (c1 := (wkL t E c).2) (w := (wkL t E c).1) (it (m + 5) E c ⟨by lia, by lia, by lia⟩) (sc_ok (by lia) (by lia) (ib (m + 4) _ _ ⟨by lia, by lia, by lia⟩) (by lia))
  | lt x t b it ib =>
    intro n E c ⟨h1, h2, h3⟩
    simp only [Tr.hg, Tr.sz, Tr.wt] at h1 h2 h3
    obtain ⟨m, rfl⟩ := Nat.exists_eq_add_of_le' (show 6 ≤ n by lia)
    have a1 := wkL_le t E c
    have a2 := opN_le (E.put x ((wkL t E c).2 + 1)) b ((wkL t E c).2 + 1)
    exact mk_lt (c1 := (wkL t E c).2) (w := (wkL t E c).1) (it (m + 5) E c ⟨by lia, by lia, by lia⟩) (by lia) (sc_ok (by lia) (by lia) (ib (m + 4) _ _ ⟨by lia, by lia, by lia⟩) (by lia))
  | fr x t b it ib =>
    intro n E c ⟨h1, h2, h3⟩
    simp only [Tr.hg, Tr.sz, Tr.wt] at h1 h2 h3
    obtain ⟨m, rfl⟩ := Nat.exists_eq_add_of_le' (show 6 ≤ n by lia)
    have a1 := wkL_le t E c
    have a2 := opN_le (E.put x ((wkL t E c).2 + 1)) b ((wkL t E c).2 + 1)
    exact mk_fr (c1 := (wkL t E c).2) (w := (wkL t E c).1) (it (m + 5) E c ⟨by lia, by lia, by lia⟩) (by lia) (sc_ok (by lia) (by lia) (ib (m + 4) _ _ ⟨by lia, by lia, by lia⟩) (by lia))
  | arr x b ib =>
    intro n E c ⟨h1, h2, h3⟩
    simp only [Tr.hg, Tr.sz, Tr.wt] at h1 h2 h3
    obtain ⟨m, rfl⟩ := Nat.exists_eq_add_of_le' (show 6 ≤ n by lia)
    have a2 := opN_le (E.put x (c + 1)) b (c + 1)
    exact mk_arr (by lia) (sc_ok (by lia) (by lia) (ib (m + 4) _ _ ⟨by lia, by lia, by lia⟩) (by lia))
  | fn x t b it ib =>
    intro n E c ⟨h1, h2, h3⟩
    simp only [Tr.hg, Tr.sz, Tr.wt] at h1 h2 h3
    obtain ⟨m, rfl⟩ := Nat.exists_eq_add_of_le' (show 6 ≤ n by lia)
    have a1 := wkL_le t (E.put x (c + 1)) (c + 1)
    have a2 := opN_le (E.put x (c + 1)) b (wkL t (E.put x (c + 1)) (c + 1)).2
    exact mk_fn (c1 := (wkL t (E.put x (c + 1)) (c + 1)).2) (w := (wkL t (E.put x (c + 1)) (c + 1)).1) (by lia) (it (m + 5) _ _ ⟨by lia, by lia, by lia⟩) (sc_ok (by lia) (by lia) (ib (m + 4) _ _ ⟨by lia, by lia, by lia⟩) (by lia))
end
end Mine

end

noncomputable section
open PySem PySem.W PyProof.Rows
set_option Elab.async false
set_option maxRecDepth 100000
set_option linter.unusedVariables false
namespace Mine
/-- a head above one name -/
noncomputable def ex0 (h : Str) (x : Nm) : AV := .tup [.str "expr", .str h, .tup [nmV x]]
section
variable {σ σ' σ₁ σ₂ : Sto} {n : Nat} {x : Nm} {ρ : Loc}
theorem ne_nil_ok {i : Nat} {l : List AV} (h : σ[i]? = some (.lst l)) : cmpV .NotEq (.ref i) (.ref σ.length) (σ ++ [.lst []]) = some (!l.isEmpty) := by
  show (goO (lstAt (σ ++ [Cell.lst []]) i) fun l => goO (lstAt (σ ++ [Cell.lst []]) σ.length) fun m => pre m.isEmpty (some l.isEmpty)).map (!·) = _
  rw [lstAt_of (at_old h _), lstAt_of at_end]; rfl
theorem lastOf_snoc (v : AV) : ∀ l : List AV, lastOf (l ++ [v]) = some (l, v)
  | [] => rfl
  | x :: r => (optG_of (lastOf_snoc v r) : optG (lastOf (r ++ [v])) _ _ = _)
theorem pop_ok {i : Nat} {l : List AV} {v : AV} (h : σ[i]? = some (.lst (l ++ [v]))) (orc : Orc) : callV orc (.builtin "list.pop") [.ref i] σ = some (v, σ.set i (.lst l)) := by
  exact (goO_of (lstAt_of h)).trans (goO_of (lastOf_snoc v l))
theorem w_meth {β : Type} {P : β → Prop} {orc : Orc} {o : AV} {name : Str} {as : List AV} {fv : Value} {r : AV} {k : AV → Sto → Option β} (e : methV G o name σ = some fv) (e' : callV orc fv (o :: as) σ = some (r, σ')) (h : W (k r σ') P) : W (meth orc o name as σ k) P := w_goO e (w_go e' h)

/-- place_names of a name -/
theorem place_ok (n : Nat) (x : Nm) (σ : Sto) : ∃ j σ', callN G (n + 2) a_place_names [nmV x] σ = some (.ref j, σ') ∧ Kp [] σ σ' ∧ σ.length ≤ j ∧ σ'[j]? = some (.lst [.str x.s]) := by
  have u : callN G (n + 2) a_place_names [nmV x] σ = s_place_names (callN G (n + 1)) (nmV x) σ := by kernel_rfl
  rw [u]
  have h1 : (σ ++ [Cell.lst []] ++ [Cell.lst [nmV x]])[(σ ++ [Cell.lst []]).length]? = some (.lst ([] ++ [nmV x])) := at_end
  have h2 : (σ ++ [Cell.lst []] ++ [Cell.lst [nmV x]])[σ.length]? = some (.lst []) := at_old at_end _
  generalize hS : σ ++ [Cell.lst []] ++ [Cell.lst [nmV x]] = S at h1 h2
  have hlt : (σ ++ [Cell.lst []]).length < S.length := lt_of_at h1
  have hne : ¬ σ.length = (σ ++ [Cell.lst []]).length := by simp
  generalize hj : (σ ++ [Cell.lst []]).length = j at h1 hlt hne
  let ρ₀ : Loc := [("place", nmV x), ("found", .ref σ.length), ("left", .ref j)]
  let S1 := S ++ [Cell.lst []]
  have g1 : S1[j]? = some (.lst ([] ++ [nmV x])) := at_old h1 _
  let S2 := S1.set j (.lst [])
  have f2 : S2[σ.length]? = some (.lst []) := (Kp.set (I := [j]) (by simp)).keep _ _ (at_old h2 _) (not1 hne)
  let S3 := S2.set σ.length (.lst ([] ++ [.str x.s]))
  have f3 : S3[σ.length]? = some (.lst [.str x.s]) := at_set (lt_of_at f2)
  have l3 : S3[j]? = some (.lst []) := (Kp.set (I := [σ.length]) (by simp)).keep _ _ (at_set (lt_of_at g1)) (not1 fun e => hne e.symm)
  have t1 : t_place ρ₀ S = some (true, S1) := by
    refine (show W (t_place ρ₀ S) (fun p => p = _) from ?_) |> fun ⟨p, a, b⟩ => a.trans (congrArg some b)
    exact w_lk (a := .ref j) (by rfl) (w_goO (ne_nil_ok h1) (w_some rfl))
  have d1 : d_place (callN G (n + 1)) ρ₀ S1 = some (.next, setL ρ₀ "here" (nmV x), S3) := by
    refine (show W (d_place _ ρ₀ S1) (fun p => p = _) from ?_) |> fun ⟨p, a, b⟩ => a.trans (congrArg some b)
    refine w_lk (a := .ref j) (by rfl) (w_meth (m_pop g1) (pop_ok g1 _) ?_)
    refine w_gcall (by rfl) (w_lk (a := nmV x) (by rfl) (w_go (b := .bool true) (σ := S2) (by kernel_rfl) ?_))
    refine w_asB (w_t ?_)
    refine (w_lk (a := .ref σ.length) (by rfl) (w_goO (m_append f2) (w_lk (a := nmV x) (by rfl) ?_)))
    exact w_go (append_ok (v := .str x.s) f2 (by simp) _) (w_some rfl)
  have t2 : t_place (setL ρ₀ "here" (nmV x)) S3 = some (false, S3 ++ [.lst []]) := by
    refine (show W (t_place _ S3) (fun p => p = _) from ?_) |> fun ⟨p, a, b⟩ => a.trans (congrArg some b)
    exact w_lk (a := .ref j) (by rfl) (w_goO (ne_nil_ok l3) (w_some rfl))
  have hw : whileL t_place (d_place (callN G (n + 1))) 100000 ρ₀ S = some (.next, setL ρ₀ "here" (nmV x), S3 ++ [.lst []]) := by
    refine (go_of t1).trans ?_
    show nextL _ _ = _
    rw [d1]
    exact go_of t2
  have e : s_place_names (callN G (n + 1)) (nmV x) σ = some (.ref σ.length, S3 ++ [.lst []]) := by
    unfold s_place_names
    rw [hS, hj]
    refine (show W (aft _ _) (fun p => p = _) from ?_) |> fun ⟨p, a, b⟩ => a.trans (congrArg some b)
    exact w_aft hw (w_lk (by rfl) (w_some rfl))
  refine ⟨_, _, e, ?_, Nat.le_refl _, at_old f3 _⟩
  have k0 : Kp [] σ S := by rw [← hS]; exact (Kp.app _).trans (.app _)
  have k1 : Kp [] σ S1 := k0.trans (.app _)
  have k2 : Kp [] σ S2 := k1.old (i := j) (.set (by simp)) (by rw [← hj]; simp)
  exact (k2.old (i := σ.length) (.set (by simp)) (Nat.le_refl _)).trans (.app _)

/-- declared_names of local x, global x -/
theorem decl_ok (n : Nat) (h : Str) (x : Nm) (σ : Sto) : ∃ j σ', callN G (n + 3) a_declared_names [ex0 h x] σ = some (.ref j, σ') ∧ Kp [] σ σ' ∧ σ.length ≤ j ∧ σ'[j]? = some (.lst [.str x.s]) := by
  have u : callN G (n + 3) a_declared_names [ex0 h x] σ = s_declared_names (callN G (n + 2)) (ex0 h x) σ := by kernel_rfl
  rw [u]
  let S := σ ++ [Cell.lst []]
  have f0 : S[σ.length]? = some (.lst []) := at_end
  let ρ₀ : Loc := setL [("tree", ex0 h x), ("found", .ref σ.length)] "part" (nmV x)
  obtain ⟨j, S1, e1, k1, lj, hj⟩ := place_ok n x S
  have f1 : S1[σ.length]? = some (.lst []) := k1.keep _ _ f0 (by simp)
  have d1 : d_decl (callN G (n + 2)) ρ₀ S = some (.next, ρ₀, S1.set σ.length (.lst ([] ++ [.str x.s]))) := by
    refine (show W (d_decl _ ρ₀ S) (fun p => p = _) from ?_) |> fun ⟨p, a, b⟩ => a.trans (congrArg some b)
    refine w_lk (a := .ref σ.length) (by rfl) (w_goO (m_extend f0) (w_cn (by rfl) (w_cn (by rfl) (w_lk (a := nmV x) (by rfl) (w_go (b := .bool false) (σ := S) (by kernel_rfl) ?_)))))
    refine w_asB (w_f ?_)
    exact (w_lk (a := nmV x) (by rfl) (w_go e1 (w_go (extend_ok f1 hj (by simp) _) (w_some rfl))))
  refine ⟨σ.length, S1.set σ.length (.lst ([] ++ [.str x.s])), ?_, ?_, Nat.le_refl _, at_set (lt_of_at f1)⟩
  · refine (show W (s_declared_names _ _ _) (fun p => p = _) from ?_) |> fun ⟨p, a, b⟩ => a.trans (congrArg some b)
    show W (aft (nextL (d_decl (callN G (n + 2)) ρ₀ S) _) _) _
    rw [d1]
    exact w_aft rfl (w_lk (by rfl) (w_some rfl))
  · exact ((Kp.app _).trans k1).old (i := σ.length) (.set (by simp)) (Nat.le_refl _)
end
end Mine

end

noncomputable section
open PySem PySem.W PyProof.Rows
set_option Elab.async false
set_option maxRecDepth 100000
set_option linter.unusedVariables false
namespace Mine
section
variable {σ σ' σ₁ σ₂ σ₀ : Sto} {n : Nat} {x : Nm} {ρ : Loc}
theorem w_asT {β : Type} {P : β → Prop} {l : List AV} {k : List AV → Option β} (h : W (k l) P) : W (asT (.tup l) k) P := h

/-- the frame of own_names -/
structure OwF (l b t : Nat) (ρ : Loc) : Prop where
  l : ρ.lookup ("left" : Str) = some (.ref l)
  b : ρ.lookup ("bound" : Str) = some (.ref b)
  t : ρ.lookup ("told_global" : Str) = some (.ref t)
  n1 : ρ.lookup ("head_of" : Str) = none
  n2 : ρ.lookup ("is_expr" : Str) = none
  n3 : ρ.lookup ("OPENING" : Str) = none
  n4 : ρ.lookup ("CHANGING" : Str) = none
  n5 : ρ.lookup ("place_names" : Str) = none
  n6 : ρ.lookup ("declared_names" : Str) = none
  n7 : ρ.lookup ("parts_of" : Str) = none
theorem OwF.set {l b t : Nat} {v : AV} {y : Str} (h : OwF l b t ρ) (hy : y = "here" ∨ y = "head" ∨ y = "told") : OwF l b t (setL ρ y v) := by
  rcases hy with rfl | rfl | rfl <;> exact ⟨sl_ne (by decide) h.l, sl_ne (by decide) h.b, sl_ne (by decide) h.t, sl_ne (by decide) h.n1, sl_ne (by decide) h.n2, sl_ne (by decide) h.n3, sl_ne (by decide) h.n4, sl_ne (by decide) h.n5, sl_ne (by decide) h.n6, sl_ne (by decide) h.n7⟩
/-- its store -/
structure OwS (σ₀ : Sto) (l b t : Nat) (L : List AV) (B O : List Nm) (σ : Sto) : Prop where
  fl : σ[l]? = some (.lst L)
  fb : σ[b]? = some (.lst (nms B))
  ft : σ[t]? = some (.lst (nms O))
  kp : Kp [l, b, t] σ₀ σ
structure Apart (l b t : Nat) : Prop where
  lb : l ≠ b
  lt : l ≠ t
  bt : b ≠ t
variable {l b t : Nat} {L : List AV} {B O : List Nm}
theorem OwS.kp0 (h : OwS σ₀ l b t L B O σ) (k : Kp [] σ σ') : OwS σ₀ l b t L B O σ' := ⟨k.keep _ _ h.fl (by simp), k.keep _ _ h.fb (by simp), k.keep _ _ h.ft (by simp), h.kp.trans k.nil⟩
theorem OwS.setL (h : OwS σ₀ l b t L B O σ) (a : Apart l b t) (L' : List AV) : OwS σ₀ l b t L' B O (σ.set l (.lst L')) :=
  ⟨at_set (lt_of_at h.fl), (Kp.set (I := [l]) (by simp)).keep _ _ h.fb (not1 a.lb.symm), (Kp.set (I := [l]) (by simp)).keep _ _ h.ft (not1 a.lt.symm), h.kp.trans (.set (by simp))⟩
theorem OwS.setB (h : OwS σ₀ l b t L B O σ) (a : Apart l b t) (x : Nm) : OwS σ₀ l b t L (B ++ [x]) O (σ.set b (.lst (nms B ++ [.str x.s]))) :=
  ⟨(Kp.set (I := [b]) (by simp)).keep _ _ h.fl (not1 a.lb), by rw [show nms (B ++ [x]) = nms B ++ [.str x.s] from List.map_append]; exact at_set (lt_of_at h.fb), (Kp.set (I := [b]) (by simp)).keep _ _ h.ft (not1 a.bt.symm), h.kp.trans (.set (by simp))⟩
theorem OwS.setO (h : OwS σ₀ l b t L B O σ) (a : Apart l b t) (x : Nm) : OwS σ₀ l b t L B (O ++ [x]) (σ.set t (.lst (nms O ++ [.str x.s]))) :=
  ⟨(Kp.set (I := [t]) (by simp)).keep _ _ h.fl (not1 a.lt), (Kp.set (I := [t]) (by simp)).keep _ _ h.fb (not1 a.bt), by rw [show nms (O ++ [x]) = nms O ++ [.str x.s] from List.map_append]; exact at_set (lt_of_at h.ft), h.kp.trans (.set (by simp))⟩

/-- a value is worked off, in k turns -/
structure OwAt (n : Nat) (σ₀ : Sto) (l b t m : Nat) (k : Nat) (ρ : Loc) (σ : Sto) (L : List AV) (B O : List Nm) : Prop where
  ex : ∃ ρ' σ', whileL t_left (d_own (callN G (n + 3))) (k + m) ρ σ = whileL t_left (d_own (callN G (n + 3))) m ρ' σ' ∧ OwF l b t ρ' ∧ OwS σ₀ l b t L B O σ'
structure Ow (n : Nat) (v : AV) (bs os : List Nm) (k : Nat) : Prop where
  lb : bs.length ≤ k
  lo : os.length ≤ k
  pos : 0 < k
  go : ∀ {σ₀ l b t L B O ρ σ}, Apart l b t → OwF l b t ρ → OwS σ₀ l b t (L ++ [v]) B O σ → L.length + k ≤ 50000 → B.length + k ≤ 50000 → O.length + k ≤ 50000 → ∀ m, OwAt n σ₀ l b t m k ρ σ L (B ++ bs) (O ++ os)

/-- one turn -/
theorem ow_turn {v : AV} {m : Nat} {L' : List AV} {B' O' : List Nm} (a : Apart l b t) (hF : OwF l b t ρ) (hS : OwS σ₀ l b t (L ++ [v]) B O σ) {h : Str} (hd : ∀ σ, callN G (n + 3) a_head_of [v] σ = some (.str h, σ))
    (k : ∀ σ₁, OwS σ₀ l b t L B O σ₁ → W (own_mid (callN G (n + 3)) (Mine.setL (Mine.setL ρ "here" v) "head" (.str h)) σ₁) fun p => (p.1 = .next ∨ p.1 = .cont) ∧ OwF l b t p.2.1 ∧ OwS σ₀ l b t L' B' O' p.2.2) : OwAt n σ₀ l b t m 1 ρ σ L' B' O' := by
  have h1 : OwS σ₀ l b t (L ++ [v]) B O (σ ++ [.lst []]) := hS.kp0 (.app _)
  have t1 : t_left ρ σ = some (true, σ ++ [.lst []]) := by
    refine (show W (t_left ρ σ) (fun p => p = _) from ?_) |> fun ⟨p, a, b⟩ => a.trans (congrArg some b)
    exact w_lk hF.l (w_goO (ne_nil_ok hS.fl) (w_some (by simp)))
  obtain ⟨⟨f, ρ', σ'⟩, e1, e2, e3, e4⟩ : W (d_own (callN G (n + 3)) ρ (σ ++ [.lst []])) fun p => (p.1 = .next ∨ p.1 = .cont) ∧ OwF l b t p.2.1 ∧ OwS σ₀ l b t L' B' O' p.2.2 :=
    w_lk hF.l (w_meth (m_pop h1.fl) (pop_ok h1.fl _) (w_cn (sl_ne (by decide) hF.n1) (w_lk (sl_eq _ _ _) (w_go (hd _) (k _ (h1.setL a L))))))
  refine ⟨ρ', σ', ?_, e3, e4⟩
  rw [Nat.add_comm 1 m]
  refine (go_of t1).trans ?_
  show nextL _ _ = _
  rw [e1]
  rcases e2 with rfl | rfl <;> rfl
end
end Mine

end

noncomputable section
open PySem PySem.W PyProof.Rows
set_option Elab.async false
set_option maxRecDepth 100000
set_option linter.unusedVariables false
namespace Mine
section
variable {σ σ' σ₁ σ₂ σ₀ : Sto} {n : Nat} {x : Nm} {ρ : Loc} {l b t : Nat} {L : List AV} {B O : List Nm} {v : AV} {ps : List AV}
theorem extendT_ok {i : Nat} {l m : List AV} (h : σ[i]? = some (.lst l)) (hz : l.length + m.length ≤ 100000) (orc : Orc) : callV orc (.builtin "list.extend") [.ref i, .tup m] σ = some (.none, σ.set i (.lst (l ++ m))) := by
  exact (goO_of (lstAt_of h)).trans (pre_of (decide_eq_true hz))
theorem w_gI {β : Type} {P : β → Prop} {a : AV} {i : Nat} {k : AV → Option β} (e : getV a (.int i) σ = some v) (h : W (k v) P) : W (gI a i σ k) P := w_goO e h
theorem w_rev {β : Type} {P : β → Prop} {k : AV → Sto → Option β} (hz : ps.length ≤ 100000) (h : W (k (.tup ps.reverse) σ) P) : W (rev (.tup ps) σ k) P := w_pre (decide_eq_true hz) h

noncomputable abbrev OwP (σ₀ : Sto) (l b t : Nat) (L : List AV) (B O : List Nm) (p : Flw × Loc × Sto) : Prop := (p.1 = .next ∨ p.1 = .cont) ∧ OwF l b t p.2.1 ∧ OwS σ₀ l b t L B O p.2.2
theorem own_last_ok (a : Apart l b t) (hF : OwF l b t ρ) (hh : ρ.lookup ("here" : Str) = some v) (hS : OwS σ₀ l b t L B O σ) (hp : ∀ σ, callN G (n + 3) a_parts_of [v] σ = some (.tup ps, σ)) (hz : L.length + ps.length ≤ 100000) :
    W (own_last (callN G (n + 3)) ρ σ) (OwP σ₀ l b t (L ++ ps.reverse) B O) :=
  w_lk hF.l (w_goO (m_extend hS.fl) (w_cn hF.n7 (w_lk hh (w_go (hp _) (w_rev (by lia) (w_go (extendT_ok hS.fl (by simpa using hz) _) (w_some ⟨.inl rfl, hF, hS.setL a _⟩)))))))

inductive Ows (n : Nat) : List AV → List Nm → List Nm → Nat → Prop
  | nil : Ows n [] [] [] 0
  | cons : ∀ {v : AV} {bs os : List Nm} {k : Nat} {r : List AV} {bs' os' : List Nm} {k' : Nat}, Ow n v bs os k → Ows n r bs' os' k' → Ows n (v :: r) (bs ++ bs') (os ++ os') (k + k')
theorem Ows.le {bs os : List Nm} {k : Nat} (h : Ows n ps bs os k) : bs.length ≤ k ∧ os.length ≤ k ∧ ps.length ≤ k := by
  induction h with
  | nil => simp
  | cons h1 _ ih => have := h1.lb; have := h1.lo; have := h1.pos; simp; lia
theorem Ows.go {bs os : List Nm} {k : Nat} (h : Ows n ps bs os k) : ∀ {σ₀ l b t L B O ρ σ}, Apart l b t → OwF l b t ρ → OwS σ₀ l b t (L ++ ps.reverse) B O σ → L.length + k ≤ 50000 → B.length + k ≤ 50000 → O.length + k ≤ 50000 → ∀ m, OwAt n σ₀ l b t m k ρ σ L (B ++ bs) (O ++ os) := by
  induction h with
  | nil =>
    intro σ₀ l b t L B O ρ σ a hF hS _ _ _ m
    simp only [List.reverse_nil, List.append_nil] at hS ⊢
    exact ⟨ρ, σ, by rw [Nat.zero_add], hF, hS⟩
  | @cons v bs os k r bs' os' k' h1 h2 ih =>
    intro σ₀ l b t L B O ρ σ a hF hS z1 z2 z3 m
    rw [List.reverse_cons, ← List.append_assoc] at hS
    have := h2.le
    have := h1.lb
    have := h1.lo
    obtain ⟨ρ₁, σ₁, e1, hF1, hS1⟩ := (h1.go a hF hS (by simp; lia) (by lia) (by lia) (k' + m)).ex
    obtain ⟨ρ₂, σ₂, e2, hF2, hS2⟩ := (ih a hF1 hS1 (by lia) (by simp; lia) (by simp; lia) m).ex
    rw [List.append_assoc, List.append_assoc] at hS2
    exact ⟨ρ₂, σ₂, by rw [Nat.add_assoc, e1, e2], hF2, hS2⟩

theorem OwAt.trans {m k k' : Nat} {L' L'' : List AV} {B' O' B'' O'' : List Nm} (h : OwAt n σ₀ l b t (k' + m) k ρ σ L' B' O') (h2 : ∀ ρ' σ', OwF l b t ρ' → OwS σ₀ l b t L' B' O' σ' → OwAt n σ₀ l b t m k' ρ' σ' L'' B'' O'') : OwAt n σ₀ l b t m (k + k') ρ σ L'' B'' O'' := by
  obtain ⟨ρ₁, σ₁, e1, hF1, hS1⟩ := h.ex
  obtain ⟨ρ₂, σ₂, e2, hF2, hS2⟩ := (h2 _ _ hF1 hS1).ex
  exact ⟨ρ₂, σ₂, by rw [Nat.add_assoc, e1, e2], hF2, hS2⟩

theorem ow_node {h : Str} {bs os : List Nm} {k : Nat} (hd : ∀ σ, callN G (n + 3) a_head_of [v] σ = some (.str h, σ)) (hp : ∀ σ, callN G (n + 3) a_parts_of [v] σ = some (.tup ps, σ)) (H : Ows n ps bs os k)
    (g1 : inL (eqV 20) (.str h) (match vOPENING with | .tup l => l | _ => []) = some false) (g2 : eqV 60 (.str h) (.str "=") = some false) (g3 : inL (eqV 20) (.str h) (match vCHANGING with | .tup l => l | _ => []) = some false) (g4 : inL (eqV 20) (.str h) [.str "local", .str "global"] = some false) : Ow n v bs os (1 + k) where
  lb := by have := H.le; lia
  lo := by have := H.le; lia
  pos := by lia
  go := fun {σ₀ l b t L B O ρ σ} a hF hS z1 z2 z3 m => by
    have := H.le
    refine (ow_turn (m := k + m) a hF hS hd fun σ₁ hS1 => ?_).trans fun ρ' σ' hF' hS' => H.go a hF' hS' (by lia) (by lia) (by lia) m
    have hF1 : OwF l b t (Mine.setL (Mine.setL ρ "here" v) "head" (.str h)) := (hF.set (.inl rfl)).set (.inr (.inl rfl))
    have hH := sl_eq (Mine.setL ρ "here" v) "head" (.str h)
    exact w_lk hH (w_gk hF1.n3 (w_goO g1 (w_f (w_lk hH (w_goO g2 (w_f (w_lk hH (w_gk hF1.n4 (w_goO g3 (w_f (w_lk hH (w_goO g4 (w_f (own_last_ok a hF1 (sl_ne (by decide) (sl_eq _ _ _)) hS1 hp (by lia)))))))))))))))
theorem ow_open {h : Str} (hd : ∀ σ, callN G (n + 3) a_head_of [v] σ = some (.str h, σ)) (g1 : inL (eqV 20) (.str h) (match vOPENING with | .tup l => l | _ => []) = some true) : Ow n v [] [] 1 where
  lb := by simp
  lo := by simp
  pos := by lia
  go := fun {σ₀ l b t L B O ρ σ} a hF hS z1 z2 z3 m => by
    simp only [List.append_nil]
    refine (ow_turn (m := m) a hF hS hd fun σ₁ hS1 => ?_)
    have hF1 : OwF l b t (Mine.setL (Mine.setL ρ "here" v) "head" (.str h)) := (hF.set (.inl rfl)).set (.inr (.inl rfl))
    exact w_lk (sl_eq _ _ _) (w_gk hF1.n3 (w_goO g1 (w_t (w_some ⟨.inr rfl, hF1, hS1⟩))))
theorem ow_asg {bs os : List Nm} {k : Nat} {q : AV} (H : Ows n [nmV x, q] bs os k) : Ow n (ex "=" [nmV x, q]) (x :: bs) os (1 + k) where
  lb := by have := H.le; simp; lia
  lo := by have := H.le; lia
  pos := by lia
  go := fun {σ₀ l b t L B O ρ σ} a hF hS z1 z2 z3 m => by
    have := H.le
    have e : B ++ x :: bs = (B ++ [x]) ++ bs := by simp
    rw [e]
    refine (ow_turn (m := k + m) (h := "=") a hF hS (fun σ => by kernel_rfl) fun σ₁ hS1 => ?_).trans fun ρ' σ' hF' hS' => H.go a hF' hS' (by lia) (by simp; lia) (by lia) m
    have hF1 : OwF l b t (Mine.setL (Mine.setL ρ "here" (ex "=" [nmV x, q])) "head" (.str "=")) := (hF.set (.inl rfl)).set (.inr (.inl rfl))
    have hh : (Mine.setL (Mine.setL ρ "here" (ex "=" [nmV x, q])) "head" (.str "=")).lookup ("here" : Str) = some (ex "=" [nmV x, q]) := sl_ne (by decide) (sl_eq _ _ _)
    refine w_lk (sl_eq _ _ _) (w_gk hF1.n3 (w_goO (b := false) (by kernel_rfl) (w_f (w_lk (sl_eq _ _ _) (w_goO (b := true) (by kernel_rfl) (w_t ?_))))))
    obtain ⟨j, σ₂, e2, k2, lj, hj⟩ := place_ok (n + 1) x σ₁
    have hS2 := hS1.kp0 k2
    exact w_lk hF1.b (w_goO (m_extend hS1.fb) (w_cn hF1.n5 (w_lk hh (w_go e2 (w_go (extend_ok hS2.fb hj (by unfold nms; simp; lia) _) (own_last_ok a hF1 hh (hS2.setB a x) (fun σ => by kernel_rfl) (by simp; lia)))))))
theorem and_eq_true_l {a b : Bool} (h : (a && b) = true) : a = true := by cases a with | true => rfl | false => cases h
theorem own_nofree : ∀ q ∈ sc_own.names, q.2 ≠ NameKind.free := by decide
theorem told_ok {h : Str} {i : Nat} (a : Apart l b t) (hF : OwF l b t ρ) (hh : ρ.lookup ("here" : Str) = some (ex0 h x)) (hS : OwS σ₀ l b t L B O σ) (ht : ρ.lookup ("told" : Str) = some (.ref i)) {B' O' : List Nm} {M : List AV} (hi : σ[i]? = some (.lst M)) (zM : M.length < 50000) (zL : L.length < 50000)
    (hS' : ∀ σ, OwS σ₀ l b t L B O σ → OwS σ₀ l b t L B' O' (σ.set i (.lst (M ++ [.str x.s])))) : W (own_told (callN G (n + 3)) σ ρ) (OwP σ₀ l b t L B' O') := by
  obtain ⟨j, σ₂, e2, k2, lj, hj⟩ := decl_ok n h x σ
  refine w_lk ht (w_goO (m_extend hi) (w_cn hF.n6 (w_lk hh (w_go e2 (w_go (extend_ok (k2.keep _ _ hi (by simp)) hj (by simp; lia) _) ?_)))))
  have h3 := hS' _ (hS.kp0 k2)
  refine w_lk hF.l (w_goO (m_extend h3.fl) (w_lk hh ?_))
  have h4 := h3.kp0 (.app [.lst []])
  have hc : compL "part" (fun ρ σ => cn ρ "is_expr" a_is_expr fun g => lk ρ "part" fun p => go (callV (callN G (n + 3)) g [p, .str "="] σ) fun r σ => asB r fun b => some (b, σ))
      (fun ρ σ => lk ρ "part" fun p => gI p 2 σ fun x => gI x 1 σ fun y => some (y, σ)) [nmV x] (capt sc_own F_own_names.fd.scope ρ) (σ₂.set i (.lst (M ++ [.str x.s]))) = some ([], σ₂.set i (.lst (M ++ [.str x.s]))) := by
    have : capt sc_own F_own_names.fd.scope ρ = [] := by
      unfold capt
      rw [List.filter_eq_nil_iff]
      intro p _ q
      have q1 := beq_iff_eq.mp (and_eq_true_l q)
      exact own_nofree _ (mem_of_lookup' q1) rfl
    rw [this]
    kernel_rfl
  refine w_gI (v := .tup [nmV x]) (by kernel_rfl) (w_rev (by simp) ?_)
  refine (w_asT (w_pre (by rfl) (w_go hc ?_)))
  have := extend_ok (l := L) (m := []) h4.fl at_end (by simp; lia) (callN G (n + 3))
  refine w_go this (w_some ⟨.inr rfl, hF, ?_⟩)
  have h5 := h4.setL a (L ++ [])
  rw [List.append_nil] at h5 ⊢
  exact h5
theorem ow_loc : Ow n (ex0 "local" x) [x] [] 1 where
  lb := by simp
  lo := by simp
  pos := by lia
  go := fun {σ₀ l b t L B O ρ σ} a hF hS z1 z2 z3 m => by
    rw [List.append_nil]
    refine (ow_turn (m := m) (h := "local") a hF hS (fun σ => by kernel_rfl) fun σ₁ hS1 => ?_)
    have hF1 : OwF l b t (Mine.setL (Mine.setL ρ "here" (ex0 "local" x)) "head" (.str "local")) := (hF.set (.inl rfl)).set (.inr (.inl rfl))
    have hh : (Mine.setL (Mine.setL ρ "here" (ex0 "local" x)) "head" (.str "local")).lookup ("here" : Str) = some (ex0 "local" x) := sl_ne (by decide) (sl_eq _ _ _)
    refine w_lk (sl_eq _ _ _) (w_gk hF1.n3 (w_goO (b := false) (by kernel_rfl) (w_f (w_lk (sl_eq _ _ _) (w_goO (b := false) (by kernel_rfl) (w_f (w_lk (sl_eq _ _ _) (w_gk hF1.n4 (w_goO (b := false) (by kernel_rfl) (w_f ?_))))))))))
    refine w_lk (sl_eq _ _ _) (w_goO (b := true) (by kernel_rfl) (w_t (w_lk (sl_eq _ _ _) (w_goO (b := true) (by kernel_rfl) (w_t (w_lk hF1.b ?_))))))
    exact told_ok (h := "local") a (hF1.set (.inr (.inr rfl))) (sl_ne (by decide) hh) hS1 (sl_eq _ _ _) hS1.fb (by unfold nms; simp; lia) (by lia) fun σ h => h.setB a x
theorem ow_glb : Ow n (ex0 "global" x) [] [x] 1 where
  lb := by simp
  lo := by simp
  pos := by lia
  go := fun {σ₀ l b t L B O ρ σ} a hF hS z1 z2 z3 m => by
    rw [List.append_nil]
    refine (ow_turn (m := m) (h := "global") a hF hS (fun σ => by kernel_rfl) fun σ₁ hS1 => ?_)
    have hF1 : OwF l b t (Mine.setL (Mine.setL ρ "here" (ex0 "global" x)) "head" (.str "global")) := (hF.set (.inl rfl)).set (.inr (.inl rfl))
    have hh : (Mine.setL (Mine.setL ρ "here" (ex0 "global" x)) "head" (.str "global")).lookup ("here" : Str) = some (ex0 "global" x) := sl_ne (by decide) (sl_eq _ _ _)
    refine w_lk (sl_eq _ _ _) (w_gk hF1.n3 (w_goO (b := false) (by kernel_rfl) (w_f (w_lk (sl_eq _ _ _) (w_goO (b := false) (by kernel_rfl) (w_f (w_lk (sl_eq _ _ _) (w_gk hF1.n4 (w_goO (b := false) (by kernel_rfl) (w_f ?_))))))))))
    refine w_lk (sl_eq _ _ _) (w_goO (b := true) (by kernel_rfl) (w_t (w_lk (sl_eq _ _ _) (w_goO (b := false) (by kernel_rfl) (w_f (w_lk hF1.t ?_))))))
    exact told_ok (h := "global") a (hF1.set (.inr (.inr rfl))) (sl_ne (by decide) hh) hS1 (sl_eq _ _ _) hS1.ft (by unfold nms; simp; lia) (by lia) fun σ h => h.setO a x
end
end Mine

end

noncomputable section
open PySem PySem.W PyProof.Rows
set_option Elab.async false
set_option maxRecDepth 100000
set_option linter.unusedVariables false
namespace Mine
section
variable {σ σ' σ₁ σ₂ σ₀ : Sto} {n : Nat} {x : Nm} {ρ : Loc} {l b t : Nat} {L : List AV} {B O : List Nm} {v : AV} {ps : List AV}
theorem ow_sym (s : AV) : Ow n (.tup [.str "sym", s]) [] [] 1 := ow_node (h := "") (ps := []) (fun σ => by kernel_rfl) (fun σ => by kernel_rfl) .nil (by decide) (by decide) (by decide) (by decide)
theorem Ow.cast {bs os bs' os' : List Nm} {k : Nat} (h : Ow n v bs os k) (e : bs = bs') (e' : os = os') : Ow n v bs' os' k := by subst e e'; exact h
theorem ow_ok : ∀ t : Tr, ∃ k, k ≤ 8 * t.sz ∧ Ow n t.av t.bnd t.out k := by
  intro t
  induction t with
  | sym x => exact ⟨1, by simp [Tr.sz], ow_sym _⟩
  | one => exact ⟨1, by simp [Tr.sz], ow_node (h := "") (ps := []) (fun σ => by kernel_rfl) (fun σ => by kernel_rfl) .nil (by decide) (by decide) (by decide) (by decide)⟩
  | loc x => exact ⟨1, by simp [Tr.sz], ow_loc⟩
  | glb x => exact ⟨1, by simp [Tr.sz], ow_glb⟩
  | esc t _ => exact ⟨1, by simp [Tr.sz]; lia, ow_open (h := "escape") (fun σ => by kernel_rfl) (by decide)⟩
  | lt x t b _ _ => exact ⟨1, by simp [Tr.sz]; lia, ow_open (h := "let") (fun σ => by kernel_rfl) (by decide)⟩
  | fr x t b _ _ => exact ⟨1, by simp [Tr.sz]; lia, ow_open (h := "for") (fun σ => by kernel_rfl) (by decide)⟩
  | arr x b _ => exact ⟨1, by simp [Tr.sz]; lia, ow_open (h := "->") (fun σ => by kernel_rfl) (by decide)⟩
  | fn x t b _ _ => exact ⟨1, by simp [Tr.sz]; lia, ow_open (h := "function") (fun σ => by kernel_rfl) (by decide)⟩
  | wh t b _ _ => exact ⟨1, by simp [Tr.sz]; lia, ow_open (h := "while") (fun σ => by kernel_rfl) (by decide)⟩
  | asg x t ih =>
    obtain ⟨k, hk, h⟩ := ih
    exact ⟨_, by simp only [Tr.sz]; lia, (ow_asg (x := x) (.cons (ow_sym _) (.cons h .nil))).cast (congrArg (x :: ·) (List.append_nil _)) (List.append_nil _)⟩
  | dot t x ih =>
    obtain ⟨k, hk, h⟩ := ih
    exact ⟨_, by simp only [Tr.sz]; lia, (ow_node (h := ".") (ps := [t.av, nmV x]) (fun σ => by kernel_rfl) (fun σ => by kernel_rfl) (.cons h (.cons (ow_sym _) .nil)) (by decide) (by decide) (by decide) (by decide)).cast (List.append_nil _) (List.append_nil _)⟩
  | blk p q r ip iq ir =>
    obtain ⟨k1, h1, g1⟩ := ip
    obtain ⟨k2, h2, g2⟩ := iq
    obtain ⟨k3, h3, g3⟩ := ir
    exact ⟨_, by simp only [Tr.sz]; lia, (ow_node (h := "block") (ps := [p.av, q.av, r.av]) (fun σ => by kernel_rfl) (fun σ => by kernel_rfl) (.cons g1 (.cons g2 (.cons g3 .nil))) (by decide) (by decide) (by decide) (by decide)).cast
      (congrArg (p.bnd ++ ·) (congrArg (q.bnd ++ ·) (List.append_nil _))) (congrArg (p.out ++ ·) (congrArg (q.out ++ ·) (List.append_nil _)))⟩
  | call x t u it iu =>
    obtain ⟨k1, h1, g1⟩ := it
    obtain ⟨k2, h2, g2⟩ := iu
    have a1 := ow_node (n := n) (v := ex "kw" [nmV x, t.av]) (h := "kw") (ps := [nmV x, t.av]) (fun σ => by kernel_rfl) (fun σ => by kernel_rfl) (.cons (ow_sym _) (.cons g1 .nil)) (by decide) (by decide) (by decide) (by decide)
    have a2 := ow_node (n := n) (v := ex "parameters" [ex "kw" [nmV x, t.av]]) (h := "parameters") (ps := [ex "kw" [nmV x, t.av]]) (fun σ => by kernel_rfl) (fun σ => by kernel_rfl) (.cons a1 .nil) (by decide) (by decide) (by decide) (by decide)
    have a3 := ow_node (n := n) (v := (Tr.call x t u).av) (h := "call") (ps := [.tup [.str "sym", .str "f"], ex "parameters" [ex "kw" [nmV x, t.av]], u.av]) (fun σ => by kernel_rfl) (fun σ => by kernel_rfl) (.cons (ow_sym _) (.cons a2 (.cons g2 .nil))) (by decide) (by decide) (by decide) (by decide)
    simp only [List.append_nil, List.nil_append] at a3
    exact ⟨_, by simp only [Tr.sz]; lia, a3⟩

theorem own_ok {t : Tr} (hz : t.sz ≤ 5000) {ts : Nat} (hts : σ[ts]? = some (.lst [t.av])) : ∃ b o σ', callN G (n + 4) a_own_names [.ref ts] σ = some (.tup [.ref b, .ref o], σ') ∧ Kp [] σ σ' ∧ σ.length ≤ b ∧ σ.length ≤ o ∧ σ'[b]? = some (.lst (nms t.bnd)) ∧ σ'[o]? = some (.lst (nms t.out)) := by
  have u : callN G (n + 4) a_own_names [.ref ts] σ = s_own_names (callN G (n + 3)) (.ref ts) σ := by kernel_rfl
  obtain ⟨k, hk, H⟩ := ow_ok (n := n) t
  let S1 := σ ++ [Cell.lst []] ++ [Cell.lst []]
  have e1 : tyV "list" [.ref ts] S1 = some (.ref S1.length, S1 ++ [.lst [t.av]]) := by
    exact goO_of (lstAt_of (at_old (at_old hts _) _))
  let S2 := S1 ++ [Cell.lst [t.av]]
  let S3 := S2 ++ [Cell.lst [t.av]]
  have l1 : (σ ++ [Cell.lst []]).length = σ.length + 1 := by simp
  have l2 : S1.length = σ.length + 2 := by simp [S1]
  have l3 : S2.length = σ.length + 3 := by simp [S2, S1]
  have a : Apart S2.length σ.length (σ ++ [Cell.lst []]).length := ⟨by lia, by lia, by lia⟩
  have hF : OwF S2.length σ.length (σ ++ [Cell.lst []]).length [("trees", .ref ts), ("bound", .ref σ.length), ("told_global", .ref (σ ++ [Cell.lst []]).length), ("left", .ref S2.length)] := ⟨by rfl, by rfl, by rfl, by rfl, by rfl, by rfl, by rfl, by rfl, by rfl, by rfl⟩
  have hS : OwS σ S2.length σ.length (σ ++ [Cell.lst []]).length ([] ++ [t.av]) [] [] S3 := ⟨at_end, at_old (at_old (at_old at_end _) _) _, at_old (at_old at_end _) _, (((Kp.app _).trans (.app _)).trans (.app _)).trans (.app _)⟩
  obtain ⟨ρ', σ', e2, hF2, hS2⟩ := (H.go a hF hS (by simp; lia) (by simp; lia) (by simp; lia) (100000 - k)).ex
  rw [show k + (100000 - k) = 100000 by lia] at e2
  have t1 : t_left ρ' σ' = some (false, σ' ++ [.lst []]) := by
    refine (show W (t_left ρ' σ') (fun p => p = _) from ?_) |> fun ⟨p, a, b⟩ => a.trans (congrArg some b)
    exact w_lk hF2.l (w_goO (ne_nil_ok hS2.fl) (w_some (by simp)))
  have e3 : whileL t_left (d_own (callN G (n + 3))) (100000 - k) ρ' σ' = some (.next, ρ', σ' ++ [.lst []]) := by
    rw [show 100000 - k = (99999 - k) + 1 by lia]
    exact go_of t1
  refine ⟨σ.length, (σ ++ [Cell.lst []]).length, σ' ++ [.lst []], ?_, ?_, Nat.le_refl _, by lia, at_old hS2.fb _, at_old hS2.ft _⟩
  · rw [u]
    refine (show W (s_own_names _ _ _) (fun p => p = _) from ?_) |> fun ⟨p, a, b⟩ => a.trans (congrArg some b)
    exact w_go e1 (w_goO (b := [t.av]) (lstAt_of at_end) (w_aft (e2.trans e3) (w_lk hF2.b (w_lk hF2.t (w_some rfl)))))
  · exact ((hS2.kp.drop (by lia)).drop (Nat.le_refl _)).drop (by lia) |>.trans (.app _)
end
end Mine

end

noncomputable section
open PySem PySem.W PyProof.Rows
set_option Elab.async false
set_option maxRecDepth 100000
set_option linter.unusedVariables false
namespace Mine
noncomputable def nmk (x : Nm) (n : Nat) : Str := if n = 0 then x.s else (x.s ++ "#") ++ Str.ofString (toString ((n : Nat) : Int))
noncomputable def lvP (x : Nm) (n : Nat) : AV := .str (nmk x n)
noncomputable abbrev EnvP := EnvG lvP
noncomputable def attrHead (c : Option Cell) : Str := match c with
  | some (.attrs l) => match l with
    | p :: _ => p.1
    | [] => ""
  | _ => ""
/-- the renamer, its supply, and how many names were given -/
structure PS (i di p dp : Nat) (s : Nat) (σ : Sto) : Prop where
  h1 : σ[i]? = some (.inst c_R di)
  h2 : σ[di]? = some (.attrs [("supply", .ref p)])
  h3 : σ[p]? = some (.inst c_S dp)
  h4 : σ[dp]? = some (.attrs [("many", .int s)])
section
variable {σ σ' σ₁ σ₂ σ₀ : Sto} {n : Nat} {x : Nm} {ρ : Loc} {i di p dp s s' e : Nat} {E : En}
theorem PS.ne1 (h : PS i di p dp s σ) : i ∉ [dp] := not1 fun q => by have := h.h1; rw [q, h.h4] at this; cases this
theorem PS.ne2 (h : PS i di p dp s σ) : di ∉ [dp] := not1 fun q => by have := h.h2; rw [q, h.h4] at this; exact absurd (congrArg attrHead this) (show ¬ ("many" : Str) = "supply" by decide)
theorem PS.ne3 (h : PS i di p dp s σ) : p ∉ [dp] := not1 fun q => by have := h.h3; rw [q, h.h4] at this; cases this
theorem PS.kp0 (h : PS i di p dp s σ) (k : Kp [] σ σ') : PS i di p dp s σ' := ⟨k.keep _ _ h.h1 (by simp), k.keep _ _ h.h2 (by simp), k.keep _ _ h.h3 (by simp), k.keep _ _ h.h4 (by simp)⟩
theorem PS.kpd {j : Nat} (h : PS i di p dp s σ) (k : Kp [j] σ σ') (h5 : (∃ l, σ[j]? = some (.lst l)) ∨ (∃ l, dctS σ j = some l)) : PS i di p dp s σ' := by
  have key : ∀ {a c}, σ[a]? = some c → (∀ l, c ≠ .lst l) → dictOfS c = none → a ∉ [j] := fun {a c} ha h1 h2 => not1 fun q => by
    subst q
    rcases h5 with ⟨l, h5⟩ | ⟨l, h5⟩
    · rw [ha] at h5; exact h1 l (Option.some.inj h5)
    · obtain ⟨c', e, h5⟩ := goO_inv h5; rw [ha] at e; cases e; rw [h2] at h5; cases h5
  exact ⟨k.keep _ _ h.h1 (key h.h1 (fun l e => by cases e) rfl), k.keep _ _ h.h2 (key h.h2 (fun l e => by cases e) rfl), k.keep _ _ h.h3 (key h.h3 (fun l e => by cases e) rfl), k.keep _ _ h.h4 (key h.h4 (fun l e => by cases e) rfl)⟩
theorem PS.m (h : PS i di p dp s σ) {name : Str} {f : Addr} (hm : G.meth.lookup (c_R, name) = some f) (hn : ¬ "supply" = name) : methV G (.ref i) name σ = some (.ref f) := by
  exact (goO_of h.h1).trans ((goO_of h.h2).trans ((optG_no (show dlook [(("supply" : Str), AV.ref p)] name = none by simp [dlook, hn])).trans (goO_of hm)))
theorem ne_ps (h : EnvP σ e E) (k : PS i di p dp s σ) : e ∉ [dp] := not1 fun q => by
  obtain ⟨l, h1, _⟩ := h.ex
  subst q
  obtain ⟨c, e, h1⟩ := goO_inv h1
  rw [k.h4] at e; cases e; cases h1
theorem repr_len {n : Nat} (h : n < 1000000) : (Str.ofString n.repr).length ≤ 6 := by
  rw [Str.ofString_eq_toList]
  show (n.repr.toList.map Char.toNat).toArray.size ≤ 6
  simp only [List.size_toArray, List.length_map, String.length_toList]
  exact (Nat.length_repr_le_iff (by lia)).mpr h
theorem split_nm : Txt.split x.s "#" = [x.s] := by cases x <;> decide +kernel
theorem next_ok (h : PS i di p dp s σ) (hz : s < 100000) : ∃ σ', callN G (n + 1) a_S_next [.ref p, .str x.s] σ = some (.str (nmk x (s + 1)), σ') ∧ Kp [dp] σ σ' ∧ PS i di p dp (s + 1) σ' := by
  have u : callN G (n + 1) a_S_next [.ref p, .str x.s] σ = s_S_next (callN G n) (.ref p) (.str x.s) σ := by kernel_rfl
  have at1 : ∀ σ m, σ[p]? = some (.inst c_S dp) → σ[dp]? = some (.attrs [("many", .int m)]) → attrV G (.ref p) "many" σ = some (.int m) := fun σ m h1 h2 => by
    exact (goO_of (inst_at h1 h2)).trans (by kernel_rfl)
  have at2 : setAttrV G (.ref p) "many" (.int ((s : Int) + 1)) σ = some (σ.set dp (.attrs [("many", .int ((s : Int) + 1))])) := by
    exact (goO_of (inst_at h.h3 h.h4)).trans (by kernel_rfl)
  have k1 : Kp [dp] σ (σ.set dp (.attrs [("many", .int ((s : Int) + 1))])) := .set (by simp)
  have g4 : (σ.set dp (.attrs [("many", .int ((s : Int) + 1))]))[dp]? = some (.attrs [("many", .int ((s : Int) + 1))]) := at_set (lt_of_at h.h4)
  have g3 := k1.keep _ _ h.h3 h.ne3
  have es : callV (callN G n) (.builtin "str.split") [.str x.s, .str "#"] (σ.set dp (.attrs [("many", .int ((s : Int) + 1))])) = some (.ref (σ.set dp (.attrs [("many", .int ((s : Int) + 1))])).length, σ.set dp (.attrs [("many", .int ((s : Int) + 1))]) ++ [Cell.lst [AV.str x.s]]) := by
    show pre _ (some (AV.ref _, _ ++ [Cell.lst ((Txt.split x.s "#").map AV.str)])) = _
    rw [split_nm]
    cases x <;> rfl
  refine ⟨_, ?_, k1.trans (.app [Cell.lst [AV.str x.s]]), ⟨at_old (k1.keep _ _ h.h1 h.ne1) _, at_old (k1.keep _ _ h.h2 h.ne2) _, at_old g3 _, at_old g4 _⟩⟩
  rw [u]
  refine (show W (s_S_next _ _ _ _) (fun p => p = _) from ?_) |> fun ⟨p, a, b⟩ => a.trans (congrArg some b)
  refine w_goO (at1 _ _ h.h3 h.h4) (w_go (b := .int ((s : Int) + 1)) (σ := σ) rfl (w_goO at2 (w_goO (b := .builtin "str.split") rfl (w_go es ?_))))
  refine w_gI (v := .str x.s) ?_ ?_
  · exact (optG_of (lstAt_of at_end)).trans rfl
  refine w_go (b := .str (x.s ++ "#")) (σ := σ.set dp (.attrs [("many", .int ((s : Int) + 1))]) ++ [Cell.lst [AV.str x.s]]) (by cases x <;> rfl) (w_goO (at1 _ _ (at_old g3 _) (at_old g4 _)) ?_)
  refine w_go (b := .str (Str.ofString (toString ((s : Int) + 1)))) (σ := σ.set dp (.attrs [("many", .int ((s : Int) + 1))]) ++ [Cell.lst [AV.str x.s]]) ?_ ?_
  · show pre (decide _) _ = _
    have : ((s : Int) + 1).natAbs < 1000000 := by lia
    simp [pre, this]
  · refine w_go (b := .str (nmk x (s + 1))) (σ := σ.set dp (.attrs [("many", .int ((s : Int) + 1))]) ++ [Cell.lst [AV.str x.s]]) ?_ (w_some rfl)
    show pre (decide ((x.s ++ ("#" : Str)).length + (Str.ofString (toString ((s : Int) + 1))).length ≤ 100000)) (some (AV.str ((x.s ++ "#") ++ Str.ofString (toString ((s : Int) + 1))), _)) = _
    have a1 : (x.s ++ ("#" : Str)).length = 2 := by cases x <;> rfl
    have a2 := repr_len (n := s + 1) (by lia)
    have a3 : toString ((s : Int) + 1) = (s + 1).repr := rfl
    rw [a1, a3, decide_eq_true (by lia)]
    unfold nmk
    rw [if_neg (by lia)]; rfl
end
end Mine

end

noncomputable section
open PySem PySem.W PyProof.Rows
set_option Elab.async false
set_option maxRecDepth 100000
set_option linter.unusedVariables false
namespace Mine
section
variable {σ σ' σ₁ σ₂ σ₀ : Sto} {n : Nat} {x : Nm} {ρ : Loc} {i di p dp s s' s1 s2 e : Nat} {E : En} {w w' t b v : AV} {d D : Int}
theorem PS.sup (h : PS i di p dp s σ) : attrV G (.ref i) "supply" σ = some (.ref p) := by
  exact (goO_of (inst_at h.h1 h.h2)).trans (by kernel_rfl)
theorem PS.nxt (h : PS i di p dp s σ) : methV G (.ref p) "next" σ = some (.ref a_S_next) := by
  exact (goO_of h.h3).trans ((goO_of h.h4).trans (by kernel_rfl))
/-- the loop of fresh -/
structure FrInv (i di p dp e' j : Nat) (xs : List Nm) (F' : En) (s' : Nat) (σ₀ : Sto) (r : List AV) (ρ : Loc) (σ : Sto) : Prop where
  ex : ∃ ys F s, r = nms ys ∧ EnvP σ e' F ∧ PS i di p dp s σ ∧ s + ys.length = s' ∧ putNew F ys s = F'
  hj : σ[j]? = some (.lst (nms xs))
  kp : Kp [dp] σ₀ σ
  r1 : ρ.lookup ("self" : Str) = some (.ref i)
  r2 : ρ.lookup ("found" : Str) = some (.ref e')
theorem PS.notlst {j : Nat} {l : List AV} (h : PS i di p dp s σ) (k : σ[j]? = some (.lst l)) : j ∉ [dp] := not1 fun q => by subst q; rw [h.h4] at k; cases k
theorem fresh_ok (hP : PS i di p dp s σ) (hE : EnvP σ e E) {j : Nat} {xs : List Nm} (hj : σ[j]? = some (.lst (nms xs))) (hb : s + xs.length ≤ 50000) :
    ∃ e' σ', callN G (n + 2) a_R_fresh [.ref i, .ref e, .ref j] σ = some (.ref e', σ') ∧ σ.length ≤ e' ∧ Kp [dp] σ σ' ∧ EnvP σ' e' (putNew E xs s) ∧ PS i di p dp (s + xs.length) σ' := by
  have u : callN G (n + 2) a_R_fresh [.ref i, .ref e, .ref j] σ = s_R_fresh (callN G (n + 1)) (.ref i) (.ref e) (.ref j) σ := by kernel_rfl
  obtain ⟨l, e1, hE1⟩ := dict_new hE
  have k1 : Kp [] σ (σ ++ [.sdct l]) := .app _
  have hjl := lt_of_at hj
  obtain ⟨ρ', σ', e4, q⟩ := forR_list (y := "name") (bod := d_fresh (callN G (n + 1))) (j := j) (l := nms xs)
    (FrInv i di p dp σ.length j xs (putNew E xs s) (s + xs.length) σ) (fun r ρ σ h => h.hj) (fun v r ρ σ₁ h => by
      obtain ⟨ys, F, s₁, e2, hF, hP1, hlen, hput⟩ := h.ex
      cases ys with
      | nil => cases e2
      | cons y ys =>
      cases e2
      simp only [List.length_cons] at hlen
      obtain ⟨σ₂, e3, k2, hP2⟩ := next_ok (n := n) (x := y) hP1 (by lia)
      obtain ⟨c, e5, hF2⟩ := (hF.kp k2 (ne_ps hF hP1)).put (x := y) (n := s₁ + 1)
      have hj2 := k2.keep _ _ h.hj (hP1.notlst h.hj)
      have k3 : Kp [σ.length] σ₂ (σ₂.set σ.length c) := .set (by simp)
      refine W.outN ?_
      refine w_lk (sl_ne (by decide) h.r1) (w_goO hP1.sup (w_goO hP1.nxt (w_lk (sl_eq _ _ _) (w_go e3 (w_lk (sl_ne (by decide) h.r2) (w_lk (sl_eq _ _ _) (w_goO e5 (w_some ⟨rfl, ?_⟩))))))))
      exact ⟨⟨ys, _, s₁ + 1, rfl, hF2, hP2.kpd k3 (.inr (let ⟨l, a, _⟩ := (hF.kp k2 (ne_ps hF hP1)).ex; ⟨l, a⟩)), by lia, hput⟩, k3.keep _ _ hj2 (not1 (Nat.ne_of_lt hjl)), (h.kp.trans k2).old (k3.mono (by simp)) (Nat.le_refl _), sl_ne (by decide) h.r1, sl_ne (by decide) h.r2⟩)
    100000 0 [("self", .ref i), ("env", .ref e), ("names", .ref j), ("found", .ref σ.length)] _ ⟨⟨xs, E, s, rfl, hE1, hP.kp0 k1, rfl, rfl⟩, at_old hj _, k1.nil, by rfl, by rfl⟩ (by unfold nms; simp; lia)
  obtain ⟨ys, F, s₁, e5, hF, hP1, hlen, hput⟩ := q.ex
  cases ys with
  | cons y ys => cases e5
  | nil =>
  have hput : F = putNew E xs s := hput
  have hlen : s₁ = s + xs.length := hlen
  subst hput hlen
  refine ⟨σ.length, σ', ?_, Nat.le_refl _, q.kp, hF, hP1⟩
  rw [u]
  refine (show W (s_R_fresh _ _ _ _ _) (fun p => p = _) from ?_) |> fun ⟨p, a, b⟩ => a.trans (congrArg some b)
  exact w_go e1 (w_loopR e4 (w_lk q.r2 (w_some rfl)))

/-! opened -/
structure FrO (i e b o f : AV) (ρ : Loc) : Prop where
  s : ρ.lookup ("self" : Str) = some i
  e : ρ.lookup ("env" : Str) = some e
  o : ρ.lookup ("told_global" : Str) = some o
  f : ρ.lookup ("fresh" : Str) = some f
theorem FrO.set {i e b o f v : AV} {y : Str} (h : FrO i e b o f ρ) (hy : y = "name" ∨ y = "found") : FrO i e b o f (setL ρ y v) := by
  rcases hy with rfl | rfl <;> exact ⟨sl_ne (by decide) h.s, sl_ne (by decide) h.e, sl_ne (by decide) h.o, sl_ne (by decide) h.f⟩
theorem op1 {orc : Orc} {i' e' b o : AV} {f : Nat} {y : Nm} {out acc : List Nm} {j : Nat} {ce : Nat} (he : e' = .ref ce) (ho : o = .ref j) (hF : FrO i' e' b o (.ref f) ρ) (hE : EnvP σ ce E) (h1 : σ[j]? = some (.lst (nms out))) (hf : σ[f]? = some (.lst (nms acc))) (hz : acc.length < 50000) :
    d_op1 orc (setL ρ "name" (.str y.s)) σ = some (.next, setL ρ "name" (.str y.s), if fresh1 E out acc y = true then σ.set f (.lst (nms acc ++ [.str y.s])) else σ) := by
  subst he ho
  have hF := hF.set (y := "name") (v := .str y.s) (.inl rfl)
  have hN : (setL ρ "name" (.str y.s)).lookup ("name" : Str) = some (.str y.s) := sl_eq _ _ _
  refine (show W (d_op1 _ _ _) (fun p => p = _) from ?_) |> fun ⟨p, a, b⟩ => a.trans (congrArg some b)
  unfold fresh1
  refine w_lk hN (w_lk hF.e (w_goO (env_in hE) ?_))
  cases (E y).isNone with
  | false => exact w_some rfl
  | true =>
  refine w_lk hN (w_lk hF.f (w_goO (lst_notin hf) ?_))
  cases acc.contains y with
  | true => exact w_some (by simp)
  | false =>
  refine w_lk hN (w_lk hF.o (w_goO (lst_notin h1) ?_))
  cases out.contains y with
  | true => exact w_some rfl
  | false => exact w_lk hF.f (w_goO (m_append hf) (w_lk hN (w_go (append_ok hf (by unfold nms; simp; lia) _) (w_some rfl))))
theorem opened_ok {t : Tr} (hz : t.sz ≤ 5000) (hP : PS i di p dp s σ) (hE : EnvP σ e E) {ts : Nat} (hts : σ[ts]? = some (.lst [t.av])) (hb : s + t.bnd.length ≤ 50000) :
    ∃ e' σ', callN G (n + 5) a_R_opened [.ref i, .ref e, .ref ts] σ = some (.ref e', σ') ∧ Kp [dp] σ σ' ∧ EnvP σ' e' (opE E t s) ∧ PS i di p dp (opN E t s) σ' := by
  have z1 : t.bnd.length ≤ 50000 := by have := t.wt_le; lia
  have z2 : t.out.length ≤ 50000 := by have := t.out_le; lia
  have z3 : s + (frs E t.out t.bnd []).length ≤ 50000 := by have := frs_len E t.out t.bnd []; simp at this; lia
  obtain ⟨b, o, σ₁, e1, k1, lb, lo, hb1, ho1⟩ := own_ok (n := n) hz hts
  have hE1 := hE.kp k1 (by simp)
  have hP1 := hP.kp0 k1
  have hlb := lt_of_at hb1
  have hlo := lt_of_at ho1
  have kf : Kp [σ₁.length] σ₁ (σ₁ ++ [.lst []]) := .app _
  have kf0 : Kp [] σ₁ (σ₁ ++ [.lst []]) := .app _
  obtain ⟨ρ₂, σ₂, e2, i2⟩ := new_loop (σ := σ₁ ++ [.lst []]) (E := E) (out := t.out) (l := t.bnd) (b := b) (f := σ₁.length) (bod := d_op1 (callN G (n + 4))) (F := FrO (.ref i) (.ref e) (.ref b) (.ref o) (.ref σ₁.length)) (ρ := setL (setLs [("self", .ref i), ("env", .ref e), ("trees", .ref ts)] ["bound", "told_global"] [.ref b, .ref o]) "fresh" (.ref σ₁.length))
    (fun ρ v h => h.set (.inl rfl)) (not1 (Nat.ne_of_lt hlb))
    (fun ρ σ₃ y acc hF k3 hf hz => op1 rfl rfl hF (hE1.kp (kf.trans k3) (not1 (Nat.ne_of_lt hE1.lt))) ((kf.trans k3).keep _ _ ho1 (not1 (Nat.ne_of_lt hlo))) hf hz)
    (at_old hb1 _) at_end z1 ⟨by rfl, by rfl, by rfl, by rfl⟩
  obtain ⟨ys, acc, q1, hf2, _, q2⟩ := i2.ex
  cases ys with
  | cons _ _ => cases q1
  | nil =>
  have q2 : acc = frs E t.out t.bnd [] := q2
  have k2 := kf.trans i2.kp
  have hE2 := hE1.kp k2 (not1 (Nat.ne_of_lt hE1.lt))
  have hP2 := (hP1.kp0 kf0).kpd i2.kp (.inl ⟨_, at_end⟩)
  rw [q2] at hf2
  obtain ⟨e', σ₃, e3, le', k3, hE3, hP3⟩ := fresh_ok (n := n + 2) hP2 hE2 hf2 z3
  have ho2 := k2.keep _ _ ho1 (not1 (Nat.ne_of_lt hlo))
  have ho3 := k3.keep _ _ ho2 (hP2.notlst ho2)
  have hF2 := i2.fr
  obtain ⟨ρ₄, σ₄, e4, i4⟩ := out_loop (σ := σ₃) (val := lvP) (E := putNew E (frs E t.out t.bnd []) s) (l := t.out) (b := o) (e := e') (bod := d_op2) (F := fun ρ => ρ.lookup ("found" : Str) = some (.ref e')) (ρ := setL ρ₂ "found" (.ref e'))
    (fun ρ v h => sl_ne (by decide) h) (not1 (hE3.notlst ho3)) (fun ρ σ₅ y cc hF h5 => by
      refine (show W (d_op2 _ _) (fun p => p = _) from ?_) |> fun ⟨p, a, b⟩ => a.trans (congrArg some b)
      exact w_lk (sl_eq _ _ _) (w_lk (sl_ne (by decide) hF) (w_lk (sl_eq _ _ _) (w_goO h5 (w_some rfl)))))
    ho3 hE3 z2 (sl_eq _ _ _)
  obtain ⟨ys, E4, q3, hE4, q4⟩ := i4.ex
  cases ys with
  | cons _ _ => cases q3
  | nil =>
  have q4 : E4 = opE E t s := q4
  subst q4
  refine ⟨e', σ₄, ?_, ?_, hE4, hP3.kpd i4.kp (.inr (let ⟨l, a, _⟩ := hE3.ex; ⟨l, a⟩))⟩
  · have u : callN G (n + 5) a_R_opened [.ref i, .ref e, .ref ts] σ = s_R_opened (callN G (n + 4)) (.ref i) (.ref e) (.ref ts) σ := by kernel_rfl
    rw [u]
    refine (show W (s_R_opened _ _ _ _ _) (fun p => p = _) from ?_) |> fun ⟨p, a, b⟩ => a.trans (congrArg some b)
    refine w_go e1 (w_unp (by rfl) ?_)
    refine w_lk (a := .ref b) (by rfl) (w_loopR e2 (w_lk hF2.s (w_goO (hP2.m (f := a_R_fresh) (by kernel_rfl) (by decide)) (w_lk hF2.e (w_lk hF2.f (w_go e3 ?_))))))
    exact w_lk (sl_ne (by decide) hF2.o) (w_loopR e4 (w_lk i4.fr (w_some rfl)))
  · have a2 : Kp [dp] σ σ₂ := k1.nil.old (k2.mono (by simp)) k1.len
    exact (a2.trans k3).old (i4.kp.mono (by simp)) (Nat.le_trans a2.len le')

/-! of, body -/
structure OfAt (n : Nat) (σ : Sto) (i di p dp e : Nat) (f : Addr) (v : AV) (d : Int) (w : AV) (s' : Nat) : Prop where
  ex : ∃ σ', callN G n f [.ref i, .ref e, v, .int d] σ = some (w, σ') ∧ Kp [dp] σ σ' ∧ PS i di p dp s' σ'
theorem OfAt.elim {f : Addr} {P : Prop} (h : OfAt n σ i di p dp e f v d w s') (k : ∀ σ', callN G n f [.ref i, .ref e, v, .int d] σ = some (w, σ') → Kp [dp] σ σ' → PS i di p dp s' σ' → P) : P := let ⟨σ', a, b, c⟩ := h.ex; k σ' a b c
noncomputable def Of (n : Nat) (v : AV) (E : En) (s : Nat) (w : AV) (s' : Nat) (D : Int) : Prop := ∀ σ i di p dp e d, PS i di p dp s σ → EnvP σ e E → d ≤ D → OfAt n σ i di p dp e a_R_of v d w s'
noncomputable def Bd (n : Nat) (v : AV) (E : En) (s : Nat) (w : AV) (s' : Nat) (D : Int) : Prop := ∀ σ i di p dp e d, PS i di p dp s σ → EnvP σ e E → d ≤ D → OfAt n σ i di p dp e a_R_body v d w s'
theorem bd_of {t : Tr} (hz : t.sz ≤ 5000) (hb : s + t.bnd.length ≤ 50000) (h : Of (n + 5) t.av (opE E t s) (opN E t s) w s' D) : Bd (n + 6) t.av E s w s' D := fun σ i di p dp e d hP hE hd => by
  have k0 : Kp [] σ (σ ++ [.lst [t.av]]) := .app _
  obtain ⟨e', σ₁, e1, k1, hE1, hP1⟩ := opened_ok (n := n) hz (hP.kp0 k0) (hE.kp k0 (by simp)) (ts := σ.length) at_end hb
  refine (h σ₁ i di p dp e' d hP1 hE1 hd).elim fun σ₂ e2 k2 hP2 => ⟨σ₂, ?_, k0.nil.trans (k1.trans k2), hP2⟩
  have u : callN G (n + 6) a_R_body [.ref i, .ref e, t.av, .int d] σ = s_R_body (callN G (n + 5)) (.ref i) (.ref e) t.av (.int d) σ := by kernel_rfl
  rw [u]
  refine (show W (s_R_body _ _ _ _ _ _) (fun p => p = _) from ?_) |> fun ⟨p, a, b⟩ => a.trans (congrArg some b)
  exact w_goO (hP.m (f := a_R_of) (by kernel_rfl) (by decide)) (w_goO (hP.m (f := a_R_opened) (by kernel_rfl) (by decide)) (w_go e1 (w_go e2 (w_some rfl))))
end
end Mine

end

noncomputable section
open PySem PySem.W PyProof.Rows
set_option Elab.async false
set_option maxRecDepth 100000
set_option linter.unusedVariables false
namespace Mine
noncomputable def nmS (s : Str) (n : Nat) : Str := if n = 0 then s else (s ++ "#") ++ Str.ofString (toString ((n : Nat) : Int))
noncomputable def lfP (s : Str) (n : Nat) : AV := .tup [.str "sym", .str (nmS s n)]
section
variable {σ σ' σ₁ σ₂ σ₀ : Sto} {n : Nat} {x : Nm} {ρ : Loc} {i di p dp s s' s1 s2 e : Nat} {E : En} {w w' t b v : AV} {d D : Int}
theorem w_deep {β : Type} {P : β → Prop} {X : Option β} (hd : d ≤ 120) (h : W X P) : W (iff (decide ((120 : Int) < d)) none X) P := w_iff (decide_eq_false (by lia)) h
theorem W.eq {β : Type} {X : Option β} {b : β} (h : W X (fun p => p = b)) : X = some b := let ⟨p, a, b⟩ := h; a.trans (congrArg some b)
theorem w_inc {β : Type} {P : β → Prop} {k : AV → Sto → Option β} (h : W (k (.int (d + 1)) σ) P) : W (inc (.int d) σ k) P := h
theorem of_sym (hD : D ≤ 120) : Of (n + 2) (nmV x) E s (lfP x.s ((E x).getD 0)) s D := fun σ i di p dp e d hP hE hd => by
  have : callN G (n + 2) a_R_of [.ref i, .ref e, nmV x, .int d] σ = iff (decide ((120 : Int) < d)) none (goO (methV G (.ref e) "get" σ) fun fv => go (callV (callN G (n + 1)) fv [.ref e, .str x.s, .str x.s] σ) fun v σ => some (.tup [.str "sym", v], σ)) := by kernel_rfl
  refine ⟨σ, ?_, .refl, hP⟩
  rw [this]
  refine W.eq ?_
  refine w_deep (by lia) (w_goO (env_meth hE) (w_go (env_get hE _ _) (w_some ?_)))
  cases E x <;> rfl
theorem of_not {k : Str} (hk : ∀ x : Nm, k ≠ x.s) (hD : D ≤ 120) : Of (n + 2) (.tup [.str "sym", .str k]) E s (lfP k 0) s D := fun σ i di p dp e d hP hE hd => by
  have : callN G (n + 2) a_R_of [.ref i, .ref e, .tup [.str "sym", .str k], .int d] σ = iff (decide ((120 : Int) < d)) none (goO (methV G (.ref e) "get" σ) fun fv => go (callV (callN G (n + 1)) fv [.ref e, .str k, .str k] σ) fun v σ => some (.tup [.str "sym", v], σ)) := by kernel_rfl
  refine ⟨σ, ?_, .refl, hP⟩
  rw [this]
  refine W.eq ?_
  exact w_deep (by lia) (w_goO (env_meth hE) (w_go (env_not hE _ _ hk) (w_some rfl)))
theorem of_one (hD : D ≤ 120) : Of (n + 2) (.tup [.str "int", .int 1]) E s (.tup [.str "int", .int 1]) s D := fun σ i di p dp e d hP hE hd => by
  have : callN G (n + 2) a_R_of [.ref i, .ref e, .tup [.str "int", .int 1], .int d] σ = iff (decide ((120 : Int) < d)) none (some (.tup [.str "int", .int 1], σ)) := by kernel_rfl
  exact ⟨σ, by rw [this]; refine W.eq ?_; exact w_deep (by lia) (w_some rfl), .refl, hP⟩
theorem of_esc (hD : D ≤ 120) : Of (n + 2) (ex "escape" [t]) E s t s D := fun σ i di p dp e d hP hE hd => by
  have : callN G (n + 2) a_R_of [.ref i, .ref e, ex "escape" [t], .int d] σ = iff (decide ((120 : Int) < d)) none (some (t, σ)) := by kernel_rfl
  exact ⟨σ, by rw [this]; refine W.eq ?_; exact w_deep (by lia) (w_some rfl), .refl, hP⟩

/-! a row of trees -/
inductive Ofs (n : Nat) (E : En) (D : Int) : List AV → Nat → List AV → Nat → Prop
  | nil : ∀ {s : Nat}, Ofs n E D [] s [] s
  | cons : ∀ {v : AV} {l : List AV} {s : Nat} {w : AV} {s1 : Nat} {ws : List AV} {s2 : Nat}, Of n v E s w s1 D → Ofs n E D l s1 ws s2 → Ofs n E D (v :: l) s (w :: ws) s2
structure AllInv (n : Nat) (E : En) (D d : Int) (s' : Nat) (σ : Sto) (i di p dp e : Nat) (r ws : List AV) (ρ : Loc) (σ₁ : Sto) : Prop where
  ex : ∃ s, Ofs n E D r s ws s' ∧ PS i di p dp s σ₁
  kp : Kp [dp] σ σ₁
  r1 : ρ.lookup ("self" : Str) = some (.ref i)
  r2 : ρ.lookup ("env" : Str) = some (.ref e)
  r3 : ρ.lookup ("deep" : Str) = some (.int d)
theorem all_ok {l ws : List AV} (hl : l.length ≤ 1000) (H : Ofs n E D l s ws s') (hP : PS i di p dp s σ) (hE : EnvP σ e E) (hd : d ≤ D) :
    ∃ j σ', callN G (n + 1) a_R_all_of [.ref i, .ref e, .tup l, .int d] σ = some (.ref j, σ') ∧ Kp [dp] σ σ' ∧ PS i di p dp s' σ' ∧ σ'[j]? = some (.lst ws) := by
  obtain ⟨ρ', σ', e1, q⟩ := compL_list (y := "tree") (el := e_all (callN G n)) (AllInv n E D d s' σ i di p dp e) (fun v r ws ρ σ₁ q => by
    obtain ⟨b, hm, hB⟩ := q.ex
    cases hm with
    | @cons _ _ _ w b1 ws' _ h1 h2 =>
    refine (h1 σ₁ i di p dp e d hB (hE.kp q.kp (ne_ps hE hP)) hd).elim fun σ₂ e2 k2 hP2 => ⟨w, ws', σ₂, rfl, ?_, ⟨b1, h2, hP2⟩, q.kp.trans k2, sl_ne (by decide) q.r1, sl_ne (by decide) q.r2, sl_ne (by decide) q.r3⟩
    refine W.eq ?_; exact (w_lk (sl_ne (by decide) q.r1) (w_goO (hB.m (f := a_R_of) (by kernel_rfl) (by decide)) (w_lk (sl_ne (by decide) q.r2) (w_lk (sl_eq _ _ _) (w_lk (sl_ne (by decide) q.r3) (w_go e2 (w_some rfl))))))))
    (fun ws ρ σ₁ q => by obtain ⟨b, h, _⟩ := q.ex; cases h; rfl) l ws [("self", .ref i), ("env", .ref e), ("deep", .int d)] σ ⟨⟨s, H, hP⟩, .refl, by rfl, by rfl, by rfl⟩
  obtain ⟨b, hm, hB⟩ := q.ex
  cases hm
  have k : Kp [] σ' (σ' ++ [Cell.lst ws]) := .app _
  refine ⟨σ'.length, σ' ++ [Cell.lst ws], ?_, q.kp.trans k.nil, hB.kp0 k, at_end⟩
  have u : callN G (n + 1) a_R_all_of [.ref i, .ref e, .tup l, .int d] σ = s_R_all_of (callN G n) (.ref i) (.ref e) (.tup l) (.int d) σ := by kernel_rfl
  rw [u]
  refine W.eq ?_; exact (w_pre (decide_eq_true hl) (w_go e1 (w_some rfl)))
theorem expr_l {h : AV} {j : Nat} {ws : List AV} (hj : σ[j]? = some (.lst ws)) : callN G (n + 1) a_expr [h, .ref j] σ = some (.tup [.str "expr", h, .tup ws], σ) := by
  have u : callN G (n + 1) a_expr [h, .ref j] σ = s_expr h (.ref j) σ := by kernel_rfl
  rw [u]
  refine W.eq (w_go (b := .tup ws) (σ := σ) ?_ (w_some rfl))
  exact goO_of (lstAt_of hj)
theorem of_node {h : Str} {l ws : List AV} (hl : l.length ≤ 1000) (hD : D ≤ 120) (H : Ofs n E (D + 1) l s ws s')
    (hs : ∀ σ i e d, callN G (n + 2) a_R_of [.ref i, .ref e, .tup [.str "expr", .str h, .tup l], .int d] σ = iff (decide ((120 : Int) < d)) none (goO (methV G (.ref i) "all_of" σ) fun fv => go (callV (callN G (n + 1)) fv [.ref i, .ref e, .tup l, .int (d + 1)] σ) fun w σ => go (callN G (n + 1) a_expr [.str h, w] σ) fun v σ => some (v, σ))) :
    Of (n + 2) (.tup [.str "expr", .str h, .tup l]) E s (.tup [.str "expr", .str h, .tup ws]) s' D := fun σ i di p dp e d hP hE hd => by
  obtain ⟨j, σ₁, e1, k1, hP1, hj⟩ := all_ok (d := d + 1) hl H hP hE (by lia)
  refine ⟨σ₁, ?_, k1, hP1⟩
  rw [hs]
  refine W.eq ?_; exact (w_deep (by lia) (w_goO (hP.m (f := a_R_all_of) (by kernel_rfl) (by decide)) (w_go e1 (w_go (expr_l hj) (w_some rfl)))))

/-- handed on to a method -/
theorem of_via {f : Addr} {name : Str} (hm : G.meth.lookup (c_R, name) = some f) (hn : ¬ "supply" = name) (hD : D ≤ 120)
    (u : ∀ σ i e d, callN G (n + 2) a_R_of [.ref i, .ref e, v, .int d] σ = iff (decide ((120 : Int) < d)) none (goO (methV G (.ref i) name σ) fun fv => go (callV (callN G (n + 1)) fv [.ref i, .ref e, v, .int d] σ) fun v σ => some (v, σ)))
    (h : ∀ σ i di p dp e d, PS i di p dp s σ → EnvP σ e E → d ≤ D → OfAt (n + 1) σ i di p dp e f v d w s') : Of (n + 2) v E s w s' D := fun σ i di p dp e d hP hE hd =>
  (h σ i di p dp e d hP hE hd).elim fun σ₁ e1 k1 hP1 => ⟨σ₁, by rw [u]; refine W.eq ?_; exact (w_deep (by lia) (w_goO (hP.m hm hn) (w_go e1 (w_some rfl)))), k1, hP1⟩

theorem kept_ok {e' : AV} : callN G (n + 2) a_R_kept [.ref i, e', nmV x, .int d] σ = some (nmV x, σ) := by kernel_rfl
theorem of_dot (hD : D ≤ 119) (ht : Of (n + 2) t E s w s' (D + 1)) : Of (n + 4) (ex "." [t, nmV x]) E s (ex "." [w, lfP x.s 0]) s' D := by
  refine of_via (f := a_R_named) (name := "named") (by kernel_rfl) (by decide) (by lia) (fun σ i e d => by kernel_rfl) fun σ i di p dp e d hP hE hd => ?_
  refine (ht σ i di p dp e (d + 1) hP hE (by lia)).elim fun σ₁ e1 k1 hP1 => ?_
  let S1 := σ₁ ++ [Cell.lst [w]]
  have kA : Kp [] σ₁ S1 := .app _
  let S2 := S1 ++ [Cell.lst [nmV x]]
  have hP2 : PS i di p dp s' S2 := (hP1.kp0 kA).kp0 (.app _)
  let S3 := S2 ++ [Cell.lst ([w] ++ [nmV x])]
  refine ⟨S3, ?_, k1.trans ((kA.trans (.app _)).trans (.app _)).nil, hP2.kp0 (.app _)⟩
  have u : callN G (n + 3) a_R_named [.ref i, .ref e, ex "." [t, nmV x], .int d] σ = s_R_named (callN G (n + 2)) (.ref i) (.ref e) (ex "." [t, nmV x]) (.int d) σ := by kernel_rfl
  rw [u]
  have hc : compL "part" yes (e_kept (callN G (n + 2))) [nmV x] [("self", .ref i), ("env", .ref e), ("deep", .int d)] S1 = some ([nmV x], S1) := by
    have e2 : e_kept (callN G (n + 2)) (setL [("self", .ref i), ("env", .ref e), ("deep", .int d)] "part" (nmV x)) S1 = some (nmV x, S1) :=
      W.eq (w_lk (a := .ref i) (by rfl) (w_goO ((hP1.kp0 kA).m (f := a_R_kept) (by kernel_rfl) (by decide)) (w_lk (a := .ref e) (by rfl) (w_lk (a := nmV x) (by rfl) (w_lk (a := .int d) (by rfl) (w_go kept_ok (w_some rfl)))))))
    rw [compL]; simp only [yes, e2]; rfl
  refine W.eq ?_
  refine (w_gI (v := .str ".") (by kernel_rfl) (w_gI (v := .tup [t, nmV x]) (by kernel_rfl) (w_goO (b := true) (by kernel_rfl) (w_t (w_goO (hP.m (f := a_R_of) (by kernel_rfl) (by decide)) ?_)))))
  refine w_gI (v := t) (by kernel_rfl) (w_inc ?_)
  refine w_go e1 ?_
  have ha := add_ok (σ := S2) (i := σ₁.length) (j := S1.length) (l := [w]) (m := [nmV x]) (at_old at_end _) at_end (by simp)
  refine w_pre (by rfl) ?_
  refine w_pre (by rfl) ?_
  refine w_go hc ?_
  refine w_go ha ?_
  exact w_go (expr_l at_end) (w_some rfl)
theorem of_kw (hD : D ≤ 119) (ht : Of (n + 2) t E s w s' (D + 1)) : Of (n + 5) (ex "kw" [nmV x, t]) E s (ex "kw" [lfP x.s 0, w]) s' D := by
  refine of_via (f := a_R_named) (name := "named") (by kernel_rfl) (by decide) (by lia) (fun σ i e d => by kernel_rfl) fun σ i di p dp e d hP hE hd => ?_
  let S1 := σ ++ [Cell.lst [nmV x]]
  have kA : Kp [] σ S1 := .app _
  obtain ⟨j, σ₁, e1, k1, hP1, hj⟩ := all_ok (d := d + 1) (l := [t]) (by simp) (.cons ht .nil) (hP.kp0 kA) (hE.kp kA (by simp)) (by lia)
  have h0 : σ₁[σ.length]? = some (.lst [nmV x]) := k1.keep _ _ at_end ((hP.kp0 kA).notlst at_end)
  refine ⟨σ₁ ++ [Cell.lst ([nmV x] ++ [w])], ?_, (kA.nil.trans k1).trans (.app _), hP1.kp0 (.app _)⟩
  have u : callN G (n + 4) a_R_named [.ref i, .ref e, ex "kw" [nmV x, t], .int d] σ = s_R_named (callN G (n + 3)) (.ref i) (.ref e) (ex "kw" [nmV x, t]) (.int d) σ := by kernel_rfl
  rw [u]
  refine W.eq ?_
  refine (w_gI (v := .str "kw") (by kernel_rfl) (w_gI (v := .tup [nmV x, t]) (by kernel_rfl) (w_goO (b := false) (by kernel_rfl) (w_f (w_goO (hP.m (f := a_R_kept) (by kernel_rfl) (by decide)) ?_)))))
  refine w_gI (v := nmV x) (by kernel_rfl) (w_go kept_ok (w_goO ((hP.kp0 kA).m (f := a_R_all_of) (by kernel_rfl) (by decide)) ?_))
  refine w_pre (by rfl) (w_inc ?_)
  exact (w_go e1 (w_go (add_ok h0 hj (by simp)) (w_go (expr_l at_end) (w_some rfl))))

/-- a name's place, and the scope with its new name -/
theorem fr1 (hP : PS i di p dp s σ) (hE : EnvP σ e E) (hz : s < 50000) : ∃ j σ₁ e' σ₂, callN G (n + 2) a_place_names [nmV x] σ = some (.ref j, σ₁) ∧ callN G (n + 2) a_R_fresh [.ref i, .ref e, .ref j] σ₁ = some (.ref e', σ₂) ∧ Kp [dp] σ σ₂ ∧ PS i di p dp s σ₁ ∧ EnvP σ₂ e' (E.put x (s + 1)) ∧ PS i di p dp (s + 1) σ₂ := by
  obtain ⟨j, σ₁, e1, k1, lj, hj⟩ := place_ok n x σ
  obtain ⟨e', σ₂, e2, le, k2, hE2, hP2⟩ := fresh_ok (n := n) (xs := [x]) (hP.kp0 k1) (hE.kp k1 (by simp)) hj (by simp; lia)
  exact ⟨j, σ₁, e', σ₂, e1, e2, k1.nil.trans k2, hP.kp0 k1, hE2, hP2⟩
theorem of_wh (hD : D ≤ 119) (ht : Of (n + 2) t E s w s1 (D + 1)) (hb : Bd (n + 2) b E s1 w' s2 (D + 1)) : Of (n + 4) (ex "while" [t, b]) E s (ex "while" [w, w']) s2 D := by
  refine of_via (f := a_R_scope) (name := "scope") (by kernel_rfl) (by decide) (by lia) (fun σ i e d => by kernel_rfl) fun σ i di p dp e d hP hE hd => ?_
  refine (ht σ i di p dp e (d + 1) hP hE (by lia)).elim fun σ₁ e1 k1 hP1 => ?_
  refine (hb σ₁ i di p dp e (d + 1) hP1 (hE.kp k1 (ne_ps hE hP)) (by lia)).elim fun σ₂ e2 k2 hP2 => ⟨σ₂, ?_, k1.trans k2, hP2⟩
  have u : callN G (n + 3) a_R_scope [.ref i, .ref e, ex "while" [t, b], .int d] σ = goO (methV G (.ref i) "of" σ) fun fv => go (callV (callN G (n + 2)) fv [.ref i, .ref e, t, .int (d + 1)] σ) fun v1 σ => goO (methV G (.ref i) "body" σ) fun fv => go (callV (callN G (n + 2)) fv [.ref i, .ref e, b, .int (d + 1)] σ) fun v2 σ => some (ex "while" [v1, v2], σ) := by kernel_rfl
  rw [u]
  refine W.eq ?_; exact (w_goO (hP.m (f := a_R_of) (by kernel_rfl) (by decide)) (w_go e1 (w_goO (hP1.m (f := a_R_body) (by kernel_rfl) (by decide)) (w_go e2 (w_some rfl)))))
theorem put_get' : nmS x.s (((E.put x n) x).getD 0) = nmS x.s n := by rw [put_get]
theorem of_symp (hD : D ≤ 120) : Of (n + 2) (nmV x) (E.put x s) s1 (lfP x.s s) s1 D := by
  have := of_sym (n := n) (x := x) (E := E.put x s) (s := s1) hD
  rw [put_get] at this; exact this
theorem of_fr (hD : D ≤ 119) (hz : s < 50000) (ht : Of (n + 2) t E (s + 1) w s1 (D + 1)) (hb : Bd (n + 2) b (E.put x (s + 1)) s1 w' s2 (D + 1)) : Of (n + 4) (ex "for" [ex "in" [nmV x, t], b]) E s (ex "for" [ex "in" [lfP x.s (s + 1), w], w']) s2 D := by
  refine of_via (f := a_R_scope) (name := "scope") (by kernel_rfl) (by decide) (by lia) (fun σ i e d => by kernel_rfl) fun σ i di p dp e d hP hE hd => ?_
  obtain ⟨j, σ₁, e', σ₂, e1, e2, k2, hP1, hE2, hP2⟩ := fr1 (n := n) (x := x) hP hE hz
  refine (of_symp (n := n) (x := x) (s1 := s + 1) (D := D + 1) (by lia) σ₂ i di p dp e' (d + 1) hP2 hE2 (by lia)).elim fun σ₃ e3 k3 hP3 => ?_
  have hE3 := hE.kp (k2.trans k3) (ne_ps hE hP)
  refine (ht σ₃ i di p dp e (d + 1) hP3 hE3 (by lia)).elim fun σ₄ e4 k4 hP4 => ?_
  refine (hb σ₄ i di p dp e' (d + 1) hP4 (hE2.kp (k3.trans k4) (ne_ps hE2 hP2)) (by lia)).elim fun σ₅ e5 k5 hP5 => ⟨σ₅, ?_, (k2.trans k3).trans (k4.trans k5), hP5⟩
  have u : callN G (n + 3) a_R_scope [.ref i, .ref e, ex "for" [ex "in" [nmV x, t], b], .int d] σ = goO (methV G (.ref i) "fresh" σ) fun fv => go (callN G (n + 2) a_place_names [nmV x] σ) fun l σ => go (callV (callN G (n + 2)) fv [.ref i, .ref e, l] σ) fun own σ =>
    goO (methV G (.ref i) "of" σ) fun fv => go (callV (callN G (n + 2)) fv [.ref i, own, nmV x, .int (d + 1)] σ) fun v1 σ => goO (methV G (.ref i) "of" σ) fun fv => go (callV (callN G (n + 2)) fv [.ref i, .ref e, t, .int (d + 1)] σ) fun v2 σ =>
    goO (methV G (.ref i) "body" σ) fun fv => go (callV (callN G (n + 2)) fv [.ref i, own, b, .int (d + 1)] σ) fun v3 σ => some (ex "for" [ex "in" [v1, v2], v3], σ) := by kernel_rfl
  rw [u]
  refine W.eq ?_; exact (w_goO (hP.m (f := a_R_fresh) (by kernel_rfl) (by decide)) (w_go e1 (w_go e2 (w_goO (hP2.m (f := a_R_of) (by kernel_rfl) (by decide)) (w_go e3 (w_goO (hP3.m (f := a_R_of) (by kernel_rfl) (by decide)) (w_go e4 (w_goO (hP4.m (f := a_R_body) (by kernel_rfl) (by decide)) (w_go e5 (w_some rfl))))))))))
end
end Mine

end

noncomputable section
open PySem PySem.W PyProof.Rows
set_option Elab.async false
set_option maxRecDepth 100000
set_option linter.unusedVariables false
namespace Mine
section
variable {σ σ' σ₁ σ₂ σ₀ : Sto} {n : Nat} {x : Nm} {ρ : Loc} {i di p dp s s' s1 s2 e e' : Nat} {E E' : En} {w w' t b v hd hw g g' : AV} {d D : Int}
theorem of_lt (hD : D ≤ 119) (hz : s1 < 50000) (ht : Of (n + 2) t E s w s1 (D + 1)) (hb : Bd (n + 2) b (E.put x (s1 + 1)) (s1 + 1) w' s2 (D + 1)) : Of (n + 5) (ex "let" [ex "block" [ex "=" [nmV x, t]], b]) E s (ex "let" [ex "block" [ex "=" [lfP x.s (s1 + 1), w]], w']) s2 D := by
  refine of_via (f := a_R_scope) (name := "scope") (by kernel_rfl) (by decide) (by lia) (fun σ i e d => by kernel_rfl) fun σ i di p dp e d hP hE hd => ?_
  have k0 : Kp [] σ (σ ++ [.lst []]) := .app _
  have f0 : (σ ++ [Cell.lst []])[σ.length]? = some (.lst []) := at_end
  have hP0 := hP.kp0 k0
  have hE0 := hE.kp k0 (by simp)
  refine (ht _ i di p dp e (d + 1) hP0 hE0 (by lia)).elim fun σ₁ e1 k1 hP1 => ?_
  have hE1 := hE0.kp k1 (ne_ps hE0 hP0)
  have f1 := k1.keep _ _ f0 (hP0.notlst f0)
  obtain ⟨j, σ₂, e', σ₃, e2, e3, k3, hP2, hE3, hP3⟩ := fr1 (n := n) (x := x) hP1 hE1 hz
  have f3 := k3.keep _ _ f1 (hP1.notlst f1)
  refine (of_symp (n := n) (x := x) (s1 := s1 + 1) (D := D + 1) (by lia) σ₃ i di p dp e' (d + 1) hP3 hE3 (by lia)).elim fun σ₄ e4 k4 hP4 => ?_
  have f4 := k4.keep _ _ f3 (hP3.notlst f3)
  let σ₅ := σ₄.set σ.length (.lst ([] ++ [ex "=" [lfP x.s (s1 + 1), w]]))
  have k5 : Kp [σ.length] σ₄ σ₅ := .set (by simp)
  have f5 : σ₅[σ.length]? = some (.lst [ex "=" [lfP x.s (s1 + 1), w]]) := at_set (lt_of_at f4)
  have hP5 := hP4.kpd k5 (.inl ⟨_, f4⟩)
  have hE4 := hE3.kp k4 (ne_ps hE3 hP3)
  have hE5 := hE4.kp k5 (not1 fun q => hE4.notlst f4 q.symm)
  refine (hb σ₅ i di p dp e' (d + 1) hP5 hE5 (by lia)).elim fun σ₆ e6 k6 hP6 => ⟨σ₆, ?_, ?_, hP6⟩
  · have u : callN G (n + 4) a_R_scope [.ref i, .ref e, ex "let" [ex "block" [ex "=" [nmV x, t]], b], .int d] σ = goO (methV G (.ref i) "let" σ) fun fv => go (callV (callN G (n + 3)) fv [.ref i, .ref e, .tup [ex "block" [ex "=" [nmV x, t]], b], .int d] σ) fun v σ => some (v, σ) := by kernel_rfl
    rw [u]
    refine W.eq ?_
    refine w_goO (hP.m (f := a_R_let) (by kernel_rfl) (by decide)) ?_
    have u2 : callN G (n + 3) a_R_let [.ref i, .ref e, .tup [ex "block" [ex "=" [nmV x, t]], b], .int d] σ = s_R_let (callN G (n + 2)) (.ref i) (.ref e) (.tup [ex "block" [ex "=" [nmV x, t]], b]) (.int d) σ := by kernel_rfl
    refine w_go (b := ex "let" [ex "block" [ex "=" [lfP x.s (s1 + 1), w]], w']) (σ := σ₆) (u2.trans ?_) (w_some rfl)
    let ρ₁ : Loc := setL [("self", .ref i), ("env", .ref e), ("parts", .tup [ex "block" [ex "=" [nmV x, t]], b]), ("deep", .int d), ("own", .ref e), ("rows", .ref σ.length)] "row" (ex "=" [nmV x, t])
    have ud : d_let (callN G (n + 2)) ρ₁ (σ ++ [.lst []]) = goO (methV G (.ref i) "of" (σ ++ [.lst []])) fun fv => go (callV (callN G (n + 2)) fv [.ref i, .ref e, t, .int (d + 1)] (σ ++ [.lst []])) fun worth σ' => goO (methV G (.ref i) "fresh" σ') fun fv =>
      go (callN G (n + 2) a_place_names [nmV x] σ') fun l σ' => go (callV (callN G (n + 2)) fv [.ref i, .ref e, l] σ') fun own σ' => goO (methV G (.ref σ.length) "append" σ') fun fa => goO (methV G (.ref i) "of" σ') fun fv =>
      go (callV (callN G (n + 2)) fv [.ref i, own, nmV x, .int (d + 1)] σ') fun v1 σ' => go (callV (callN G (n + 2)) fa [.ref σ.length, ex "=" [v1, worth]] σ') fun _ σ' => some (.next, setL (setL ρ₁ "worth" worth) "own" own, σ') := by kernel_rfl
    have ed : d_let (callN G (n + 2)) ρ₁ (σ ++ [.lst []]) = some (.next, setL (setL ρ₁ "worth" w) "own" (.ref e'), σ₅) := by
      rw [ud]
      refine W.eq ?_
      exact w_goO (hP0.m (f := a_R_of) (by kernel_rfl) (by decide)) (w_go e1 (w_goO (hP1.m (f := a_R_fresh) (by kernel_rfl) (by decide)) (w_go e2 (w_go e3 (w_goO (m_append f3) (w_goO (hP3.m (f := a_R_of) (by kernel_rfl) (by decide)) (w_go e4 (w_go (append_ok f4 (by simp) _) (w_some rfl)))))))))
    refine W.eq ?_
    refine w_gI (v := ex "block" [ex "=" [nmV x, t]]) (by kernel_rfl) (w_go (b := .bool true) (σ := σ ++ [.lst []]) (by kernel_rfl) (w_asB (w_t (w_gI (v := ex "block" [ex "=" [nmV x, t]]) (by kernel_rfl) (w_gI (v := .tup [ex "=" [nmV x, t]]) (by kernel_rfl) ?_)))))
    have el : forL "row" (d_let (callN G (n + 2))) [ex "=" [nmV x, t]] [("self", .ref i), ("env", .ref e), ("parts", .tup [ex "block" [ex "=" [nmV x, t]], b]), ("deep", .int d), ("own", .ref e), ("rows", .ref σ.length)] (σ ++ [.lst []]) = some (.next, setL (setL ρ₁ "worth" w) "own" (.ref e'), σ₅) := by
      rw [forL]
      exact (congrArg (fun x => nextL x (forL "row" (d_let (callN G (n + 2))) [])) ed).trans rfl
    refine w_aft el (w_cn (by rfl) (w_cn (by rfl) (w_lk (a := .ref σ.length) (by rfl) (w_go (expr_l f5) (w_lk (a := .ref i) (by rfl) (w_goO (hP5.m (f := a_R_body) (by kernel_rfl) (by decide)) ?_))))))
    refine w_lk (a := .ref e') (by rfl) (w_lk (a := .tup [ex "block" [ex "=" [nmV x, t]], b]) (by rfl) (w_gI (v := b) (by kernel_rfl) (w_lk (a := .int d) (by rfl) (w_inc ?_))))
    refine w_go e6 ?_
    exact w_go (b := ex "let" [ex "block" [ex "=" [lfP x.s (s1 + 1), w]], w']) (σ := σ₆) (by kernel_rfl) (w_some rfl)
  · have a1 : Kp [dp] σ σ₄ := k0.nil.trans (k1.trans (k3.trans k4))
    exact (a1.old (k5.mono (by simp)) (Nat.le_refl _)).trans k6

/-! functions -/
noncomputable def Ag (n : Nat) (v : AV) (E : En) (s : Nat) (w : AV) (s' : Nat) (D : Int) : Prop := ∀ σ i di p dp e d, PS i di p dp s σ → EnvP σ e E → d ≤ D → OfAt n σ i di p dp e a_R_argument v d w s'
structure HdAt (n : Nat) (σ : Sto) (i di p dp e e' : Nat) (v : AV) (d : Int) (w : AV) (s' : Nat) : Prop where
  ex : ∃ σ', callN G n a_R_head [.ref i, .ref e, .ref e', v, .int d] σ = some (w, σ') ∧ Kp [dp] σ σ' ∧ PS i di p dp s' σ'
noncomputable def Hd (n : Nat) (v : AV) (E E' : En) (s : Nat) (w : AV) (s' : Nat) (D : Int) : Prop := ∀ σ i di p dp e e' d, PS i di p dp s σ → EnvP σ e E → EnvP σ e' E' → d ≤ D → HdAt n σ i di p dp e e' v d w s'
theorem ag_sym (hD : D ≤ 120) : Ag (n + 3) (nmV x) (E.put x s) s1 (lfP x.s s) s1 D := fun σ i di p dp e d hP hE hd =>
  (of_symp (n := n) (x := x) (s1 := s1) (D := D) hD σ i di p dp e d hP hE hd).elim fun σ₁ e1 k1 hP1 => ⟨σ₁, by
    have u : callN G (n + 3) a_R_argument [.ref i, .ref e, nmV x, .int d] σ = goO (methV G (.ref i) "of" σ) fun fv => go (callV (callN G (n + 2)) fv [.ref i, .ref e, nmV x, .int d] σ) fun v σ => some (v, σ) := by kernel_rfl
    rw [u]; refine W.eq ?_; exact w_goO (hP.m (f := a_R_of) (by kernel_rfl) (by decide)) (w_go e1 (w_some rfl)), k1, hP1⟩
theorem ag_kw (hD : D ≤ 119) (ht : Of (n + 2) t (E.put x s) s1 w s2 (D + 1)) : Ag (n + 4) (ex "kw" [nmV x, t]) (E.put x s) s1 (ex "kw" [lfP x.s s, w]) s2 D := fun σ i di p dp e d hP hE hd => by
  obtain ⟨j, σ₁, e1, k1, hP1, hj⟩ := all_ok (d := d + 1) (D := D + 1) (by simp) (.cons (of_symp (n := n) (x := x) (s1 := s1) (by lia)) (.cons ht .nil)) hP hE (by lia)
  refine ⟨σ₁, ?_, k1, hP1⟩
  have u : callN G (n + 4) a_R_argument [.ref i, .ref e, ex "kw" [nmV x, t], .int d] σ = goO (methV G (.ref i) "all_of" σ) fun fv => go (callV (callN G (n + 3)) fv [.ref i, .ref e, .tup [nmV x, t], .int (d + 1)] σ) fun w σ => go (callN G (n + 3) a_expr [.str "kw", w] σ) fun v σ => some (v, σ) := by kernel_rfl
  rw [u]; refine W.eq ?_; exact w_goO (hP.m (f := a_R_all_of) (by kernel_rfl) (by decide)) (w_go e1 (w_go (expr_l hj) (w_some rfl)))
theorem args1 (hA : Ag n v E' s w s' (D + 1)) (hP : PS i di p dp s σ) (hE : EnvP σ e' E') (hd : d ≤ D) : ∃ σ', compL "one" yes (e_arg (callN G n)) [v] [("self", .ref i), ("own", .ref e'), ("deep", .int d)] σ = some ([w], σ') ∧ Kp [dp] σ σ' ∧ PS i di p dp s' σ' := by
  refine (hA σ i di p dp e' (d + 1) hP hE (by lia)).elim fun σ₁ e1 k1 hP1 => ⟨σ₁, ?_, k1, hP1⟩
  have e2 : e_arg (callN G n) (setL [("self", .ref i), ("own", .ref e'), ("deep", .int d)] "one" v) σ = some (w, σ₁) := by
    refine W.eq ?_
    refine w_lk (a := .ref i) (by rfl) (w_goO (hP.m (f := a_R_argument) (by kernel_rfl) (by decide)) (w_lk (a := .ref e') (by rfl) (w_lk (a := v) (by rfl) (w_lk (a := .int d) (by rfl) (w_inc ?_)))))
    exact w_go e1 (w_some rfl)
  rw [compL]; simp only [yes, e2]; rfl
theorem hd_tup (hD : D ≤ 119) (hA : Ag (n + 1) v E' s w s' (D + 1)) : Hd (n + 2) (ex "tuple" [v]) E E' s (ex "tuple" [w]) s' D := fun σ i di p dp e e' d hP hE hE' hd => by
  obtain ⟨σ₁, e1, k1, hP1⟩ := args1 hA hP hE' hd
  refine ⟨σ₁ ++ [.lst [w]], ?_, k1.trans (.app _), hP1.kp0 (.app _)⟩
  have u : callN G (n + 2) a_R_head [.ref i, .ref e, .ref e', ex "tuple" [v], .int d] σ = iff (decide ((120 : Int) < d)) none (compr "one" (e_arg (callN G (n + 1))) (.tup [v]) [("self", .ref i), ("own", .ref e'), ("deep", .int d)] σ fun w σ => go (callN G (n + 1) a_expr [.str "tuple", w] σ) fun v σ => some (v, σ)) := by kernel_rfl
  rw [u]
  refine W.eq ?_
  refine w_deep (by lia) ?_
  refine w_pre (by rfl) ?_
  refine w_go e1 ?_
  exact w_go (expr_l at_end) (w_some rfl)
theorem hd_call (hD : D ≤ 118) (hg : Of (n + 1) g E s g' s (D + 1)) (hng : ∀ σ, callN G (n + 1) a_is_expr [g, .str "::"] σ = some (.bool false, σ)) (hA : Ag (n + 1) v E' s w s' (D + 1)) : Hd (n + 2) (ex "call" [g, v]) E E' s (ex "call" [g', w]) s' D := fun σ i di p dp e e' d hP hE hE' hd => by
  refine (hg σ i di p dp e (d + 1) hP hE (by lia)).elim fun σ₀ e0 k0 hP0 => ?_
  have kA : Kp [] σ₀ (σ₀ ++ [.lst [g']]) := .app _
  have hE0 := (hE'.kp k0 (ne_ps hE' hP)).kp kA (by simp)
  obtain ⟨σ₁, e1, k1, hP1⟩ := args1 hA (hP0.kp0 kA) hE0 hd
  have h0 : σ₁[σ₀.length]? = some (.lst [g']) := k1.keep _ _ at_end ((hP0.kp0 kA).notlst at_end)
  refine ⟨σ₁ ++ [.lst [w]] ++ [.lst ([g'] ++ [w])], ?_, ((k0.trans kA.nil).trans k1).trans ((Kp.app _).trans (.app _)), (hP1.kp0 (.app _)).kp0 (.app _)⟩
  have u : callN G (n + 2) a_R_head [.ref i, .ref e, .ref e', ex "call" [g, v], .int d] σ = iff (decide ((120 : Int) < d)) none (go (callN G (n + 1) a_is_expr [g, .str "::"] σ) fun r σ => asB r fun q =>
    let K := fun (called : AV) (σ : Sto) => gI (ex "call" [g, v]) 2 (σ ++ [.lst [called]]) fun x => tail1 x (σ ++ [.lst [called]]) fun x σ' => compr "one" (e_arg (callN G (n + 1))) x [("self", .ref i), ("own", .ref e'), ("deep", .int d)] σ' fun w σ' => go (binV .Add (.ref σ.length) w σ') fun z σ => go (callN G (n + 1) a_expr [.str "call", z] σ) fun v σ => some (v, σ)
    iff q (mInc (callN G (n + 1)) (.ref i) "of" [.ref e', g] (.int d) σ K) (mInc (callN G (n + 1)) (.ref i) "of" [.ref e, g] (.int d) σ K)) := by kernel_rfl
  rw [u]
  refine W.eq ?_
  refine w_deep (by lia) (w_go (hng σ) (w_asB (w_f ?_)))
  refine w_goO (hP.m (f := a_R_of) (by kernel_rfl) (by decide)) (w_inc ?_)
  refine w_go e0 ?_
  refine w_gI (v := .tup [g, v]) (by kernel_rfl) ?_
  refine w_pre (by rfl) ?_
  refine w_pre (by rfl) ?_
  refine w_go e1 ?_
  have ha := add_ok (σ := σ₁ ++ [.lst [w]]) (i := σ₀.length) (j := σ₁.length) (l := [g']) (m := [w]) (at_old h0 _) at_end (by simp)
  refine w_go ha ?_
  exact w_go (expr_l at_end) (w_some rfl)
theorem of_func {h : Str} (hD : D ≤ 119)
    (hv : ∀ σ i e d, callN G (n + 7) a_R_of [.ref i, .ref e, .tup [.str "expr", .str h, .tup [hd, b]], .int d] σ = iff (decide ((120 : Int) < d)) none (goO (methV G (.ref i) "function" σ) fun fv => go (callV (callN G (n + 6)) fv [.ref i, .ref e, .tup [.str "expr", .str h, .tup [hd, b]], .int d] σ) fun v σ => some (v, σ)))
    (h1 : ∀ σ, callN G (n + 5) a_where_names [hd] σ = some (.ref σ.length, σ ++ [.lst []])) (h2 : ∀ σ, ∃ j σ', callN G (n + 5) a_head_names [hd] σ = some (.ref j, σ') ∧ Kp [] σ σ' ∧ σ'[j]? = some (.lst [.str x.s]))
    (h3 : ∀ σ, callN G (n + 5) a_keyword_names [hd] σ = some (.ref σ.length, σ ++ [.lst []])) (hz : s < 50000)
    (h4 : Hd (n + 5) hd E (E.put x (s + 1)) (s + 1) hw s1 (D + 1)) (hb : Bd (n + 5) b (E.put x (s + 1)) s1 w' s2 (D + 1)) : Of (n + 7) (.tup [.str "expr", .str h, .tup [hd, b]]) E s (.tup [.str "expr", .str h, .tup [hw, w']]) s2 D := by
  refine of_via (f := a_R_function) (name := "function") (by kernel_rfl) (by decide) (by lia) hv fun σ i di p dp e d hP hE hd' => ?_
  have k0 : Kp [] σ (σ ++ [.lst []]) := .app _
  obtain ⟨j, σ₁, e1, k1, hj⟩ := h2 (σ ++ [.lst []])
  have ha := add_ok (σ := σ₁) (i := σ.length) (j := j) (l := []) (m := [.str x.s]) (k1.keep _ _ at_end (by simp)) hj (by simp)
  let σ₂ := σ₁ ++ [Cell.lst ([] ++ [.str x.s])]
  have k2 : Kp [] σ σ₂ := (k0.trans k1).trans (.app _)
  have hP2 := hP.kp0 k2
  obtain ⟨e', σ₃, e3, _, k3, hE3, hP3⟩ := fresh_ok (n := n + 3) (xs := [x]) hP2 (hE.kp k2 (by simp)) (j := σ₁.length) at_end (by simp; lia)
  have k4 : Kp [] σ₃ (σ₃ ++ [.lst []]) := .app _
  have hE0 := (hE.kp k2 (by simp)).kp k3 (ne_ps (hE.kp k2 (by simp)) hP2)
  obtain ⟨σ₅, e5, k5, hP5⟩ := (h4 (σ₃ ++ [.lst []]) i di p dp e e' (d + 1) (hP3.kp0 k4) (hE0.kp k4 (by simp)) (hE3.kp k4 (by simp)) (by lia)).ex
  refine (hb σ₅ i di p dp e' (d + 1) hP5 ((hE3.kp k4 (by simp)).kp k5 (ne_ps (hE3.kp k4 (by simp)) (hP3.kp0 k4))) (by lia)).elim fun σ₆ e6 k6 hP6 => ⟨σ₆, ?_, ((k2.nil.trans k3).trans k4.nil).trans (k5.trans k6), hP6⟩
  let T : AV := .tup [.str "expr", .str h, .tup [hd, b]]
  have u : callN G (n + 6) a_R_function [.ref i, .ref e, T, .int d] σ = goO (methV G (.ref i) "fresh" σ) fun fv => go (callN G (n + 5) a_where_names [hd] σ) fun w1 σ => go (callN G (n + 5) a_head_names [hd] σ) fun w2 σ => go (binV .Add w1 w2 σ) fun m σ =>
    go (callV (callN G (n + 5)) fv [.ref i, .ref e, m] σ) fun own σ => go (callN G (n + 5) a_keyword_names [hd] σ) fun x σ => loopF "name" d_own2 x (setL [("self", .ref i), ("env", .ref e), ("tree", T), ("deep", .int d), ("head", hd), ("body", b)] "own" own) σ fun ρ σ => fn_fin (callN G (n + 5)) ρ σ := by kernel_rfl
  rw [u]
  refine W.eq ?_
  refine w_goO (hP.m (f := a_R_fresh) (by kernel_rfl) (by decide)) (w_go (h1 σ) (w_go e1 (w_go ha ?_)))
  refine w_go e3 (w_go (h3 σ₃) ?_)
  have el : forR "name" d_own2 σ₃.length 100000 0 (setL [("self", .ref i), ("env", .ref e), ("tree", T), ("deep", .int d), ("head", hd), ("body", b)] "own" (.ref e')) (σ₃ ++ [.lst []]) = some (.next, setL [("self", .ref i), ("env", .ref e), ("tree", T), ("deep", .int d), ("head", hd), ("body", b)] "own" (.ref e'), σ₃ ++ [.lst []]) := by
    exact goO_of (lstAt_of at_end)
  refine w_loopR el (w_cn (by rfl) (w_lk (a := T) (by rfl) (w_gI (v := .str h) (by kernel_rfl) ?_)))
  refine w_lk (a := .ref i) (by rfl) (w_goO ((hP3.kp0 k4).m (f := a_R_head) (by kernel_rfl) (by decide)) (w_lk (a := .ref e) (by rfl) (w_lk (a := .ref e') (by rfl) (w_lk (a := hd) (by rfl) (w_lk (a := .int d) (by rfl) (w_inc ?_))))))
  refine w_go e5 ?_
  refine w_lk (a := .ref i) (by rfl) (w_goO (hP5.m (f := a_R_body) (by kernel_rfl) (by decide)) (w_lk (a := .ref e') (by rfl) (w_lk (a := b) (by rfl) (w_lk (a := .int d) (by rfl) (w_inc ?_)))))
  refine w_go e6 ?_
  exact w_go (b := .tup [.str "expr", .str h, .tup [hw, w']]) (σ := σ₆) (by kernel_rfl) (w_some rfl)
end
end Mine

end

noncomputable section
open PySem PySem.W PyProof.Rows
set_option Elab.async false
set_option maxRecDepth 100000
set_option linter.unusedVariables false
namespace Mine
section
variable {σ σ' σ₁ σ₂ σ₀ : Sto} {n : Nat} {x : Nm} {ρ : Loc} {i di p dp s s' s1 s2 e e' : Nat} {E E' : En} {w w' t b v hd hw g g' : AV} {d D : Int}
theorem arg_sym (n : Nat) (x : Nm) (σ : Sto) : ∃ j σ', callN G (n + 4) a_argument_names [nmV x] σ = some (.ref j, σ') ∧ Kp [] σ σ' ∧ σ'[j]? = some (.lst [.str x.s]) := by
  obtain ⟨j, σ₁, e1, k1, _, hj⟩ := place_ok (n + 1) x σ
  refine ⟨j, σ₁, ?_, k1, hj⟩
  have u : callN G (n + 4) a_argument_names [nmV x] σ = go (callN G (n + 3) a_place_names [nmV x] σ) fun v σ => some (v, σ) := by kernel_rfl
  rw [u]; exact go_eq e1 rfl
theorem arg_kw (n : Nat) (x : Nm) (t : AV) (σ : Sto) : ∃ j σ', callN G (n + 4) a_argument_names [ex "kw" [nmV x, t]] σ = some (.ref j, σ') ∧ Kp [] σ σ' ∧ σ'[j]? = some (.lst [.str x.s]) := by
  obtain ⟨j, σ₁, e1, k1, _, hj⟩ := place_ok (n + 1) x σ
  refine ⟨j, σ₁, ?_, k1, hj⟩
  have u : callN G (n + 4) a_argument_names [ex "kw" [nmV x, t]] σ = go (callN G (n + 3) a_place_names [nmV x] σ) fun v σ => some (v, σ) := by kernel_rfl
  rw [u]; exact go_eq e1 rfl
theorem hn_of {f : Nat} {as : AV} (hf : σ[f]? = some (.lst [])) (hl : Kp [] σ₀ σ) (hle : σ₀.length ≤ f) (ha : ∀ σ, ∃ j σ', callN G n a_argument_names [v] σ = some (.ref j, σ') ∧ Kp [] σ σ' ∧ σ'[j]? = some (.lst [.str x.s])) :
    ∃ j σ', (aft (forL "argument" (d_hn (callN G n)) [v] [("head", hd), ("inner", hd), ("arguments", as), ("found", .ref f)] σ) fun ρ σ => lk ρ "found" fun v => some (v, σ)) = some (.ref j, σ') ∧ Kp [] σ₀ σ' ∧ σ'[j]? = some (.lst [.str x.s]) := by
  obtain ⟨j, σ₁, e1, k1, hj⟩ := ha σ
  have f1 := k1.keep _ _ hf (by simp)
  have ed : d_hn (callN G n) (setL [("head", hd), ("inner", hd), ("arguments", as), ("found", .ref f)] "argument" v) σ = some (.next, setL [("head", hd), ("inner", hd), ("arguments", as), ("found", .ref f)] "argument" v, σ₁.set f (.lst ([] ++ [.str x.s]))) := by
    refine W.eq ?_
    exact w_lk (a := .ref f) (by rfl) (w_goO (m_extend hf) (w_cn (by rfl) (w_lk (a := v) (by rfl) (w_go e1 (w_go (extend_ok f1 hj (by simp) _) (w_some rfl))))))
  refine ⟨f, σ₁.set f (.lst ([] ++ [.str x.s])), ?_, (hl.trans k1).old (i := f) (.set (by simp)) hle, at_set (lt_of_at f1)⟩
  rw [forL, ed]; rfl
theorem hn_tup (n : Nat) (x : Nm) (σ : Sto) : ∃ j σ', callN G (n + 5) a_head_names [ex "tuple" [nmV x]] σ = some (.ref j, σ') ∧ Kp [] σ σ' ∧ σ'[j]? = some (.lst [.str x.s]) := by
  have u : callN G (n + 5) a_head_names [ex "tuple" [nmV x]] σ = aft (forL "argument" (d_hn (callN G (n + 4))) [nmV x] [("head", ex "tuple" [nmV x]), ("inner", ex "tuple" [nmV x]), ("arguments", .tup [nmV x]), ("found", .ref σ.length)] (σ ++ [.lst []])) fun ρ σ => lk ρ "found" fun v => some (v, σ) := by kernel_rfl
  rw [u]
  exact hn_of at_end (.app _) (Nat.le_refl _) (arg_sym n x)
theorem hn_call (n : Nat) (x : Nm) (t : AV) (σ : Sto) : ∃ j σ', callN G (n + 5) a_head_names [ex "call" [.tup [.str "sym", .str "g"], ex "kw" [nmV x, t]]] σ = some (.ref j, σ') ∧ Kp [] σ σ' ∧ σ'[j]? = some (.lst [.str x.s]) := by
  have u : callN G (n + 5) a_head_names [ex "call" [.tup [.str "sym", .str "g"], ex "kw" [nmV x, t]]] σ = aft (forL "argument" (d_hn (callN G (n + 4))) [ex "kw" [nmV x, t]] [("head", ex "call" [.tup [.str "sym", .str "g"], ex "kw" [nmV x, t]]), ("inner", ex "call" [.tup [.str "sym", .str "g"], ex "kw" [nmV x, t]]), ("arguments", .tup [ex "kw" [nmV x, t]]), ("found", .ref (σ ++ [Cell.lst []]).length)] (σ ++ [.lst []] ++ [.lst []])) fun ρ σ => lk ρ "found" fun v => some (v, σ) := by kernel_rfl
  rw [u]
  exact hn_of at_end ((Kp.app _).trans (.app _)) (by simp) (arg_kw n x t)
theorem of_arr (hD : D ≤ 117) (hz : s < 50000) (hb : Bd (n + 5) b (E.put x (s + 1)) (s + 1) w' s2 (D + 1)) : Of (n + 7) (ex "->" [ex "tuple" [nmV x], b]) E s (ex "->" [ex "tuple" [lfP x.s (s + 1)], w']) s2 D :=
  of_func (h := "->") (by lia) (fun σ i e d => by kernel_rfl) (fun σ => by kernel_rfl) (hn_tup n x) (fun σ => by kernel_rfl) hz (hd_tup (n := n + 3) (by lia) (ag_sym (n := n + 1) (by lia))) hb
theorem of_fn (hD : D ≤ 117) (hz : s < 50000) (ht : Of (n + 2) t (E.put x (s + 1)) (s + 1) w s1 (D + 3)) (hb : Bd (n + 5) b (E.put x (s + 1)) s1 w' s2 (D + 1)) : Of (n + 7) (ex "function" [ex "call" [.tup [.str "sym", .str "g"], ex "kw" [nmV x, t]], b]) E s (ex "function" [ex "call" [lfP "g" 0, ex "kw" [lfP x.s (s + 1), w]], w']) s2 D :=
  of_func (h := "function") (by lia) (fun σ i e d => by kernel_rfl) (fun σ => by kernel_rfl) (hn_call n x t) (fun σ => by kernel_rfl) hz
    (hd_call (n := n + 3) (by lia) (of_not (n := n + 2) not_g (by lia)) (fun σ => by kernel_rfl) (ag_kw (n := n) (by lia) (show Of (n + 2) t _ _ _ _ (D + 1 + 1 + 1) by rw [show D + 1 + 1 + 1 = D + 3 by lia]; exact ht))) hb

noncomputable abbrev wkP := wk true lfP id
theorem wkP_le (t : Tr) (E : En) (c : Nat) : (wkP t E c).2 ≤ c + t.wt := (wk_le true lfP id t E c).2
theorem Of.low {D' : Int} (h : Of n v E s w s' D) (hD : D' ≤ D) : Of n v E s w s' D' := fun σ i di p dp e d hP hE hd => h σ i di p dp e d hP hE (by lia)
structure FitsP (n : Nat) (t : Tr) (s : Nat) (D : Int) : Prop where
  hg : 7 * t.hg + 8 ≤ n
  sz : t.sz ≤ 5000
  wt : s + t.wt ≤ 50000
  dp : D + 4 * t.hg ≤ 116
theorem bd_ok {t : Tr} (hz : t.sz ≤ 5000) (hb : s + t.bnd.length ≤ 50000) (h : Of (n + 5) t.av (opE E t s) (opN E t s) w s' D) : Bd (n + 6) t.av E s w s' D := bd_of hz hb h
theorem le8 {n k : Nat} (h : 7 * k + 8 ≤ n) : ∃ m, n = m + 8 ∧ 7 * k ≤ m := ⟨n - 8, by lia, by lia⟩
theorem of_ok : ∀ (t : Tr) (n : Nat) (E : En) (s : Nat) (D : Int), FitsP n t s D → Of n t.av E s (wkP t E s).1 (wkP t E s).2 D := by
  intro t
  induction t with
  | sym x => intro n E s D ⟨h1, h2, h3, h4⟩; obtain ⟨m, rfl, h1⟩ := le8 h1; exact of_sym (by lia)
  | one => intro n E s D ⟨h1, h2, h3, h4⟩; obtain ⟨m, rfl, h1⟩ := le8 h1; exact of_one (by lia)
  | esc t _ => intro n E s D ⟨h1, h2, h3, h4⟩; obtain ⟨m, rfl, h1⟩ := le8 h1; exact of_esc (by lia)
  | loc x => intro n E s D ⟨h1, h2, h3, h4⟩; obtain ⟨m, rfl, h1⟩ := le8 h1; exact of_node (n := m + 6) (by simp) (by lia) (.cons (of_sym (n := m + 4) (by lia)) .nil) (fun σ i e d => by kernel_rfl)
  | glb x => intro n E s D ⟨h1, h2, h3, h4⟩; obtain ⟨m, rfl, h1⟩ := le8 h1; exact of_node (n := m + 6) (by simp) (by lia) (.cons (of_sym (n := m + 4) (by lia)) .nil) (fun σ i e d => by kernel_rfl)
  | asg x t ih =>
    intro n E s D ⟨h1, h2, h3, h4⟩
    obtain ⟨m, rfl, h1⟩ := le8 h1
    simp only [Tr.hg, Tr.sz, Tr.wt] at h1 h2 h3 h4
    exact of_node (n := m + 6) (by simp) (by lia) (.cons (of_sym (n := m + 4) (by lia)) (.cons (ih (m + 6) E s (D + 1) ⟨by lia, by lia, h3, by lia⟩) .nil)) (fun σ i e d => by kernel_rfl)
  | blk p q r ip iq ir =>
    intro n E s D ⟨h1, h2, h3, h4⟩
    obtain ⟨m, rfl, h1⟩ := le8 h1
    simp only [Tr.hg, Tr.sz, Tr.wt] at h1 h2 h3 h4
    have a1 := wkP_le p E s
    have a2 := wkP_le q E (wkP p E s).2
    exact of_node (n := m + 6) (by simp) (by lia) (.cons (ip (m + 6) E s (D + 1) ⟨by lia, by lia, by lia, by lia⟩) (.cons (iq (m + 6) E _ (D + 1) ⟨by lia, by lia, by lia, by lia⟩) (.cons (ir (m + 6) E _ (D + 1) ⟨by lia, by lia, by lia, by lia⟩) .nil))) (fun σ i e d => by kernel_rfl)
  | call x t u it iu =>
    intro n E s D ⟨h1, h2, h3, h4⟩
    obtain ⟨m, rfl, h1⟩ := le8 h1
    simp only [Tr.hg, Tr.sz, Tr.wt] at h1 h2 h3 h4
    have a1 := wkP_le t E s
    have hk : Of (m + 4) (ex "kw" [nmV x, t.av]) E s (ex "kw" [lfP x.s 0, (wkP t E s).1]) (wkP t E s).2 (D + 1 + 1) := by
      obtain ⟨q, rfl⟩ := Nat.exists_eq_add_of_le' (show 7 ≤ m by lia)
      exact of_kw (n := q + 6) (by lia) (it (q + 8) E s (D + 1 + 1 + 1) ⟨by lia, by lia, by lia, by lia⟩)
    exact of_node (n := m + 6) (by simp) (by lia) (.cons (of_not (n := m + 4) not_f (by lia)) (.cons (of_node (n := m + 4) (by simp) (by lia) (.cons hk .nil) (fun σ i e d => by kernel_rfl)) (.cons (iu (m + 6) E _ (D + 1) ⟨by lia, by lia, by lia, by lia⟩) .nil))) (fun σ i e d => by kernel_rfl)
  | dot t x ih =>
    intro n E s D ⟨h1, h2, h3, h4⟩
    obtain ⟨m, rfl, h1⟩ := le8 h1
    simp only [Tr.hg, Tr.sz, Tr.wt] at h1 h2 h3 h4
    exact of_dot (n := m + 4) (by lia) (ih (m + 6) E s (D + 1) ⟨by lia, by lia, h3, by lia⟩)
  | wh t b it ib =>
    intro n E s D ⟨h1, h2, h3, h4⟩
    obtain ⟨m, rfl, h1⟩ := le8 h1
    simp only [Tr.hg, Tr.sz, Tr.wt] at h1 h2 h3 h4
    have a1 := wkP_le t E s
    have a2 := opN_le E b (wkP t E s).2
    exact of_wh (n := m + 4) (s1 := (wkP t E s).2) (w := (wkP t E s).1) (by lia) (it (m + 6) E s (D + 1) ⟨by lia, by lia, by lia, by lia⟩) (bd_ok (n := m) (by lia) (by lia) (ib (m + 5) _ _ (D + 1) ⟨by lia, by lia, by lia, by lia⟩))
  | lt x t b it ib =>
    intro n E s D ⟨h1, h2, h3, h4⟩
    obtain ⟨m, rfl, h1⟩ := le8 h1
    simp only [Tr.hg, Tr.sz, Tr.wt] at h1 h2 h3 h4
    have a1 := wkP_le t E s
    have a2 := opN_le (E.put x ((wkP t E s).2 + 1)) b ((wkP t E s).2 + 1)
    obtain ⟨q, rfl⟩ := Nat.exists_eq_add_of_le' (show 1 ≤ m by lia)
    exact of_lt (n := q + 4) (s1 := (wkP t E s).2) (w := (wkP t E s).1) (by lia) (by lia) (it (q + 6) E s (D + 1) ⟨by lia, by lia, by lia, by lia⟩) (bd_ok (n := q) (by lia) (by lia) (ib (q + 5) _ _ (D + 1) ⟨by lia, by lia, by lia, by lia⟩))
  | fr x t b it ib =>
    intro n E s D ⟨h1, h2, h3, h4⟩
    obtain ⟨m, rfl, h1⟩ := le8 h1
    simp only [Tr.hg, Tr.sz, Tr.wt] at h1 h2 h3 h4
    have a1 := wkP_le t E (s + 1)
    have a2 := opN_le (E.put x (s + 1)) b (wkP t E (s + 1)).2
    exact of_fr (n := m + 4) (s1 := (wkP t E (s + 1)).2) (w := (wkP t E (s + 1)).1) (by lia) (by lia) (it (m + 6) E (s + 1) (D + 1) ⟨by lia, by lia, by lia, by lia⟩) (bd_ok (n := m) (by lia) (by lia) (ib (m + 5) _ _ (D + 1) ⟨by lia, by lia, by lia, by lia⟩))
  | arr x b ib =>
    intro n E s D ⟨h1, h2, h3, h4⟩
    obtain ⟨m, rfl, h1⟩ := le8 h1
    simp only [Tr.hg, Tr.sz, Tr.wt] at h1 h2 h3 h4
    have a2 := opN_le (E.put x (s + 1)) b (s + 1)
    exact of_arr (n := m + 1) (by lia) (by lia) (bd_ok (n := m) (by lia) (by lia) (ib (m + 5) _ _ (D + 1) ⟨by lia, by lia, by lia, by lia⟩))
  | fn x t b it ib =>
    intro n E s D ⟨h1, h2, h3, h4⟩
    obtain ⟨m, rfl, h1⟩ := le8 h1
    simp only [Tr.hg, Tr.sz, Tr.wt] at h1 h2 h3 h4
    have a1 := wkP_le t (E.put x (s + 1)) (s + 1)
    have a2 := opN_le (E.put x (s + 1)) b (wkP t (E.put x (s + 1)) (s + 1)).2
    exact of_fn (n := m + 1) (s1 := (wkP t (E.put x (s + 1)) (s + 1)).2) (w := (wkP t (E.put x (s + 1)) (s + 1)).1) (by lia) (by lia) (it (m + 3) _ _ (D + 3) ⟨by lia, by lia, by lia, by lia⟩) (bd_ok (n := m) (by lia) (by lia) (ib (m + 5) _ _ (D + 1) ⟨by lia, by lia, by lia, by lia⟩))

/-! the supply and the renamer -/
theorem supply_ok (n : Nat) (σ : Sto) : callN G (n + 2) c_S [] σ = some (.ref (σ.length + 1), σ ++ [.attrs [("many", .int 0)]] ++ [.inst c_S σ.length]) := by
  rw [callN_cls (fI := a_S_init) (by kernel_rfl) (by kernel_rfl)]
  have u : callN G (n + 1) a_S_init [.ref (σ.length + 1)] (σ ++ [.attrs []] ++ [.inst c_S σ.length]) = s_S_init (.ref (σ.length + 1)) (σ ++ [.attrs []] ++ [.inst c_S σ.length]) := by kernel_rfl
  have h1 : (σ ++ [Cell.attrs []] ++ [Cell.inst c_S σ.length])[σ.length + 1]? = some (.inst c_S σ.length) := by simp
  have h2 : (σ ++ [Cell.attrs []] ++ [Cell.inst c_S σ.length])[σ.length]? = some (.attrs []) := by simp
  have e : setAttrV G (.ref (σ.length + 1)) "many" (.int 0) (σ ++ [.attrs []] ++ [.inst c_S σ.length]) = some (σ ++ [.attrs [("many", .int 0)]] ++ [.inst c_S σ.length]) := by
    refine (goO_of (inst_at h1 h2)).trans ?_
    dsimp only
    have : (σ ++ [Cell.attrs []] ++ [Cell.inst c_S σ.length]).set σ.length (.attrs (dput [] ("many" : Str) (.int 0))) = σ ++ [.attrs [("many", .int 0)]] ++ [.inst c_S σ.length] := by simp [dput]
    rw [this]; kernel_rfl
  refine go_eq (a := .none) (σ := σ ++ [.attrs [("many", .int 0)]] ++ [.inst c_S σ.length]) ?_ rfl
  rw [u]; unfold s_S_init; rw [e]; rfl
theorem renamer_ok (n : Nat) (σ : Sto) (p : Nat) : callN G (n + 2) c_R [.ref p] σ = some (.ref (σ.length + 1), σ ++ [.attrs [("supply", .ref p)]] ++ [.inst c_R σ.length]) := by
  rw [callN_cls (fI := a_R_init) (by kernel_rfl) (by kernel_rfl)]
  have u : callN G (n + 1) a_R_init [.ref (σ.length + 1), .ref p] (σ ++ [.attrs []] ++ [.inst c_R σ.length]) = s_R_init (.ref (σ.length + 1)) (.ref p) (σ ++ [.attrs []] ++ [.inst c_R σ.length]) := by kernel_rfl
  have h1 : (σ ++ [Cell.attrs []] ++ [Cell.inst c_R σ.length])[σ.length + 1]? = some (.inst c_R σ.length) := by simp
  have h2 : (σ ++ [Cell.attrs []] ++ [Cell.inst c_R σ.length])[σ.length]? = some (.attrs []) := by simp
  have e : setAttrV G (.ref (σ.length + 1)) "supply" (.ref p) (σ ++ [.attrs []] ++ [.inst c_R σ.length]) = some (σ ++ [.attrs [("supply", .ref p)]] ++ [.inst c_R σ.length]) := by
    refine (goO_of (inst_at h1 h2)).trans ?_
    dsimp only
    have : (σ ++ [Cell.attrs []] ++ [Cell.inst c_R σ.length]).set σ.length (.attrs (dput [] ("supply" : Str) (.ref p))) = σ ++ [.attrs [("supply", .ref p)]] ++ [.inst c_R σ.length] := by simp [dput]
    rw [this]; kernel_rfl
  refine go_eq (a := .none) (σ := σ ++ [.attrs [("supply", .ref p)]] ++ [.inst c_R σ.length]) ?_ rfl
  rw [u]; unfold s_R_init; rw [e]; rfl
/-- what renamed_locals makes of a tree, with a supply unused as yet -/
theorem ren_ok {t : Tr} (hz : t.sz ≤ 5000) (hw : t.wt + t.bnd.length ≤ 50000) (hg : t.hg ≤ 4) (h3 : σ[p]? = some (.inst c_S dp)) (h4 : σ[dp]? = some (.attrs [("many", .int 0)])) :
    ∃ σ', callN G 45 a_renamed_locals [t.av, .ref p] σ = some ((wkP t (opE En.none t 0) (opN En.none t 0)).1, σ') ∧ Kp [dp] σ σ' := by
  have u : callN G 45 a_renamed_locals [t.av, .ref p] σ = s_renamed_locals (callN G 44) t.av (.ref p) σ := by kernel_rfl
  let σ₁ := σ ++ [Cell.attrs [("supply", .ref p)]] ++ [Cell.inst c_R σ.length]
  have k1 : Kp [] σ σ₁ := (Kp.app _).trans (.app _)
  have k2 : Kp [] σ₁ (σ₁ ++ [.edct]) := .app _
  have hP : PS (σ.length + 1) σ.length p dp 0 σ₁ := ⟨by simp [σ₁], by simp [σ₁], k1.keep _ _ h3 (by simp), k1.keep _ _ h4 (by simp)⟩
  have hE : EnvP (σ₁ ++ [.edct]) σ₁.length En.none := ⟨[], by unfold dctS; rw [at_end]; rfl, by simp, fun x => rfl, fun k _ => rfl⟩
  have a1 := opN_le En.none t 0
  have hb : Bd 44 t.av En.none 0 _ _ 0 := bd_ok (n := 38) hz (by lia) (of_ok t 43 (opE En.none t 0) (opN En.none t 0) 0 ⟨by lia, hz, by lia, by lia⟩)
  refine (hb _ _ _ _ _ _ 0 (hP.kp0 k2) hE (Int.le_refl _)).elim fun σ₂ e2 k3 hP2 => ⟨σ₂, ?_, (k1.trans k2).nil.trans k3⟩
  rw [u]
  refine W.eq ?_
  refine w_go (renamer_ok 42 σ p) (w_goO (hP.m (f := a_R_body) (by kernel_rfl) (by decide)) ?_)
  exact w_go e2 (w_some rfl)
end
end Mine

end

noncomputable section
open PySem PySem.W PyProof.Rows
set_option Elab.async false
set_option maxRecDepth 100000
set_option linter.unusedVariables false
namespace Mine
/-- the law's urn -/
structure Urn (u : Nat) (σ : Sto) : Prop where
  ex : ∃ a b : Int, σ[u]? = some (.lst [.int a, .int b]) ∧ 0 ≤ a ∧ 0 ≤ b ∧ b < 65519
section
variable {σ σ' σ₁ σ₂ σ₀ : Sto} {n u h : Nat}
theorem get_l {i k : Nat} {l : List AV} {v : AV} (hi : σ[i]? = some (.lst l)) (hk : l[k]? = some v) (hz : k < 100000) : getV (.ref i) (.int (k : Nat)) σ = some v := by
  exact (optG_of (lstAt_of hi)).trans ((pre_of (decide_eq_true hz)).trans hk)
theorem set_l {i k : Nat} {l : List AV} {v : AV} (hi : σ[i]? = some (.lst l)) (hk : k < l.length) : setV (.ref i) (.int (k : Nat)) v σ = some (σ.set i (.lst (l.set k v))) := by
  exact (optG_of (lstAt_of hi)).trans (pre_of (decide_eq_true hk))
theorem Urn.set (hU : σ[u]? = some (.lst l)) {a b : Int} (ha : 0 ≤ a) (hb : 0 ≤ b) (hb' : b < 65519) : Urn u (σ.set u (.lst [.int a, .int b])) := ⟨a, b, at_set (lt_of_at hU), ha, hb, hb'⟩
theorem mod_ok {i j : Int} (h : j ≠ 0) : binV .Mod (.int i) (.int j) σ = some (.int (i.fmod j), σ) := by
  exact goO_of (pre_of (decide_eq_true h))
theorem div_ok {i j : Int} (h : j ≠ 0 ∧ j.natAbs < 1073741824) : binV .FloorDiv (.int i) (.int j) σ = some (.int (i.fdiv j), σ) := by
  exact goO_of (pre_of (decide_eq_true h))
theorem mul_ok {i j : Int} (h : i.natAbs < 1000000000) : binV .Mult (.int i) (.int j) σ = some (.int (i * j), σ) := by
  exact goO_of (pre_of (decide_eq_true (Nat.lt_of_lt_of_le h (by decide))))
theorem fmod_nat {a m : Int} (h : 0 < m) : ∃ k : Nat, a.fmod m = k ∧ (k : Int) < m := by
  have h1 := Int.fmod_nonneg_of_pos a h
  have h2 := Int.fmod_lt_of_pos a h
  exact ⟨(a.fmod m).toNat, by lia, by lia⟩
theorem lnext_ok (hU : Urn u σ) {m : Nat} (hm : 0 < m) (hm' : m < 1000) : ∃ (k : Nat) (σ' : Sto), k < m ∧ callN G (n + 1) a_law_next [.ref u, .int m] σ = some (.int k, σ') ∧ Kp [u] σ σ' ∧ Urn u σ' := by
  obtain ⟨a, b, hu, ha, hb, hb'⟩ := hU.ex
  have u1 : callN G (n + 1) a_law_next [.ref u, .int m] σ = s_law_next (.ref u) (.int m) σ := by kernel_rfl
  have g0 : ∀ {σ : Sto} {a b : Int}, σ[u]? = some (.lst [.int a, .int b]) → getV (.ref u) (.int (0 : Nat)) σ = some (.int a) := fun h => get_l (k := 0) h rfl (by lia)
  have g1 : ∀ {σ : Sto} {a b : Int}, σ[u]? = some (.lst [.int a, .int b]) → getV (.ref u) (.int (1 : Nat)) σ = some (.int b) := fun h => get_l (k := 1) h rfl (by lia)
  by_cases hp : 0 < a
  · obtain ⟨k, e1, h1⟩ := fmod_nat (a := a) (m := m) (by lia)
    have e3 := set_l (k := 0) (v := .int (a.fdiv m)) hu (by simp)
    refine ⟨k, σ.set u (.lst [.int (a.fdiv m), .int b]), by lia, ?_, .set (by simp), Urn.set hu (Int.fdiv_nonneg ha (by lia)) hb hb'⟩
    rw [u1]
    refine W.eq ?_
    refine w_gI (g0 hu) (w_goO (b := true) (congrArg some (decide_eq_true hp)) (w_t ?_))
    refine w_gI (g0 hu) ?_
    refine w_go (mod_ok (by lia)) (w_gI (g0 hu) ?_)
    refine w_go (div_ok ⟨by lia, by lia⟩) (w_goO e3 (w_some ?_))
    rw [e1]; rfl
  · obtain ⟨q, e1, h1⟩ := fmod_nat (a := b * 75 + 15013) (m := 65519) (by lia)
    obtain ⟨k, e2, h2⟩ := fmod_nat (a := ((b * 75 + 15013).fmod 65519).fdiv 5) (m := m) (by lia)
    have e3 := set_l (k := 1) (v := .int ((b * 75 + 15013).fmod 65519)) hu (by simp)
    have hu2 : (σ.set u (.lst [.int a, .int ((b * 75 + 15013).fmod 65519)]))[u]? = _ := at_set (lt_of_at hu)
    refine ⟨k, σ.set u (.lst [.int a, .int ((b * 75 + 15013).fmod 65519)]), by lia, ?_, .set (by simp), Urn.set hu ha (by lia) (by lia)⟩
    rw [u1]
    refine W.eq ?_
    refine w_gI (g0 hu) (w_goO (b := false) (congrArg some (decide_eq_false hp)) (w_f ?_))
    refine w_gI (g1 hu) ?_
    refine w_go (mul_ok (by lia)) ?_
    refine w_go (b := .int (b * 75 + 15013)) (σ := σ) rfl ?_
    refine w_go (mod_ok (by lia)) (w_goO e3 (w_gI (g1 hu2) ?_))
    refine w_go (div_ok ⟨by lia, by decide⟩) ?_
    refine w_go (mod_ok (by lia)) (w_some ?_)
    rw [e2]; rfl
theorem lname_ok (hU : Urn u σ) : ∃ (x : Nm) (σ' : Sto), callN G (n + 2) a_law_name [.ref u] σ = some (nmV x, σ') ∧ Kp [u] σ σ' ∧ Urn u σ' := by
  have u1 : callN G (n + 2) a_law_name [.ref u] σ = s_law_name (callN G (n + 1)) (.ref u) σ := by kernel_rfl
  have hU1 : Urn u (σ ++ [.lst [.str "a", .str "b", .str "c"]]) := let ⟨a, b, h, r⟩ := hU.ex; ⟨a, b, at_old h _, r⟩
  obtain ⟨k, σ', hk, e1, k1, hU2⟩ := lnext_ok (n := n) hU1 (m := 3) (by lia) (by lia)
  have hl : u < σ.length := let ⟨a, b, h, r⟩ := hU.ex; lt_of_at h
  have h0 := k1.keep _ _ (at_end (σ := σ) (c := .lst [.str "a", .str "b", .str "c"])) (not1 (Nat.ne_of_gt hl))
  have key : ∀ {v : AV} (x : Nm), v = .str x.s → getV (.ref σ.length) (.int k) σ' = some v → callN G (n + 2) a_law_name [.ref u] σ = some (nmV x, σ') := fun x e h => by
    subst e
    rw [u1]; refine W.eq ?_
    exact w_go e1 (w_goO h (w_some rfl))
  have kA : Kp [u] σ σ' := (Kp.app _).trans k1
  rcases k with _ | _ | _ | k
  · exact ⟨.a, σ', key .a rfl (get_l (k := 0) h0 rfl (by lia)), kA, hU2⟩
  · exact ⟨.b, σ', key .b rfl (get_l (k := 1) h0 rfl (by lia)), kA, hU2⟩
  · exact ⟨.c, σ', key .c rfl (get_l (k := 2) h0 rfl (by lia)), kA, hU2⟩
  · lia

/-! trees -/
structure TrP (u h : Nat) (σ₀ : Sto) (p : AV × Sto) : Prop where
  ex : ∃ t : Tr, t.hg ≤ h ∧ p.1 = t.av
  kp : Kp [u] σ₀ p.2
  urn : Urn u p.2
theorem w_nm {k : AV → Sto → RV} {P : AV × Sto → Prop} (kp : Kp [u] σ₀ σ) (hU : Urn u σ) (h : ∀ x σ', Kp [u] σ₀ σ' → Urn u σ' → W (k (nmV x) σ') P) : W (nm (callN G (n + 2)) (.ref u) σ k) P := by
  obtain ⟨x, σ', e, k1, hU'⟩ := lname_ok (n := n) hU
  exact w_go e (h x σ' (kp.trans k1) hU')
noncomputable def TrOk (n u h : Nat) : Prop := ∀ σ, Urn u σ → ∃ (t : Tr) (σ' : Sto), t.hg ≤ h ∧ callN G n a_law_tree [.ref u, .int h] σ = some (t.av, σ') ∧ Kp [u] σ σ' ∧ Urn u σ'
theorem w_tr {k : AV → Sto → RV} {P : AV × Sto → Prop} (H : TrOk n u h) (kp : Kp [u] σ₀ σ) (hU : Urn u σ) (g : ∀ (t : Tr) σ', t.hg ≤ h → Kp [u] σ₀ σ' → Urn u σ' → W (k t.av σ') P) : W (tr (callN G n) (.ref u) (.int ((h + 1 : Nat) : Int)) σ k) P := by
  obtain ⟨t, σ', ht, e, k1, hU'⟩ := H σ hU
  have e0 : ((h + 1 : Nat) : Int) - 1 = (h : Int) := by lia
  refine w_go (b := .int (((h + 1 : Nat) : Int) - 1)) (σ := σ) rfl ?_
  rw [e0]
  exact w_go e (g t σ' ht (kp.trans k1) hU')
theorem tree_ok : ∀ (h n u : Nat), h + 3 ≤ n → TrOk n u h := by
  intro h
  induction h with
  | zero =>
    intro n u hn σ hU
    obtain ⟨m, rfl⟩ := Nat.exists_eq_add_of_le' hn
    obtain ⟨k, σ₁, hk, e1, k1, hU1⟩ := lnext_ok (n := m + 1) hU (m := 2) (by lia) (by lia)
    have u0 : callN G (m + 3) a_law_tree [.ref u, .int (0 : Nat)] σ = go (callN G (m + 2) a_law_next [.ref u, .int (2 : Nat)] σ) fun way σ => lt_K (callN G (m + 2)) (.ref u) (.int (0 : Nat)) way σ := by kernel_rfl
    rcases k with _ | _ | k
    · obtain ⟨x, σ₂, e2, k2, hU2⟩ := lname_ok (n := m) hU1
      refine ⟨.sym x, σ₂, Nat.le_refl _, ?_, k1.trans k2, hU2⟩
      show callN G (m + 3) a_law_tree [.ref u, .int (0 : Nat)] σ = _
      rw [u0]; refine W.eq ?_
      refine w_go e1 ?_
      exact w_go e2 (w_some rfl)
    · refine ⟨.one, σ₁, Nat.le_refl _, ?_, k1, hU1⟩
      show callN G (m + 3) a_law_tree [.ref u, .int (0 : Nat)] σ = _
      rw [u0]; refine W.eq ?_
      refine w_go e1 ?_
      exact w_some rfl
    · lia
  | succ h ih =>
    intro n u hn σ hU
    obtain ⟨m, rfl⟩ := Nat.exists_eq_add_of_le' (show 4 ≤ n by lia)
    have H := ih (m + 3) u (by lia)
    obtain ⟨k, σ₁, hk, e1, k1, hU1⟩ := lnext_ok (n := m + 2) hU (m := 14) (by lia) (by lia)
    have u0 : callN G (m + 4) a_law_tree [.ref u, .int ((h + 1 : Nat) : Int)] σ = go (callN G (m + 3) a_law_next [.ref u, .int (14 : Nat)] σ) fun way σ => lt_K (callN G (m + 3)) (.ref u) (.int ((h + 1 : Nat) : Int)) way σ := by
      have u1 : callN G (m + 4) a_law_tree [.ref u, .int ((h + 1 : Nat) : Int)] σ = s_law_tree (callN G (m + 3)) (.ref u) (.int ((h + 1 : Nat) : Int)) σ := by kernel_rfl
      have h0 : cmpV .Gt (.int ((h + 1 : Nat) : Int)) (.int 0) σ = some true := congrArg some (decide_eq_true (show (0 : Int) < ((h + 1 : Nat) : Int) by lia))
      rw [u1]; unfold s_law_tree eqs; rw [h0]; rfl
    suffices hK : W (lt_K (callN G (m + 3)) (.ref u) (.int ((h + 1 : Nat) : Int)) (.int k) σ₁) (TrP u (h + 1) σ) by
      obtain ⟨⟨v, σ₂⟩, e2, ⟨t, ht, e3⟩, k2, hU2⟩ := hK
      dsimp only at e3; subst e3
      exact ⟨t, σ₂, ht, by rw [u0]; exact go_eq e1 e2, k2, hU2⟩
    rcases k with _ | _ | _ | _ | _ | _ | _ | _ | _ | _ | _ | _ | _ | _ | k
    · show W (nm _ _ _ _) _
      exact w_nm k1 hU1 fun x σ' k2 hU2 => w_some ⟨⟨.sym x, Nat.zero_le _, rfl⟩, k2, hU2⟩
    · exact w_some ⟨⟨.one, Nat.zero_le _, rfl⟩, k1, hU1⟩
    · show W (nm _ _ _ _) _
      exact w_nm k1 hU1 fun x σ' k2 hU2 => w_tr H k2 hU2 fun t σ' ht k3 hU3 => w_some ⟨⟨.asg x t, Nat.succ_le_succ ht, rfl⟩, k3, hU3⟩
    · show W (nm _ _ _ _) _
      exact w_nm k1 hU1 fun x σ' k2 hU2 => w_tr H k2 hU2 fun t σ' ht k3 hU3 => w_some ⟨⟨.asg x t, Nat.succ_le_succ ht, rfl⟩, k3, hU3⟩
    · show W (tr (callN G (m + 3)) (.ref u) (.int ((h + 1 : Nat) : Int)) σ₁ _) (TrP u (h + 1) σ)
      exact w_tr H k1 hU1 fun a σ' ha k2 hU2 => w_tr H k2 hU2 fun b σ' hb k3 hU3 => w_tr H k3 hU3 fun c σ' hc k4 hU4 => w_some ⟨⟨.blk a b c, Nat.succ_le_succ (Nat.max_le.mpr ⟨ha, Nat.max_le.mpr ⟨hb, hc⟩⟩), rfl⟩, k4, hU4⟩
    · show W (nm _ _ _ _) _
      exact w_nm k1 hU1 fun x σ' k2 hU2 => w_tr H k2 hU2 fun a σ' ha k3 hU3 => w_tr H k3 hU3 fun b σ' hb k4 hU4 => w_some ⟨⟨.call x a b, Nat.succ_le_succ (Nat.max_le.mpr ⟨ha, hb⟩), rfl⟩, k4, hU4⟩
    · show W (tr (callN G (m + 3)) (.ref u) (.int ((h + 1 : Nat) : Int)) σ₁ _) (TrP u (h + 1) σ)
      exact w_tr H k1 hU1 fun a σ' ha k2 hU2 => w_nm k2 hU2 fun x σ' k3 hU3 => w_some ⟨⟨.dot a x, Nat.succ_le_succ ha, rfl⟩, k3, hU3⟩
    · show W (nm _ _ _ _) _
      exact w_nm k1 hU1 fun x σ' k2 hU2 => w_tr H k2 hU2 fun a σ' ha k3 hU3 => w_tr H k3 hU3 fun b σ' hb k4 hU4 => w_some ⟨⟨.lt x a b, Nat.succ_le_succ (Nat.max_le.mpr ⟨ha, hb⟩), rfl⟩, k4, hU4⟩
    · show W (nm _ _ _ _) _
      exact w_nm k1 hU1 fun x σ' k2 hU2 => w_tr H k2 hU2 fun a σ' ha k3 hU3 => w_tr H k3 hU3 fun b σ' hb k4 hU4 => w_some ⟨⟨.fr x a b, Nat.succ_le_succ (Nat.max_le.mpr ⟨ha, hb⟩), rfl⟩, k4, hU4⟩
    · show W (nm _ _ _ _) _
      exact w_nm k1 hU1 fun x σ' k2 hU2 => w_tr H k2 hU2 fun a σ' ha k3 hU3 => w_some ⟨⟨.arr x a, Nat.succ_le_succ ha, rfl⟩, k3, hU3⟩
    · show W (nm _ _ _ _) _
      exact w_nm k1 hU1 fun x σ' k2 hU2 => w_tr H k2 hU2 fun a σ' ha k3 hU3 => w_tr H k3 hU3 fun b σ' hb k4 hU4 => w_some ⟨⟨.fn x a b, Nat.succ_le_succ (Nat.max_le.mpr ⟨ha, hb⟩), rfl⟩, k4, hU4⟩
    · have hU2 : Urn u (σ₁ ++ [.lst [.str "local", .str "global"]]) := let ⟨a, b, h, r⟩ := hU1.ex; ⟨a, b, at_old h _, r⟩
      obtain ⟨q, σ₂, hq, e2, k2, hU3⟩ := lnext_ok (n := m + 2) hU2 (m := 2) (by lia) (by lia)
      have hl : u < σ₁.length := let ⟨a, b, h, r⟩ := hU1.ex; lt_of_at h
      have h0 := k2.keep _ _ (at_end (σ := σ₁) (c := .lst [.str "local", .str "global"])) (not1 (Nat.ne_of_gt hl))
      have kA : Kp [u] σ σ₂ := k1.trans ((Kp.app _).trans k2)
      show W (go _ _) _
      refine w_go e2 ?_
      rcases q with _ | _ | q
      · refine w_goO (get_l (k := 0) h0 rfl (by lia)) ?_
        exact w_nm kA hU3 fun x σ' k4 hU4 => w_some ⟨⟨.loc x, Nat.zero_le _, rfl⟩, k4, hU4⟩
      · refine w_goO (get_l (k := 1) h0 rfl (by lia)) ?_
        exact w_nm kA hU3 fun x σ' k4 hU4 => w_some ⟨⟨.glb x, Nat.zero_le _, rfl⟩, k4, hU4⟩
      · lia
    · show W (tr (callN G (m + 3)) (.ref u) (.int ((h + 1 : Nat) : Int)) σ₁ _) (TrP u (h + 1) σ)
      exact w_tr H k1 hU1 fun a σ' ha k2 hU2 => w_tr H k2 hU2 fun b σ' hb k3 hU3 => w_some ⟨⟨.wh a b, Nat.succ_le_succ (Nat.max_le.mpr ⟨ha, hb⟩), rfl⟩, k3, hU3⟩
    · show W (tr (callN G (m + 3)) (.ref u) (.int ((h + 1 : Nat) : Int)) σ₁ _) (TrP u (h + 1) σ)
      exact w_tr H k1 hU1 fun a σ' ha k2 hU2 => w_some ⟨⟨.esc a, Nat.succ_le_succ ha, rfl⟩, k2, hU2⟩
    · lia
end
end Mine

end

noncomputable section
open PySem PySem.W PyProof.Rows
set_option Elab.async false
set_option maxRecDepth 100000
set_option linter.unusedVariables false
namespace Mine
section
variable {σ σ' σ₁ σ₂ σ₀ : Sto} {n u h sc : Nat} {P : AV × Sto → Prop}
theorem w_eqs {β : Type} {P : β → Prop} {op : CmpOp} {a b : AV} {t : Bool} {k : Bool → Option β} (e : cmpV op a b σ = some t) (h : W (k t) P) : W (eqs op a b σ k) P := w_goO e h
structure UrP (σ : Sto) (p : AV × Sto) : Prop where
  ex : ∃ u, p.1 = .ref u ∧ σ.length ≤ u ∧ Urn u p.2
  kp : Kp [] σ p.2
theorem urn3_ok {cell size v : Int} {tu : Nat} (hv : 0 ≤ v) : W (urn3 (.int tu) (.int cell) (.int size) (.int v) σ) (UrP σ) := by
  obtain ⟨k, e1, h1⟩ := fmod_nat (a := size) (m := 999983) (by omega)
  refine w_go (mod_ok (by omega)) ?_
  rw [e1]
  refine w_go (mul_ok (by omega)) (w_go (mul_ok (by decide)) ?_)
  refine w_go (b := .int ((k : Int) * 353 + 131 * tu)) (σ := σ) rfl (w_eqs (t := decide (cell < 0)) rfl ?_)
  refine w_go (b := .int (if decide (cell < 0) then 1 else 0)) (σ := σ) rfl (w_go (mul_ok (by decide)) ?_)
  refine w_go (b := .int ((k : Int) * 353 + 131 * tu + 29 * (if decide (cell < 0) then 1 else 0))) (σ := σ) rfl ?_
  refine w_go (b := .int ((k : Int) * 353 + 131 * tu + 29 * (if decide (cell < 0) then 1 else 0) + 7)) (σ := σ) rfl ?_
  obtain ⟨q, e2, h2⟩ := fmod_nat (a := (k : Int) * 353 + 131 * tu + 29 * (if decide (cell < 0) then 1 else 0) + 7) (m := 65519) (by omega)
  refine w_go (mod_ok (by omega)) (w_some ?_)
  rw [e2]
  exact ⟨⟨σ.length, rfl, Nat.le_refl _, v, q, at_end, hv, by omega, h2⟩, .app _⟩
theorem urn2_ok {cell size : Int} {tu : Nat} (hv : 0 ≤ size) : W (urn2 (.int tu) (.int cell) (.int size) σ) (UrP σ) := by
  refine w_go (b := .int (10 ^ 15)) (σ := σ) (by kernel_rfl) (w_eqs (t := decide ((10 ^ 15 : Int) ≤ size)) rfl ?_)
  cases decide ((10 ^ 15 : Int) ≤ size) with
  | true => exact w_t (urn3_ok hv)
  | false => exact w_f (urn3_ok (Int.le_refl 0))
theorem urn1_ok {cell : Int} {tu : Nat} : W (urn1 (.int tu) (.int cell) σ) (UrP σ) := by
  refine w_eqs (t := decide ((0 : Int) ≤ cell)) rfl ?_
  by_cases h : (0 : Int) ≤ cell
  · rw [decide_eq_true h]; exact w_t (urn2_ok h)
  · rw [decide_eq_false h]; exact w_f (w_go (b := .int (0 - cell)) (σ := σ) rfl (urn2_ok (by omega)))
theorem urn_ok {vs : Array Value} {nn tu : Nat} (hs : σ[sc]? = some (.rol vs nn)) (hv : ∀ (k : Nat) (v : Value), vs[k]? = some v → ∃ i t, v = Value.int i t) (ht : tu < 100000) : ∃ u σ', callN G (n + 1) a_law_urn [.ref sc, .int tu] σ = some (.ref u, σ') ∧ Kp [] σ σ' ∧ σ.length ≤ u ∧ Urn u σ' := by
  have u1 : callN G (n + 1) a_law_urn [.ref sc, .int tu] σ = s_law_urn (.ref sc) (.int tu) σ := by kernel_rfl
  have l0 : lstAt σ sc = none := by unfold lstAt; rw [hs]; rfl
  have l1 : dctS σ sc = none := by unfold dctS; rw [hs]; rfl
  have l2 : dctI σ sc = none := by unfold dctI; rw [hs]; rfl
  have l3 : rolAt σ sc = some vs := by unfold rolAt; rw [hs]; rfl
  have e1 : biV "len" [.ref sc] σ = some (.int vs.size, σ) := by
    exact (optG_no l0).trans ((optG_no l1).trans ((optG_no l2).trans (goO_of l3)))
  suffices hW : W (s_law_urn (.ref sc) (.int tu) σ) (UrP σ) by
    obtain ⟨⟨v, σ'⟩, e, ⟨u, e2, le, hU⟩, kp⟩ := hW
    dsimp only at e2; subst e2
    exact ⟨u, σ', u1.trans e, kp, le, hU⟩
  refine w_go e1 (w_eqs (t := decide ((tu : Int) < vs.size)) rfl ?_)
  by_cases h : (tu : Int) < vs.size
  · rw [decide_eq_true h]
    have hlt : tu < vs.size := by omega
    obtain ⟨i, t, e2⟩ := hv tu vs[tu] (Array.getElem?_eq_getElem hlt)
    refine w_t (w_goO (b := .int i) ?_ urn1_ok)
    exact (optG_no l0).trans ((optG_no l2).trans ((goO_of l3).trans ((pre_of (decide_eq_true ht)).trans (goO_of ((Array.getElem?_eq_getElem hlt).trans (congrArg some e2))))))
  · rw [decide_eq_false h]
    exact w_f urn1_ok
end
end Mine

end

noncomputable section
open PySem PySem.W PyProof.Rows PySem.W.KIN
set_option Elab.async false
set_option maxRecDepth 100000
set_option linter.unusedVariables false
namespace Mine
/-! texts -/
theorem first_eq {c : Nat} : ∀ {a b x y : List Nat}, c ∉ a → c ∉ b → a ++ c :: x = b ++ c :: y → a = b
  | [], [], _, _, _, _, _ => rfl
  | [], d :: b, _, _, _, hb, e => by cases e; simp at hb
  | d :: a, [], _, _, ha, _, e => by cases e; simp at ha
  | d :: a, d' :: b, x, y, ha, hb, e => by
    have e1 := (List.cons.inj e)
    rw [e1.1, first_eq (fun m => ha (List.mem_cons_of_mem _ m)) (fun m => hb (List.mem_cons_of_mem _ m)) e1.2]
theorem hash : ("#" : Str) = ⟨#[35]⟩ := by decide +kernel
theorem cps_app (a b : Str) : (a ++ b).cps.toList = a.cps.toList ++ b.cps.toList := by rw [Str.cps_append, Array.toList_append]
theorem split_first {s r : Str} (hs : 35 ∉ s.cps.toList) : ∃ l, Txt.split ((s ++ "#") ++ r) "#" = s :: l := by
  have h1 := StrLaws.join_split ((s ++ "#") ++ r) "#"
  have h2 := StrLaws.split_free ((s ++ "#") ++ r) 35
  rw [← hash] at h2
  have hx : ((s ++ "#") ++ r).cps.toList = s.cps.toList ++ 35 :: r.cps.toList := by
    rw [cps_app, cps_app, hash]; simp
  generalize Txt.split ((s ++ "#") ++ r) "#" = l at h1 h2
  rcases l with _ | ⟨p, _ | ⟨q, l⟩⟩
  · have := congrArg Array.toList (congrArg Str.cps h1)
    rw [hx] at this
    have h0 : (Str.join "#" []).cps.toList = [] := rfl
    rw [h0] at this
    exact absurd this (by simp)
  · have h0 : Str.join "#" [p] = p := rfl
    rw [h0] at h1
    have := h2 p (by simp)
    rw [h1, hx] at this
    exact absurd (by simp) this
  · have h0 : Str.join "#" (p :: q :: l) = (p ++ "#") ++ Str.join "#" (q :: l) := rfl
    rw [h0] at h1
    have e1 := congrArg Array.toList (congrArg Str.cps h1)
    rw [hx, cps_app, cps_app, hash] at e1
    have e2 : p.cps.toList = s.cps.toList := first_eq (c := 35) (h2 p (by simp)) hs (by simpa using e1)
    have : p = s := Str.ext' (Array.toList_inj.mp e2)
    exact ⟨q :: l, by rw [this]⟩
theorem nohash (x : Nm) : 35 ∉ x.s.cps.toList := by cases x <;> decide +kernel
theorem split_nmk {x : Nm} {k : Nat} (hk : k ≠ 0) : ∃ l, Txt.split (nmS x.s k) "#" = x.s :: l := by
  unfold nmS; rw [if_neg hk]; exact split_first (nohash x)
theorem has_nmk {x : Nm} {k : Nat} (hk : k ≠ 0) : Txt.contains (nmS x.s k) "#" = true := by
  unfold nmS Txt.contains; rw [if_neg hk, hash, StrLaws.found_one, decide_eq_true_eq, ← hash, cps_app, cps_app, hash]
  simp
theorem repr_inj {a b : Nat} (h : Str.ofString a.repr = Str.ofString b.repr) : a = b := by
  have e : ∀ n : Nat, (Str.ofString n.repr).cps.toList = (Nat.toDigits 10 n).map Char.toNat := fun n => by
    rw [Str.ofString_eq_toList, Nat.repr_eq_ofList_toDigits]; simp
  have := congrArg NumText.digitsVal (congrArg Array.toList (congrArg Str.cps h))
  rw [e, e, val_back, val_back] at this
  exact this
theorem nmS_inj {x y : Nm} {k m : Nat} (hk : k ≠ 0) (hm : m ≠ 0) (h : nmS x.s k = nmS y.s m) : k = m := by
  unfold nmS at h; rw [if_neg hk, if_neg hm] at h
  have e1 := congrArg Array.toList (congrArg Str.cps h)
  rw [cps_app, cps_app, cps_app, cps_app, hash] at e1
  have e2 := first_eq (c := 35) (nohash x) (nohash y) (by simpa using e1)
  rw [e2] at e1
  have e3 := List.append_cancel_left e1
  exact repr_inj (Str.ext' (Array.toList_inj.mp e3))
end Mine

end

noncomputable section
open PySem PySem.W PyProof.Rows
set_option Elab.async false
set_option maxRecDepth 100000
set_option linter.unusedVariables false
namespace Mine
noncomputable abbrev Rel := Nat → Nm → Nat → Prop
/-- each number of the law stands for one name -/
structure Fun (ψ : Rel) : Prop where
  one : ∀ {m x k x' k'}, ψ m x k → ψ m x' k' → x = x' ∧ k = k'
  inj : ∀ {m x k m' x'}, ψ m x k → ψ m' x' k → m = m'
  pos : ∀ {m x k}, ψ m x k → 0 < m ∧ 0 < k
  small : ∀ {m x k}, ψ m x k → k ≤ 100000
structure Giv (ψ : Rel) (σ : Sto) (g q : Nat) : Prop where
  ex : ∃ l, dctI σ g = some l ∧ l.length ≤ q ∧ (l.map (·.1)).Nodup ∧ ∀ p ∈ l, ∃ m x k, p.1 = ((m : Nat) : Int) ∧ p.2 = .str (nmS x.s k) ∧ ψ m x k
/-- _law_fits says yes -/
noncomputable def Ft (n : Nat) (ψ : Rel) (cnt : Nat) (v w : AV) : Prop := ∀ σ g q, Giv ψ σ g q → q + cnt ≤ 50000 → ∃ σ', callN G n a_law_fits [v, w, .ref g] σ = some (.bool true, σ') ∧ Kp [g] σ σ' ∧ Giv ψ σ' g (q + cnt)
section
variable {σ σ' σ₁ σ₂ σ₀ : Sto} {n g q cnt : Nat} {ψ : Rel} {v w : AV} {x : Nm} {m k : Nat}
theorem u_fits (v w : AV) : callN G (n + 1) a_law_fits [v, w, .ref g] σ = s_law_fits (callN G n) v w (.ref g) σ := by kernel_rfl
theorem dctI_kp {I : List Nat} {l : List (Int × AV)} (h : dctI σ g = some l) (k : Kp I σ σ') (he : g ∉ I) : dctI σ' g = some l := by
  obtain ⟨c, q, h⟩ := goO_inv h
  exact (goO_of (k.keep _ _ q he)).trans h
theorem dctI_lt {l : List (Int × AV)} (h : dctI σ g = some l) : g < σ.length := by
  obtain ⟨c, q, h⟩ := goO_inv h
  exact lt_of_at q
theorem lstAt_dctI {l : List (Int × AV)} (h : dctI σ g = some l) : lstAt σ g = none := by
  obtain ⟨c, q, h⟩ := goO_inv h
  unfold lstAt; rw [q]
  cases c <;> first | rfl | exact no h
theorem Giv.kp0 (h : Giv ψ σ g q) (k : Kp [] σ σ') : Giv ψ σ' g q := let ⟨l, a, b⟩ := h.ex; ⟨l, dctI_kp a k (by simp), b⟩
theorem Giv.lt (h : Giv ψ σ g q) : g < σ.length := let ⟨l, a, b⟩ := h.ex; dctI_lt a
theorem eqv_str (n : Nat) (s : Str) : eqV n (.str s) (.str s) = some true := by
  cases n <;> (show some (s == s) = some true; rw [beq_self_eq_true])
theorem eqv_int (n : Nat) (i : Int) : eqV n (.int i) (.int i) = some true := by
  cases n <;> (show some (i == i) = some true; rw [beq_self_eq_true])
theorem eql_refl {n : Nat} : ∀ {l : List AV}, (∀ a ∈ l, eqV n a a = some true) → eqL (eqV n) l l = some true
  | [], _ => rfl
  | a :: l, h => by
    rw [eqL, h a (List.mem_cons_self ..), eql_refl fun b hb => h b (List.mem_cons_of_mem _ hb)]; rfl
theorem eqv_tup {n : Nat} {l : List AV} (h : ∀ a ∈ l, eqV n a a = some true) : eqV (n + 1) (.tup l) (.tup l) = some true := eql_refl h

theorem ft_kept {l : List AV} (h : eqV 60 (.tup l) (.tup l) = some true) : Ft (n + 1) ψ 0 (kpt (.tup l)) (.tup l) := fun σ g q hG _ => by
  refine ⟨σ, ?_, .refl, hG⟩
  rw [u_fits]
  refine W.eq ?_
  refine w_gI (v := .str "kept") (by kernel_rfl) (w_eqs (t := true) (by kernel_rfl) (w_t (w_gI (v := .tup l) (by kernel_rfl) (w_eqs (t := true) h (w_some rfl)))))
theorem ft_one : Ft (n + 1) ψ 0 (.tup [.str "int", .int 1]) (.tup [.str "int", .int 1]) := fun σ g q hG _ => ⟨σ, by kernel_rfl, .refl, hG⟩
theorem ft_mk0 {s : Str} : Ft (n + 1) ψ 0 (lfL s 0) (lfP s 0) := fun σ g q hG _ => by
  refine ⟨σ, ?_, .refl, hG⟩
  rw [u_fits]
  refine W.eq ?_
  refine w_gI (v := .str "mark") (by kernel_rfl) (w_eqs (t := false) (by kernel_rfl) (w_f (w_gI (v := .str "mark") (by kernel_rfl) (w_eqs (t := true) (by kernel_rfl) (w_t ?_)))))
  refine w_gI (v := .int 0) (by kernel_rfl) (w_eqs (t := true) (by kernel_rfl) (w_t (w_gI (v := .str s) (by kernel_rfl) ?_)))
  have : cmpV .Eq (lfP s 0) (.tup [.str "sym", .str s]) σ = some true := eqv_tup (n := 59) (l := [.str "sym", .str s]) (by simp [eqv_str])
  exact w_eqs this (w_some rfl)
theorem dput_same {K : Type} [DecidableEq K] {k : K} {v : AV} : ∀ {l : List (K × AV)}, dlook l k = some v → dput l k v = l
  | [], h => by cases h
  | (q, u) :: r, h => by
    unfold dput; unfold dlook at h
    by_cases e : q = k
    · rw [if_pos e] at h ⊢; cases h; rfl
    · rw [if_neg e] at h ⊢; rw [dput_same h]
theorem dput_none {K : Type} [DecidableEq K] {k : K} {v : AV} : ∀ {l : List (K × AV)}, dlook l k = none → dput l k v = l ++ [(k, v)]
  | [], h => rfl
  | (q, u) :: r, h => by
    unfold dput; unfold dlook at h
    by_cases e : q = k
    · rw [if_pos e] at h; cases h
    · rw [if_neg e] at h ⊢; rw [dput_none h]; rfl
theorem dlook_mem {K : Type} [DecidableEq K] {k : K} {v : AV} : ∀ {l : List (K × AV)}, dlook l k = some v → (k, v) ∈ l
  | [], h => by cases h
  | (q, u) :: r, h => by
    unfold dlook at h
    by_cases e : q = k
    · rw [if_pos e] at h; cases h; subst e; exact List.mem_cons_self ..
    · rw [if_neg e] at h; exact List.mem_cons_of_mem _ (dlook_mem h)
theorem dlook_not {K : Type} [DecidableEq K] {k : K} : ∀ {l : List (K × AV)}, dlook l k = none → k ∉ l.map (·.1)
  | [], _ => by simp
  | (q, u) :: r, h => by
    unfold dlook at h
    by_cases e : q = k
    · rw [if_pos e] at h; cases h
    · rw [if_neg e] at h
      intro m
      rcases List.mem_cons.mp m with m | m
      · exact e m.symm
      · exact dlook_not h m
theorem nmS_len {x : Nm} {k : Nat} (hk : k ≠ 0) (hz : k ≤ 100000) : (nmS x.s k).length ≤ 1000 := by
  have a1 : (x.s ++ ("#" : Str)).length = 2 := by cases x <;> rfl
  have a2 := repr_len (n := k) (by lia)
  have a3 : toString ((k : Nat) : Int) = k.repr := rfl
  unfold nmS
  rw [if_neg hk, Str.length_append, a1, a3]; lia
theorem ft_mk (hf : Fun ψ) (hr : ψ m x k) : Ft (n + 1) ψ 1 (lfL x.s m) (lfP x.s k) := fun σ g q hG hz => by
  have hp := hf.pos hr
  have hm : m ≠ 0 := by lia
  have hk : k ≠ 0 := by lia
  obtain ⟨l, h1, h2, h3, h4⟩ := hG.ex
  obtain ⟨ps, hs⟩ := split_nmk (x := x) hk
  -- the dictionary afterwards
  have key : ∃ l', dput l ((m : Nat) : Int) ((dlook l ((m : Nat) : Int)).getD (.str (nmS x.s k))) = l' ∧ l'.length ≤ q + 1 ∧ (l'.map (·.1)).Nodup ∧ (∀ p ∈ l', ∃ m x k, p.1 = ((m : Nat) : Int) ∧ p.2 = .str (nmS x.s k) ∧ ψ m x k) ∧ (dlook l ((m : Nat) : Int)).getD (.str (nmS x.s k)) = .str (nmS x.s k) := by
    cases e : dlook l ((m : Nat) : Int) with
    | none =>
      refine ⟨_, rfl, ?_, ?_, ?_, rfl⟩ <;> rw [show (none : Option AV).getD (.str (nmS x.s k)) = .str (nmS x.s k) from rfl, dput_none e]
      · simp; lia
      · rw [List.map_append, List.nodup_append]
        exact ⟨h3, by simp, fun a ha b hb => by
          simp only [List.map_cons, List.map_nil, List.mem_cons, List.not_mem_nil, or_false] at hb
          subst hb
          exact fun q => dlook_not e (q ▸ ha)⟩
      · intro p hp
        rcases List.mem_append.mp hp with hp | hp
        · exact h4 p hp
        · simp only [List.mem_cons, List.not_mem_nil, or_false] at hp
          subst hp; exact ⟨m, x, k, rfl, rfl, hr⟩
    | some u =>
      obtain ⟨m', x', k', e1, e2, e3⟩ := h4 _ (dlook_mem e)
      have e1 : m = m' := by
        have : ((m : Nat) : Int) = ((m' : Nat) : Int) := e1
        lia
      subst e1
      obtain ⟨rfl, rfl⟩ := hf.one hr e3
      have e2 : u = .str (nmS x.s k) := e2
      refine ⟨_, rfl, ?_, ?_, ?_, ?_⟩ <;> rw [show (some u).getD (AV.str (nmS x.s k)) = u from rfl]
      · rw [dput_same e]; lia
      · rw [dput_same e]; exact h3
      · rw [dput_same e]; exact h4
      · exact e2
  obtain ⟨l', k1, k2, k3, k4, k5⟩ := key
  have kA : Kp [] σ (σ ++ [.lst ((Txt.split (nmS x.s k) "#").map .str)]) := .app _
  have d1 := dctI_kp h1 kA (by simp)
  have lA := lstAt_dctI d1
  let S := σ ++ [Cell.lst ((Txt.split (nmS x.s k) "#").map .str)]
  let S' := S.set g (.idct l')
  have d2 : dctI S' g = some l' := by unfold dctI; rw [at_set (dctI_lt d1)]; rfl
  refine ⟨S', ?_, kA.nil.trans (.set (by simp)), l', d2, k2, k3, k4⟩
  rw [u_fits]
  refine W.eq ?_
  have em : cmpV .Eq (.int (m : Nat)) (.int 0) σ = some false := by
    show some (((m : Nat) : Int) == 0) = _
    rw [beq_eq_false_iff_ne.mpr (by lia)]
  refine w_gI (v := .str "mark") (by kernel_rfl) (w_eqs (t := false) (by kernel_rfl) (w_f (w_gI (v := .str "mark") (by kernel_rfl) (w_eqs (t := true) (by kernel_rfl) (w_t ?_)))))
  refine w_gI (v := .int (m : Nat)) (by kernel_rfl) (w_eqs em (w_f ?_))
  refine w_gI (v := .str "sym") (by kernel_rfl) (w_eqs (t := false) (by kernel_rfl) (w_f (w_gI (v := .str (nmS x.s k)) (by kernel_rfl) (w_goO (b := .builtin "str.split") rfl ?_))))
  have es : callV (callN G n) (.builtin "str.split") [.str (nmS x.s k), .str "#"] σ = some (.ref σ.length, S) := by
    have hl : (nmS x.s k).length ≤ 1000 := nmS_len hk (hf.small hr)
    show pre (decide ((("#" : Str).length == 0) = false ∧ (nmS x.s k).length ≤ 1000)) (some (AV.ref σ.length, S)) = _
    rw [decide_eq_true ⟨by decide, hl⟩]; rfl
  refine w_go es ?_
  have ep : getV (.ref σ.length) (.int (0 : Nat)) S = some (.str x.s) := get_l (k := 0) at_end (by rw [hs]; rfl) (by lia)
  have en : cmpV .NotEq (.str x.s) (.str x.s) S = some false := by
    show (eqV 60 (.str x.s) (.str x.s)).map (!·) = _
    rw [eqv_str]; rfl
  have eh : cmpV .NotIn (.str "#") (.str (nmS x.s k)) S = some false := by
    show (some (Txt.contains (nmS x.s k) "#")).map (!·) = _
    rw [has_nmk hk]; rfl
  refine w_gI ep (w_gI (v := .str x.s) (by kernel_rfl) (w_eqs en (w_f (w_gI (v := .str (nmS x.s k)) (by kernel_rfl) (w_eqs eh (w_f ?_))))))
  have eg : methV G (.ref g) "get" S = some (.builtin "dict.get") := by
    obtain ⟨c, q, d1⟩ := goO_inv d1
    refine (goO_of q).trans ?_
    cases c <;> first | exact no d1 | rfl
  have eg2 : callV (callN G n) (.builtin "dict.get") [.ref g, .int (m : Nat), .str (nmS x.s k)] S = some (.str (nmS x.s k), S) := by
    exact (goO_of d1).trans (by rw [k5])
  refine w_goO eg (w_gI (v := .int (m : Nat)) (by kernel_rfl) (w_gI (v := .str (nmS x.s k)) (by kernel_rfl) (w_go eg2 (w_gI (v := .int (m : Nat)) (by kernel_rfl) ?_))))
  have e6 : setV (.ref g) (.int (m : Nat)) (.str (nmS x.s k)) S = some S' := by
    rw [k5] at k1
    exact (optG_no lA).trans ((goO_of d1).trans ((pre_of (decide_eq_true (by lia))).trans (by rw [k1])))
  have e7 : getV (.ref g) (.int (m : Nat)) S' = some (.str (nmS x.s k)) := by
    exact (optG_no (lstAt_dctI d2)).trans ((optG_of d2).trans (by rw [← k1, dlook_dput, if_pos rfl, k5]))
  have e8 : cmpV .Eq (.str (nmS x.s k)) (.str (nmS x.s k)) S' = some true := eqv_str 60 _
  exact w_goO e6 (w_gI (v := .int (m : Nat)) (by kernel_rfl) (w_goO e7 (w_gI (v := .str (nmS x.s k)) (by kernel_rfl) (w_eqs e8 (w_some rfl)))))

/-! rows -/
inductive Fts (n : Nat) (ψ : Rel) : Nat → List AV → List AV → Prop
  | nil : Fts n ψ 0 [] []
  | cons : ∀ {c : Nat} {v w : AV} {c' : Nat} {l r : List AV}, Ft n ψ c v w → Fts n ψ c' l r → Fts n ψ (c + c') (v :: l) (w :: r)
theorem Fts.len {l r : List AV} (h : Fts n ψ cnt l r) : l.length = r.length := by
  induction h with
  | nil => rfl
  | cons _ _ ih => simp [ih]
theorem fts_loop {l r : List AV} (h : Fts n ψ cnt l r) : ∀ ρ σ q, Giv ψ σ g q → q + cnt ≤ 50000 → ρ.lookup ("given" : Str) = some (.ref g) → ρ.lookup ("_law_fits" : Str) = none →
    ∃ σ', compZ "one" "other" (t_fits (callN G n)) e_fits (l.zip r) ρ σ = some ([], σ') ∧ Kp [g] σ σ' ∧ Giv ψ σ' g (q + cnt) := by
  induction h with
  | nil => intro ρ σ q hG _ _ _; exact ⟨σ, rfl, .refl, hG⟩
  | @cons c v w c' l r h1 h2 ih =>
    intro ρ σ q hG hz r1 r2
    obtain ⟨σ₁, e1, k1, hG1⟩ := h1 σ g q hG (by lia)
    have r1' : (setL (setL ρ "one" v) "other" w).lookup ("given" : Str) = some (.ref g) := sl_ne (by decide) (sl_ne (by decide) r1)
    have r2' : (setL (setL ρ "one" v) "other" w).lookup ("_law_fits" : Str) = none := sl_ne (by decide) (sl_ne (by decide) r2)
    obtain ⟨σ₂, e2, k2, hG2⟩ := ih (setL (setL ρ "one" v) "other" w) σ₁ (q + c) hG1 (by lia) r1' r2'
    have et : t_fits (callN G n) (setL (setL ρ "one" v) "other" w) σ = some (false, σ₁) := by
      refine W.eq ?_
      exact w_cn r2' (w_lk (sl_ne (by decide) (sl_eq _ _ _)) (w_lk (sl_eq _ _ _) (w_lk r1' (w_go e1 (w_some rfl)))))
    refine ⟨σ₂, ?_, k1.trans k2, by rw [← Nat.add_assoc]; exact hG2⟩
    rw [List.zip_cons_cons, compZ]
    dsimp only
    rw [et]
    exact e2
theorem ft_node {h : Str} {l r : List AV} (hl : l.length ≤ 1000) (H : Fts n ψ cnt l r) : Ft (n + 1) ψ cnt (.tup [.str "expr", .str h, .tup l]) (.tup [.str "expr", .str h, .tup r]) := fun σ g q hG hz => by
  have hlr := H.len
  have hc : capt sc_fits F_law_fits.fd.scope [("marked", .tup [.str "expr", .str h, .tup l]), ("told", .tup [.str "expr", .str h, .tup r]), ("given", .ref g)] = ([("given", .ref g)] : Loc) := by kernel_rfl
  obtain ⟨σ₁, e1, k1, hG1⟩ := fts_loop H [("given", .ref g)] σ q hG hz (by rfl) (by rfl)
  have kA : Kp [] σ₁ (σ₁ ++ [.lst []] ++ [.lst []]) := (Kp.app _).trans (.app _)
  refine ⟨σ₁ ++ [.lst []] ++ [.lst []], ?_, k1.trans kA.nil, hG1.kp0 kA⟩
  rw [u_fits]
  refine W.eq ?_
  refine w_gI (v := .str "expr") (by kernel_rfl) (w_eqs (t := false) (by kernel_rfl) (w_f (w_gI (v := .str "expr") (by kernel_rfl) (w_eqs (t := false) (by kernel_rfl) (w_f ?_)))))
  refine w_gI (v := .str "expr") (by kernel_rfl) (w_eqs (t := false) (by kernel_rfl) (w_f (w_gI (v := .str "expr") (by kernel_rfl) (w_eqs (t := false) (by kernel_rfl) (w_f ?_)))))
  have en : cmpV .NotEq (.str h) (.str h) σ = some false := by
    show (eqV 60 (.str h) (.str h)).map (!·) = _
    rw [eqv_str]; rfl
  refine w_gI (v := .str h) (by kernel_rfl) (w_gI (v := .str h) (by kernel_rfl) (w_eqs en (w_f ?_)))
  have el : ∀ l : List AV, l.length ≤ 1000 → biV "len" [.tup l] σ = some (.int l.length, σ) := fun l hl => by
    show pre (decide (l.length ≤ 100000)) _ = _
    rw [decide_eq_true (by lia)]; rfl
  have ee : cmpV .NotEq (.int r.length) (.int l.length) σ = some false := by
    show (eqV 60 (.int r.length) (.int l.length)).map (!·) = _
    rw [hlr, eqv_int]; rfl
  refine w_gI (v := .tup r) (by kernel_rfl) (w_go (el r (by lia)) (w_gI (v := .tup l) (by kernel_rfl) (w_go (el l hl) (w_eqs ee (w_f ?_)))))
  refine w_gI (v := .tup l) (by kernel_rfl) (w_asT (w_gI (v := .tup r) (by kernel_rfl) (w_asT (w_pre (decide_eq_true ⟨hlr, hl⟩) ?_))))
  rw [hc]
  refine w_go e1 ?_
  have e9 : cmpV .Eq (.ref σ₁.length) (.ref (σ₁ ++ [Cell.lst []]).length) (σ₁ ++ [.lst []] ++ [.lst []]) = some true := by
    exact (goO_of (lstAt_of (at_old at_end _))).trans (goO_of (lstAt_of at_end))
  exact w_eqs e9 (w_some rfl)
end
end Mine

end

noncomputable section
open PySem PySem.W PyProof.Rows
set_option Elab.async false
set_option maxRecDepth 100000
set_option linter.unusedVariables false
namespace Mine
structure Ok (φ : Rel) (c s : Nat) : Prop where
  rng : ∀ {m x k}, φ m x k → 0 < m ∧ m ≤ c ∧ 0 < k ∧ k ≤ s
  one : ∀ {m x k x' k'}, φ m x k → φ m x' k' → x = x' ∧ k = k'
  inj : ∀ {m x k m' x'}, φ m x k → φ m' x' k → m = m'
noncomputable abbrev Sub (φ ψ : Rel) : Prop := ∀ m x k, φ m x k → ψ m x k
structure Ex (φ : Rel) (c s : Nat) (φ' : Rel) (c' s' : Nat) : Prop where
  sub : Sub φ φ'
  ok : Ok φ' c' s'
  new : ∀ m x k, φ' m x k → φ m x k ∨ (c < m ∧ s < k)
  lc : c ≤ c'
  ls : s ≤ s'
noncomputable def addR (φ : Rel) (m0 : Nat) (x0 : Nm) (k0 : Nat) : Rel := fun m x k => φ m x k ∨ (m = m0 ∧ x = x0 ∧ k = k0)
section
variable {φ φ' φ₁ φ₂ ψ : Rel} {c c' c1 c2 s s' s1 s2 n m k cnt b b' : Nat} {x y : Nm} {EL EP : En} {v w : AV} {l r : List AV}
theorem Ok.mono (h : Ok φ c s) (hc : c ≤ c') (hs : s ≤ s') : Ok φ c' s' := ⟨fun q => by have := h.rng q; lia, h.one, h.inj⟩
theorem Ex.refl (h : Ok φ c s) : Ex φ c s φ c s := ⟨fun _ _ _ h => h, h, fun _ _ _ h => .inl h, Nat.le_refl _, Nat.le_refl _⟩
theorem Ex.trans (h : Ex φ c s φ₁ c1 s1) (h2 : Ex φ₁ c1 s1 φ₂ c2 s2) : Ex φ c s φ₂ c2 s2 :=
  ⟨fun m x k q => h2.sub _ _ _ (h.sub _ _ _ q), h2.ok, fun m x k q => by
    rcases h2.new m x k q with q | q
    · exact h.new m x k q
    · have := h.lc; have := h.ls; right; lia, Nat.le_trans h.lc h2.lc, Nat.le_trans h.ls h2.ls⟩
theorem Ok.add (h : Ok φ c s) (hk : ∀ m y q, φ m y q → q ≠ k) (h0 : 0 < k) (h1 : k ≤ s') (h2 : s ≤ s') : Ok (addR φ (c + 1) x k) (c + 1) s' where
  rng := fun q => by
    rcases q with q | ⟨rfl, rfl, rfl⟩
    · have := h.rng q; lia
    · lia
  one := fun q q' => by
    rcases q with q | ⟨rfl, rfl, rfl⟩ <;> rcases q' with q' | ⟨e, rfl, rfl⟩
    · exact h.one q q'
    · have := h.rng q; lia
    · have := h.rng q'; lia
    · exact ⟨rfl, rfl⟩
  inj := fun q q' => by
    rcases q with q | ⟨rfl, rfl, rfl⟩ <;> rcases q' with q' | ⟨rfl, rfl, e⟩
    · exact h.inj q q'
    · exact absurd e (hk _ _ _ q)
    · exact absurd rfl (hk _ _ _ q')
    · rfl
theorem Ex.add1 (h : Ok φ c s) : Ex φ c s (addR φ (c + 1) x (s + 1)) (c + 1) (s + 1) :=
  ⟨fun _ _ _ q => .inl q, h.add (fun m y q z => by have := h.rng z; lia) (by lia) (Nat.le_refl _) (by lia), fun m y q z => by
    rcases z with z | ⟨rfl, rfl, rfl⟩
    · exact .inl z
    · right; lia, by lia, by lia⟩
theorem Ok.fun (h : Ok φ c s) (hs : s ≤ 100000) : Fun φ := ⟨h.one, h.inj, fun q => by have := h.rng q; lia, fun q => by have := h.rng q; lia⟩

noncomputable def EnvRel (φ : Rel) (EL EP : En) : Prop := ∀ x, (EL x = none ∧ EP x = none) ∨ (EL x = some 0 ∧ EP x = some 0) ∨ (∃ m k, EL x = some m ∧ EP x = some k ∧ φ m x k)
theorem EnvRel.mono (h : EnvRel φ EL EP) (hs : Sub φ φ') : EnvRel φ' EL EP := fun x => (h x).imp id (Or.imp id fun ⟨m, k, a, b, d⟩ => ⟨m, k, a, b, hs _ _ _ d⟩)
theorem EnvRel.put (h : EnvRel φ EL EP) (hr : φ m x k) : EnvRel φ (EL.put x m) (EP.put x k) := fun y => by
  unfold En.put
  by_cases e : y = x
  · subst e; rw [if_pos rfl, if_pos rfl]; exact .inr (.inr ⟨m, k, rfl, rfl, hr⟩)
  · rw [if_neg e, if_neg e]; exact h y
theorem EnvRel.put0 (h : EnvRel φ EL EP) : EnvRel φ (EL.put x 0) (EP.put x 0) := fun y => by
  unfold En.put
  by_cases e : y = x
  · subst e; rw [if_pos rfl, if_pos rfl]; exact .inr (.inl ⟨rfl, rfl⟩)
  · rw [if_neg e, if_neg e]; exact h y
theorem EnvRel.isNone (h : EnvRel φ EL EP) (x : Nm) : (EL x).isNone = (EP x).isNone := by
  rcases h x with ⟨a, b⟩ | ⟨a, b⟩ | ⟨m, k, a, b, _⟩ <;> rw [a, b] <;> rfl
theorem frs_congr (h : EnvRel φ EL EP) (out : List Nm) : ∀ l acc, frs EL out l acc = frs EP out l acc
  | [], acc => rfl
  | x :: r, acc => by rw [frs, frs, h.isNone x, frs_congr h out r]
theorem new_rel : ∀ (xs : List Nm) (φ : Rel) (EL EP : En) (c s : Nat), EnvRel φ EL EP → Ok φ c s → ∃ φ', Ex φ c s φ' (c + xs.length) (s + xs.length) ∧ EnvRel φ' (putNew EL xs c) (putNew EP xs s)
  | [], φ, EL, EP, c, s, h, o => ⟨φ, .refl o, h⟩
  | x :: r, φ, EL, EP, c, s, h, o => by
    have X := Ex.add1 (x := x) o
    obtain ⟨φ', X', h'⟩ := new_rel r _ _ _ (c + 1) (s + 1) ((h.mono X.sub).put (m := c + 1) (x := x) (k := s + 1) (.inr ⟨rfl, rfl, rfl⟩)) X.ok
    refine ⟨φ', ?_, h'⟩
    have := X.trans X'
    rw [Nat.add_assoc c 1, Nat.add_assoc s 1, Nat.add_comm 1] at this
    exact this
theorem out_rel : ∀ (xs : List Nm) (EL EP : En), EnvRel φ EL EP → EnvRel φ (putOut EL xs) (putOut EP xs)
  | [], _, _, h => h
  | x :: r, EL, EP, h => out_rel r _ _ h.put0
theorem op_rel (t : Tr) (h : EnvRel φ EL EP) (o : Ok φ c s) : ∃ φ', Ex φ c s φ' (opN EL t c) (opN EP t s) ∧ EnvRel φ' (opE EL t c) (opE EP t s) := by
  obtain ⟨φ', X, h'⟩ := new_rel (frs EL t.out t.bnd []) φ EL EP c s h o
  unfold opN opE
  rw [← frs_congr h]
  exact ⟨φ', X, out_rel _ _ _ h'⟩

/-- the two walks fit, with what they add to the relation -/
structure FtR (n : Nat) (φ : Rel) (c s : Nat) (v w : AV) (c' s' b : Nat) : Prop where
  ex : ∃ φ' cnt, Ex φ c s φ' c' s' ∧ cnt ≤ b ∧ ∀ ψ, Sub φ' ψ → Fun ψ → Ft n ψ cnt v w
structure FtRs (n : Nat) (φ : Rel) (c s : Nat) (l r : List AV) (c' s' b : Nat) : Prop where
  ex : ∃ φ' cnt, Ex φ c s φ' c' s' ∧ cnt ≤ b ∧ ∀ ψ, Sub φ' ψ → Fun ψ → Fts n ψ cnt l r
theorem FtR.leaf (o : Ok φ c s) (hb : cnt ≤ b) (h : ∀ ψ, Sub φ ψ → Fun ψ → Ft n ψ cnt v w) : FtR n φ c s v w c s b := ⟨φ, cnt, .refl o, hb, h⟩
theorem FtR.ext (X : Ex φ c s φ₁ c1 s1) (h : FtR n φ₁ c1 s1 v w c' s' b) : FtR n φ c s v w c' s' b := let ⟨φ', cnt, X', a, d⟩ := h.ex; ⟨φ', cnt, X.trans X', a, d⟩
theorem FtR.le (h : FtR n φ c s v w c' s' b) (hb : b ≤ b') : FtR n φ c s v w c' s' b' := let ⟨φ', cnt, X', a, d⟩ := h.ex; ⟨φ', cnt, X', Nat.le_trans a hb, d⟩
theorem FtRs.nil (o : Ok φ c s) : FtRs n φ c s [] [] c s 0 := ⟨φ, 0, .refl o, Nat.le_refl _, fun _ _ _ => .nil⟩
theorem FtRs.cons (h : FtR n φ c s v w c1 s1 b) (h2 : ∀ φ₁, Ex φ c s φ₁ c1 s1 → FtRs n φ₁ c1 s1 l r c2 s2 b') : FtRs n φ c s (v :: l) (w :: r) c2 s2 (b + b') := by
  obtain ⟨φ₁, k1, X1, a1, d1⟩ := h.ex
  obtain ⟨φ₂, k2, X2, a2, d2⟩ := (h2 φ₁ X1).ex
  exact ⟨φ₂, k1 + k2, X1.trans X2, Nat.add_le_add a1 a2, fun ψ hs hf => .cons (d1 ψ (fun m x k q => hs _ _ _ (X2.sub _ _ _ q)) hf) (d2 ψ hs hf)⟩
theorem FtRs.node {h : Str} (hl : l.length ≤ 1000) (H : FtRs n φ c s l r c' s' b) (hb : b ≤ b') : FtR (n + 1) φ c s (.tup [.str "expr", .str h, .tup l]) (.tup [.str "expr", .str h, .tup r]) c' s' b' := by
  obtain ⟨φ₁, k1, X1, a1, d1⟩ := H.ex
  exact ⟨φ₁, k1, X1, Nat.le_trans a1 hb, fun ψ hs hf => ft_node hl (d1 ψ hs hf)⟩
theorem ftr_sym (h : EnvRel φ EL EP) (o : Ok φ c s) : FtR (n + 1) φ c s (lfL x.s ((EL x).getD 0)) (lfP x.s ((EP x).getD 0)) c s 1 := by
  rcases h x with ⟨a, b⟩ | ⟨a, b⟩ | ⟨m, k, a, b, d⟩ <;> rw [a, b]
  · exact .leaf o (Nat.zero_le _) fun ψ hs hf => ft_mk0
  · exact .leaf o (Nat.zero_le _) fun ψ hs hf => ft_mk0
  · exact .leaf o (Nat.le_refl _) fun ψ hs hf => ft_mk hf (hs _ _ _ d)
theorem ftr_mk0 {k : Str} (o : Ok φ c s) : FtR (n + 1) φ c s (lfL k 0) (lfP k 0) c s 0 := .leaf o (Nat.le_refl _) fun ψ hs hf => ft_mk0

/-! a tree is like itself -/
theorem av_tup (t : Tr) : ∃ l, t.av = .tup l := by cases t <;> exact ⟨_, rfl⟩
noncomputable def Rf (n : Nat) (v : AV) : Prop := eqV n v v = some true
theorem rf_ex {h : Str} (H : ∀ a ∈ l, Rf n a) : Rf (n + 2) (.tup [.str "expr", .str h, .tup l]) := by
  refine eqv_tup fun a ha => ?_
  simp only [List.mem_cons, List.not_mem_nil, or_false] at ha
  rcases ha with rfl | rfl | rfl
  · exact eqv_str _ _
  · exact eqv_str _ _
  · exact eqv_tup H
theorem rf_sym {s : Str} : Rf (n + 1) (.tup [.str "sym", .str s]) := by
  refine eqv_tup fun a ha => ?_
  simp only [List.mem_cons, List.not_mem_nil, or_false] at ha
  rcases ha with rfl | rfl <;> exact eqv_str _ _
theorem rf_one {a : AV} (h : Rf n a) : ∀ q ∈ [a], Rf n q := fun q hq => by simp at hq; subst hq; exact h
theorem rf_two {a d : AV} (h : Rf n a) (h2 : Rf n d) : ∀ q ∈ [a, d], Rf n q := fun q hq => by simp at hq; rcases hq with rfl | rfl <;> assumption
theorem rf_three {a d e : AV} (h : Rf n a) (h2 : Rf n d) (h3 : Rf n e) : ∀ q ∈ [a, d, e], Rf n q := fun q hq => by simp at hq; rcases hq with rfl | rfl | rfl <;> assumption
theorem rf_ok : ∀ (t : Tr) (n : Nat), 6 * t.hg + 3 ≤ n → Rf n t.av := by
  intro t
  induction t with
  | sym x => intro n h; obtain ⟨m, rfl⟩ := Nat.exists_eq_add_of_le' (show 3 ≤ n by lia); exact rf_sym
  | one =>
    intro n h; obtain ⟨m, rfl⟩ := Nat.exists_eq_add_of_le' (show 3 ≤ n by lia)
    refine eqv_tup fun a ha => ?_
    simp only [List.mem_cons, List.not_mem_nil, or_false] at ha
    rcases ha with rfl | rfl
    · exact eqv_str _ _
    · exact eqv_int _ _
  | loc x => intro n h; obtain ⟨m, rfl⟩ := Nat.exists_eq_add_of_le' (show 3 ≤ n by lia); exact rf_ex (rf_one rf_sym)
  | glb x => intro n h; obtain ⟨m, rfl⟩ := Nat.exists_eq_add_of_le' (show 3 ≤ n by lia); exact rf_ex (rf_one rf_sym)
  | asg x t ih => intro n h; simp only [Tr.hg] at h; obtain ⟨m, rfl⟩ := Nat.exists_eq_add_of_le' (show 9 ≤ n by lia); exact rf_ex (n := m + 7) (rf_two rf_sym (ih _ (by lia)))
  | dot t x ih => intro n h; simp only [Tr.hg] at h; obtain ⟨m, rfl⟩ := Nat.exists_eq_add_of_le' (show 9 ≤ n by lia); exact rf_ex (n := m + 7) (rf_two (ih _ (by lia)) rf_sym)
  | esc t ih => intro n h; simp only [Tr.hg] at h; obtain ⟨m, rfl⟩ := Nat.exists_eq_add_of_le' (show 9 ≤ n by lia); exact rf_ex (n := m + 7) (rf_one (ih _ (by lia)))
  | wh t b it ib => intro n h; simp only [Tr.hg] at h; obtain ⟨m, rfl⟩ := Nat.exists_eq_add_of_le' (show 9 ≤ n by lia); exact rf_ex (n := m + 7) (rf_two (it _ (by lia)) (ib _ (by lia)))
  | blk p q r ip iq ir => intro n h; simp only [Tr.hg] at h; obtain ⟨m, rfl⟩ := Nat.exists_eq_add_of_le' (show 9 ≤ n by lia); exact rf_ex (n := m + 7) (rf_three (ip _ (by lia)) (iq _ (by lia)) (ir _ (by lia)))
  | call x t u it iu => intro n h; simp only [Tr.hg] at h; obtain ⟨m, rfl⟩ := Nat.exists_eq_add_of_le' (show 9 ≤ n by lia); exact rf_ex (n := m + 7) (rf_three rf_sym (rf_ex (n := m + 5) (rf_one (rf_ex (n := m + 3) (rf_two rf_sym (it _ (by lia)))))) (iu _ (by lia)))
  | lt x t b it ib => intro n h; simp only [Tr.hg] at h; obtain ⟨m, rfl⟩ := Nat.exists_eq_add_of_le' (show 9 ≤ n by lia); exact rf_ex (n := m + 7) (rf_two (rf_ex (n := m + 5) (rf_one (rf_ex (n := m + 3) (rf_two rf_sym (it _ (by lia)))))) (ib _ (by lia)))
  | fr x t b it ib => intro n h; simp only [Tr.hg] at h; obtain ⟨m, rfl⟩ := Nat.exists_eq_add_of_le' (show 9 ≤ n by lia); exact rf_ex (n := m + 7) (rf_two (rf_ex (n := m + 5) (rf_two rf_sym (it _ (by lia)))) (ib _ (by lia)))
  | arr x b ib => intro n h; simp only [Tr.hg] at h; obtain ⟨m, rfl⟩ := Nat.exists_eq_add_of_le' (show 9 ≤ n by lia); exact rf_ex (n := m + 7) (rf_two (rf_ex (n := m + 5) (rf_one rf_sym)) (ib _ (by lia)))
  | fn x t b it ib => intro n h; simp only [Tr.hg] at h; obtain ⟨m, rfl⟩ := Nat.exists_eq_add_of_le' (show 9 ≤ n by lia); exact rf_ex (n := m + 7) (rf_two (rf_ex (n := m + 5) (rf_two rf_sym (rf_ex (n := m + 3) (rf_two rf_sym (it _ (by lia)))))) (ib _ (by lia)))

/-! the two walks fit -/
noncomputable def Fo (n : Nat) (t : Tr) : Prop := ∀ (φ : Rel) (EL EP : En) (c s : Nat), EnvRel φ EL EP → Ok φ c s → FtR n φ c s (wkL t EL c).1 (wkP t EP s).1 (wkL t EL c).2 (wkP t EP s).2 (2 * t.sz)
/-- in a scope of its own -/
theorem Fo.sc {t : Tr} (h : Fo n t) (hE : EnvRel φ EL EP) (o : Ok φ c s) : FtR n φ c s (wkL t (opE EL t c) (opN EL t c)).1 (wkP t (opE EP t s) (opN EP t s)).1 (wkL t (opE EL t c) (opN EL t c)).2 (wkP t (opE EP t s) (opN EP t s)).2 (2 * t.sz) := by
  obtain ⟨φ₁, X, hE1⟩ := op_rel t hE o
  exact .ext X (h φ₁ _ _ _ _ hE1 X.ok)
theorem sub_trans (h : Sub φ φ₁) (h2 : Sub φ₁ φ₂) : Sub φ φ₂ := fun m x k q => h2 _ _ _ (h _ _ _ q)
theorem fit_ok : ∀ (t : Tr) (n : Nat), 3 * t.hg + 2 ≤ n → t.hg ≤ 5 → Fo n t := by
  intro t
  induction t with
  | sym x => intro n h _ φ EL EP c s hE o; obtain ⟨m, rfl⟩ := Nat.exists_eq_add_of_le' (show 1 ≤ n by lia); exact (ftr_sym hE o).le (by simp [Tr.sz])
  | one => intro n h _ φ EL EP c s hE o; obtain ⟨m, rfl⟩ := Nat.exists_eq_add_of_le' (show 1 ≤ n by lia); exact .leaf o (Nat.zero_le _) fun ψ hs hf => ft_one
  | esc t ih =>
    intro n h h5 φ EL EP c s hE o
    obtain ⟨m, rfl⟩ := Nat.exists_eq_add_of_le' (show 1 ≤ n by lia)
    obtain ⟨l, hl⟩ := av_tup t
    have hr := rf_ok t 60 (by simp only [Tr.hg] at h5; lia)
    show FtR (m + 1) φ c s (kpt t.av) t.av c s _
    rw [hl] at hr ⊢
    exact .leaf o (Nat.zero_le _) fun ψ hs hf => ft_kept hr
  | loc x => intro n h _ φ EL EP c s hE o; obtain ⟨m, rfl⟩ := Nat.exists_eq_add_of_le' (show 2 ≤ n by lia); exact FtRs.node (n := m + 1) (by simp) (.cons (ftr_sym hE o) fun φ₁ X => .nil X.ok) (by simp [Tr.sz])
  | glb x => intro n h _ φ EL EP c s hE o; obtain ⟨m, rfl⟩ := Nat.exists_eq_add_of_le' (show 2 ≤ n by lia); exact FtRs.node (n := m + 1) (by simp) (.cons (ftr_sym hE o) fun φ₁ X => .nil X.ok) (by simp [Tr.sz])
  | asg x t ih =>
    intro n h h5 φ EL EP c s hE o
    simp only [Tr.hg] at h h5
    obtain ⟨m, rfl⟩ := Nat.exists_eq_add_of_le' (show 4 ≤ n by lia)
    exact FtRs.node (n := m + 3) (by simp) (.cons (ftr_sym hE o) fun φ₁ X => .cons (ih (m + 3) (by lia) (by lia) φ₁ EL EP c s (hE.mono X.sub) X.ok) fun φ₂ X => .nil X.ok) (by simp only [Tr.sz]; lia)
  | blk p q r ip iq ir =>
    intro n h h5 φ EL EP c s hE o
    simp only [Tr.hg] at h h5
    obtain ⟨m, rfl⟩ := Nat.exists_eq_add_of_le' (show 4 ≤ n by lia)
    exact FtRs.node (n := m + 3) (by simp) (.cons (ip (m + 3) (by lia) (by lia) φ EL EP c s hE o) fun φ₁ X => .cons (iq (m + 3) (by lia) (by lia) φ₁ EL EP _ _ (hE.mono X.sub) X.ok) fun φ₂ X2 => .cons (ir (m + 3) (by lia) (by lia) φ₂ EL EP _ _ (hE.mono (sub_trans X.sub X2.sub)) X2.ok) fun φ₃ X => .nil X.ok) (by simp only [Tr.sz]; lia)
  | dot t x ih =>
    intro n h h5 φ EL EP c s hE o
    simp only [Tr.hg] at h h5
    obtain ⟨m, rfl⟩ := Nat.exists_eq_add_of_le' (show 4 ≤ n by lia)
    exact FtRs.node (n := m + 3) (by simp) (.cons (ih (m + 3) (by lia) (by lia) φ EL EP c s hE o) fun φ₁ X => .cons (ftr_mk0 X.ok) fun φ₂ X => .nil X.ok) (by simp only [Tr.sz]; lia)
  | call x t u it iu =>
    intro n h h5 φ EL EP c s hE o
    simp only [Tr.hg] at h h5
    obtain ⟨m, rfl⟩ := Nat.exists_eq_add_of_le' (show 4 ≤ n by lia)
    exact FtRs.node (n := m + 3) (by simp) (.cons (ftr_mk0 o) fun φ₁ X => .cons (FtRs.node (n := m + 2) (by simp) (.cons (FtRs.node (n := m + 1) (by simp) (.cons (ftr_mk0 X.ok) fun φ₂ X2 => .cons (it (m + 1) (by lia) (by lia) φ₂ EL EP c s (hE.mono (sub_trans X.sub X2.sub)) X2.ok) fun φ₃ X => .nil X.ok) (Nat.le_refl _)) fun φ₂ X => .nil X.ok) (Nat.le_refl _))
      fun φ₂ X2 => .cons (iu (m + 3) (by lia) (by lia) φ₂ EL EP _ _ (hE.mono (sub_trans X.sub X2.sub)) X2.ok) fun φ₃ X => .nil X.ok) (by simp only [Tr.sz]; lia)
  | wh t b it ib =>
    intro n h h5 φ EL EP c s hE o
    simp only [Tr.hg] at h h5
    obtain ⟨m, rfl⟩ := Nat.exists_eq_add_of_le' (show 4 ≤ n by lia)
    exact FtRs.node (n := m + 3) (by simp) (.cons (it (m + 3) (by lia) (by lia) φ EL EP c s hE o) fun φ₁ X => .cons ((ib (m + 3) (by lia) (by lia)).sc (hE.mono X.sub) X.ok) fun φ₂ X2 => .nil X2.ok) (by simp only [Tr.sz]; lia)
  | lt x t b it ib =>
    intro n h h5 φ EL EP c s hE o
    simp only [Tr.hg] at h h5
    obtain ⟨m, rfl⟩ := Nat.exists_eq_add_of_le' (show 4 ≤ n by lia)
    obtain ⟨φ₁, k1, X1, a1, d1⟩ := (it (m + 1) (by lia) (by lia) φ EL EP c s hE o).ex
    have X2 := Ex.add1 (x := x) X1.ok
    have hr : addR φ₁ ((wkL t EL c).2 + 1) x ((wkP t EP s).2 + 1) ((wkL t EL c).2 + 1) x ((wkP t EP s).2 + 1) := .inr ⟨rfl, rfl, rfl⟩
    obtain ⟨φ₃, k3, X3, a3, d3⟩ := ((ib (m + 3) (by lia) (by lia)).sc ((hE.mono (sub_trans X1.sub X2.sub)).put hr) X2.ok).ex
    refine ⟨φ₃, _, (X1.trans X2).trans X3, ?_, fun ψ hs hf => ft_node (n := m + 3) (l := [ex "block" [ex "=" [_, _]], _]) (r := [ex "block" [ex "=" [_, _]], _]) (by simp) (.cons (ft_node (n := m + 2) (by simp) (.cons (ft_node (n := m + 1) (by simp) (.cons (ft_mk hf (hs _ _ _ (X3.sub _ _ _ hr))) (.cons (d1 ψ (sub_trans (sub_trans X2.sub X3.sub) hs) hf) .nil))) .nil)) (.cons (d3 ψ hs hf) .nil))⟩
    simp only [Tr.sz]; lia
  | fr x t b it ib =>
    intro n h h5 φ EL EP c s hE o
    simp only [Tr.hg] at h h5
    obtain ⟨m, rfl⟩ := Nat.exists_eq_add_of_le' (show 4 ≤ n by lia)
    obtain ⟨φ₁, k1, X1, a1, d1⟩ := (it (m + 2) (by lia) (by lia) φ EL EP c (s + 1) hE (o.mono (Nat.le_refl _) (by lia))).ex
    have hr : addR φ₁ ((wkL t EL c).2 + 1) x (s + 1) ((wkL t EL c).2 + 1) x (s + 1) := .inr ⟨rfl, rfl, rfl⟩
    have o2 : Ok (addR φ₁ ((wkL t EL c).2 + 1) x (s + 1)) ((wkL t EL c).2 + 1) (wkP t EP (s + 1)).2 := X1.ok.add (fun q y z hz => by
      rcases X1.new _ _ _ hz with hz | hz
      · have := o.rng hz; lia
      · lia) (by lia) X1.ls (Nat.le_refl _)
    have X2 : Ex φ c s (addR φ₁ ((wkL t EL c).2 + 1) x (s + 1)) ((wkL t EL c).2 + 1) (wkP t EP (s + 1)).2 := ⟨fun _ _ _ q => .inl (X1.sub _ _ _ q), o2, fun q y z hz => by
      have := X1.lc
      rcases hz with hz | ⟨rfl, rfl, rfl⟩
      · rcases X1.new _ _ _ hz with hz | hz
        · exact .inl hz
        · right; lia
      · right; lia, by have := X1.lc; lia, by have := X1.ls; lia⟩
    obtain ⟨φ₃, k3, X3, a3, d3⟩ := ((ib (m + 3) (by lia) (by lia)).sc ((hE.mono X2.sub).put hr) o2).ex
    refine ⟨φ₃, _, X2.trans X3, ?_, fun ψ hs hf => ft_node (n := m + 3) (l := [ex "in" [_, _], _]) (r := [ex "in" [_, _], _]) (by simp) (.cons (ft_node (n := m + 2) (by simp) (.cons (ft_mk hf (hs _ _ _ (X3.sub _ _ _ hr))) (.cons (d1 ψ (fun q y z hz => hs _ _ _ (X3.sub _ _ _ (.inl hz))) hf) .nil))) (.cons (d3 ψ hs hf) .nil))⟩
    simp only [Tr.sz]; lia
  | arr x b ib =>
    intro n h h5 φ EL EP c s hE o
    simp only [Tr.hg] at h h5
    obtain ⟨m, rfl⟩ := Nat.exists_eq_add_of_le' (show 4 ≤ n by lia)
    have X2 := Ex.add1 (x := x) o
    have hr : addR φ (c + 1) x (s + 1) (c + 1) x (s + 1) := .inr ⟨rfl, rfl, rfl⟩
    obtain ⟨φ₃, k3, X3, a3, d3⟩ := ((ib (m + 3) (by lia) (by lia)).sc ((hE.mono X2.sub).put hr) X2.ok).ex
    refine ⟨φ₃, _, X2.trans X3, ?_, fun ψ hs hf => ft_node (n := m + 3) (l := [ex "tuple" [_], _]) (r := [ex "tuple" [_], _]) (by simp) (.cons (ft_node (n := m + 2) (by simp) (.cons (ft_mk hf (hs _ _ _ (X3.sub _ _ _ hr))) .nil)) (.cons (d3 ψ hs hf) .nil))⟩
    simp only [Tr.sz]; lia
  | fn x t b it ib =>
    intro n h h5 φ EL EP c s hE o
    simp only [Tr.hg] at h h5
    obtain ⟨m, rfl⟩ := Nat.exists_eq_add_of_le' (show 4 ≤ n by lia)
    have X1 := Ex.add1 (x := x) o
    have hr : addR φ (c + 1) x (s + 1) (c + 1) x (s + 1) := .inr ⟨rfl, rfl, rfl⟩
    have hE1 := (hE.mono X1.sub).put hr
    obtain ⟨φ₂, k2, X2, a2, d2⟩ := (it (m + 1) (by lia) (by lia) _ _ _ (c + 1) (s + 1) hE1 X1.ok).ex
    obtain ⟨φ₃, k3, X3, a3, d3⟩ := ((ib (m + 3) (by lia) (by lia)).sc (hE1.mono X2.sub) X2.ok).ex
    refine ⟨φ₃, _, (X1.trans X2).trans X3, ?_, fun ψ hs hf => ft_node (n := m + 3) (l := [ex "call" [_, ex "kw" [_, _]], _]) (r := [ex "call" [_, ex "kw" [_, _]], _]) (by simp) (.cons (ft_node (n := m + 2) (by simp) (.cons ft_mk0 (.cons (ft_node (n := m + 1) (by simp) (.cons (ft_mk hf (hs _ _ _ (X3.sub _ _ _ (X2.sub _ _ _ hr)))) (.cons (d2 ψ (sub_trans X3.sub hs) hf) .nil))) .nil))) (.cons (d3 ψ hs hf) .nil))⟩
    simp only [Tr.sz]; lia
end
end Mine

end

noncomputable section
open PySem PySem.W PyProof.Rows
set_option Elab.async false
set_option maxRecDepth 100000
set_option linter.unusedVariables false
namespace Mine
section
variable {σ σ' σ₁ σ₂ σ₀ : Sto} {n g q u : Nat} {ψ : Rel} {v w : AV} {ρ : Loc}
theorem Tr.sz_pow : ∀ t : Tr, 2 * t.sz + 1 ≤ 3 ^ (t.hg + 1) := by
  have up : ∀ {a b : Nat}, a ≤ b → 3 ^ (a + 1) ≤ 3 ^ (b + 1) := fun h => Nat.pow_le_pow_right (by decide) (by lia)
  intro t
  induction t with
  | sym | one | loc | glb => exact Nat.le_refl 3
  | asg _ t ih | dot t _ ih | arr _ t ih | esc t ih => simp only [Tr.sz, Tr.hg]; rw [Nat.pow_succ]; lia
  | blk a b c i j k =>
    have h1 := up (Nat.le_max_left a.hg (max b.hg c.hg))
    have h2 := up (Nat.le_trans (Nat.le_max_left b.hg c.hg) (Nat.le_max_right a.hg _))
    have h3 := up (Nat.le_trans (Nat.le_max_right b.hg c.hg) (Nat.le_max_right a.hg _))
    simp only [Tr.sz, Tr.hg]; rw [Nat.pow_succ]; lia
  | call _ a b i j | lt _ a b i j | fr _ a b i j | fn _ a b i j | wh a b i j =>
    have h1 := up (Nat.le_max_left a.hg b.hg)
    have h2 := up (Nat.le_max_right a.hg b.hg)
    simp only [Tr.sz, Tr.hg]; rw [Nat.pow_succ]; lia
theorem root_sz {a b c : Tr} (ha : a.hg ≤ 3) (hb : b.hg ≤ 2) (hc : c.hg ≤ 2) : (Tr.blk a b c).sz ≤ 67 ∧ (Tr.blk a b c).hg ≤ 4 := by
  have h1 := Nat.le_trans a.sz_pow (Nat.pow_le_pow_right (by decide) (Nat.succ_le_succ ha))
  have h2 := Nat.le_trans b.sz_pow (Nat.pow_le_pow_right (by decide) (Nat.succ_le_succ hb))
  have h3 := Nat.le_trans c.sz_pow (Nat.pow_le_pow_right (by decide) (Nat.succ_le_succ hc))
  have e1 : 3 ^ (3 + 1) = 81 := rfl
  have e2 : 3 ^ (2 + 1) = 27 := rfl
  simp only [Tr.sz, Tr.hg]; lia

/-! the names that were given, each once -/
noncomputable def strOf (v : AV) : Str := match v with
  | .str s => s
  | _ => ""
theorem nodup_map {α β γ : Type} {f : α → β} {g : α → γ} : ∀ {l : List α}, (l.map g).Nodup → (∀ p ∈ l, ∀ q ∈ l, f p = f q → g p = g q) → (l.map f).Nodup
  | [], _, _ => by simp
  | p :: r, h, k => by
    rw [List.map_cons, List.nodup_cons] at h ⊢
    refine ⟨fun m => ?_, nodup_map h.2 fun p hp q hq => k p (List.mem_cons_of_mem _ hp) q (List.mem_cons_of_mem _ hq)⟩
    obtain ⟨q, hq, e⟩ := List.mem_map.mp m
    exact h.1 (List.mem_map.mpr ⟨q, hq, k q (List.mem_cons_of_mem _ hq) p (List.mem_cons_self ..) e⟩)
theorem dlook_none_of {K : Type} [DecidableEq K] {k : K} : ∀ {l : List (K × AV)}, k ∉ l.map (·.1) → dlook l k = none
  | [], _ => rfl
  | (q, v) :: r, h => by
    unfold dlook
    rw [if_neg (fun e => h (by rw [e]; exact List.mem_cons_self ..))]
    exact dlook_none_of fun m => h (List.mem_cons_of_mem _ m)
theorem fold_len {b : AV} : ∀ (ks : List Str) (acc : List (Str × AV)), ks.Nodup → (∀ k ∈ ks, k ∉ acc.map (·.1)) → ((ks.map fun k => (k, b)).foldl (fun d p => dput d p.1 p.2) acc).length = acc.length + ks.length
  | [], acc, _, _ => rfl
  | k :: r, acc, h, hd => by
    rw [List.nodup_cons] at h
    rw [List.map_cons, List.foldl_cons]
    dsimp only
    have e := dlook_none_of (hd k (List.mem_cons_self ..))
    rw [dput_none e, fold_len r _ h.2 fun k' hk' m => by
      rw [List.map_append, List.mem_append] at m
      rcases m with m | m
      · exact hd k' (List.mem_cons_of_mem _ hk') m
      · simp only [List.map_cons, List.map_nil, List.mem_cons, List.not_mem_nil, or_false] at m
        subst m; exact h.1 hk']
    simp; lia
theorem pairs_of {b : AV} : ∀ l : List (Int × AV), (∀ p ∈ l, ∃ s, p.2 = .str s) → pairsOf (l.map fun p => .tup [p.2, b]) = some ((l.map fun p => strOf p.2).map fun k => (k, b))
  | [], _ => rfl
  | (m, v) :: r, h => by
    obtain ⟨s, e⟩ := h (m, v) (List.mem_cons_self ..)
    have e : v = .str s := e
    subst e
    exact (goO_of (pairs_of r fun p hp => h p (List.mem_cons_of_mem _ hp)) : goO (pairsOf (r.map fun p => .tup [p.2, b])) _ = _)
theorem names_once (hf : Fun ψ) {l : List (Int × AV)} (h3 : (l.map (·.1)).Nodup) (h4 : ∀ p ∈ l, ∃ m x k, p.1 = ((m : Nat) : Int) ∧ p.2 = .str (nmS x.s k) ∧ ψ m x k) (j : Nat) (hj : σ[j]? = some (.lst (l.map fun p => .tup [p.2, .bool true]))) :
    ∃ d, tyV "dict" [.ref j] σ = some (.ref σ.length, σ ++ [.sdct d]) ∧ d.length = l.length := by
  refine ⟨((l.map fun p => strOf p.2).map fun k => (k, AV.bool true)).foldl (fun d p => dput d p.1 p.2) [], ?_, ?_⟩
  · have e0 : dctS σ j = none := by unfold dctS; rw [hj]; rfl
    exact (optG_no e0).trans ((goO_of (lstAt_of hj)).trans (goO_of (pairs_of l fun p hp => let ⟨m, x, k, a, b, c⟩ := h4 p hp; ⟨_, b⟩)))
  · rw [fold_len]
    · simp
    · refine nodup_map h3 fun p hp q hq e => ?_
      obtain ⟨m, x, k, a, b, c⟩ := h4 p hp
      obtain ⟨m', x', k', a', b', c'⟩ := h4 q hq
      rw [b, b'] at e
      have hk := hf.pos c
      have hk' := hf.pos c'
      have e : k = k' := nmS_inj (x := x) (y := x') (by lia) (by lia) e
      subst e
      rw [a, a', hf.inj c c']
    · intro k _ m; cases m

/-! one turn -/
structure LwI (vs : Array Value) (nn : Nat) (r : List AV) (ρ : Loc) (σ : Sto) : Prop where
  rs : ∀ v ∈ r, ∃ k : Nat, k < 100000 ∧ v = .int k
  h0 : σ[0]? = some (.rol vs nn)
  r1 : ρ.lookup ("script" : Str) = some (.ref 0)
  n1 : ρ.lookup ("_law_urn" : Str) = none
  n2 : ρ.lookup ("NameSupply" : Str) = none
  n3 : ρ.lookup ("_law_tree" : Str) = none
  n4 : ρ.lookup ("_law_fits" : Str) = none
  n5 : ρ.lookup ("_law_scope" : Str) = none
  n6 : ρ.lookup ("renamed_locals" : Str) = none
  n7 : ρ.lookup ("len" : Str) = none
  n8 : ρ.lookup ("dict" : Str) = none
theorem LwI.set {vs : Array Value} {nn : Nat} {r : List AV} {y : Str} (h : LwI vs nn r ρ σ) (hy : y = "turn" ∨ y = "urn" ∨ y = "supply" ∨ y = "tree" ∨ y = "given") : LwI vs nn r (setL ρ y v) σ := by
  rcases hy with rfl | rfl | rfl | rfl | rfl <;> exact ⟨h.rs, h.h0, sl_ne (by decide) h.r1, sl_ne (by decide) h.n1, sl_ne (by decide) h.n2, sl_ne (by decide) h.n3, sl_ne (by decide) h.n4, sl_ne (by decide) h.n5, sl_ne (by decide) h.n6, sl_ne (by decide) h.n7, sl_ne (by decide) h.n8⟩
/-- the tree of a turn: the two walks fit, and give each name once -/
structure FitRes (n : Nat) (m w : AV) (b : Nat) : Prop where
  ex : ∃ ψ cnt, Fun ψ ∧ cnt ≤ b ∧ Ft n ψ cnt m w
theorem fit_res {t : Tr} (hg : t.hg ≤ 4) (hz : t.sz ≤ 5000) (hn : 3 * t.hg + 2 ≤ n) : FitRes n (wkL t (opE En.none t 0) (opN En.none t 0)).1 (wkP t (opE En.none t 0) (opN En.none t 0)).1 (2 * t.sz) := by
  have o : Ok (fun _ _ _ => False) 0 0 := ⟨fun h => h.elim, fun h => h.elim, fun h => h.elim⟩
  have hE : EnvRel (fun _ _ _ => False) En.none En.none := fun x => .inl ⟨rfl, rfl⟩
  obtain ⟨φ, cnt, X, hc, H⟩ := ((fit_ok t n hn (by lia)).sc hE o).ex
  have a1 := wkP_le t (opE En.none t 0) (opN En.none t 0)
  have a2 := opN_le En.none t 0
  have a3 := t.wt_le
  have hf := X.ok.fun (by lia)
  exact ⟨φ, cnt, hf, hc, H φ (fun _ _ _ q => q) hf⟩
theorem marked_ok {t : Tr} (hg : t.hg ≤ 4) (hz : t.sz ≤ 5000) (σ : Sto) : ∃ σ', callN G 45 a_law_scope [t.av, .ref σ.length, .ref (σ ++ [Cell.edct]).length] (σ ++ [.edct] ++ [.lst []]) = some ((wkL t (opE En.none t 0) (opN En.none t 0)).1, σ') ∧ Kp [] σ σ' := by
  have a2 := opN_le En.none t 0
  have a3 := t.wt_le
  have hE : EnvL (σ ++ [.edct] ++ [.lst []]) σ.length En.none := ⟨[], by unfold dctS; rw [at_old at_end]; rfl, by simp, fun x => rfl, fun k _ => rfl⟩
  have hC : Cnt (σ ++ [.edct] ++ [.lst []]) (σ ++ [Cell.edct]).length 0 := ⟨[], at_end, rfl⟩
  refine (sc_ok (n := 42) (t := t) (E := En.none) (c := 0) (by lia) (by lia) (mk_ok t 44 _ _ ⟨by lia, by lia, by lia⟩) (by lia) _ _ _ hE hC).elim fun σ' e k _ => ⟨σ', e, ?_⟩
  exact (((Kp.app _).trans (.app _)).trans (k.mono (J := [(σ ++ [Cell.edct]).length]) (fun _ h => h))).drop (by simp)
theorem turn_ok {vs : Array Value} {nn : Nat} {r : List AV} (hv : ∀ (k : Nat) (v : Value), vs[k]? = some v → ∃ i t, v = Value.int i t) (hI : LwI vs nn (v :: r) ρ σ) : ∃ ρ' σ', d_law (callN G 45) (setL ρ "turn" v) σ = some (.next, ρ', σ') ∧ LwI vs nn r ρ' σ' := by
  obtain ⟨k, hk, rfl⟩ := hI.rs v (List.mem_cons_self ..)
  have I0 : LwI vs nn r (setL ρ "turn" (.int k)) σ := ⟨fun v h => hI.rs v (List.mem_cons_of_mem _ h), hI.h0, (hI.set (.inl rfl)).r1, (hI.set (.inl rfl)).n1, (hI.set (.inl rfl)).n2, (hI.set (.inl rfl)).n3, (hI.set (.inl rfl)).n4, (hI.set (.inl rfl)).n5, (hI.set (.inl rfl)).n6, (hI.set (.inl rfl)).n7, (hI.set (.inl rfl)).n8⟩
  obtain ⟨u, σ₁, e1, k1, lu, hU1⟩ := urn_ok (n := 44) hI.h0 hv hk
  have e2 := supply_ok 43 σ₁
  let p := σ₁.length + 1
  let dp := σ₁.length
  let σ₂ := σ₁ ++ [Cell.attrs [("many", .int 0)]] ++ [Cell.inst c_S σ₁.length]
  have k2 : Kp [] σ₁ σ₂ := (Kp.app _).trans (.app _)
  have hU2 : Urn u σ₂ := let ⟨a, b, h, q⟩ := hU1.ex; ⟨a, b, k2.keep _ _ h (by simp), q⟩
  have p2 : σ₂[p]? = some (.inst c_S dp) := by simp [σ₂, p, dp]
  have d2 : σ₂[dp]? = some (.attrs [("many", .int 0)]) := by simp [σ₂, dp]
  have lu1 : u < σ₁.length := let ⟨a, b, h, q⟩ := hU1.ex; lt_of_at h
  have pu : p ∉ [u] := not1 (by lia)
  have du : dp ∉ [u] := not1 (by lia)
  obtain ⟨t1, σ₃, g1, e3, k3, hU3⟩ := tree_ok 3 45 u (by lia) σ₂ hU2
  obtain ⟨t2, σ₄, g2, e4, k4, hU4⟩ := tree_ok 2 45 u (by lia) σ₃ hU3
  obtain ⟨t3, σ₅, g3, e5, k5, hU5⟩ := tree_ok 2 45 u (by lia) σ₄ hU4
  have hr := root_sz g1 g2 g3
  generalize hT : Tr.blk t1 t2 t3 = T at hr
  have hTv : ex "block" [t1.av, t2.av, t3.av] = T.av := by rw [← hT]; rfl
  have K5 : Kp [u] σ₂ σ₅ := (k3.trans k4).trans k5
  have h05 : σ₅[0]? = some (.rol vs nn) := K5.keep _ _ (k2.keep _ _ (k1.keep _ _ hI.h0 (by simp)) (by simp)) (not1 (by have := lt_of_at hI.h0; lia))
  let σ₆ := σ₅ ++ [Cell.edct]
  obtain ⟨σ₇, e7, k7⟩ := marked_ok (t := T) (by lia) (by lia) σ₆
  have K7 : Kp [] σ₅ σ₇ := (Kp.app _).trans k7
  have p7 := K7.keep _ _ (K5.keep _ _ p2 pu) (by simp)
  have d7 := K7.keep _ _ (K5.keep _ _ d2 du) (by simp)
  have a3 := T.wt_le
  obtain ⟨σ₈, e8, k8⟩ := ren_ok (t := T) (by lia) (by lia) (by lia) p7 d7
  obtain ⟨ψ, cnt, hf, hc, hFt⟩ := (fit_res (n := 45) (t := T) (by lia) (by lia) (by lia)).ex
  have g7 : σ₇[σ₅.length]? = some .edct := k7.keep _ _ at_end (by simp)
  have gd : σ₅.length ∉ [dp] := not1 fun e => by rw [e] at g7; rw [g7] at d7; cases d7
  have g8 := k8.keep _ _ g7 gd
  have hG8 : Giv ψ σ₈ σ₅.length 0 := ⟨[], by unfold dctI; rw [g8]; rfl, by simp, by simp, by simp⟩
  obtain ⟨σ₉, e9, k9, hG9⟩ := hFt σ₈ σ₅.length 0 hG8 (by lia)
  obtain ⟨l, l1, l2, l3, l4⟩ := hG9.ex
  have h07 := K7.keep _ _ h05 (by simp)
  have h08 := k8.keep _ _ h07 (not1 fun e => by rw [← e, h07] at d7; cases d7)
  have h09 := k9.keep _ _ h08 (not1 fun e => by rw [← e, h08] at g8; cases g8)
  have kA : Kp [] σ₉ (σ₉ ++ [.lst (l.map fun p => .tup [p.2, .bool true])]) := .app _
  obtain ⟨d, e10, ld⟩ := names_once (σ := σ₉ ++ [.lst (l.map fun p => .tup [p.2, .bool true])]) hf l3 l4 σ₉.length at_end
  let S := σ₉ ++ [Cell.lst (l.map fun p => .tup [p.2, .bool true])] ++ [Cell.sdct d]
  have kB : Kp [] σ₉ S := kA.trans (.app _)
  have e11 : biV "len" [.ref (σ₉ ++ [Cell.lst (l.map fun p => .tup [p.2, .bool true])]).length] S = some (.int d.length, S) := by
    have q1 : dctS S (σ₉ ++ [Cell.lst (l.map fun p => .tup [p.2, .bool true])]).length = some d := by unfold dctS; rw [at_end]; rfl
    exact (optG_no (lstAt_dct q1)).trans (optG_of q1)
  have e12 : biV "len" [.ref σ₅.length] S = some (.int l.length, S) := by
    have q1 := dctI_kp l1 kB (by simp)
    refine (optG_no (lstAt_dctI q1)).trans ?_
    obtain ⟨c, q, q1⟩ := goO_inv q1
    unfold dctS dctI
    rw [q]
    cases c <;> first | exact no q1 | (cases q1; rfl)
  have e13 : cmpV .NotEq (.int d.length) (.int l.length) S = some false := by
    show (eqV 60 (.int d.length) (.int l.length)).map (!·) = _
    rw [ld, eqv_int]; rfl
  let ρ₁ : Loc := setLs (setL ρ "turn" (.int k)) ["urn", "supply"] [.ref u, .ref p]
  have I1 : LwI vs nn r ρ₁ σ := (I0.set (y := "urn") (v := .ref u) (.inr (.inl rfl))).set (y := "supply") (v := .ref p) (.inr (.inr (.inl rfl)))
  have ru : ρ₁.lookup ("urn" : Str) = some (.ref u) := sl_ne (by decide) (sl_eq _ _ _)
  let ρ₂ : Loc := setL (setL ρ₁ "tree" T.av) "given" (.ref σ₅.length)
  have I2 : LwI vs nn r ρ₂ σ := (I1.set (y := "tree") (v := T.av) (.inr (.inr (.inr (.inl rfl))))).set (y := "given") (v := .ref σ₅.length) (.inr (.inr (.inr (.inr rfl))))
  have rt : ρ₂.lookup ("tree" : Str) = some T.av := sl_ne (by decide) (sl_eq _ _ _)
  have rg : ρ₂.lookup ("given" : Str) = some (.ref σ₅.length) := sl_eq _ _ _
  have rp : ρ₂.lookup ("supply" : Str) = some (.ref p) := sl_ne (by decide) (sl_ne (by decide) (sl_eq _ _ _))
  refine ⟨ρ₂, S, ?_, I2.rs, kB.keep _ _ h09 (by simp), I2.r1, I2.n1, I2.n2, I2.n3, I2.n4, I2.n5, I2.n6, I2.n7, I2.n8⟩
  refine W.eq ?_
  refine w_cn I0.n1 (w_lk I0.r1 (w_lk (sl_eq _ _ _) (w_go e1 (w_cn I0.n2 (w_go e2 ?_)))))
  refine w_cn I1.n3 (w_lk ru (w_go e3 (w_cn I1.n3 (w_lk ru (w_go e4 (w_cn I1.n3 (w_lk ru (w_go e5 ?_))))))))
  rw [hTv]
  refine w_cn I2.n4 (w_cn I2.n5 (w_lk rt (w_go e7 ?_)))
  refine w_cn I2.n6 (w_lk rt (w_lk rp (w_go e8 (w_lk rg (w_go e9 (w_asB (w_f ?_)))))))
  refine w_gcall I2.n7 (w_gcall I2.n8 (w_lk rg ?_))
  refine (show W (goO (dctI σ₉ σ₅.length) _) _ from w_goO l1 (w_pre (decide_eq_true (by lia)) ?_))
  refine w_go e10 (w_go e11 (w_gcall I2.n7 (w_lk rg (w_go e12 (w_eqs e13 (w_f (w_some rfl)))))))
end
end Mine

end

noncomputable section
open PySem PySem.W PyProof.Rows
set_option Elab.async false
set_option maxRecDepth 100000
set_option linter.unusedVariables false
namespace Mine
noncomputable def toldT : AV := ex "let" [ex "block" [ex "=" [sym "a#1", sym "a"]], ex "block" [ex "=" [sym "b#2", sym "a#1"], sym "a", sym "f"]]
noncomputable def sto1 (vs : Array Value) (nn : Nat) : Sto := [.rol vs nn, .attrs [("many", .int 0)], .inst c_S 1]
noncomputable def part (x : RV) : Option (AV × Option Cell) := match x with
  | some (v, σ) => some (v, σ[0]?)
  | none => none
theorem told_part (vs : Array Value) (nn : Nat) : part (callN G 45 a_renamed_locals [fixedT, .ref 2] (sto1 vs nn)) = some (toldT, some (.rol vs nn)) := by kernel_rfl
theorem told_ok2 (vs : Array Value) (nn : Nat) : ∃ σ', callN G 45 a_renamed_locals [fixedT, .ref 2] (sto1 vs nn) = some (toldT, σ') ∧ σ'[0]? = some (.rol vs nn) := by
  have h := told_part vs nn
  cases e : callN G 45 a_renamed_locals [fixedT, .ref 2] (sto1 vs nn) with
  | none => rw [e] at h; cases h
  | some p =>
    obtain ⟨v, σ'⟩ := p
    rw [e] at h
    have h : (v, σ'[0]?) = (toldT, some (.rol vs nn)) := Option.some.inj h
    rw [(Prod.mk.inj h).1]
    exact ⟨σ', rfl, (Prod.mk.inj h).2⟩
theorem law_true (vs : Array Value) (nn : Nat) (hv : ∀ (k : Nat) (v : Value), vs[k]? = some v → ∃ i t, v = Value.int i t) :
    ∃ σ', callN G 46 a_law [.ref 0] [.rol vs nn] = some (.bool true, σ') ∧ σ'[0]? = some (.rol vs nn) := by
  have u : callN G 46 a_law [.ref 0] [.rol vs nn] = s_law (callN G 45) (.ref 0) [.rol vs nn] := by kernel_rfl
  obtain ⟨σ₁, e1, h1⟩ := told_ok2 vs nn
  have len : biV "len" [.ref 0] σ₁ = some (.int vs.size, σ₁) := by
    have l0 : lstAt σ₁ 0 = none := by unfold lstAt; rw [h1]; rfl
    have l1 : dctS σ₁ 0 = none := by unfold dctS; rw [h1]; rfl
    have l2 : dctI σ₁ 0 = none := by unfold dctI; rw [h1]; rfl
    have l3 : rolAt σ₁ 0 = some vs := by unfold rolAt; rw [h1]; rfl
    exact (optG_no l0).trans ((optG_no l1).trans ((optG_no l2).trans (goO_of l3)))
  obtain ⟨j, hj, ej⟩ : ∃ j : Nat, j ≤ 2 ∧ (if (if (2 : Int) < vs.size then (2 : Int) else vs.size) > 1 then (if (2 : Int) < vs.size then (2 : Int) else vs.size) else 1) = (j : Int) := by
    by_cases h2 : (2 : Int) < vs.size
    · rw [if_pos h2]; exact ⟨2, by lia, rfl⟩
    · rw [if_neg h2]
      by_cases h3 : (vs.size : Int) > 1
      · rw [if_pos h3]; exact ⟨vs.size, by lia, rfl⟩
      · rw [if_neg h3]; exact ⟨1, by lia, rfl⟩
  have hI : LwI vs nn (intsTo j) [("script", .ref 0), ("fixed", fixedT), ("told", toldT), ("new", .str "a#1")] σ₁ := by
    refine ⟨fun v hv => ?_, h1, by rfl, by rfl, by rfl, by rfl, by rfl, by rfl, by rfl, by rfl, by rfl⟩
    unfold intsTo at hv
    obtain ⟨k, hk, rfl⟩ := List.mem_map.mp hv
    simp only [Int.toNat_natCast, List.mem_range] at hk
    exact ⟨k, by lia, rfl⟩
  obtain ⟨ρ', σ', e2, hI'⟩ := forL_list (LwI vs nn) (fun v r ρ σ h => turn_ok hv h) _ _ _ hI
  refine ⟨σ', ?_, hI'.h0⟩
  rw [u]
  refine W.eq ?_
  have e0 : callN G 45 c_S [] [.rol vs nn] = some (.ref 2, sto1 vs nn) := by kernel_rfl
  refine w_go e0 (w_go e1 ?_)
  have mid : law_mid (callN G 45) (.ref 0) toldT σ₁ = law_end (callN G 45) (.ref 0) toldT (.str "a#1") σ₁ := by kernel_rfl
  rw [mid]
  have m1 : biV "min" [.int vs.size, .int 2] σ₁ = some (.int (if (2 : Int) < vs.size then (2 : Int) else vs.size), σ₁) := rfl
  have m2 : biV "max" [.int 1, .int (if (2 : Int) < vs.size then (2 : Int) else vs.size)] σ₁ = some (.int j, σ₁) := by rw [← ej]; rfl
  refine w_go len (w_go m1 (w_go m2 ?_))
  show W (pre (decide ((0 : Int) ≤ j ∧ (j : Int) ≤ 1000)) (aft (forL "turn" (d_law (callN G 45)) (intsTo j) [("script", .ref 0), ("fixed", fixedT), ("told", toldT), ("new", .str "a#1")] σ₁) fun ρ σ => retB true σ)) _
  exact w_pre (decide_eq_true ⟨by lia, by lia⟩) (w_aft e2 (w_some rfl))
end Mine

end

noncomputable section
open PySem PySem.W PyProof.Rows
set_option Elab.async false
set_option maxRecDepth 100000
set_option linter.unusedVariables false
namespace Mine

/-! the part of the heap that is written out -/
noncomputable def fnOb (f : FnI) : Obj := ⟨.type "function", none, .func f.fd, #[]⟩
noncomputable def ob50 : Obj := Obj.mk (Value.type "tuple") none (Data.seq #[Value.str (Str.ofString "function") 228, Value.str (Str.ofString "->") 229, Value.str (Str.ofString "do") 230, Value.str (Str.ofString "let") 231, Value.str (Str.ofString "for") 232, Value.str (Str.ofString "while") 233, Value.str (Str.ofString "try") 234, Value.str (Str.ofString "comprehension") 235, Value.str (Str.ofString "generator") 236, Value.str (Str.ofString "macro") 237, Value.str (Str.ofString "quote") 238, Value.str (Str.ofString "escape") 239, Value.str (Str.ofString "struct") 240, Value.str (Str.ofString "abstract") 241, Value.str (Str.ofString "generated") 242]) #[]
noncomputable def ob51 : Obj := Obj.mk (Value.type "tuple") none (Data.seq #[Value.str (Str.ofString "+=") 244, Value.str (Str.ofString "-=") 245, Value.str (Str.ofString "*=") 246, Value.str (Str.ofString "//=") 247, Value.str (Str.ofString "%=") 248, Value.str (Str.ofString "|=") 249, Value.str (Str.ofString "&=") 250]) #[]
noncomputable def ob161 (P : Params) : Obj := Obj.mk (Value.type "dict") none (Data.dict #[DictEntry.mk (PyData.keyHash P (Str.ofString "__module__")) (Value.str (Str.ofString "__module__") 381) (Value.str (Str.ofString "methodrows.hygiene") 370), DictEntry.mk (PyData.keyHash P (Str.ofString "__firstlineno__")) (Value.str (Str.ofString "__firstlineno__") 385) (Value.int 96 384), DictEntry.mk (PyData.keyHash P (Str.ofString "__init__")) (Value.str (Str.ofString "__init__") 392) (Value.ref 152), DictEntry.mk (PyData.keyHash P (Str.ofString "next")) (Value.str (Str.ofString "next") 400) (Value.ref 159), DictEntry.mk (PyData.keyHash P (Str.ofString "__static_attributes__")) (Value.str (Str.ofString "__static_attributes__") 402) (Value.ref 160), DictEntry.mk (PyData.keyHash P (Str.ofString "__dict__")) (Value.str (Str.ofString "__dict__") 404) (Value.ref 163), DictEntry.mk (PyData.keyHash P (Str.ofString "__weakref__")) (Value.str (Str.ofString "__weakref__") 406) (Value.ref 164), DictEntry.mk (PyData.keyHash P (Str.ofString "__doc__")) (Value.str (Str.ofString "__doc__") 407) Value.none] 4) #[]
noncomputable def ob162 : Obj := Obj.mk (Value.type "type") none (Data.cls (ClassData.mk (Str.ofString "NameSupply") [Value.type "object"] [Value.ref 162, Value.type "object"] 161 (Str.ofString "NameSupply") true [] [] false none false)) #[none, none, some (Value.str (Str.ofString "NameSupply") 374), some (Value.str (Str.ofString "NameSupply") 382), some (Value.builtin "object.__new__"), some (Value.bool true)]
noncomputable def ob279 (P : Params) : Obj := Obj.mk (Value.type "dict") none (Data.dict #[DictEntry.mk (PyData.keyHash P (Str.ofString "__module__")) (Value.str (Str.ofString "__module__") 431) (Value.str (Str.ofString "methodrows.hygiene") 370), DictEntry.mk (PyData.keyHash P (Str.ofString "__firstlineno__")) (Value.str (Str.ofString "__firstlineno__") 435) (Value.int 122 434), DictEntry.mk (PyData.keyHash P (Str.ofString "__init__")) (Value.str (Str.ofString "__init__") 443) (Value.ref 187), DictEntry.mk (PyData.keyHash P (Str.ofString "fresh")) (Value.str (Str.ofString "fresh") 454) (Value.ref 194), DictEntry.mk (PyData.keyHash P (Str.ofString "opened")) (Value.str (Str.ofString "opened") 468) (Value.ref 201), DictEntry.mk (PyData.keyHash P (Str.ofString "body")) (Value.str (Str.ofString "body") 478) (Value.ref 208), DictEntry.mk (PyData.keyHash P (Str.ofString "all_of")) (Value.str (Str.ofString "all_of") 484) (Value.ref 213), DictEntry.mk (PyData.keyHash P (Str.ofString "of")) (Value.str (Str.ofString "of") 496) (Value.ref 220), DictEntry.mk (PyData.keyHash P (Str.ofString "named")) (Value.str (Str.ofString "named") 502) (Value.ref 225), DictEntry.mk (PyData.keyHash P (Str.ofString "kept")) (Value.str (Str.ofString "kept") 512) (Value.ref 232), DictEntry.mk (PyData.keyHash P (Str.ofString "function")) (Value.str (Str.ofString "function") 526) (Value.ref 239), DictEntry.mk (PyData.keyHash P (Str.ofString "head")) (Value.str (Str.ofString "head") 532) (Value.ref 244), DictEntry.mk (PyData.keyHash P (Str.ofString "argument")) (Value.str (Str.ofString "argument") 542) (Value.ref 251), DictEntry.mk (PyData.keyHash P (Str.ofString "scope")) (Value.str (Str.ofString "scope") 558) (Value.ref 258), DictEntry.mk (PyData.keyHash P (Str.ofString "let")) (Value.str (Str.ofString "let") 572) (Value.ref 265), DictEntry.mk (PyData.keyHash P (Str.ofString "tried")) (Value.str (Str.ofString "tried") 578) (Value.ref 270), DictEntry.mk (PyData.keyHash P (Str.ofString "gathered")) (Value.str (Str.ofString "gathered") 592) (Value.ref 277), DictEntry.mk (PyData.keyHash P (Str.ofString "__static_attributes__")) (Value.str (Str.ofString "__static_attributes__") 594) (Value.ref 278), DictEntry.mk (PyData.keyHash P (Str.ofString "__dict__")) (Value.str (Str.ofString "__dict__") 596) (Value.ref 281), DictEntry.mk (PyData.keyHash P (Str.ofString "__weakref__")) (Value.str (Str.ofString "__weakref__") 598) (Value.ref 282), DictEntry.mk (PyData.keyHash P (Str.ofString "__doc__")) (Value.str (Str.ofString "__doc__") 599) Value.none] 4) #[]
noncomputable def ob280 : Obj := Obj.mk (Value.type "type") none (Data.cls (ClassData.mk (Str.ofString "Renamer") [Value.type "object"] [Value.ref 280, Value.type "object"] 279 (Str.ofString "Renamer") true [] [] false none false)) #[none, none, some (Value.str (Str.ofString "Renamer") 424), some (Value.str (Str.ofString "Renamer") 432), some (Value.builtin "object.__new__"), some (Value.bool true)]
noncomputable def KK (P : Params) : Frag := [(50, ob50), (51, ob51), (161, ob161 P), (162, ob162), (279, ob279 P), (280, ob280), (21, fnOb F_expr), (28, fnOb F_is_expr), (35, fnOb F_head_of), (42, fnOb F_parts_of), (49, fnOb F_is_sym), (58, fnOb F_place_names), (65, fnOb F_declared_names), (70, fnOb F_own_names), (77, fnOb F_argument_names), (84, fnOb F_head_call), (91, fnOb F_head_names), (98, fnOb F_keyword_names), (105, fnOb F_where_names), (173, fnOb F_bare), (291, fnOb F_renamed_locals), (298, fnOb F_law_urn), (305, fnOb F_law_next), (312, fnOb F_law_name), (319, fnOb F_law_tree), (326, fnOb F_law_bound), (333, fnOb F_law_new), (340, fnOb F_law_scope), (345, fnOb F_law_marked), (350, fnOb F_law_fits), (355, fnOb F_law), (152, fnOb F_S_init), (159, fnOb F_S_next), (187, fnOb F_R_init), (194, fnOb F_R_fresh), (201, fnOb F_R_opened), (208, fnOb F_R_body), (213, fnOb F_R_all_of), (220, fnOb F_R_of), (225, fnOb F_R_named), (232, fnOb F_R_kept), (239, fnOb F_R_function), (244, fnOb F_R_head), (251, fnOb F_R_argument), (258, fnOb F_R_scope), (265, fnOb F_R_let), (270, fnOb F_R_tried), (277, fnOb F_R_gathered)]
noncomputable def kAddrs : List Addr := [50, 51, 161, 162, 279, 280, 21, 28, 35, 42, 49, 58, 65, 70, 77, 84, 91, 98, 105, 173, 291, 298, 305, 312, 319, 326, 333, 340, 345, 350, 355, 152, 159, 187, 194, 201, 208, 213, 220, 225, 232, 239, 244, 251, 258, 265, 270, 277]
noncomputable def gNames : List Str := G.glob.map (·.1) ++ G.bi.map (·.1)
noncomputable def globV : AV → Option Value
  | .val w => some w
  | .int i => some (.int i 372)
  | .tup l => some (.ref (if l.length = 15 then 50 else 51))
  | _ => none
noncomputable def gVals : List (Option Value) := G.glob.map (fun p => globV p.2) ++ G.bi.map fun _ => none
noncomputable def nameIs (q : Str) (v : Option Value) : Bool := match v with
  | some (Value.str n _) => n == q
  | _ => false
noncomputable def codeOb (q : Str) (o : Obj) : Bool := match o.data with
  | .fields vs => nameIs q vs[1]?
  | _ => false
theorem codeOb_ok {q : Str} {o : Obj} (e : codeOb q o = true) : ∃ vs, o.data = .fields vs ∧ nameIs q vs[1]? = true := by
  obtain ⟨c, d, dat, sl⟩ := o
  cases dat <;> first | exact Bool.noConfusion e | exact ⟨_, rfl, e⟩
noncomputable def codeAt (h : Heap) (cd : Value) (q : Str) : Bool := match cd with
  | .ref c => (match h.get? c with
    | some o => codeOb q o
    | none => false)
  | _ => false
theorem codeAt_ok {h : Heap} {cd : Value} {q : Str} (e : codeAt h cd q = true) : h.CodeRec cd q := by
  cases cd <;> first | exact Bool.noConfusion e | skip
  rename_i c
  unfold codeAt at e
  dsimp only at e
  cases ho : h.get? c with
  | none => rw [ho] at e; exact Bool.noConfusion e
  | some o =>
    rw [ho] at e
    obtain ⟨vs, hd, e⟩ := codeOb_ok e
    cases hv : vs[1]? with
    | none => rw [hv] at e; exact Bool.noConfusion e
    | some v =>
      rw [hv] at e
      cases v <;> first | exact Bool.noConfusion e | skip
      exact ⟨c, o, vs, _, rfl, ho, hd, by rw [hv, beq_iff_eq.mp e]⟩
noncomputable def AllP {α : Type} (P : α → Prop) : List α → Prop
  | [] => True
  | x :: r => P x ∧ AllP P r
theorem AllP.mem {α : Type} {P : α → Prop} : ∀ {l : List α}, AllP P l → ∀ x ∈ l, P x
  | _ :: _, ⟨h, _⟩, _, .head _ => h
  | _ :: _, ⟨_, r⟩, _, .tail _ m => r.mem _ m
theorem AllP.lookup {κ ν : Type} [BEq κ] [LawfulBEq κ] {P : κ × ν → Prop} {l : List (κ × ν)} (h : AllP P l) {k : κ} {v : ν} (e : l.lookup k = some v) : P (k, v) := h.mem _ (mem_of_lookup' e)
noncomputable def codesOk (h : Heap) : Bool := G.fn.all fun p => codeAt h p.2.fd.code p.2.fd.qualname

/-- what the head tells of the heap behind the top -/
structure Says (w : World) (h : Heap) : Prop where
  kin : (KK w.params).In h
  ns : ∃ mg, h.Ns mainGlobals mg ∧ gNames.map mg = gVals
  code : ∀ p ∈ G.fn, h.CodeRec p.2.fd.code p.2.fd.qualname
  sm : h.get? sysModules ≠ none
theorem Says.keeps (w : World) (h h' : Heap) (x : Says w h) (k : ∀ b o, h.get? b = some o → h'.get? b = some o) : Says w h' :=
  ⟨x.kin.keeps k, let ⟨mg, a, b⟩ := x.ns; ⟨mg, a.keeps k, b⟩, fun p hp => (x.code p hp).keeps k, live_keeps k x.sm⟩
noncomputable def obsH (s : Shared) : List (Option Obj) × List (Option Value) × Bool := (kAddrs.map s.heap.get?, gNames.map (s.heap.nsMap mainGlobals), s.heap.isNs mainGlobals && codesOk s.heap && (s.heap.get? sysModules).isSome)
noncomputable def valH (w : World) : List (Option Obj) × List (Option Value) × Bool := ((KK w.params).map (fun p => some p.2), gVals, true)
theorem Says.of (w : World) (s : Shared) (e : obsH s = valH w) : Says w s.heap := by
  obtain ⟨e1, e2⟩ := Prod.mk.inj e
  obtain ⟨e2, e3⟩ := Prod.mk.inj e2
  obtain ⟨e3, e5⟩ := Bool.and_eq_true_iff.mp e3
  obtain ⟨e3, e4⟩ := Bool.and_eq_true_iff.mp e3
  refine ⟨Frag.in_of (as := kAddrs) rfl e1, ⟨_, .of_isNs e3, e2⟩, fun p hp => codeAt_ok (List.all_eq_true.mp e4 p hp), fun z => by rw [z] at e5; cases e5⟩
noncomputable def hookH : Hook := ⟨_, obsH, valH, Says, Says.of, Says.keeps⟩

theorem ns_unique {h : Heap} {a : Addr} {m m' : Str → Option Value} (x : h.Ns a m) (y : h.Ns a m') : m = m' := by
  obtain ⟨o, es, ep, ho, hd, _, hf⟩ := x
  obtain ⟨o', es', ep', ho', hd', _, hf'⟩ := y
  rw [ho] at ho'; cases ho'
  rw [hd] at hd'; cases hd'
  exact funext fun n => (hf n).symm.trans (hf' n)

/-! functions -/
theorem len5 (vals : List Value) (h : vals.length ≤ 5) : ∃ a b c d e, vals = [a, b, c, d, e].take vals.length := by
  cases vals with
  | nil => exact ⟨.none, .none, .none, .none, .none, rfl⟩
  | cons a r => cases r with
    | nil => exact ⟨a, .none, .none, .none, .none, rfl⟩
    | cons b r => cases r with
      | nil => exact ⟨a, b, .none, .none, .none, rfl⟩
      | cons c r => cases r with
        | nil => exact ⟨a, b, c, .none, .none, rfl⟩
        | cons d r => cases r with
          | nil => exact ⟨a, b, c, d, .none, rfl⟩
          | cons e r => cases r with
            | nil => exact ⟨a, b, c, d, e, rfl⟩
            | cons f r => exact absurd h (by simp)
noncomputable def fnChk (f : FnI) : Bool := f.fd.closure.isEmpty && f.fd.globals == mainGlobals && f.fd.builtins == builtinsNs && !f.fd.scope.isCoroutine && !f.fd.scope.isGenerator && f.fd.scope.kind == .function && decide f.names.Nodup &&
  f.names.all (fun y => f.fd.scope.names.lookup y == some .local || f.fd.scope.names.lookup y == some .cell) && decide ((cellsFrom 0 f.fd.scope.names []).map (·.1)).Nodup && decide (f.names.length ≤ 5)
theorem fns_chk : G.fn.all (fun p => fnChk p.2) = true := by kernel_rfl
theorem fns_body : (G.fn.map fun p => p.2.fd.body) = G.fn.map fun p => FuncBody.stmts p.2.body := by kernel_rfl
theorem fns_at (P : Params) : (G.fn.map fun p => (KK P).lookup p.1) = G.fn.map fun p => some (fnOb p.2) := by kernel_rfl
theorem fns_bind (a b c d e : Value) : (G.fn.map fun p => bindArgs p.2.fd ⟨[a, b, c, d, e].take p.2.names.length, []⟩) = G.fn.map fun p => (pure (p.2.names.zip ([a, b, c, d, e].take p.2.names.length)) : Sem (List (Str × Value))) := by kernel_rfl
theorem fn_all {cx : Cx} {w : World} (Y : Says w cx.h₀) {p : Addr × FnI} (hm : p ∈ G.fn) : FnOk cx p.1 p.2 ∧ ((cellsFrom 0 p.2.fd.scope.names []).map (·.1)).Nodup := by
  have hc := List.all_eq_true.mp fns_chk p hm
  unfold fnChk at hc
  simp only [Bool.and_eq_true, beq_iff_eq, Bool.not_eq_true', decide_eq_true_eq] at hc
  obtain ⟨⟨⟨⟨⟨⟨⟨⟨⟨h1, h2⟩, h3⟩, h4⟩, h5⟩, h6⟩, h7⟩, h8⟩, h9⟩, h0⟩ := hc
  refine ⟨⟨⟨_, Y.kin _ _ (List.map_inj_left.mp (fns_at _) p hm), rfl⟩, Y.code _ hm, List.map_inj_left.mp fns_body p hm, fun vals hv => ?_, isE_eq h1, fun x hx => ?_, h7, h2, h3, h4, h5, h6⟩, h9⟩
  · obtain ⟨a, b, c, d, e, he⟩ := len5 vals (hv ▸ h0)
    rw [hv] at he
    rw [he]
    exact List.map_inj_left.mp (fns_bind a b c d e) p hm
  · have := List.all_eq_true.mp h8 x hx
    rcases Bool.or_eq_true_iff.mp this with q | q
    · exact .inl (by simpa using q)
    · have q' : p.2.fd.scope.names.lookup x = some .cell := by simpa using q
      exact .inr ⟨q', fun n => cellsFrom_some _ _ _ (.inl q')⟩
end Mine

end

noncomputable section
open PySem PySem.W PyProof.Rows
set_option Elab.async false
set_option maxRecDepth 100000
set_option linter.unusedVariables false
set_option linter.unusedSectionVars false
namespace Mine

theorem AllP.imp {α : Type} {P Q : α → Prop} (h : ∀ x, P x → Q x) : ∀ {l : List α}, AllP P l → AllP Q l
  | [], _ => trivial
  | _ :: _, ⟨a, r⟩ => ⟨h _ a, AllP.imp h r⟩
theorem AllP.of_bool {α : Type} {p : α → Bool} {l : List α} (h : l.all p = true) : AllP (fun x => p x = true) l := by
  induction l with
  | nil => trivial
  | cons x r ih =>
    rw [List.all_cons, Bool.and_eq_true] at h
    exact ⟨h.1, ih h.2⟩
theorem lookup_some_of {κ ν : Type} [BEq κ] [LawfulBEq κ] {l : List (κ × ν)} {k : κ} (h : (l.lookup k).isSome = true) : ∃ v, l.lookup k = some v := Option.isSome_iff_exists.mp h
noncomputable def globChk (K : Frag) (v : AV) : Bool := match v with
  | .val (.ref a) => (G.fn.lookup a).isSome || keepIn K (.ref a)
  | .val _ => false
  | _ => true
noncomputable def biChk (p : Str × Value) : Bool := bootBuiltins p.1 == some p.2 && p.1 != "__name__" && match p.2 with
  | .type _ | .builtin _ => true
  | _ => false
noncomputable def methChk (K : Frag) (p : (Addr × Str) × Addr) : Bool := findIn K (.ref p.1.1) p.1.2 == some (some (.ref p.2)) && isFn K (.ref p.2) && (G.fn.lookup p.2).isSome && (G.cls.lookup p.1.1).isSome
noncomputable def attrChk (K : Frag) (p : Addr × Str) : Bool := findIn K (.ref p.1) p.2 == some none && takerIn K p.1 p.2 == some none && (G.cls.lookup p.1).isSome
noncomputable def clsChk (K : Frag) (p : Addr × Addr) : Bool := makesIn K p.1 && findIn K (.ref p.1) "__init__" == some (some (.ref p.2)) && isFn K (.ref p.2) && plainGet K p.1 "" && hasDictIn K p.1 && findIn K (.ref p.1) "__setattr__" == some (some (.builtin "object.__setattr__")) && plainOver K p.1
noncomputable def seqOf (o : Obj) : List Value := match o.data with
  | .seq vs _ => vs.toList
  | _ => []
theorem chk_glob (P : Params) : G.glob.all (fun p => globChk (KK P) p.2) = true := by kernel_rfl
theorem chk_bi : G.bi.all biChk = true := by kernel_rfl
theorem chk_meth (P : Params) : G.meth.all (methChk (KK P)) = true := by kernel_rfl
theorem chk_attr (P : Params) : G.attrs.all (attrChk (KK P)) = true := by kernel_rfl
theorem chk_cls (P : Params) : G.cls.all (clsChk (KK P)) = true := by kernel_rfl
theorem chk_vals : (G.glob.map fun p => (globV p.2).isSome) = G.glob.map fun _ => true := by kernel_rfl

section
variable {cx : Cx} (hK : cx.K = KK cx.w.params) (Y : Says cx.w cx.h₀)
include hK Y
theorem keep_fn {a : Addr} (h : (G.fn.lookup a).isSome = true) : KeeperOk cx (.ref a) := by
  obtain ⟨f, e⟩ := lookup_some_of h
  exact keeper_fn (fn_all Y (mem_of_lookup' e)).1
theorem cls_ok {C fI : Addr} (e : G.cls.lookup C = some fI) : ClsOk cx.K C fI := by
  have := List.all_eq_true.mp (chk_cls cx.w.params) _ (mem_of_lookup' e)
  unfold clsChk at this
  simp only [Bool.and_eq_true, beq_iff_eq] at this
  obtain ⟨⟨⟨⟨⟨⟨h1, h2⟩, h3⟩, h4⟩, h5⟩, h6⟩, h7⟩ := this
  rw [hK]
  exact ⟨h1, h2, h3, fun _ => h4, h5, h6, h7⟩
theorem mg_at : (∀ p ∈ G.glob, cx.mg p.1 = globV p.2) ∧ ∀ p ∈ G.bi, cx.mg p.1 = none := by
  obtain ⟨mg, hn, e⟩ := Y.ns
  have := ns_unique cx.g hn
  rw [← this] at e
  unfold gNames gVals at e
  rw [List.map_append, List.map_map, List.map_map] at e
  obtain ⟨e1, e2⟩ := List.append_inj e (by rw [List.length_map, List.length_map])
  exact ⟨fun p hp => List.map_inj_left.mp e1 p hp, fun p hp => List.map_inj_left.mp e2 p hp⟩
theorem tup_at {a : Addr} {l : List AV} {vs : List Value} {n : Nat} (h : (KK cx.w.params).lookup a = some ⟨.type "tuple", none, .seq vs.toArray n, #[]⟩) (r : reps [] cx.h₀ [] l vs) : rep [] cx.h₀ [] (.tup l) (.ref a) :=
  ⟨a, vs.toArray, n, rfl, by simp, Y.kin _ _ h, by simpa using r⟩
theorem glob_rep : AllP (fun p : Str × AV => ∀ w, globV p.2 = some w → rep [] cx.h₀ [] p.2 w) G.glob := by
  have fin : ∀ {a : Addr} (w : Value), some (Value.ref a) = some w → rep [] cx.h₀ [] (.val (.ref a)) w := fun w e => (Option.some.inj e).symm
  refine ⟨fin, fin, fin, fin, fin, fin, fin, fin, fin, fin, fin, fin, fin, fin, fin, fin, fin, fin, fin, fin, fin, fin, fin, fin, fin, fin, fin, fun w e => ⟨_, (Option.some.inj e).symm⟩, fun w e => ?_, fun w e => ?_, trivial⟩
  · rw [← Option.some.inj e]
    refine tup_at hK Y (a := 50) (n := 0) (vs := seqOf ob50) (by kernel_rfl) ?_
    repeat (first | exact rfl | refine ⟨_, _, rfl, ⟨_, rfl⟩, ?_⟩)
  · rw [← Option.some.inj e]
    refine tup_at hK Y (a := 51) (n := 0) (vs := seqOf ob51) (by kernel_rfl) ?_
    repeat (first | exact rfl | refine ⟨_, _, rfl, ⟨_, rfl⟩, ?_⟩)

theorem gok : GOk G cx where
  glob := fun x v e => by
    have hm := mem_of_lookup' e
    have h1 := (mg_at hK Y).1 _ hm
    have h2 := (glob_rep hK Y).mem _ hm
    have h3 := List.map_inj_left.mp chk_vals _ hm
    obtain ⟨w, hw⟩ := Option.isSome_iff_exists.mp h3
    exact ⟨w, h1.trans hw, h2 w hw⟩
  keep := fun x a e => by
    have := List.all_eq_true.mp (chk_glob cx.w.params) _ (mem_of_lookup' e)
    rcases Bool.or_eq_true_iff.mp this with h | h
    · exact keep_fn hK Y h
    · exact keeper_K (hK ▸ h)
  val := fun x w e => by
    have := List.all_eq_true.mp (chk_glob cx.w.params) _ (mem_of_lookup' e)
    unfold globChk at this
    split at this
    · rename_i a heq; cases heq; exact ⟨_, rfl⟩
    · cases this
    · rename_i h1 h2; exact absurd rfl (h2 w)
  bi := fun x v e => by
    have hm := mem_of_lookup' e
    have := List.all_eq_true.mp chk_bi _ hm
    unfold biChk at this
    simp only [Bool.and_eq_true, beq_iff_eq, bne_iff_ne] at this
    refine ⟨(mg_at hK Y).2 _ hm, this.1.1, this.1.2, ?_⟩
    have h := this.2
    split at h
    · exact keeper_type
    · exact keeper_builtin
    · cases h
  fn := fun a f e => fn_all Y (mem_of_lookup' e)
  cls := fun C fI e => cls_ok hK Y e
  meth := fun C name f e => by
    have := List.all_eq_true.mp (chk_meth cx.w.params) _ (mem_of_lookup' e)
    unfold methChk at this
    simp only [Bool.and_eq_true, beq_iff_eq] at this
    obtain ⟨fI, h⟩ := lookup_some_of this.2
    exact ⟨fI, cls_ok hK Y h, hK ▸ this.1.1.1, hK ▸ this.1.1.2, keep_fn hK Y this.1.2⟩
  attrs := fun C name m => by
    have := List.all_eq_true.mp (chk_attr cx.w.params) _ m
    unfold attrChk at this
    simp only [Bool.and_eq_true, beq_iff_eq] at this
    obtain ⟨fI, h⟩ := lookup_some_of this.2
    exact ⟨fI, cls_ok hK Y h, hK ▸ this.1.1, hK ▸ this.1.2⟩
end
end Mine

end

noncomputable section
open PySem PySem.W PyProof.Rows
set_option Elab.async false
set_option maxRecDepth 100000
set_option linter.unusedVariables false
namespace Mine

theorem no_lists (P : Params) : (KK P).all (fun p => !(p.2.cls == .type "list")) = true := by kernel_rfl

theorem hide_keep {h : Heap} {a b : Addr} {o ol : Obj} (hl : h.get? a = some ol) (e : h.get? b = some o) (hne : o ≠ ol) : (h.hide a).get? b = some o := by
  rw [Heap.hide_ne h (fun z => hne (by rw [z, hl] at e; exact (Option.some.inj e).symm))]; exact e
theorem hide_back {h : Heap} {a b : Addr} {o : Obj} (e : (h.hide a).get? b = some o) : h.get? b = some o := by
  by_cases z : b = a
  · rw [z, Heap.hide_self] at e; cases e
  · rwa [Heap.hide_ne h z] at e
theorem hide_ns {h : Heap} {a b : Addr} {vs : Array Value} {m : Str → Option Value} (hl : h.get? a = some { cls := .type "list", data := .seq vs }) (x : h.Ns b m) : (h.hide a).Ns b m := by
  obtain ⟨o, es, ep, e, ed, r⟩ := x
  exact ⟨o, es, ep, hide_keep hl e (fun z => by rw [z] at ed; cases ed), ed, r⟩

theorem Says.hide {w : World} {h : Heap} (Y : Says w h) {a : Addr} {vs : Array Value} (hl : h.get? a = some { cls := .type "list", data := .seq vs }) (hm : a ≠ sysModules) : Says w (h.hide a) where
  kin := fun b o e => hide_keep hl (Y.kin b o e) fun z => by
    have := List.all_eq_true.mp (no_lists w.params) _ (mem_of_lookup' e)
    rw [z] at this
    simp at this
  ns := let ⟨mg, x, e⟩ := Y.ns; ⟨mg, hide_ns hl x, e⟩
  code := fun p hp => by
    obtain ⟨c, o, us, t, e1, e2, e3, e4⟩ := Y.code p hp
    exact ⟨c, o, us, t, e1, hide_keep hl e2 (fun z => by rw [z] at e3; cases e3), e3, e4⟩
  sm := by rw [Heap.hide_ne h (Ne.symm hm)]; exact Y.sm

/-- the law, called on a list of ints -/
theorem law_call {q : Program} {loose : List Str} {mean : ExcName → Option Value} {w : World} {s : Shared} {mg mb : Str → Option Value} (T : Top q loose mean mg mb s.heap) (Y : Says w s.heap) {a : Addr} {vs : List Value}
    (hl : s.heap.get? a = some { cls := .type "list", data := .seq vs.toArray }) (hz : vs.length ≤ 100000) (hi : ∀ v ∈ vs, ∃ i t, v = Value.int i t) (hm : a ≠ sysModules) :
    wpAny (model pw w) callerA (call (.ref a_law) [.ref a]) (fun v s' => v = .bool true ∧ (∀ b o, s.heap.get? b = some o → s'.heap.get? b = some o) ∧ s'.os = s.os ∧ s'.gens = s.gens) NoE s := by
  let cx : Cx := { prog := pw, w := w, h₀ := s.heap.hide a, mg := mg, mb := mb, g := hide_ns hl T.g, b := hide_ns hl T.b, nl := let ⟨mc, x, e⟩ := T.nolimit; ⟨mc, hide_ns hl x, e⟩, nd := let ⟨mc, x, e⟩ := T.nodigits; ⟨mc, hide_ns hl x, e⟩, bt := T.builtins,
                   K := KK w.params, X := (Y.hide hl hm).kin, ban := [], banNew := (fun _ h => nomatch h), sm := (Y.hide hl hm).sm }
  have Gk : ∀ b h, GOk G (cx.wb b h) := fun b h => gok (cx := cx.wb b h) rfl (Y.hide hl hm)
  have S : SO cx [a] [.rol vs.toArray 0] s.heap := by
    refine ⟨fun b o e => hide_back e, rfl, by simp, fun i c b e e' => ?_, fun b hb => ?_, fun b hb => by cases hb⟩
    · cases i with
      | zero => simp at e e'; subst e; subst e'; exact ⟨hl, by simpa using hz⟩
      | succ i => simp at e
    · rw [List.mem_singleton.mp hb]; exact Heap.hide_self _ _
  obtain ⟨σ', e1, e2⟩ := law_true vs.toArray 0 fun k v e => hi v (by
    have := Array.mem_of_getElem? e
    simpa using this)
  have R : Room callerA 46 := ⟨rfl, by show 1 + claimMargin + 46 < recursionLimit; decide, by show 4 + 4 * 46 + 200 < cLine; decide⟩
  have call := (callN_ok (cx := cx) Gk 46 [] (fun _ h => by cases h) a_law [.ref 0] _ _ _ e1).op
  refine wpAny_mono (call callerA [a] s [.ref a] R S ⟨_, _, rfl, ⟨a, rfl, rfl⟩, rfl⟩) (fun v s' ⟨α', f, r⟩ => ⟨r, fun b o e => ?_, ?_, ?_⟩) fun _ _ e => e
  · by_cases z : b = a
    · obtain ⟨β, eβ, _⟩ := f.ext
      have := (f.so.cell 0 _ a e2 (by rw [eβ]; rfl)).1
      rw [z] at e ⊢
      rw [hl] at e
      rw [← e]; exact this
    · exact f.pres b o e (by simpa using z) (by simp)
  · obtain ⟨h', tk, e⟩ := f.same; rw [e]
  · obtain ⟨h', tk, e⟩ := f.same; rw [e]
end Mine

end

noncomputable section
open PySem PySem.W PyProof.Rows
set_option Elab.async false
set_option maxRecDepth 100000
namespace Mine
noncomputable section
noncomputable def vs (s : String) (n : Tok) : Value := .str (Str.ofString s) n
noncomputable def de (P : Params) (s : String) (n : Tok) (v : Value) : DictEntry := .mk (PyData.keyHash P (Str.ofString s)) (vs s n) v
noncomputable def proOb (f : FnI) : Obj := ⟨.none, none, .func { f.fd with globals := 0, defaults := .none, pyModule := .none, code := .none }, #[]⟩
noncomputable def F_rowserr : FnI := let f := clsFn 18 0 "RowsError" 120 "methodrows.errors" 321; { f with fd := { f.fd with defaults := .ref 113 } }
noncomputable def tup0 : Obj := Obj.mk (Value.type "tuple") none (Data.seq #[]) #[]
noncomputable def fld0 : Obj := Obj.mk Value.none none (Data.fields #[]) #[]
noncomputable def topRunT (tb : String → Option Builtin) (p : Program) (w : World) (n₀ : Nat) (ann : Option Value) : Nat → SharedT → Thread → Option SharedT
  | 0, _, _ => none
  | n + 1, s, t => match through t with
    | true => some s
    | false => match stepOk n₀ ann t with
      | false => none
      | true => match stepT (denote tb) p w s t with
        | some (s', t') => topRunT tb p w n₀ ann n s' t'
        | none => none
theorem topRunT_of {tb : String → Option Builtin} {p : Program} {w : World} {n₀ : Nat} {ann : Option Value} : ∀ {n : Nat} {s s' : SharedT} {t : Thread}, topRunT tb p w n₀ ann n s t = some s' → topRun tb p w n₀ ann n s.abs t = some s'.abs
  | 0, _, _, _, h => by cases h
  | n + 1, s, s', t, h => by
    unfold topRunT at h
    unfold topRun
    cases he : through t with
    | true => rw [he] at h; cases h; rfl
    | false =>
      rw [he] at h
      cases hk : stepOk n₀ ann t with
      | false => rw [hk] at h; cases h
      | true =>
        rw [hk] at h
        cases hs : stepT (denote tb) p w s t with
        | none => rw [hs] at h; cases h
        | some r => obtain ⟨s₂, t₂⟩ := r; rw [hs] at h; rw [stepT_spec hs]; exact topRunT_of h
noncomputable def treeFrom : Nat → List Obj → BT → BT
  | _, [], t => t
  | i, o :: r, t => treeFrom (i + 1) r (t.ins i o)
noncomputable def bootT (w : World) (os : OsState) : SharedT := ⟨treeFrom 0 (boot_heap w.params).objs.toList .nil, (boot_heap w.params).objs.size, (boot_heap w.params).life, #[], boot_drawn, boot_toks, os⟩
noncomputable def obA (P : Params) : List Obj := [
  tup0]
noncomputable def obB (P : Params) : List Obj := [
  Obj.mk (Value.type "code") none (Data.fields #[vs "<module>" 182, vs "<module>" 183, vs "/claim/cut.py" 184, Value.int 1 0, Value.int 0 0, Value.int 0 0, Value.int 0 0, Value.int 0 0, Value.ref 11, Value.bool false, Value.int 181 0, Value.ref 12, Value.none, Value.none, Value.none, Value.none, Value.int 185 0, Value.int 1 0, vs "/claim/cut.py" 186]) #[],
  Obj.mk (Value.type "frame") none Data.plain #[some (Value.ref 13), some (Value.ref 3), some (Value.ref 3), none, some (vs "__main__" 164), none, some (Value.ref 0)],
  tup0,
  fld0,
  Obj.mk (Value.type "tuple") none (Data.seq #[vs "head" 192, vs "parts" 193]) #[],
  tup0,
  proOb F_expr,
  Obj.mk (Value.type "code") none (Data.fields #[vs "expr" 189, vs "expr" 190, vs "/claim/cut.py" 191, Value.int 2 0, Value.int 2 0, Value.int 0 0, Value.int 0 0, Value.int 3 0, Value.ref 15, Value.bool true, Value.int 181 0, Value.ref 16, Value.none, Value.ref 17, Value.ref 18, Value.ref 19, Value.int 194 0, Value.int 2 0, vs "/claim/cut.py" 195]) #[],
  fnOb F_expr,
  tup0,
  fld0,
  Obj.mk (Value.type "tuple") none (Data.seq #[vs "tree" 200, vs "head" 201]) #[],
  tup0,
  proOb F_is_expr,
  Obj.mk (Value.type "code") none (Data.fields #[vs "is_expr" 197, vs "is_expr" 198, vs "/claim/cut.py" 199, Value.int 4 0, Value.int 2 0, Value.int 0 0, Value.int 0 0, Value.int 3 0, Value.ref 22, Value.bool true, Value.int 181 0, Value.ref 23, Value.none, Value.ref 24, Value.ref 25, Value.ref 26, Value.int 202 0, Value.int 4 0, vs "/claim/cut.py" 203]) #[],
  fnOb F_is_expr,
  tup0,
  fld0,
  Obj.mk (Value.type "tuple") none (Data.seq #[vs "tree" 208]) #[],
  tup0,
  proOb F_head_of,
  Obj.mk (Value.type "code") none (Data.fields #[vs "head_of" 205, vs "head_of" 206, vs "/claim/cut.py" 207, Value.int 6 0, Value.int 1 0, Value.int 0 0, Value.int 0 0, Value.int 3 0, Value.ref 29, Value.bool true, Value.int 181 0, Value.ref 30, Value.none, Value.ref 31, Value.ref 32, Value.ref 33, Value.int 209 0, Value.int 6 0, vs "/claim/cut.py" 210]) #[],
  fnOb F_head_of,
  tup0,
  fld0,
  Obj.mk (Value.type "tuple") none (Data.seq #[vs "tree" 215]) #[],
  tup0,
  proOb F_parts_of,
  Obj.mk (Value.type "code") none (Data.fields #[vs "parts_of" 212, vs "parts_of" 213, vs "/claim/cut.py" 214, Value.int 8 0, Value.int 1 0, Value.int 0 0, Value.int 0 0, Value.int 3 0, Value.ref 36, Value.bool true, Value.int 181 0, Value.ref 37, Value.none, Value.ref 38, Value.ref 39, Value.ref 40, Value.int 216 0, Value.int 8 0, vs "/claim/cut.py" 217]) #[],
  fnOb F_parts_of,
  tup0,
  fld0,
  Obj.mk (Value.type "tuple") none (Data.seq #[vs "tree" 222]) #[],
  tup0,
  proOb F_is_sym,
  Obj.mk (Value.type "code") none (Data.fields #[vs "is_sym" 219, vs "is_sym" 220, vs "/claim/cut.py" 221, Value.int 10 0, Value.int 1 0, Value.int 0 0, Value.int 0 0, Value.int 3 0, Value.ref 43, Value.bool true, Value.int 181 0, Value.ref 44, Value.none, Value.ref 45, Value.ref 46, Value.ref 47, Value.int 223 0, Value.int 10 0, vs "/claim/cut.py" 224]) #[],
  fnOb F_is_sym,
  Obj.mk (Value.type "tuple") none (Data.seq #[vs "function" 228, vs "->" 229, vs "do" 230, vs "let" 231, vs "for" 232, vs "while" 233, vs "try" 234, vs "comprehension" 235, vs "generator" 236, vs "macro" 237, vs "quote" 238, vs "escape" 239, vs "struct" 240, vs "abstract" 241, vs "generated" 242]) #[],
  Obj.mk (Value.type "tuple") none (Data.seq #[vs "+=" 244, vs "-=" 245, vs "*=" 246, vs "//=" 247, vs "%=" 248, vs "|=" 249, vs "&=" 250]) #[],
  tup0,
  fld0,
  Obj.mk (Value.type "tuple") none (Data.seq #[vs "place" 255, vs "found" 256, vs "left" 257, vs "here" 258]) #[],
  tup0,
  proOb F_place_names,
  Obj.mk (Value.type "code") none (Data.fields #[vs "place_names" 252, vs "place_names" 253, vs "/claim/cut.py" 254, Value.int 15 0, Value.int 1 0, Value.int 0 0, Value.int 0 0, Value.int 3 0, Value.ref 52, Value.bool true, Value.int 181 0, Value.ref 53, Value.none, Value.ref 54, Value.ref 55, Value.ref 56, Value.int 259 0, Value.int 15 0, vs "/claim/cut.py" 260]) #[],
  fnOb F_place_names,
  tup0,
  fld0,
  Obj.mk (Value.type "tuple") none (Data.seq #[vs "tree" 265, vs "found" 266, vs "part" 267]) #[],
  tup0,
  proOb F_declared_names,
  Obj.mk (Value.type "code") none (Data.fields #[vs "declared_names" 262, vs "declared_names" 263, vs "/claim/cut.py" 264, Value.int 26 0, Value.int 1 0, Value.int 0 0, Value.int 0 0, Value.int 3 0, Value.ref 59, Value.bool true, Value.int 181 0, Value.ref 60, Value.none, Value.ref 61, Value.ref 62, Value.ref 63, Value.int 268 0, Value.int 26 0, vs "/claim/cut.py" 269]) #[],
  fnOb F_declared_names,
  tup0,
  fld0,
  proOb F_own_names,
  Obj.mk (Value.type "code") none (Data.fields #[vs "own_names" 271, vs "own_names" 272, vs "/claim/cut.py" 273, Value.int 31 0, Value.int 1 0, Value.int 0 0, Value.int 0 0, Value.int 3 0, Value.ref 66, Value.bool true, Value.int 181 0, Value.ref 67, Value.none, Value.none, Value.none, Value.ref 68, Value.int 274 0, Value.int 31 0, vs "/claim/cut.py" 275]) #[],
  fnOb F_own_names,
  tup0,
  fld0,
  Obj.mk (Value.type "tuple") none (Data.seq #[vs "argument" 280]) #[],
  tup0,
  proOb F_argument_names,
  Obj.mk (Value.type "code") none (Data.fields #[vs "argument_names" 277, vs "argument_names" 278, vs "/claim/cut.py" 279, Value.int 47 0, Value.int 1 0, Value.int 0 0, Value.int 0 0, Value.int 3 0, Value.ref 71, Value.bool true, Value.int 181 0, Value.ref 72, Value.none, Value.ref 73, Value.ref 74, Value.ref 75, Value.int 281 0, Value.int 47 0, vs "/claim/cut.py" 282]) #[],
  fnOb F_argument_names,
  tup0,
  fld0,
  Obj.mk (Value.type "tuple") none (Data.seq #[vs "head" 287]) #[],
  tup0,
  proOb F_head_call,
  Obj.mk (Value.type "code") none (Data.fields #[vs "head_call" 284, vs "head_call" 285, vs "/claim/cut.py" 286, Value.int 51 0, Value.int 1 0, Value.int 0 0, Value.int 0 0, Value.int 3 0, Value.ref 78, Value.bool true, Value.int 181 0, Value.ref 79, Value.none, Value.ref 80, Value.ref 81, Value.ref 82, Value.int 288 0, Value.int 51 0, vs "/claim/cut.py" 289]) #[],
  fnOb F_head_call,
  tup0,
  fld0,
  Obj.mk (Value.type "tuple") none (Data.seq #[vs "head" 294, vs "inner" 295, vs "arguments" 296, vs "found" 297, vs "argument" 298]) #[],
  tup0,
  proOb F_head_names,
  Obj.mk (Value.type "code") none (Data.fields #[vs "head_names" 291, vs "head_names" 292, vs "/claim/cut.py" 293, Value.int 55 0, Value.int 1 0, Value.int 0 0, Value.int 0 0, Value.int 3 0, Value.ref 85, Value.bool true, Value.int 181 0, Value.ref 86, Value.none, Value.ref 87, Value.ref 88, Value.ref 89, Value.int 299 0, Value.int 55 0, vs "/claim/cut.py" 300]) #[],
  fnOb F_head_names,
  tup0,
  fld0,
  Obj.mk (Value.type "tuple") none (Data.seq #[vs "head" 305, vs "found" 306, vs "argument" 307, vs "keyword" 308]) #[],
  tup0,
  proOb F_keyword_names,
  Obj.mk (Value.type "code") none (Data.fields #[vs "keyword_names" 302, vs "keyword_names" 303, vs "/claim/cut.py" 304, Value.int 69 0, Value.int 1 0, Value.int 0 0, Value.int 0 0, Value.int 3 0, Value.ref 92, Value.bool true, Value.int 181 0, Value.ref 93, Value.none, Value.ref 94, Value.ref 95, Value.ref 96, Value.int 309 0, Value.int 69 0, vs "/claim/cut.py" 310]) #[],
  fnOb F_keyword_names,
  tup0,
  fld0,
  Obj.mk (Value.type "tuple") none (Data.seq #[vs "head" 315, vs "found" 316, vs "var" 317]) #[],
  tup0,
  proOb F_where_names,
  Obj.mk (Value.type "code") none (Data.fields #[vs "where_names" 312, vs "where_names" 313, vs "/claim/cut.py" 314, Value.int 76 0, Value.int 1 0, Value.int 0 0, Value.int 0 0, Value.int 3 0, Value.ref 99, Value.bool true, Value.int 181 0, Value.ref 100, Value.none, Value.ref 101, Value.ref 102, Value.ref 103, Value.int 318 0, Value.int 76 0, vs "/claim/cut.py" 319]) #[],
  fnOb F_where_names]
noncomputable def obC (P : Params) : List Obj := [
  Obj.mk (Value.type "tuple") none (Data.seq #[Value.type "Exception"]) #[],
  Obj.mk (Value.type "builtin_function_or_method") none (Data.fields #[Value.builtin "type.__prepare__", Value.type "type"]) #[],
  Obj.mk (Value.type "dict") none (Data.dict #[de P "__module__" 330 (vs "methodrows.errors" 321), de P "__qualname__" 332 (vs "RowsError" 331), de P "__firstlineno__" 334 (Value.int 86 333), de P "__init__" 343 (Value.ref 120), de P "__static_attributes__" 346 (Value.ref 121)] 5) #[],
  tup0,
  Obj.mk Value.none none (Data.fields #[Value.int 88 0, Value.int 4 0, Value.ref 119]) #[],
  Obj.mk (Value.type "code") none (Data.fields #[vs "RowsError" 325, vs "RowsError" 326, vs "/claim/cut.py" 327, Value.int 86 0, Value.int 0 0, Value.int 0 0, Value.int 0 0, Value.int 0 0, Value.ref 109, Value.bool false, Value.int 181 0, Value.ref 110, Value.none, Value.none, Value.none, Value.none, Value.int 328 0, Value.int 86 0, vs "/claim/cut.py" 329]) #[],
  Obj.mk (Value.type "frame") none Data.plain #[some (Value.ref 111), some (Value.ref 3), some (Value.ref 108), none, some (vs "methodrows.errors" 321), none, some (Value.ref 0)],
  Obj.mk (Value.type "tuple") none (Data.seq #[Value.none]) #[],
  tup0,
  fld0,
  Obj.mk (Value.type "tuple") none (Data.seq #[vs "self" 338, vs "message" 339, vs "spot" 340]) #[],
  tup0,
  proOb F_rowserr,
  Obj.mk (Value.type "code") none (Data.fields #[vs "__init__" 335, vs "RowsError.__init__" 336, vs "/claim/cut.py" 337, Value.int 88 0, Value.int 3 0, Value.int 0 0, Value.int 0 0, Value.int 3 0, Value.ref 114, Value.bool true, Value.int 181 0, Value.ref 115, Value.none, Value.ref 116, Value.ref 117, Value.ref 118, Value.int 341 0, Value.int 88 0, vs "/claim/cut.py" 342]) #[],
  fnOb F_rowserr,
  Obj.mk (Value.type "tuple") none (Data.seq #[vs "message" 344, vs "spot" 345]) #[],
  Obj.mk (Value.type "dict") none (Data.dict #[de P "__module__" 330 (vs "methodrows.errors" 321), de P "__firstlineno__" 334 (Value.int 86 333), de P "__init__" 343 (Value.ref 120), de P "__static_attributes__" 346 (Value.ref 121), de P "__weakref__" 348 (Value.ref 124), de P "__doc__" 349 Value.none] 3) #[],
  Obj.mk (Value.type "type") none (Data.cls (ClassData.mk (Str.ofString "RowsError") [Value.type "Exception"] [Value.ref 123, Value.type "Exception", Value.type "BaseException", Value.type "object"] 122 (Str.ofString "RowsError") true [] [Value.ref 136] false none false)) #[some (Value.ref 106), none, some (vs "RowsError" 323), some (vs "RowsError" 331), some (Value.builtin "Exception.__new__"), some (Value.bool true)],
  Obj.mk (Value.type "getset_descriptor") none (Data.fields #[vs "__weakref__" 347, Value.ref 123, Value.builtin "ExceptionGroup.__weakref__", Value.none]) #[],
  Obj.mk (Value.type "super") none (Data.fields #[Value.ref 123, Value.ref 123, Value.ref 123]) #[],
  Obj.mk (Value.type "builtin_function_or_method") none (Data.fields #[Value.builtin "object.__init_subclass__", Value.ref 123]) #[],
  Obj.mk (Value.type "tuple") none (Data.seq #[Value.ref 123]) #[],
  Obj.mk (Value.type "builtin_function_or_method") none (Data.fields #[Value.builtin "type.__prepare__", Value.type "type"]) #[],
  Obj.mk (Value.type "dict") none (Data.dict #[de P "__module__" 361 (vs "methodrows.errors" 321), de P "__qualname__" 363 (vs "MacroFault" 362), de P "__firstlineno__" 365 (Value.int 92 364), de P "__static_attributes__" 366 (Value.ref 134)] 4) #[],
  tup0,
  fld0,
  Obj.mk (Value.type "code") none (Data.fields #[vs "MacroFault" 356, vs "MacroFault" 357, vs "/claim/cut.py" 358, Value.int 92 0, Value.int 0 0, Value.int 0 0, Value.int 0 0, Value.int 0 0, Value.ref 130, Value.bool false, Value.int 181 0, Value.ref 131, Value.none, Value.none, Value.none, Value.none, Value.int 359 0, Value.int 92 0, vs "/claim/cut.py" 360]) #[],
  Obj.mk (Value.type "frame") none Data.plain #[some (Value.ref 132), some (Value.ref 3), some (Value.ref 129), none, some (vs "methodrows.errors" 321), none, some (Value.ref 0)],
  tup0,
  Obj.mk (Value.type "dict") none (Data.dict #[de P "__module__" 361 (vs "methodrows.errors" 321), de P "__firstlineno__" 365 (Value.int 92 364), de P "__static_attributes__" 366 (Value.ref 134), de P "__doc__" 367 Value.none] 2) #[],
  Obj.mk (Value.type "type") none (Data.cls (ClassData.mk (Str.ofString "MacroFault") [Value.ref 123] [Value.ref 136, Value.ref 123, Value.type "Exception", Value.type "BaseException", Value.type "object"] 135 (Str.ofString "MacroFault") true [] [] false none false)) #[some (Value.ref 127), none, some (vs "MacroFault" 354), some (vs "MacroFault" 362), some (Value.builtin "Exception.__new__"), some (Value.bool true)],
  Obj.mk (Value.type "super") none (Data.fields #[Value.ref 136, Value.ref 136, Value.ref 136]) #[],
  Obj.mk (Value.type "builtin_function_or_method") none (Data.fields #[Value.builtin "object.__init_subclass__", Value.ref 136]) #[],
  tup0,
  Obj.mk (Value.type "builtin_function_or_method") none (Data.fields #[Value.builtin "type.__prepare__", Value.type "type"]) #[],
  Obj.mk (Value.type "dict") none (Data.dict #[de P "__module__" 381 (vs "methodrows.hygiene" 370), de P "__qualname__" 383 (vs "NameSupply" 382), de P "__firstlineno__" 385 (Value.int 96 384), de P "__init__" 392 (Value.ref 152), de P "next" 400 (Value.ref 159), de P "__static_attributes__" 402 (Value.ref 160)] 6) #[],
  tup0,
  Obj.mk Value.none none (Data.fields #[Value.int 98 0, Value.int 4 0, Value.ref 151, Value.int 101 0, Value.int 4 0, Value.ref 158]) #[],
  Obj.mk (Value.type "code") none (Data.fields #[vs "NameSupply" 376, vs "NameSupply" 377, vs "/claim/cut.py" 378, Value.int 96 0, Value.int 0 0, Value.int 0 0, Value.int 0 0, Value.int 0 0, Value.ref 142, Value.bool false, Value.int 181 0, Value.ref 143, Value.none, Value.none, Value.none, Value.none, Value.int 379 0, Value.int 96 0, vs "/claim/cut.py" 380]) #[],
  Obj.mk (Value.type "frame") none Data.plain #[some (Value.ref 144), some (Value.ref 3), some (Value.ref 141), none, some (vs "methodrows.hygiene" 370), none, some (Value.ref 0)],
  tup0,
  fld0,
  Obj.mk (Value.type "tuple") none (Data.seq #[vs "self" 389]) #[],
  tup0,
  proOb F_S_init,
  Obj.mk (Value.type "code") none (Data.fields #[vs "__init__" 386, vs "NameSupply.__init__" 387, vs "/claim/cut.py" 388, Value.int 98 0, Value.int 1 0, Value.int 0 0, Value.int 0 0, Value.int 3 0, Value.ref 146, Value.bool true, Value.int 181 0, Value.ref 147, Value.none, Value.ref 148, Value.ref 149, Value.ref 150, Value.int 390 0, Value.int 98 0, vs "/claim/cut.py" 391]) #[],
  fnOb F_S_init,
  tup0,
  fld0,
  Obj.mk (Value.type "tuple") none (Data.seq #[vs "self" 396, vs "base" 397]) #[],
  tup0,
  proOb F_S_next,
  Obj.mk (Value.type "code") none (Data.fields #[vs "next" 393, vs "NameSupply.next" 394, vs "/claim/cut.py" 395, Value.int 101 0, Value.int 2 0, Value.int 0 0, Value.int 0 0, Value.int 3 0, Value.ref 153, Value.bool true, Value.int 181 0, Value.ref 154, Value.none, Value.ref 155, Value.ref 156, Value.ref 157, Value.int 398 0, Value.int 101 0, vs "/claim/cut.py" 399]) #[],
  fnOb F_S_next,
  Obj.mk (Value.type "tuple") none (Data.seq #[vs "many" 401]) #[],
  Obj.mk (Value.type "dict") none (Data.dict #[de P "__module__" 381 (vs "methodrows.hygiene" 370), de P "__firstlineno__" 385 (Value.int 96 384), de P "__init__" 392 (Value.ref 152), de P "next" 400 (Value.ref 159), de P "__static_attributes__" 402 (Value.ref 160), de P "__dict__" 404 (Value.ref 163), de P "__weakref__" 406 (Value.ref 164), de P "__doc__" 407 Value.none] 4) #[],
  Obj.mk (Value.type "type") none (Data.cls (ClassData.mk (Str.ofString "NameSupply") [Value.type "object"] [Value.ref 162, Value.type "object"] 161 (Str.ofString "NameSupply") true [] [] false none false)) #[none, none, some (vs "NameSupply" 374), some (vs "NameSupply" 382), some (Value.builtin "object.__new__"), some (Value.bool true)],
  Obj.mk (Value.type "getset_descriptor") none (Data.fields #[vs "__dict__" 403, Value.ref 162, Value.builtin "function.__dict__", Value.builtin "function.__dict__#set"]) #[],
  Obj.mk (Value.type "getset_descriptor") none (Data.fields #[vs "__weakref__" 405, Value.ref 162, Value.builtin "ExceptionGroup.__weakref__", Value.none]) #[],
  Obj.mk (Value.type "super") none (Data.fields #[Value.ref 162, Value.ref 162, Value.ref 162]) #[],
  Obj.mk (Value.type "builtin_function_or_method") none (Data.fields #[Value.builtin "object.__init_subclass__", Value.ref 162]) #[]]
noncomputable def obD (P : Params) : List Obj := [
  tup0,
  fld0,
  Obj.mk (Value.type "tuple") none (Data.seq #[vs "tree" 413, vs "tasks" 414, vs "done" 415, vs "is_ready" 416, vs "node" 417, vs "many" 418, vs "kids" 419, vs "part" 420]) #[],
  tup0,
  proOb F_bare,
  Obj.mk (Value.type "code") none (Data.fields #[vs "bare" 410, vs "bare" 411, vs "/claim/cut.py" 412, Value.int 104 0, Value.int 1 0, Value.int 0 0, Value.int 0 0, Value.int 3 0, Value.ref 167, Value.bool true, Value.int 181 0, Value.ref 168, Value.none, Value.ref 169, Value.ref 170, Value.ref 171, Value.int 421 0, Value.int 104 0, vs "/claim/cut.py" 422]) #[],
  fnOb F_bare,
  tup0,
  Obj.mk (Value.type "builtin_function_or_method") none (Data.fields #[Value.builtin "type.__prepare__", Value.type "type"]) #[],
  Obj.mk (Value.type "dict") none (Data.dict #[de P "__module__" 431 (vs "methodrows.hygiene" 370), de P "__qualname__" 433 (vs "Renamer" 432), de P "__firstlineno__" 435 (Value.int 122 434), de P "__init__" 443 (Value.ref 187), de P "fresh" 454 (Value.ref 194), de P "opened" 468 (Value.ref 201), de P "body" 478 (Value.ref 208), de P "all_of" 484 (Value.ref 213), de P "of" 496 (Value.ref 220), de P "named" 502 (Value.ref 225), de P "kept" 512 (Value.ref 232), de P "function" 526 (Value.ref 239), de P "head" 532 (Value.ref 244), de P "argument" 542 (Value.ref 251), de P "scope" 558 (Value.ref 258), de P "let" 572 (Value.ref 265), de P "tried" 578 (Value.ref 270), de P "gathered" 592 (Value.ref 277), de P "__static_attributes__" 594 (Value.ref 278)] 19) #[],
  tup0,
  Obj.mk Value.none none (Data.fields #[Value.int 124 0, Value.int 4 0, Value.ref 186, Value.int 127 0, Value.int 4 0, Value.ref 193, Value.int 133 0, Value.int 4 0, Value.ref 200, Value.int 144 0, Value.int 4 0, Value.ref 207, Value.int 147 0, Value.int 4 0, Value.ref 212, Value.int 150 0, Value.int 4 0, Value.ref 219, Value.int 170 0, Value.int 4 0, Value.ref 224, Value.int 176 0, Value.int 4 0, Value.ref 231, Value.int 179 0, Value.int 4 0, Value.ref 238, Value.int 186 0, Value.int 4 0, Value.ref 243, Value.int 200 0, Value.int 4 0, Value.ref 250, Value.int 205 0, Value.int 4 0, Value.ref 257, Value.int 220 0, Value.int 4 0, Value.ref 264, Value.int 232 0, Value.int 4 0, Value.ref 269, Value.int 237 0, Value.int 4 0, Value.ref 276]) #[],
  Obj.mk (Value.type "code") none (Data.fields #[vs "Renamer" 426, vs "Renamer" 427, vs "/claim/cut.py" 428, Value.int 122 0, Value.int 0 0, Value.int 0 0, Value.int 0 0, Value.int 0 0, Value.ref 177, Value.bool false, Value.int 181 0, Value.ref 178, Value.none, Value.none, Value.none, Value.none, Value.int 429 0, Value.int 122 0, vs "/claim/cut.py" 430]) #[],
  Obj.mk (Value.type "frame") none Data.plain #[some (Value.ref 179), some (Value.ref 3), some (Value.ref 176), none, some (vs "methodrows.hygiene" 370), none, some (Value.ref 0)],
  tup0,
  fld0,
  Obj.mk (Value.type "tuple") none (Data.seq #[vs "self" 439, vs "supply" 440]) #[],
  tup0,
  proOb F_R_init,
  Obj.mk (Value.type "code") none (Data.fields #[vs "__init__" 436, vs "Renamer.__init__" 437, vs "/claim/cut.py" 438, Value.int 124 0, Value.int 2 0, Value.int 0 0, Value.int 0 0, Value.int 3 0, Value.ref 181, Value.bool true, Value.int 181 0, Value.ref 182, Value.none, Value.ref 183, Value.ref 184, Value.ref 185, Value.int 441 0, Value.int 124 0, vs "/claim/cut.py" 442]) #[],
  fnOb F_R_init,
  tup0,
  fld0,
  Obj.mk (Value.type "tuple") none (Data.seq #[vs "self" 447, vs "env" 448, vs "names" 449, vs "found" 450, vs "name" 451]) #[],
  tup0,
  proOb F_R_fresh,
  Obj.mk (Value.type "code") none (Data.fields #[vs "fresh" 444, vs "Renamer.fresh" 445, vs "/claim/cut.py" 446, Value.int 127 0, Value.int 3 0, Value.int 0 0, Value.int 0 0, Value.int 3 0, Value.ref 188, Value.bool true, Value.int 181 0, Value.ref 189, Value.none, Value.ref 190, Value.ref 191, Value.ref 192, Value.int 452 0, Value.int 127 0, vs "/claim/cut.py" 453]) #[],
  fnOb F_R_fresh,
  tup0,
  fld0,
  Obj.mk (Value.type "tuple") none (Data.seq #[vs "self" 458, vs "env" 459, vs "trees" 460, vs "bound" 461, vs "told_global" 462, vs "fresh" 463, vs "name" 464, vs "found" 465]) #[],
  tup0,
  proOb F_R_opened,
  Obj.mk (Value.type "code") none (Data.fields #[vs "opened" 455, vs "Renamer.opened" 456, vs "/claim/cut.py" 457, Value.int 133 0, Value.int 3 0, Value.int 0 0, Value.int 0 0, Value.int 3 0, Value.ref 195, Value.bool true, Value.int 181 0, Value.ref 196, Value.none, Value.ref 197, Value.ref 198, Value.ref 199, Value.int 466 0, Value.int 133 0, vs "/claim/cut.py" 467]) #[],
  fnOb F_R_opened,
  tup0,
  fld0,
  Obj.mk (Value.type "tuple") none (Data.seq #[vs "self" 472, vs "env" 473, vs "tree" 474, vs "deep" 475]) #[],
  tup0,
  proOb F_R_body,
  Obj.mk (Value.type "code") none (Data.fields #[vs "body" 469, vs "Renamer.body" 470, vs "/claim/cut.py" 471, Value.int 144 0, Value.int 4 0, Value.int 0 0, Value.int 0 0, Value.int 3 0, Value.ref 202, Value.bool true, Value.int 181 0, Value.ref 203, Value.none, Value.ref 204, Value.ref 205, Value.ref 206, Value.int 476 0, Value.int 144 0, vs "/claim/cut.py" 477]) #[],
  fnOb F_R_body,
  tup0,
  fld0,
  proOb F_R_all_of,
  Obj.mk (Value.type "code") none (Data.fields #[vs "all_of" 479, vs "Renamer.all_of" 480, vs "/claim/cut.py" 481, Value.int 147 0, Value.int 4 0, Value.int 0 0, Value.int 0 0, Value.int 3 0, Value.ref 209, Value.bool true, Value.int 181 0, Value.ref 210, Value.none, Value.none, Value.none, Value.ref 211, Value.int 482 0, Value.int 147 0, vs "/claim/cut.py" 483]) #[],
  fnOb F_R_all_of,
  tup0,
  fld0,
  Obj.mk (Value.type "tuple") none (Data.seq #[vs "self" 488, vs "env" 489, vs "tree" 490, vs "deep" 491, vs "head" 492, vs "parts" 493]) #[],
  tup0,
  proOb F_R_of,
  Obj.mk (Value.type "code") none (Data.fields #[vs "of" 485, vs "Renamer.of" 486, vs "/claim/cut.py" 487, Value.int 150 0, Value.int 4 0, Value.int 0 0, Value.int 0 0, Value.int 3 0, Value.ref 214, Value.bool true, Value.int 181 0, Value.ref 215, Value.none, Value.ref 216, Value.ref 217, Value.ref 218, Value.int 494 0, Value.int 150 0, vs "/claim/cut.py" 495]) #[],
  fnOb F_R_of,
  tup0,
  fld0,
  proOb F_R_named,
  Obj.mk (Value.type "code") none (Data.fields #[vs "named" 497, vs "Renamer.named" 498, vs "/claim/cut.py" 499, Value.int 170 0, Value.int 4 0, Value.int 0 0, Value.int 0 0, Value.int 3 0, Value.ref 221, Value.bool true, Value.int 181 0, Value.ref 222, Value.none, Value.none, Value.none, Value.ref 223, Value.int 500 0, Value.int 170 0, vs "/claim/cut.py" 501]) #[],
  fnOb F_R_named,
  tup0,
  fld0,
  Obj.mk (Value.type "tuple") none (Data.seq #[vs "self" 506, vs "env" 507, vs "tree" 508, vs "deep" 509]) #[],
  tup0,
  proOb F_R_kept,
  Obj.mk (Value.type "code") none (Data.fields #[vs "kept" 503, vs "Renamer.kept" 504, vs "/claim/cut.py" 505, Value.int 176 0, Value.int 4 0, Value.int 0 0, Value.int 0 0, Value.int 3 0, Value.ref 226, Value.bool true, Value.int 181 0, Value.ref 227, Value.none, Value.ref 228, Value.ref 229, Value.ref 230, Value.int 510 0, Value.int 176 0, vs "/claim/cut.py" 511]) #[],
  fnOb F_R_kept,
  tup0,
  fld0,
  Obj.mk (Value.type "tuple") none (Data.seq #[vs "self" 516, vs "env" 517, vs "tree" 518, vs "deep" 519, vs "head" 520, vs "body" 521, vs "own" 522, vs "name" 523]) #[],
  tup0,
  proOb F_R_function,
  Obj.mk (Value.type "code") none (Data.fields #[vs "function" 513, vs "Renamer.function" 514, vs "/claim/cut.py" 515, Value.int 179 0, Value.int 4 0, Value.int 0 0, Value.int 0 0, Value.int 3 0, Value.ref 233, Value.bool true, Value.int 181 0, Value.ref 234, Value.none, Value.ref 235, Value.ref 236, Value.ref 237, Value.int 524 0, Value.int 179 0, vs "/claim/cut.py" 525]) #[],
  fnOb F_R_function,
  tup0,
  fld0,
  proOb F_R_head,
  Obj.mk (Value.type "code") none (Data.fields #[vs "head" 527, vs "Renamer.head" 528, vs "/claim/cut.py" 529, Value.int 186 0, Value.int 5 0, Value.int 0 0, Value.int 0 0, Value.int 3 0, Value.ref 240, Value.bool true, Value.int 181 0, Value.ref 241, Value.none, Value.none, Value.none, Value.ref 242, Value.int 530 0, Value.int 186 0, vs "/claim/cut.py" 531]) #[],
  fnOb F_R_head,
  tup0,
  fld0,
  Obj.mk (Value.type "tuple") none (Data.seq #[vs "self" 536, vs "own" 537, vs "tree" 538, vs "deep" 539]) #[],
  tup0,
  proOb F_R_argument,
  Obj.mk (Value.type "code") none (Data.fields #[vs "argument" 533, vs "Renamer.argument" 534, vs "/claim/cut.py" 535, Value.int 200 0, Value.int 4 0, Value.int 0 0, Value.int 0 0, Value.int 3 0, Value.ref 245, Value.bool true, Value.int 181 0, Value.ref 246, Value.none, Value.ref 247, Value.ref 248, Value.ref 249, Value.int 540 0, Value.int 200 0, vs "/claim/cut.py" 541]) #[],
  fnOb F_R_argument,
  tup0,
  fld0,
  Obj.mk (Value.type "tuple") none (Data.seq #[vs "self" 546, vs "env" 547, vs "tree" 548, vs "deep" 549, vs "head" 550, vs "parts" 551, vs "pattern" 552, vs "iterable" 553, vs "own" 554, vs "turn" 555]) #[],
  tup0,
  proOb F_R_scope,
  Obj.mk (Value.type "code") none (Data.fields #[vs "scope" 543, vs "Renamer.scope" 544, vs "/claim/cut.py" 545, Value.int 205 0, Value.int 4 0, Value.int 0 0, Value.int 0 0, Value.int 3 0, Value.ref 252, Value.bool true, Value.int 181 0, Value.ref 253, Value.none, Value.ref 254, Value.ref 255, Value.ref 256, Value.int 556 0, Value.int 205 0, vs "/claim/cut.py" 557]) #[],
  fnOb F_R_scope,
  tup0,
  fld0,
  Obj.mk (Value.type "tuple") none (Data.seq #[vs "self" 562, vs "env" 563, vs "parts" 564, vs "deep" 565, vs "own" 566, vs "rows" 567, vs "row" 568, vs "worth" 569]) #[],
  tup0,
  proOb F_R_let,
  Obj.mk (Value.type "code") none (Data.fields #[vs "let" 559, vs "Renamer.let" 560, vs "/claim/cut.py" 561, Value.int 220 0, Value.int 4 0, Value.int 0 0, Value.int 0 0, Value.int 3 0, Value.ref 259, Value.bool true, Value.int 181 0, Value.ref 260, Value.none, Value.ref 261, Value.ref 262, Value.ref 263, Value.int 570 0, Value.int 220 0, vs "/claim/cut.py" 571]) #[],
  fnOb F_R_let,
  tup0,
  fld0,
  proOb F_R_tried,
  Obj.mk (Value.type "code") none (Data.fields #[vs "tried" 573, vs "Renamer.tried" 574, vs "/claim/cut.py" 575, Value.int 232 0, Value.int 4 0, Value.int 0 0, Value.int 0 0, Value.int 3 0, Value.ref 266, Value.bool true, Value.int 181 0, Value.ref 267, Value.none, Value.none, Value.none, Value.ref 268, Value.int 576 0, Value.int 232 0, vs "/claim/cut.py" 577]) #[],
  fnOb F_R_tried,
  tup0,
  fld0,
  Obj.mk (Value.type "tuple") none (Data.seq #[vs "self" 582, vs "env" 583, vs "tree" 584, vs "deep" 585, vs "own" 586, vs "rows" 587, vs "row" 588, vs "iterable" 589]) #[],
  tup0,
  proOb F_R_gathered,
  Obj.mk (Value.type "code") none (Data.fields #[vs "gathered" 579, vs "Renamer.gathered" 580, vs "/claim/cut.py" 581, Value.int 237 0, Value.int 4 0, Value.int 0 0, Value.int 0 0, Value.int 3 0, Value.ref 271, Value.bool true, Value.int 181 0, Value.ref 272, Value.none, Value.ref 273, Value.ref 274, Value.ref 275, Value.int 590 0, Value.int 237 0, vs "/claim/cut.py" 591]) #[],
  fnOb F_R_gathered,
  Obj.mk (Value.type "tuple") none (Data.seq #[vs "supply" 593]) #[],
  Obj.mk (Value.type "dict") none (Data.dict #[de P "__module__" 431 (vs "methodrows.hygiene" 370), de P "__firstlineno__" 435 (Value.int 122 434), de P "__init__" 443 (Value.ref 187), de P "fresh" 454 (Value.ref 194), de P "opened" 468 (Value.ref 201), de P "body" 478 (Value.ref 208), de P "all_of" 484 (Value.ref 213), de P "of" 496 (Value.ref 220), de P "named" 502 (Value.ref 225), de P "kept" 512 (Value.ref 232), de P "function" 526 (Value.ref 239), de P "head" 532 (Value.ref 244), de P "argument" 542 (Value.ref 251), de P "scope" 558 (Value.ref 258), de P "let" 572 (Value.ref 265), de P "tried" 578 (Value.ref 270), de P "gathered" 592 (Value.ref 277), de P "__static_attributes__" 594 (Value.ref 278), de P "__dict__" 596 (Value.ref 281), de P "__weakref__" 598 (Value.ref 282), de P "__doc__" 599 Value.none] 4) #[],
  Obj.mk (Value.type "type") none (Data.cls (ClassData.mk (Str.ofString "Renamer") [Value.type "object"] [Value.ref 280, Value.type "object"] 279 (Str.ofString "Renamer") true [] [] false none false)) #[none, none, some (vs "Renamer" 424), some (vs "Renamer" 432), some (Value.builtin "object.__new__"), some (Value.bool true)],
  Obj.mk (Value.type "getset_descriptor") none (Data.fields #[vs "__dict__" 595, Value.ref 280, Value.builtin "function.__dict__", Value.builtin "function.__dict__#set"]) #[],
  Obj.mk (Value.type "getset_descriptor") none (Data.fields #[vs "__weakref__" 597, Value.ref 280, Value.builtin "ExceptionGroup.__weakref__", Value.none]) #[],
  Obj.mk (Value.type "super") none (Data.fields #[Value.ref 280, Value.ref 280, Value.ref 280]) #[],
  Obj.mk (Value.type "builtin_function_or_method") none (Data.fields #[Value.builtin "object.__init_subclass__", Value.ref 280]) #[]]
noncomputable def nmS17 (P : Params) : Obj := Obj.mk (Value.type "dict") none (Data.dict #[de P "__name__" 165 (vs "methodrows.errors" 321), de P "__doc__" 166 Value.none, de P "__package__" 167 Value.none, de P "__loader__" 168 (Value.builtin "__main__.__loader__#opaque"), de P "__spec__" 169 Value.none, de P "__annotations__" 170 (Value.ref 6), de P "__builtins__" 171 (Value.ref 4), de P "__file__" 173 (vs "/claim/cut.py" 172), de P "__cached__" 174 Value.none, de P "expr" 196 (Value.ref 21), de P "is_expr" 204 (Value.ref 28), de P "head_of" 211 (Value.ref 35), de P "parts_of" 218 (Value.ref 42), de P "is_sym" 225 (Value.ref 49), de P "OPENING" 243 (Value.ref 50), de P "CHANGING" 251 (Value.ref 51), de P "place_names" 261 (Value.ref 58), de P "declared_names" 270 (Value.ref 65), de P "own_names" 276 (Value.ref 70), de P "argument_names" 283 (Value.ref 77), de P "head_call" 290 (Value.ref 84), de P "head_names" 301 (Value.ref 91), de P "keyword_names" 311 (Value.ref 98), de P "where_names" 320 (Value.ref 105)] 24) #[]
noncomputable def flS17 : Obj := Obj.mk Value.none none (Data.fields #[Value.int 2 0, Value.int 0 0, Value.ref 20, Value.int 4 0, Value.int 0 0, Value.ref 27, Value.int 6 0, Value.int 0 0, Value.ref 34, Value.int 8 0, Value.int 0 0, Value.ref 41, Value.int 10 0, Value.int 0 0, Value.ref 48, Value.int 15 0, Value.int 0 0, Value.ref 57, Value.int 26 0, Value.int 0 0, Value.ref 64, Value.int 31 0, Value.int 0 0, Value.ref 69, Value.int 47 0, Value.int 0 0, Value.ref 76, Value.int 51 0, Value.int 0 0, Value.ref 83, Value.int 55 0, Value.int 0 0, Value.ref 90, Value.int 69 0, Value.int 0 0, Value.ref 97, Value.int 76 0, Value.int 0 0, Value.ref 104]) #[]
noncomputable def nmS22 (P : Params) : Obj := Obj.mk (Value.type "dict") none (Data.dict #[de P "__name__" 165 (vs "methodrows.hygiene" 370), de P "__doc__" 166 Value.none, de P "__package__" 167 Value.none, de P "__loader__" 168 (Value.builtin "__main__.__loader__#opaque"), de P "__spec__" 169 Value.none, de P "__annotations__" 170 (Value.ref 6), de P "__builtins__" 171 (Value.ref 4), de P "__file__" 173 (vs "/claim/cut.py" 172), de P "__cached__" 174 Value.none, de P "expr" 196 (Value.ref 21), de P "is_expr" 204 (Value.ref 28), de P "head_of" 211 (Value.ref 35), de P "parts_of" 218 (Value.ref 42), de P "is_sym" 225 (Value.ref 49), de P "OPENING" 243 (Value.ref 50), de P "CHANGING" 251 (Value.ref 51), de P "place_names" 261 (Value.ref 58), de P "declared_names" 270 (Value.ref 65), de P "own_names" 276 (Value.ref 70), de P "argument_names" 283 (Value.ref 77), de P "head_call" 290 (Value.ref 84), de P "head_names" 301 (Value.ref 91), de P "keyword_names" 311 (Value.ref 98), de P "where_names" 320 (Value.ref 105), de P "RowsError" 353 (Value.ref 123), de P "MacroFault" 369 (Value.ref 136), de P "MOST_DEEP" 373 (Value.int 120 372), de P "NameSupply" 409 (Value.ref 162)] 28) #[]
noncomputable def flS22 : Obj := Obj.mk Value.none none (Data.fields #[Value.int 2 0, Value.int 0 0, Value.ref 20, Value.int 4 0, Value.int 0 0, Value.ref 27, Value.int 6 0, Value.int 0 0, Value.ref 34, Value.int 8 0, Value.int 0 0, Value.ref 41, Value.int 10 0, Value.int 0 0, Value.ref 48, Value.int 15 0, Value.int 0 0, Value.ref 57, Value.int 26 0, Value.int 0 0, Value.ref 64, Value.int 31 0, Value.int 0 0, Value.ref 69, Value.int 47 0, Value.int 0 0, Value.ref 76, Value.int 51 0, Value.int 0 0, Value.ref 83, Value.int 55 0, Value.int 0 0, Value.ref 90, Value.int 69 0, Value.int 0 0, Value.ref 97, Value.int 76 0, Value.int 0 0, Value.ref 104, Value.int 86 0, Value.int 0 0, Value.ref 111, Value.int 92 0, Value.int 0 0, Value.ref 132, Value.int 96 0, Value.int 0 0, Value.ref 144]) #[]
noncomputable def nmS24 (P : Params) : Obj := Obj.mk (Value.type "dict") none (Data.dict #[de P "__name__" 165 (vs "methodrows.hygiene" 370), de P "__doc__" 166 Value.none, de P "__package__" 167 Value.none, de P "__loader__" 168 (Value.builtin "__main__.__loader__#opaque"), de P "__spec__" 169 Value.none, de P "__annotations__" 170 (Value.ref 6), de P "__builtins__" 171 (Value.ref 4), de P "__file__" 173 (vs "/claim/cut.py" 172), de P "__cached__" 174 Value.none, de P "expr" 196 (Value.ref 21), de P "is_expr" 204 (Value.ref 28), de P "head_of" 211 (Value.ref 35), de P "parts_of" 218 (Value.ref 42), de P "is_sym" 225 (Value.ref 49), de P "OPENING" 243 (Value.ref 50), de P "CHANGING" 251 (Value.ref 51), de P "place_names" 261 (Value.ref 58), de P "declared_names" 270 (Value.ref 65), de P "own_names" 276 (Value.ref 70), de P "argument_names" 283 (Value.ref 77), de P "head_call" 290 (Value.ref 84), de P "head_names" 301 (Value.ref 91), de P "keyword_names" 311 (Value.ref 98), de P "where_names" 320 (Value.ref 105), de P "RowsError" 353 (Value.ref 123), de P "MacroFault" 369 (Value.ref 136), de P "MOST_DEEP" 373 (Value.int 120 372), de P "NameSupply" 409 (Value.ref 162), de P "bare" 423 (Value.ref 173), de P "Renamer" 601 (Value.ref 280)] 30) #[]
noncomputable def flS24 : Obj := Obj.mk Value.none none (Data.fields #[Value.int 2 0, Value.int 0 0, Value.ref 20, Value.int 4 0, Value.int 0 0, Value.ref 27, Value.int 6 0, Value.int 0 0, Value.ref 34, Value.int 8 0, Value.int 0 0, Value.ref 41, Value.int 10 0, Value.int 0 0, Value.ref 48, Value.int 15 0, Value.int 0 0, Value.ref 57, Value.int 26 0, Value.int 0 0, Value.ref 64, Value.int 31 0, Value.int 0 0, Value.ref 69, Value.int 47 0, Value.int 0 0, Value.ref 76, Value.int 51 0, Value.int 0 0, Value.ref 83, Value.int 55 0, Value.int 0 0, Value.ref 90, Value.int 69 0, Value.int 0 0, Value.ref 97, Value.int 76 0, Value.int 0 0, Value.ref 104, Value.int 86 0, Value.int 0 0, Value.ref 111, Value.int 92 0, Value.int 0 0, Value.ref 132, Value.int 96 0, Value.int 0 0, Value.ref 144, Value.int 104 0, Value.int 0 0, Value.ref 172, Value.int 122 0, Value.int 0 0, Value.ref 179]) #[]
noncomputable def md0 : Obj := Obj.mk Value.none none (Data.dict #[]) #[]
noncomputable def md1 (P : Params) : Obj := Obj.mk Value.none none (Data.dict #[de P "type.__subclasses__.Exception.0" 350 (Value.int 123 0), de P "type.__subclasses__.Exception.n" 351 (Value.int 1 0)] 2) #[]
noncomputable def lstS17 (P : Params) : List Obj := [boot_o_0 P, boot_o_1 P, md0, nmS17 P, boot_o_4 P, boot_o_5 P, boot_o_6 P, boot_o_7 P, boot_o_8 P, boot_o_9 P, boot_o_10 P] ++ obA P ++ [flS17] ++ obB P
noncomputable def stS17 (w : World) (os : OsState) : SharedT := ⟨treeFrom 0 (lstS17 w.params) .nil, 106, (boot_heap w.params).life, #[], boot_drawn, 323, os⟩
noncomputable def lstS22 (P : Params) : List Obj := [boot_o_0 P, boot_o_1 P, md1 P, nmS22 P, boot_o_4 P, boot_o_5 P, boot_o_6 P, boot_o_7 P, boot_o_8 P, boot_o_9 P, boot_o_10 P] ++ obA P ++ [flS22] ++ obB P ++ obC P
noncomputable def stS22 (w : World) (os : OsState) : SharedT := ⟨treeFrom 0 (lstS22 w.params) .nil, 167, (boot_heap w.params).life, #[], boot_drawn, 410, os⟩
noncomputable def lstS24 (P : Params) : List Obj := [boot_o_0 P, boot_o_1 P, md1 P, nmS24 P, boot_o_4 P, boot_o_5 P, boot_o_6 P, boot_o_7 P, boot_o_8 P, boot_o_9 P, boot_o_10 P] ++ obA P ++ [flS24] ++ obB P ++ obC P ++ obD P
noncomputable def stS24 (w : World) (os : OsState) : SharedT := ⟨treeFrom 0 (lstS24 w.params) .nil, 285, (boot_heap w.params).life, #[], boot_drawn, 602, os⟩
end
end Mine

end

noncomputable section
open PySem PySem.W PyProof.Rows
set_option Elab.async false
set_option maxRecDepth 100000
set_option maxHeartbeats 8000000
namespace Mine
noncomputable section
noncomputable def topGoT (tb : String → Option Builtin) (p : Program) (w : World) (n₀ : Nat) (ann : Option Value) : Nat → SharedT → Thread → Option (SharedT × Thread)
  | 0, s, t => some (s, t)
  | n + 1, s, t => match through t with
    | true => none
    | false => match stepOk n₀ ann t with
      | false => none
      | true => match stepT (denote tb) p w s t with
        | some (s', t') => topGoT tb p w n₀ ann n s' t'
        | none => none
theorem topGoT_of {tb : String → Option Builtin} {p : Program} {w : World} {n₀ : Nat} {ann : Option Value} : ∀ {n : Nat} {s s' : SharedT} {t t' : Thread}, topGoT tb p w n₀ ann n s t = some (s', t') → topGo tb p w n₀ ann n s.abs t = some (s'.abs, t')
  | 0, _, _, _, _, h => by cases h; rfl
  | n + 1, s, s', t, t', h => by
    unfold topGoT at h
    unfold topGo
    cases he : through t with
    | true => rw [he] at h; cases h
    | false =>
      rw [he] at h
      cases hk : stepOk n₀ ann t with
      | false => rw [hk] at h; cases h
      | true =>
        rw [hk] at h
        cases hs : stepT (denote tb) p w s t with
        | none => rw [hs] at h; cases h
        | some r => obtain ⟨s₂, t₂⟩ := r; rw [hs] at h; rw [stepT_spec hs]; exact topGoT_of h
noncomputable def envT : Env := { scope := pw.main.scope, locals := mainNs, globals := mainNs, cells := [], code := .ref 13, frame := some 14 }
noncomputable def topB : List Stmt := behindTheImports pw
noncomputable def codeT : Code := .body topB envT
noncomputable def an : Option Value := some (.ref 6)
noncomputable def stPre (w : World) (os : OsState) : SharedT := match topGoT treeTable pw w 11 an 12 (bootT w os) (topStub pw) with
  | some (s, _) => s
  | none => bootT w os
theorem pcPre : ∀ w os, topGoT treeTable pw w 11 an 12 (bootT w os) (topStub pw) = some (stPre w os, ⟨denote treeTable codeT, codeT, default, [topFrame default]⟩) := fun w os => by kernel_rfl
theorem pcBlk : ∀ w os, segRunT treeTable pw w 11 an 1 5 (stPre w os) (blockOf topB envT codeT default [topFrame default]) = some (.next, stPre w os, codeT, default) := fun w os => by kernel_rfl
end
end Mine

end

noncomputable section
open PySem PySem.W PyProof.Rows
set_option Elab.async false
set_option maxRecDepth 100000
set_option maxHeartbeats 8000000
namespace Mine
theorem pcA : ∀ w os, segRunT treeTable pw w 11 an 1 800 (stPre w os) (piecesOf ((topB.drop 0).take 18) envT codeT default [topFrame default]) = some (.next, stS17 w os, codeT, ⟨85,0,85,8⟩) := fun w os => by kernel_rfl
end Mine

end

noncomputable section
open PySem PySem.W PyProof.Rows
set_option Elab.async false
set_option maxRecDepth 100000
set_option maxHeartbeats 8000000
namespace Mine
theorem pcB : ∀ w os, segRunT treeTable pw w 11 an 1 800 (stS17 w os) (piecesOf ((topB.drop 18).take 5) envT codeT ⟨85,0,85,8⟩ [topFrame default]) = some (.next, stS22 w os, codeT, ⟨96,0,103,56⟩) := fun w os => by kernel_rfl
end Mine

end

noncomputable section
open PySem PySem.W PyProof.Rows
set_option Elab.async false
set_option maxRecDepth 100000
set_option maxHeartbeats 8000000
namespace Mine
theorem pcC : ∀ w os, segRunT treeTable pw w 11 an 1 800 (stS22 w os) (piecesOf ((topB.drop 23).take 2) envT codeT ⟨96,0,103,56⟩ [topFrame default]) = some (.next, stS24 w os, codeT, ⟨122,0,246,75⟩) := fun w os => by kernel_rfl
end Mine

end

noncomputable section
open PySem PySem.W PyProof.Rows
set_option Elab.async false
set_option maxRecDepth 100000
set_option maxHeartbeats 8000000
namespace Mine
noncomputable section
noncomputable def qv : Program := view pw [36]
noncomputable def looseN : List Str := ("RowsError" : Str) :: ("MacroFault" : Str) :: (G.glob.map (·.1)).filter (fun x => !(x == ("law" : Str)))
theorem pcD : ∀ (w : World) (os : OsState), (topRunT treeTable pw w 11 an 600 (stS24 w os) (restOf (topB.drop 25) envT codeT ⟨122,0,246,75⟩ [topFrame default])).map (fun s => (staticsOk (importedModules pw.main.body) (boot_heap w.params) s.abs.heap && namesBound pw s.abs.heap && gensDone s.abs && laidKept (boot_heap w.params) s.abs.heap,
        openSeen qv looseN (importedModules pw.main.body) (fun s => xlAt qv [] s && recOk [] s) true s.abs, obsH s.abs)) = some (true, openGood qv looseN, valH w) := fun w os => by kernel_rfl
end
end Mine

end

noncomputable section
open PySem PySem.W PyProof.Rows
set_option Elab.async false
set_option maxRecDepth 100000
set_option maxHeartbeats 8000000
namespace Mine
noncomputable section
theorem op : opening pw = plainProg pw.main.scope.names := by kernel_rfl
theorem fenced : ∀ s, fenceModules? pw s = some s := fun s => by rfl
theorem boot_abs (w : World) (os : OsState) : (bootT w os).abs = ⟨boot_heap w.params, #[], boot_drawn, boot_toks, os⟩ := by kernel_rfl
theorem of_treeRun {p q : Program} {loose : List Str} {Xt : Shared → Bool} {α : Type} {Yf : Shared → α} {Ya : World → α} {N : Nat} {m₀ : Nat} {ann : Option Value}
    (open_ : ∀ w : World, (fencedOpening treeTable p w N).map (fun s => (s.heap, s.gens, s.drawn, s.toks)) = some (boot_heap w.params, #[], boot_drawn, boot_toks))
    (size : ∀ w : World, ((boot_heap w.params).isNs mainGlobals && (#[] : Array GenState).size == 0, (boot_heap w.params).objs.size, (boot_heap w.params).nsMap mainGlobals "__annotations__") = (true, m₀, ann))
    (run : ∀ (w : World) (os : OsState), ∃ s, topRun treeTable p w m₀ ann N (bootT w os).abs (topStub p) = some s ∧ (staticsOk (importedModules p.main.body) (boot_heap w.params) s.heap && namesBound p s.heap && gensDone s && laidKept (boot_heap w.params) s.heap,
        openSeen q loose (importedModules p.main.body) Xt true s, Yf s) = (true, openGood q loose, Ya w)) : LeftO p q loose Xt Yf Ya N := fun w => by
  obtain ⟨⟨h, gs, d, k, os⟩, e, e'⟩ := Option.map_eq_some_iff.mp (open_ w)
  obtain ⟨rfl, rfl, rfl, rfl⟩ : h = boot_heap w.params ∧ gs = #[] ∧ d = boot_drawn ∧ k = boot_toks := by simpa using e'
  obtain ⟨z1, z2, z3⟩ : _ ∧ _ ∧ _ := by simpa only [Prod.mk.injEq] using size w
  obtain ⟨s', r, l⟩ := run w os
  rw [boot_abs] at r
  have l1 := (Prod.mk.inj l).1
  have l2 := (Prod.mk.inj l).2
  have t : topFrom treeTable p w N ⟨boot_heap w.params, #[], boot_drawn, boot_toks, os⟩ = some s' := by
    unfold topFrom
    dsimp only
    rw [z1, z2, z3, r]
    show (match staticsOk (importedModules p.main.body) (boot_heap w.params) s'.heap && namesBound p s'.heap && gensDone s' && laidKept (boot_heap w.params) s'.heap with | true => _ | false => _) = _
    rw [l1]
  unfold openEnds
  rw [e]
  show (topFrom treeTable p w N _).map _ = _
  rw [t]
  exact congrArg some l2
theorem leftSize : ∀ w : World, ((boot_heap w.params).isNs mainGlobals && (#[] : Array GenState).size == 0, (boot_heap w.params).objs.size, (boot_heap w.params).nsMap mainGlobals "__annotations__") = (true, 11, some (.ref 6)) := fun w => by kernel_rfl
theorem app_take (i n : Nat) (l : List Stmt) : l.drop i = (l.drop i).take n ++ l.drop (i + n) := by rw [← List.drop_drop, List.take_append_drop]
theorem topB_cut (l : List Stmt) : l = (l.drop 0).take 18 ++ ((l.drop 18).take 5 ++ ((l.drop 23).take 2 ++ l.drop 25)) := by
  rw [← app_take 23 2 l, ← app_take 18 5 l, ← app_take 0 18 l, List.drop_zero]
theorem leftRun (w : World) (os : OsState) : ∃ s, topRun treeTable pw w 11 an 4638 (bootT w os).abs (topStub pw) = some s ∧ (staticsOk (importedModules pw.main.body) (boot_heap w.params) s.heap && namesBound pw s.heap && gensDone s && laidKept (boot_heap w.params) s.heap,
        openSeen qv looseN (importedModules pw.main.body) (fun s => xlAt qv [] s && recOk [] s) true s, obsH s) = (true, openGood qv looseN, valH w) := by
  obtain ⟨s, r, l⟩ := Option.map_eq_some_iff.mp (pcD w os)
  refine ⟨s.abs, ?_, l⟩
  have r := topRunT_of r
  have r := piece_app (segRun_of (pcC w os)) r
  have r := piece_app (segRun_of (pcB w os)) r
  have r := piece_app (segRun_of (pcA w os)) r
  rw [← topB_cut] at r
  have r := go_top (topGoT_of (pcPre w os)) (piece_block (segRun_of (pcBlk w os)) r)
  exact topRun_mono 1621 _ _ _ _ r
theorem left : LeftO pw qv looseN (fun s => xlAt qv [] s && recOk [] s) obsH valH 4638 := of_treeRun (boot_open op (by rfl) fenced) leftSize leftRun
end
end Mine

end

noncomputable section
open PySem PySem.W PyProof.Rows
set_option Elab.async false
set_option maxRecDepth 100000
namespace Mine
theorem ints_of {R : WRecords} {P : Params} {h : Heap} : ∀ (xs : List WData) (vs : List Value), WShape.hasItems R xs .int = true → WellAll P h vs xs → vs.length = xs.length ∧ ∀ v ∈ vs, ∃ i t, v = Value.int i t
  | [], vs, _, w => by
    cases w
    exact ⟨rfl, fun _ m => nomatch m⟩
  | x :: xs, vs, hi, w => by
    rw [WShape.hasItems, Bool.and_eq_true] at hi
    obtain ⟨i, rfl⟩ := hasW_int hi.1
    obtain ⟨v, r, rfl, w1, w2⟩ : ∃ v r, vs = v :: r ∧ Well P h v (.int i) ∧ WellAll P h r xs := by cases w; exact ⟨_, _, rfl, by assumption, by assumption⟩
    obtain ⟨e, q⟩ := ints_of xs r hi.2 w2
    refine ⟨by rw [List.length_cons, List.length_cons, e], fun u m => ?_⟩
    rcases List.mem_cons.mp m with z | m
    · rw [z]
      cases w1
      exact ⟨_, _, rfl⟩
    · exact q u m
theorem well_one {P : Params} {h : Heap} {vals : List Value} {xs : List WData} (wl : WellAll P h vals [.list xs]) : ∃ (a : Addr) (vs : List Value), vals = [.ref a] ∧ h.get? a = some { cls := .type "list", data := .seq vs.toArray } ∧ WellAll P h vs xs := by
  obtain ⟨v, r, rfl, w1, w2⟩ : ∃ v r, vals = v :: r ∧ Well P h v (.list xs) ∧ WellAll P h r [] := by cases wl; exact ⟨_, _, rfl, by assumption, by assumption⟩
  obtain rfl : r = [] := by cases w2; rfl
  cases w1
  exact ⟨_, _, rfl, by assumption, by assumption⟩
theorem args_shape {args : List WData} {P : Params} {h : Heap} {vals : List Value} (hp : PySem.Challenge.rw_pc0208_01.row.toRowW.claim.pre args = true) (wl : WellAll P h vals args) :
    ∃ (a : Addr) (vs : List Value) (xs : List WData), args = [.list xs] ∧ vals = [.ref a] ∧ h.get? a = some { cls := .type "list", data := .seq vs.toArray } ∧ vs.length ≤ 100000 ∧ ∀ v ∈ vs, ∃ i t, v = Value.int i t := by
  obtain ⟨h1, h2⟩ := pre_splitW hp
  obtain ⟨d, r, rfl, hd, hr⟩ := hasAllW_cons (show WShape.hasAll [] args [.list .int] = true from h1)
  obtain ⟨xs, rfl, hi⟩ := hasW_list hd
  have hr : r = [] := by
    cases r with
    | nil => rfl
    | cons _ _ => simp [WShape.hasAll] at hr
  subst hr
  obtain ⟨h3, _⟩ := holds_andW (show (WTm.and (.not (.lt (.lit (.int 63)) (.len (.arg 0)))) (.lit (.bool true))).holds [] { args := [.list xs] } = true from h2)
  have hlen : xs.length ≤ 63 := by
    by_cases q : (63 : Int) < xs.length
    · simp [WTm.holds, WTm.value, less?, Num.less?, q] at h3
    · lia
  obtain ⟨a, vs, rfl, ha, hv⟩ := well_one wl
  obtain ⟨e, r⟩ := ints_of _ _ hi hv
  exact ⟨a, vs, xs, rfl, rfl, ha, by lia, r⟩
theorem reads_in {R : WRecords} {cl : Str → Option Addr} {h : Heap} {a : Addr} {xs : List WData} {as : List Addr} (r : ReadsAllW R cl h [.ref a] [.list xs] as) : a ∈ as := by
  obtain ⟨r1, b, bs, rfl⟩ : ∃ r1 : Unit, ∃ b bs, as = (a :: b) ++ bs := by
    cases r with
    | cons r1 r2 => cases r1; exact ⟨(), _, _, rfl⟩
  simp
theorem mg_says {w : World} {h : Heap} {mg : Str → Option Value} (Y : Says w h) (hn : h.Ns mainGlobals mg) : ∀ p ∈ G.glob, mg p.1 = globV p.2 := by
  obtain ⟨m, hm, e⟩ := Y.ns
  rw [ns_unique hm hn] at e
  unfold gNames gVals at e
  rw [List.map_append, List.map_map, List.map_map] at e
  obtain ⟨e1, _⟩ := List.append_inj e (by rw [List.length_map, List.length_map])
  exact fun p hp => List.map_inj_left.mp e1 p hp
theorem law_in : ((("law" : Str), AV.val (.ref a_law)) : Str × AV) ∈ G.glob := List.mem_of_getElem? (i := 24) (by kernel_rfl)
theorem walk0 {d : DefRec} {kwd : List (Str × Expr)} (hn : d.name = "law") : WalkO qv looseN (XL qv []) Says PySem.Challenge.rw_pc0208_01.row.toRowW d kwd fun f vs => PySem.call f vs := by
  intro w s₀ s₁ mg mb Gr Y fa o pm cd doc dV kV ho hd hcd hD hmg hg args vals as hpre hlay hrd hwl hlo
  have e1 := mg_says Y Gr.T.g _ law_in
  rw [hn] at hmg
  have e2 : Value.ref fa = .ref a_law := Option.some.inj (hmg.symm.trans e1)
  obtain ⟨a, vs, xs, rfl, rfl, ha, hz, hi⟩ := args_shape hpre hwl
  have hm : a ≠ sysModules := beq_eq_false_iff_ne.mp (hlo a (reads_in hrd))
  show wpAny _ _ (call (.ref fa) [.ref a]) _ _ _
  rw [e2]
  refine wpAny_mono (law_call Gr.T Y ha hz hi hm) (fun v s' ⟨ev, k, os, gn⟩ => ?_) fun _ _ e => e.elim
  subst ev
  exact GoodW.toG ⟨.inl ⟨.bool true, .bool true, [], rfl, fun _ => rfl, .bool true, by kernel_rfl, fun _ => ⟨List.nodup_nil, fun _ m => nomatch m⟩⟩, k, os, gn.trans hg⟩
end Mine

end

noncomputable section
open PySem PySem.W PyProof.Rows
set_option Elab.async false
set_option maxRecDepth 100000
set_option maxHeartbeats 8000000
namespace Mine
theorem bare1 : readsOut PySem.Challenge.rw_pc0208_01.row.prog PySem.Challenge.rw_pc0208_01.row.prog.main.body "vars" = false := by kernel_rfl
theorem bare2 : readsOut PySem.Challenge.rw_pc0208_01.row.prog PySem.Challenge.rw_pc0208_01.row.prog.main.body "dir" = false := by kernel_rfl
theorem bare3 : readsOut PySem.Challenge.rw_pc0208_01.row.prog PySem.Challenge.rw_pc0208_01.row.prog.main.body "locals" = false := by kernel_rfl
theorem bare : (["vars", "dir", "locals"] : List Str).filter (readsOut PySem.Challenge.rw_pc0208_01.row.prog PySem.Challenge.rw_pc0208_01.row.prog.main.body) = [] := by
  rw [List.filter_cons_of_neg (Bool.not_eq_true _ ▸ bare1), List.filter_cons_of_neg (Bool.not_eq_true _ ▸ bare2), List.filter_cons_of_neg (Bool.not_eq_true _ ▸ bare3), List.filter_nil]
theorem said : PySem.Challenge.rw_pc0208_01.wellSaid = true := by
  delta OpenLaw.wellSaid OpenRow.wellSaid OpenRow.partSaid looksOpen
  rw [bare]
  repeat' (with_reducible refine look_both ?_ ?_)
  all_goals decide +kernel
end Mine

end

noncomputable section
open PySem PySem.W PyProof.Rows
set_option Elab.async false
set_option maxRecDepth 100000
set_option maxHeartbeats 8000000
namespace Mine
theorem openOk : (chainsOk qv && opensWell PySem.Challenge.rw_pc0208_01.row.prog && (frees PySem.Challenge.rw_pc0208_01.row.toRowW && PySem.Challenge.rw_pc0208_01.row.within.isEmpty)) = true := by
  delta opensWell
  repeat' (with_reducible refine look_both ?_ ?_)
  all_goals decide +kernel
theorem defd : defOf qv (PySem.Str.ofString "law") = some (⟨"law", F_law.fd.params, F_law.body, F_law.fd.scope, ⟨369, 0, 385, 15⟩⟩, []) := by kernel_rfl
theorem theDef : PySem.Challenge.rw_pc0208_01.row.prog.theDef PySem.Challenge.rw_pc0208_01.row.name = some (F_law.fd.params, F_law.body, F_law.fd.scope) := by kernel_rfl
theorem isBare : PySem.Challenge.rw_pc0208_01.row.prog.bare := ⟨rfl, rfl, rfl, rfl, rfl, by decide +kernel⟩
theorem promised : PySem.Challenge.rw_pc0208_01.row.toRowW.promised := ⟨[.list [.int 3]], by kernel_rfl, by kernel_rfl⟩
end Mine
theorem PySem.Challenge.cw_pc0208_01_holds : PySem.Challenge.rw_pc0208_01.Holds := by
  refine holds_law Mine.said fun _ => ?_
  refine holds_open (q := Mine.qv) (loose := Mine.looseN) (Xt := fun s => xlAt Mine.qv [] s && recOk [] s) (XP := XL Mine.qv []) (Yf := Mine.obsH) (Ya := Mine.valH) (YP := Mine.Says) (N := 4638) Mine.left Mine.Says.of Mine.Says.keeps (fun s e => xl_of s (Bool.and_eq_true_iff.mp e).1) XL.keeps Mine.defd Mine.theDef (by rfl) (fun s e => recFacts_of (Bool.and_eq_true_iff.mp e).2) (by rfl) (by assumption) Mine.openOk Mine.isBare Mine.promised (Mine.walk0 rfl)

end
