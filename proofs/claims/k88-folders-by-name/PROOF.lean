import PyProof.Rows.All
import Wide.All
import OpenK.AllK
import Wide.FinOn
import HandS.ForMost
import HandS.Exc
import HandS.ExcOwn
import HandS.CallSlots
import HandS.Walk
import HandS.WordsExc
import HandS.Flow
import HandS.Evl
import HandS.Nested
import HandS.Wide
import PyProof.Rows.RuleB_pow
import HandS.Deep
import HandS.Small
import HandS.WideBits
import HandS.More
import HandS.TupAny
import HandS.IsInst
import HandS.Defaults
import HandS.Star
import HandS.MakeKwOnly
import HandS.Property
import HandS.DictComp
import KE.KWithOwn
import HandS.SortRule
import HandS.SortInts
import HandS.Style
import HandS.EndTab
import Open.Row
import PySem.Challenge.RW_takennames_k88_folders_by_name
set_option Elab.async false
set_option linter.all false
set_option maxRecDepth 100000
set_option maxHeartbeats 4000000
/-! Zz 0: virtual values, the virtual heap, how they lie in the abstract heap -/
namespace Zz
open PySem L2

/-- a virtual value: a tree; ref r i is a live object (region r, place i), stc n a def or class of the text -/
inductive T where
  | non | bl (b : Bool) | int (i : Int) | str (x : List Nat) | ref (r i : Nat) | stc (n : Nat) | fnv (n : Nat) | bty (n : String)
  | tup (l : List T) | lst (l : List T) | rol (l : List T) | dct (ks vs : List T) | obj (n : Nat) (fs : List Str) (l : List T)
/-- what a live object holds -/
inductive C where
  | lst (l : List T) | dct (ks vs : List T) | ins (n : Nat) (fs : List Str) (l : List T)
abbrev VH := List (List (Option C))
structure Cn where
  K : PySem.W.Frag
  ad : Nat → Addr
  fld : Nat → Str
  nf : Nat → Addr → NdefX.NF
  tabs : List NdefX.NTab
structure Ws where
  F : Hp
  ρ : List (List Addr)
  H : Hp
def at2 {α : Type} (l : List (List α)) (r i : Nat) : Option α := (l[r]?).bind (·[i]?)
def keyT : Key → T
  | .inl i => .int i
  | .inr x => .str x.cps.toList
section
variable (c : Cn) (F : Hp) (ρ : List (List Addr))
mutual
inductive Rep : T → V → Prop
  | non : Rep .non .non
  | bl {b} : Rep (.bl b) (.bl b)
  | int {i} : Rep (.int i) (.int i)
  | str {x} : Rep (.str x) (.str ⟨x.toArray⟩)
  | ref {r i a} : at2 ρ r i = some a → Rep (.ref r i) (.ref a)
  | stc {n} : Rep (.stc n) (.ref (c.ad n))
  | fnv {n f c'} : F f = some (NdefX.FnO f (c.nf n c')) → F (c.nf n c').c = some (LamX.CodeO (c.nf n c').c (c.nf n c').qual) → Rep (.fnv n) (.ref f)
  | bty {n} : Rep (.bty n) (.ty n)
  | tup {p ts vs} : F p = some (.tup vs) → Reps ts vs → Rep (.tup ts) (.ref p)
  | lst {p ts vs} : F p = some (.lst vs) → Reps ts vs → Rep (.lst ts) (.ref p)
  | rol {p ts vs} : SqL c.K F p vs → Reps ts vs → Rep (.rol ts) (.ref p)
  | dct {p ts ks kvs od} : F p = some (.frz od (.dK kvs)) → ks = kvs.map (fun kv => keyT kv.1) → Reps ts (kvs.map (·.2)) → Rep (.dct ks ts) (.ref p)
  | obj {p n ns ts dx fs} : F p = some (.ins (c.ad n) dx fs) → ns = fs.map (·.1) → Reps ts (fs.map (·.2)) → Rep (.obj n ns ts) (.ref p)
inductive Reps : List T → List V → Prop
  | nil : Reps [] []
  | cons {t v ts vs} : Rep t v → Reps ts vs → Reps (t :: ts) (v :: vs)
end
inductive RepC : C → HO → Prop
  | lst {ts vs} : Reps c F ρ ts vs → RepC (.lst ts) (.lst vs)
  | dct {ts ks kvs} : ks = kvs.map (fun kv => keyT kv.1) → Reps c F ρ ts (kvs.map (·.2)) → RepC (.dct ks ts) (.dK kvs)
  | ins {n ns ts dx fs} : ns = fs.map (·.1) → Reps c F ρ ts (fs.map (·.2)) → RepC (.ins n ns ts) (.ins (c.ad n) dx fs)
end
def Ext2 (ρ ρ' : List (List Addr)) : Prop := ∀ r i a, at2 ρ r i = some a → at2 ρ' r i = some a
section
variable {c : Cn} {F F' : Hp} {ρ ρ' : List (List Addr)}
theorem Rep.mono (hF : ∀ a o, F a = some o → F' a = some o) (hρ : Ext2 ρ ρ') {t : T} {v : V} (h : Rep c F ρ t v) : Rep c F' ρ' t v :=
  Rep.rec (motive_1 := fun t v _ => Rep c F' ρ' t v) (motive_2 := fun ts vs _ => Reps c F' ρ' ts vs)
    .non .bl .int .str (fun h => .ref (hρ _ _ _ h)) .stc (fun h k => .fnv (hF _ _ h) (hF _ _ k)) .bty (fun h _ r => .tup (hF _ _ h) r) (fun h _ r => .lst (hF _ _ h) r) (fun h _ r => .rol (Evl.ex_l hF h) r)
    (fun h e _ r => .dct (hF _ _ h) e r) (fun h e _ r => .obj (hF _ _ h) e r) .nil (fun _ _ a b => .cons a b) h
theorem Reps.mono (hF : ∀ a o, F a = some o → F' a = some o) (hρ : Ext2 ρ ρ') {ts : List T} {vs : List V} (h : Reps c F ρ ts vs) : Reps c F' ρ' ts vs := by
  induction ts generalizing vs with
  | nil => cases h; exact .nil
  | cons t ts ih => cases h with | cons a b => exact .cons (a.mono hF hρ) (ih b)
theorem RepC.mono (hF : ∀ a o, F a = some o → F' a = some o) (hρ : Ext2 ρ ρ') {x : C} {o : HO} (h : RepC c F ρ x o) : RepC c F' ρ' x o := by
  cases h with
  | lst r => exact .lst (r.mono hF hρ)
  | dct e r => exact .dct e (r.mono hF hρ)
  | ins e r => exact .ins e (r.mono hF hρ)
theorem Reps.len {ts : List T} {vs : List V} (h : Reps c F ρ ts vs) : ts.length = vs.length := by
  induction ts generalizing vs with
  | nil => cases h; rfl
  | cons t ts ih => cases h with | cons a b => simp [ih b]
theorem Reps.get {ts : List T} {vs : List V} (h : Reps c F ρ ts vs) {i : Nat} {t : T} (e : ts[i]? = some t) : ∃ v, vs[i]? = some v ∧ Rep c F ρ t v := by
  induction ts generalizing vs i with
  | nil => simp at e
  | cons u ts ih => cases h with
    | cons a b =>
      cases i with
      | zero => simp at e; subst e; exact ⟨_, rfl, a⟩
      | succ i => simpa using ih b (by simpa using e)
theorem Reps.getV {ts : List T} {vs : List V} (h : Reps c F ρ ts vs) {i : Nat} {v : V} (e : vs[i]? = some v) : ∃ t, ts[i]? = some t ∧ Rep c F ρ t v := by
  induction ts generalizing vs i with
  | nil => cases h; simp at e
  | cons u ts ih => cases h with
    | cons a b =>
      cases i with
      | zero => simp at e; subst e; exact ⟨_, rfl, a⟩
      | succ i => simpa using ih b (by simpa using e)
theorem Reps.app {ts us : List T} {vs ws : List V} (h : Reps c F ρ ts vs) (k : Reps c F ρ us ws) : Reps c F ρ (ts ++ us) (vs ++ ws) := by
  induction ts generalizing vs with
  | nil => cases h; exact k
  | cons t ts ih => cases h with | cons a b => exact .cons a (ih b)
theorem Reps.set {ts : List T} {vs : List V} {t : T} {v : V} (h : Reps c F ρ ts vs) (r : Rep c F ρ t v) (i : Nat) : Reps c F ρ (ts.set i t) (vs.set i v) := by
  induction ts generalizing vs i with
  | nil => cases h; exact .nil
  | cons u ts ih => cases h with
    | cons a b =>
      cases i with
      | zero => exact .cons r b
      | succ i => exact .cons a (ih b i)
theorem Reps.take {ts : List T} {vs : List V} (h : Reps c F ρ ts vs) (n : Nat) : Reps c F ρ (ts.take n) (vs.take n) := by
  induction ts generalizing vs n with
  | nil => cases h; simp; exact .nil
  | cons u ts ih => cases h with
    | cons a b =>
      cases n with
      | zero => exact .nil
      | succ n => exact .cons a (ih b n)
theorem Reps.drop {ts : List T} {vs : List V} (h : Reps c F ρ ts vs) (n : Nat) : Reps c F ρ (ts.drop n) (vs.drop n) := by
  induction ts generalizing vs n with
  | nil => cases h; simp; exact .nil
  | cons u ts ih => cases h with
    | cons a b =>
      cases n with
      | zero => exact .cons a b
      | succ n => exact ih b n
end

/-! ### the relation -/
/-- b is no live object -/
def NL (g : VH) (ρ : List (List Addr)) (b : Addr) : Prop := ∀ r i x, at2 g r i = some (some x) → at2 ρ r i ≠ some b
structure Rel (c : Cn) (Ω : Ws) (g : VH) : Prop where
  sub : ∀ a o, Ω.F a = some o → Ω.H a = some o
  shape : Ω.ρ.map List.length = g.map List.length
  live : ∀ r i x, at2 g r i = some (some x) → ∃ a ho, at2 Ω.ρ r i = some a ∧ Ω.H a = some ho ∧ Ω.F a = none ∧ RepC c Ω.F Ω.ρ x ho
  inj : ∀ r i x r' i' x' a, at2 g r i = some (some x) → at2 g r' i' = some (some x') → at2 Ω.ρ r i = some a → at2 Ω.ρ r' i' = some a → r = r' ∧ i = i'
  tab : NdefX.TabsN c.tabs Ω.H
  nt : ∀ a o, Ω.F a = some o → ∀ ps, o ≠ .tbl ps
/-- an object that is neither a table nor a code object -/
def Pln (o : HO) : Prop := (∀ ps, o ≠ .tbl ps) ∧ ∀ P, o ≠ .ext P
structure Up (g : VH) (Ω : Ws) (g' : VH) (Ω' : Ws) : Prop where
  F : ∀ a o, Ω.F a = some o → Ω'.F a = some o
  ρ : Ext2 Ω.ρ Ω'.ρ
  fr : ∀ b o, Ω.H b = some o → (∀ ps, o ≠ .tbl ps) → NL g Ω.ρ b → Ω'.H b = some o ∧ NL g' Ω'.ρ b
  nu : ∀ b o, Ω.H b = some o → Pln o → NL g Ω.ρ b → Ω.F b = none → Ω'.F b = none
theorem Up.refl {g : VH} {Ω : Ws} : Up g Ω g Ω := ⟨fun _ _ h => h, fun _ _ _ h => h, fun _ _ h _ k => ⟨h, k⟩, fun _ _ _ _ _ h => h⟩
theorem Up.trans {g g1 g2 : VH} {Ω Ω1 Ω2 : Ws} (a : Up g Ω g1 Ω1) (b : Up g1 Ω1 g2 Ω2) : Up g Ω g2 Ω2 :=
  ⟨fun x o h => b.F x o (a.F x o h), fun r i x h => b.ρ r i x (a.ρ r i x h), fun x o h n k => let ⟨h1, k1⟩ := a.fr x o h n k; b.fr x o h1 n k1,
   fun x o h n k z => let ⟨h1, k1⟩ := a.fr x o h n.1 k; b.nu x o h1 n k1 (a.nu x o h n k z)⟩
abbrev RepW (c : Cn) (Ω : Ws) (t : T) (v : V) : Prop := Rep c Ω.F Ω.ρ t v
abbrev RepsW (c : Cn) (Ω : Ws) (t : List T) (v : List V) : Prop := Reps c Ω.F Ω.ρ t v
theorem Rep.up {c : Cn} {g g' : VH} {Ω Ω' : Ws} {t : T} {v : V} (h : Rep c Ω.F Ω.ρ t v) (u : Up g Ω g' Ω') : Rep c Ω'.F Ω'.ρ t v := h.mono u.F u.ρ
theorem Reps.up {c : Cn} {g g' : VH} {Ω Ω' : Ws} {t : List T} {v : List V} (h : Reps c Ω.F Ω.ρ t v) (u : Up g Ω g' Ω') : Reps c Ω'.F Ω'.ρ t v := h.mono u.F u.ρ

/-! ### two-level lists -/
def ppush {α : Type} (x : α) : List (List α) → List (List α)
  | [] => []
  | [t] => [t ++ [x]]
  | t :: u :: r => t :: ppush x (u :: r)
def set2 {α : Type} (l : List (List α)) (r i : Nat) (x : α) : List (List α) := l.modify r (·.set i x)
def topR {α : Type} (l : List (List α)) : Nat := l.length - 1
def topI {α : Type} : List (List α) → Nat
  | [] => 0
  | [t] => t.length
  | _ :: u :: r => topI (u :: r)
theorem at2_cons0 {α : Type} (t : List α) (l : List (List α)) (i : Nat) : at2 (t :: l) 0 i = t[i]? := rfl
theorem at2_consS {α : Type} (t : List α) (l : List (List α)) (r i : Nat) : at2 (t :: l) (r + 1) i = at2 l r i := by simp [at2]
theorem at2_nil {α : Type} (r i : Nat) : at2 ([] : List (List α)) r i = none := by simp [at2]
theorem at2_ppush {α : Type} (x : α) : ∀ (l : List (List α)) (r i : Nat), l ≠ [] → at2 (ppush x l) r i = if r = topR l ∧ i = topI l then some x else at2 l r i
  | [], _, _, h => absurd rfl h
  | [t], r, i, _ => by
    cases r with
    | zero =>
      show (t ++ [x])[i]? = _
      simp only [topR, topI, List.length_singleton, Nat.sub_self, true_and, at2_cons0]
      by_cases e : i = t.length
      · subst e; simp
      · rw [if_neg e]
        by_cases h : i < t.length
        · rw [List.getElem?_append_left h]
        · rw [List.getElem?_eq_none (by simp; omega), List.getElem?_eq_none (by omega)]
    | succ r => simp [ppush, at2, topR]
  | t :: u :: l, r, i, _ => by
    cases r with
    | zero => simp [ppush, at2_cons0, topR]
    | succ r =>
      show at2 (t :: ppush x (u :: l)) (r + 1) i = _
      rw [at2_consS, at2_consS, at2_ppush x (u :: l) r i (by simp)]
      have e1 : (r + 1 = topR (t :: u :: l) ∧ i = topI (t :: u :: l)) ↔ (r = topR (u :: l) ∧ i = topI (u :: l)) := by simp [topR, topI]
      by_cases z : (r = topR (u :: l) ∧ i = topI (u :: l))
      · rw [if_pos z, if_pos (e1.mpr z)]
      · rw [if_neg z, if_neg (fun q => z (e1.mp q))]
theorem at2_top {α : Type} : ∀ (l : List (List α)), at2 l (topR l) (topI l) = none
  | [] => by simp [at2]
  | [t] => by simp [at2, topR, topI]
  | t :: u :: l => by
    have h := at2_top (u :: l)
    simpa [topR, topI, at2] using h
theorem shape_push {α β : Type} (x : α) (y : β) : ∀ {l : List (List α)} {m : List (List β)}, l.map List.length = m.map List.length → (ppush x l).map List.length = (ppush y m).map List.length
  | [], [], _ => rfl
  | [], _ :: _, h => by simp at h
  | _ :: _, [], h => by simp at h
  | [t], [u], h => by simpa [ppush] using h
  | [t], u :: u' :: r, h => by simp at h
  | t :: t' :: r, [u], h => by simp at h
  | t :: t' :: r, u :: u' :: r', h => by
    have q := shape_push x y (l := t' :: r) (m := u' :: r') (by simp at h ⊢; exact h.2)
    have q0 : t.length = u.length := by simp at h; exact h.1
    show t.length :: (ppush x (t' :: r)).map List.length = u.length :: (ppush y (u' :: r')).map List.length
    rw [q0, q]
theorem shape_len {α β : Type} {l : List (List α)} {m : List (List β)} (h : l.map List.length = m.map List.length) : l.length = m.length := by
  have := congrArg List.length h
  simpa using this
theorem shape_topR {α β : Type} {l : List (List α)} {m : List (List β)} (h : l.map List.length = m.map List.length) : topR l = topR m := by
  unfold topR; rw [shape_len h]
theorem shape_topI {α β : Type} : ∀ {l : List (List α)} {m : List (List β)}, l.map List.length = m.map List.length → topI l = topI m
  | [], [], _ => rfl
  | [], _ :: _, h => by simp at h
  | _ :: _, [], h => by simp at h
  | [t], [u], h => by simpa [topI] using h
  | [t], u :: u' :: r, h => by simp at h
  | t :: t' :: r, [u], h => by simp at h
  | t :: t' :: r, u :: u' :: r', h => by
    show topI (t' :: r) = topI (u' :: r')
    exact shape_topI (by simp at h ⊢; exact h.2)
theorem shape_some {α β : Type} {l : List (List α)} {m : List (List β)} (h : l.map List.length = m.map List.length) {r i : Nat} {x : α} (e : at2 l r i = some x) : ∃ y, at2 m r i = some y := by
  unfold at2 at e ⊢
  cases q : l[r]? with
  | none => rw [q] at e; simp at e
  | some t =>
    rw [q] at e
    have h1 : (l.map List.length)[r]? = some t.length := by simp [q]
    rw [h] at h1
    rw [List.getElem?_map] at h1
    cases q2 : m[r]? with
    | none => rw [q2] at h1; simp at h1
    | some u =>
      rw [q2] at h1
      have hl : u.length = t.length := by simpa using h1
      have hi : i < t.length := (List.getElem?_eq_some_iff.mp (by simpa using e)).1
      exact ⟨u[i]'(by omega), by simp [hl, hi]⟩
theorem at2_set2 {α : Type} (l : List (List α)) (r i : Nat) (x : α) (r' i' : Nat) : at2 (set2 l r i x) r' i' = if r' = r ∧ i' = i then (at2 l r i).map fun _ => x else at2 l r' i' := by
  unfold at2 set2
  rw [List.getElem?_modify]
  by_cases hr : r' = r
  · subst hr
    cases q : l[r']? with
    | none => simp
    | some t =>
      by_cases hi : i' = i
      · subst hi
        simp only [if_true, true_and, Option.map_eq_map, Option.map_some, Option.bind_some]
        by_cases hl : i' < t.length
        · simp [hl]
        · have hl2 : t.length ≤ i' := Nat.le_of_not_lt hl
          simp [hl2]
      · simp only [if_true, true_and, if_neg hi, Option.map_eq_map, Option.map_some, Option.bind_some]
        rw [List.getElem?_set_ne (Ne.symm hi)]
  · have hr2 : ¬ r = r' := fun h => hr h.symm
    simp [hr, hr2]
theorem set2_shape {α : Type} (l : List (List α)) (r i : Nat) (x : α) : (set2 l r i x).map List.length = l.map List.length := by
  unfold set2
  apply List.ext_getElem?
  intro j
  simp only [List.getElem?_map, List.getElem?_modify]
  cases l[j]? <;> simp <;> split <;> simp

/-! ### how the worlds step -/
theorem RepC.pln {c : Cn} {F : Hp} {ρ : List (List Addr)} {x : C} {o : HO} (h : RepC c F ρ x o) : Pln o := by
  cases h <;> exact ⟨fun _ z => (by cases z), fun _ z => (by cases z)⟩
theorem tabs_off {T : List NdefX.NTab} {H H' : Hp} {a : Addr} {o : HO} (t : NdefX.TabsN T H) (h : H a = some o) (n : Pln o) (k : ∀ b, b ≠ a → H' b = H b) : NdefX.TabsN T H' := fun p hp => by
  obtain ⟨ps, h1, h2, h3⟩ := t p hp
  refine ⟨ps, ?_, h2, fun pos cv hc => ?_⟩
  · rw [k _ (fun e => by rw [e, h] at h1; exact n.1 ps (Option.some.inj h1))]; exact h1
  · obtain ⟨c', e1, e2⟩ := h3 pos cv hc
    refine ⟨c', e1, ?_⟩
    rw [k _ (fun e => by rw [e, h] at e2; exact n.2 _ (Option.some.inj e2))]; exact e2
theorem tabs_new {T : List NdefX.NTab} {H : Hp} {a : Addr} {o : HO} (t : NdefX.TabsN T H) (h : H a = none) : NdefX.TabsN T (upd H a o) := t.ext fun b u e => by rw [upd_ne (ne_of_none e h)]; exact e
section
variable {c : Cn} {Ω : Ws} {g : VH}
theorem Rel.nF (R : Rel c Ω g) {p : Addr} (hp : Ω.H p = none) : Ω.F p = none := by
  cases e : Ω.F p with
  | none => rfl
  | some o =>
    have h := R.sub p o e
    rw [hp] at h; cases h
/-- a new object, frozen at once -/
theorem Rel.froz (R : Rel c Ω g) {p : Addr} (hp : Ω.H p = none) (o : HO) (hn : ∀ ps, o ≠ .tbl ps := by intro _ z; cases z) : Rel c ⟨upd Ω.F p o, Ω.ρ, upd Ω.H p o⟩ g ∧ Up g Ω g ⟨upd Ω.F p o, Ω.ρ, upd Ω.H p o⟩ := by
  have nF := R.nF hp
  have hF : ∀ a u, Ω.F a = some u → upd Ω.F p o a = some u := fun a u h => by rw [upd_ne (ne_of_none h nF)]; exact h
  refine ⟨⟨fun a u h => ?_, R.shape, fun r i x h => ?_, R.inj, tabs_new R.tab hp, fun a u h => ?_⟩, ⟨hF, fun _ _ _ h => h, fun b u h _ k => ⟨?_, k⟩, fun b u h _ _ z => ?_⟩⟩
  · by_cases e : a = p
    · subst e
      have h' : upd Ω.F a o a = some u := h
      rw [upd_same] at h'; cases h'
      exact upd_same
    · have h' : upd Ω.F p o a = some u := h
      rw [upd_ne e] at h'
      show upd Ω.H p o a = _
      rw [upd_ne e]
      exact R.sub a u h'
  · obtain ⟨a, ho, h1, h2, h3, h4⟩ := R.live r i x h
    have ne : a ≠ p := ne_of_none h2 hp
    exact ⟨a, ho, h1, by show upd Ω.H p o a = _; rw [upd_ne ne]; exact h2, by show upd Ω.F p o a = _; rw [upd_ne ne]; exact h3, h4.mono hF fun _ _ _ h => h⟩
  · have h' : upd Ω.F p o a = some u := h
    by_cases e : a = p
    · subst e; rw [upd_same] at h'; cases h'; exact hn
    · rw [upd_ne e] at h'; exact R.nt a u h'
  · show upd Ω.H p o b = some u
    rw [upd_ne (ne_of_none h hp)]; exact h
  · show upd Ω.F p o b = none
    rw [upd_ne (ne_of_none h hp)]; exact z
/-- a new object, live -/
theorem Rel.laid (R : Rel c Ω g) (hg : g ≠ []) {p : Addr} (hp : Ω.H p = none) {x : C} {o : HO} (hx : RepC c Ω.F Ω.ρ x o) :
    Rel c ⟨Ω.F, ppush p Ω.ρ, upd Ω.H p o⟩ (ppush (some x) g) ∧ Up g Ω (ppush (some x) g) ⟨Ω.F, ppush p Ω.ρ, upd Ω.H p o⟩ ∧ at2 (ppush p Ω.ρ) (topR g) (topI g) = some p := by
  have hρ : Ω.ρ ≠ [] := fun e => hg (by have := R.shape; rw [e] at this; simpa using this.symm)
  have eR := shape_topR R.shape
  have eI := shape_topI R.shape
  have hE : Ext2 Ω.ρ (ppush p Ω.ρ) := fun r i a h => by
    rw [at2_ppush _ _ _ _ hρ]
    split
    · rename_i z
      rw [z.1, z.2, at2_top] at h; cases h
    · exact h
  have nF := R.nF hp
  have lift : ∀ {r i : Nat} {x' : C}, at2 (ppush (some x) g) r i = some (some x') → (r = topR g ∧ i = topI g ∧ x' = x) ∨ ((¬ (r = topR g ∧ i = topI g)) ∧ at2 g r i = some (some x')) := fun {r i x'} h => by
    rw [at2_ppush _ _ _ _ hg] at h
    split at h
    · rename_i z
      cases h
      exact .inl ⟨z.1, z.2, rfl⟩
    · rename_i z
      exact .inr ⟨z, h⟩
  have atp : at2 (ppush p Ω.ρ) (topR g) (topI g) = some p := by
    rw [at2_ppush _ _ _ _ hρ, ← eR, ← eI, if_pos ⟨rfl, rfl⟩]
  have ato : ∀ {r i : Nat} {a : Addr}, ¬ (r = topR g ∧ i = topI g) → at2 (ppush p Ω.ρ) r i = some a → at2 Ω.ρ r i = some a := fun {r i a} z h => by
    rw [at2_ppush _ _ _ _ hρ, if_neg (by rw [eR, eI]; exact z)] at h
    exact h
  refine ⟨⟨fun a u h => ?_, shape_push _ _ R.shape, fun r i x' h => ?_, fun r i x1 r' i' x2 a h1 h2 h3 h4 => ?_, tabs_new R.tab hp, R.nt⟩, ⟨fun _ _ h => h, hE, fun b u h _ k => ⟨?_, fun r i x' h' => ?_⟩, fun _ _ _ _ _ z => z⟩, atp⟩
  · have h' : Ω.F a = some u := h
    have ne : a ≠ p := ne_of_none h' nF
    show upd Ω.H p o a = _
    rw [upd_ne ne]
    exact R.sub a u h'
  · rcases lift h with ⟨e1, e2, e3⟩ | ⟨z, h⟩
    · subst e1; subst e2; subst e3
      exact ⟨p, o, atp, upd_same, nF, hx.mono (fun _ _ h => h) hE⟩
    · obtain ⟨a, ho, h1, h2, h3, h4⟩ := R.live r i x' h
      exact ⟨a, ho, hE _ _ _ h1, by show upd Ω.H p o a = _; rw [upd_ne (ne_of_none h2 hp)]; exact h2, h3, h4.mono (fun _ _ h => h) hE⟩
  · rcases lift h1 with ⟨e1, e2, e3⟩ | ⟨z, k1⟩
    · rcases lift h2 with ⟨e1', e2', e3'⟩ | ⟨z', k2⟩
      · exact ⟨e1.trans e1'.symm, e2.trans e2'.symm⟩
      · subst e1; subst e2
        have e : p = a := by
          have h3' : at2 (ppush p Ω.ρ) (topR g) (topI g) = some a := h3
          rw [atp] at h3'
          exact Option.some.inj h3'
        subst e
        obtain ⟨a', ho, q1, q2, q3, q4⟩ := R.live r' i' x2 k2
        have q := ato z' h4
        rw [q1] at q; cases q
        rw [hp] at q2; cases q2
    · rcases lift h2 with ⟨e1', e2', e3'⟩ | ⟨z', k2⟩
      · subst e1'; subst e2'
        have e : p = a := by
          have h4' : at2 (ppush p Ω.ρ) (topR g) (topI g) = some a := h4
          rw [atp] at h4'
          exact Option.some.inj h4'
        subst e
        obtain ⟨a', ho, q1, q2, q3, q4⟩ := R.live r i x1 k1
        have q := ato z h3
        rw [q1] at q; cases q
        rw [hp] at q2; cases q2
      · exact R.inj r i x1 r' i' x2 a k1 k2 (ato z h3) (ato z' h4)
  · show upd Ω.H p o b = some u
    rw [upd_ne (ne_of_none h hp)]; exact h
  · rcases lift h' with ⟨e1, e2, e3⟩ | ⟨z, h'⟩
    · subst e1; subst e2
      show at2 (ppush p Ω.ρ) _ _ ≠ some b
      rw [atp]
      intro e
      cases e
      rw [hp] at h; cases h
    · intro e
      exact k r i x' h' (ato z e)
/-- a live object is written -/
theorem Rel.wrote (R : Rel c Ω g) {r i : Nat} {x x' : C} {a : Addr} {o : HO} (h : at2 g r i = some (some x)) (ha : at2 Ω.ρ r i = some a) (hx : RepC c Ω.F Ω.ρ x' o) :
    Rel c ⟨Ω.F, Ω.ρ, upd Ω.H a o⟩ (set2 g r i (some x')) ∧ Up g Ω (set2 g r i (some x')) ⟨Ω.F, Ω.ρ, upd Ω.H a o⟩ := by
  obtain ⟨a', ho, h1, h2, h3, h4⟩ := R.live r i x h
  rw [ha] at h1; cases h1
  have lift : ∀ {r' i' : Nat} {y : C}, at2 (set2 g r i (some x')) r' i' = some (some y) → (r' = r ∧ i' = i ∧ y = x') ∨ (¬ (r' = r ∧ i' = i) ∧ at2 g r' i' = some (some y)) := fun {r' i' y} q => by
    rw [at2_set2] at q
    split at q
    · rename_i z
      rw [h] at q
      cases q
      exact .inl ⟨z.1, z.2, rfl⟩
    · rename_i z
      exact .inr ⟨z, q⟩
  have was : ∀ {r' i' : Nat} {y : C}, at2 (set2 g r i (some x')) r' i' = some (some y) → ∃ z, at2 g r' i' = some (some z) := fun {r' i' y} q => by
    rcases lift q with ⟨e1, e2, _⟩ | ⟨_, q⟩
    · subst e1; subst e2; exact ⟨_, h⟩
    · exact ⟨_, q⟩
  refine ⟨⟨fun b u q => ?_, by show Ω.ρ.map _ = _; rw [set2_shape]; exact R.shape, fun r' i' y q => ?_, fun r1 i1 x1 r2 i2 x2 b q1 q2 q3 q4 => ?_, tabs_off R.tab h2 h4.pln fun b n => upd_ne n, R.nt⟩, ⟨fun _ _ z => z, fun _ _ _ z => z, fun b u q _ k => ⟨?_, fun r' i' y q' => ?_⟩, fun _ _ _ _ _ z => z⟩⟩
  · have q' : Ω.F b = some u := q
    have ne : b ≠ a := ne_of_none q' h3
    show upd Ω.H a o b = _
    rw [upd_ne ne]
    exact R.sub b u q'
  · rcases lift q with ⟨e1, e2, e3⟩ | ⟨z, q⟩
    · subst e1; subst e2; subst e3
      exact ⟨a, o, ha, upd_same, h3, hx⟩
    · obtain ⟨b, hb, k1, k2, k3, k4⟩ := R.live r' i' y q
      have ne : b ≠ a := fun e => by
        subst e
        exact z (R.inj r' i' y r i x b q h k1 ha)
      exact ⟨b, hb, k1, by show upd Ω.H a o b = _; rw [upd_ne ne]; exact k2, k3, k4⟩
  · obtain ⟨z1, w1⟩ := was q1
    obtain ⟨z2, w2⟩ := was q2
    exact R.inj r1 i1 z1 r2 i2 z2 b w1 w2 q3 q4
  · show upd Ω.H a o b = some u
    have ne : b ≠ a := fun e => by subst e; exact k r i x h ha
    rw [upd_ne ne]; exact q
  · obtain ⟨z1, w1⟩ := was q'
    exact k r' i' z1 w1
/-- a live object is frozen (a dict: locked) -/
theorem Rel.freeze (R : Rel c Ω g) {r i : Nat} {x : C} {a : Addr} (o : HO) (h : at2 g r i = some (some x)) (ha : at2 Ω.ρ r i = some a) (hn : ∀ ps, o ≠ .tbl ps := by intro _ z; cases z) :
    Rel c ⟨upd Ω.F a o, Ω.ρ, upd Ω.H a o⟩ (set2 g r i none) ∧ Up g Ω (set2 g r i none) ⟨upd Ω.F a o, Ω.ρ, upd Ω.H a o⟩ := by
  obtain ⟨a', ho', h1, h2, h3, h4⟩ := R.live r i x h
  rw [ha] at h1; cases h1
  have hF : ∀ b u, Ω.F b = some u → upd Ω.F a o b = some u := fun b u q => by rw [upd_ne (ne_of_none q h3)]; exact q
  have lift : ∀ {r' i' : Nat} {y : C}, at2 (set2 g r i none) r' i' = some (some y) → ¬ (r' = r ∧ i' = i) ∧ at2 g r' i' = some (some y) := fun {r' i' y} q => by
    rw [at2_set2] at q
    split at q
    · rename_i z
      rw [h] at q
      cases q
    · rename_i z
      exact ⟨z, q⟩
  refine ⟨⟨fun b u q => ?_, by show Ω.ρ.map _ = _; rw [set2_shape]; exact R.shape, fun r' i' y q => ?_, fun r1 i1 x1 r2 i2 x2 b q1 q2 q3 q4 => R.inj r1 i1 x1 r2 i2 x2 b (lift q1).2 (lift q2).2 q3 q4, tabs_off R.tab h2 h4.pln fun b n => upd_ne n, fun b u q => ?_⟩, ⟨hF, fun _ _ _ z => z, fun b u q _ k => ⟨?_, fun r' i' y q' => k r' i' y (lift q').2⟩, fun b u q _ k z => ?_⟩⟩
  · have q' : upd Ω.F a o b = some u := q
    show upd Ω.H a o b = some u
    by_cases e : b = a
    · subst e
      rw [upd_same] at q'; cases q'
      exact upd_same
    · rw [upd_ne e] at q'
      rw [upd_ne e]
      exact R.sub b u q'
  · obtain ⟨z, q⟩ := lift q
    obtain ⟨b, hb, k1, k2, k3, k4⟩ := R.live r' i' y q
    have ne : b ≠ a := fun e => by
      subst e
      exact z (R.inj r' i' y r i x b q h k1 ha)
    exact ⟨b, hb, k1, by show upd Ω.H a o b = _; rw [upd_ne ne]; exact k2, by show upd Ω.F a o b = none; rw [upd_ne ne]; exact k3, k4.mono hF fun _ _ _ z => z⟩
  · have h' : upd Ω.F a o b = some u := q
    by_cases e : b = a
    · subst e; rw [upd_same] at h'; cases h'; exact hn
    · rw [upd_ne e] at h'; exact R.nt b u h'
  · have ne : b ≠ a := fun e => by subst e; exact k r i x h ha
    show upd Ω.H a o b = _
    rw [upd_ne ne]; exact q
  · have ne : b ≠ a := fun e => by subst e; exact k r i x h ha
    show upd Ω.F a o b = none
    rw [upd_ne ne]; exact z
/-- an object that is neither frozen nor live: new, or changed -/
theorem Rel.other (R : Rel c Ω g) {p : Addr} (hp : Ω.H p = none) (o : HO) : Rel c ⟨Ω.F, Ω.ρ, upd Ω.H p o⟩ g ∧ Up g Ω g ⟨Ω.F, Ω.ρ, upd Ω.H p o⟩ := by
  have nF := R.nF hp
  refine ⟨⟨fun a u h => ?_, R.shape, fun r i x h => ?_, R.inj, tabs_new R.tab hp, R.nt⟩, ⟨fun _ _ h => h, fun _ _ _ h => h, fun b u h _ k => ⟨?_, k⟩, fun b u h _ _ z => z⟩⟩
  · show upd Ω.H p o a = _
    have h' : Ω.F a = some u := h
    rw [upd_ne (ne_of_none h' nF)]
    exact R.sub a u h'
  · obtain ⟨a, ho, h1, h2, h3, h4⟩ := R.live r i x h
    exact ⟨a, ho, h1, by show upd Ω.H p o a = _; rw [upd_ne (ne_of_none h2 hp)]; exact h2, h3, h4⟩
  · show upd Ω.H p o b = some u
    rw [upd_ne (ne_of_none h hp)]; exact h
theorem upd_id {H : Hp} {a : Addr} {o : HO} (h : H a = some o) : upd H a o = H := by
  funext b
  by_cases e : b = a
  · subst e; rw [upd_same, h]
  · rw [upd_ne e]
end

/-! ### locks (dicts, for good) -/
/-- Q behind some locks -/
inductive Lks (Q : Hp → Prop) : Hp → Prop
  | nil {H} : Q H → Lks Q H
  | lock {H d u} : H d = some u → Mut (some u) → (∀ od, Lks Q (upd H d (.frz od u))) → Lks Q H
theorem Lks.run {X : Cx} {pins : List (Addr × Obj)} {σ : St} {s : Shared} {Q : Hp → Prop} {H : Hp} (h : Lks Q H) : Inv X pins σ H s → ∃ H', Inv X pins σ H' s ∧ Q H' ∧ ∀ b, H b = none → H' b = none := by
  induction h with
  | nil q => exact fun I => ⟨_, I, q, fun _ z => z⟩
  | lock h1 h2 _ ih =>
      intro I
      obtain ⟨od, I1⟩ := I.lock h1 h2
      obtain ⟨H', I2, q, k⟩ := ih od I1
      exact ⟨H', I2, q, fun b z => k b (by rw [upd_ne (fun e => by rw [e, h1] at z; cases z)]; exact z)⟩
theorem Lks.mono {Q Q' : Hp → Prop} {H : Hp} (k : ∀ H, Q H → Q' H) (h : Lks Q H) : Lks Q' H := by
  induction h with
  | nil q => exact .nil (k _ q)
  | lock h1 h2 _ ih => exact .lock h1 h2 ih
theorem Lks.flat {Q : Hp → Prop} {H : Hp} (h : Lks (Lks Q) H) : Lks Q H := by
  induction h with
  | nil q => exact q
  | lock h1 h2 _ ih => exact .lock h1 h2 ih
end Zz
set_option Elab.async false
set_option linter.all false
set_option maxRecDepth 100000
set_option maxHeartbeats 4000000
/-! Zz 1: results, the judgements' readings, names, calls, statements, loops by fuel, defs -/
namespace Zz
open PySem L2

structure Xn where
  c : Nat
  v : Option T
inductive R (α : Type) where
  | ok (a : α) (g : VH) | ex (x : Xn) (g : VH) | no
def R.bind {α β : Type} (m : R α) (k : α → VH → R β) : R β := match m with
  | .ok a g => k a g
  | .ex x g => .ex x g
  | .no => .no
abbrev SL := List (Option T)
abbrev Ev := SL → VH → R T
inductive RS where
  | nx (ts : SL) (g : VH) | rt (t : T) (g : VH) | bk (ts : SL) (g : VH) | ct (ts : SL) (g : VH) | ex (x : Xn) (ts : SL) (g : VH) | no
abbrev Ss := SL → VH → RS
def R.toS {α : Type} (m : R α) (ts : SL) (k : α → VH → RS) : RS := match m with
  | .ok a g => k a g
  | .ex x g => .ex x ts g
  | .no => .no

def XRep (c : Cn) (Ω : Ws) (x : Xn) (d : Option Addr) : Prop := match x.v with
  | none => d = none
  | some t => ∃ a w, d = some a ∧ Ω.F a = some (.xd [(c.fld x.c, w)]) ∧ Rep c Ω.F Ω.ρ t w
def RepS (c : Cn) (Ω : Ws) (ts : SL) (σ : St) : Prop := ts.length = σ.length ∧ ∀ (i : Nat) (t : T), ts[i]? = some (some t) → ∃ v, σ[i]? = some (some v) ∧ Rep c Ω.F Ω.ρ t v
theorem XRep.up {c : Cn} {g g' : VH} {Ω Ω' : Ws} {x : Xn} {d : Option Addr} (h : XRep c Ω x d) (u : Up g Ω g' Ω') : XRep c Ω' x d := by
  obtain ⟨xc, xv⟩ := x
  cases xv with
  | none => exact h
  | some t =>
    obtain ⟨a, w, e, h1, h2⟩ := h
    exact ⟨a, w, e, u.F _ _ h1, h2.up u⟩
section
variable {c : Cn} {g g' : VH} {Ω Ω' : Ws} {ts : SL} {σ : St}
theorem RepS.up (h : RepS c Ω ts σ) (u : Up g Ω g' Ω') : RepS c Ω' ts σ := ⟨h.1, fun i t e => let ⟨v, h1, h2⟩ := h.2 i t e; ⟨v, h1, h2.up u⟩⟩
theorem RepS.set (h : RepS c Ω ts σ) {t : T} {v : V} (r : Rep c Ω.F Ω.ρ t v) (i : Nat) : RepS c Ω (ts.set i (some t)) (σ.set i (some v)) := by
  refine ⟨by simp [h.1], fun j u e => ?_⟩
  by_cases hj : i = j
  · subst hj
    have hl : i < ts.length := by
      have := (List.getElem?_eq_some_iff.mp e).1
      simpa using this
    rw [List.getElem?_set_self hl] at e
    cases e
    exact ⟨v, List.getElem?_set_self (by rw [← h.1]; exact hl), r⟩
  · rw [List.getElem?_set_ne hj] at e
    rw [List.getElem?_set_ne hj]
    exact h.2 j u e
end

/-! ### what is wanted behind a result -/
def EndG {α β : Type} (c : Cn) (W : WX) (σ : St) (Ω : Ws) (g : VH) (RP : Ws → α → β → Prop) (Q : β → Hp → Prop) : R α → Prop
  | .ok a g' => ∀ Ω' b, Up g Ω g' Ω' → Rel c Ω' g' → RP Ω' a b → Q b Ω'.H
  | .ex x g' => ∀ Ω' d, Up g Ω g' Ω' → Rel c Ω' g' → XRep c Ω' x d → W (.ref (c.ad x.c)) d σ Ω'.H
  | .no => False
def EndS (c : Cn) (W : WX) (Ω : Ws) (g : VH) (D : Ends) : RS → Prop
  | .nx ts g' => ∀ Ω' σ', Up g Ω g' Ω' → Rel c Ω' g' → RepS c Ω' ts σ' → D.nx σ' Ω'.H
  | .rt t g' => ∀ Ω' v, Up g Ω g' Ω' → Rel c Ω' g' → RepW c Ω' t v → D.rt v Ω'.H
  | .bk ts g' => ∀ Ω' σ', Up g Ω g' Ω' → Rel c Ω' g' → RepS c Ω' ts σ' → D.bk σ' Ω'.H
  | .ct ts g' => ∀ Ω' σ', Up g Ω g' Ω' → Rel c Ω' g' → RepS c Ω' ts σ' → D.ct σ' Ω'.H
  | .ex x ts g' => ∀ Ω' d σ', Up g Ω g' Ω' → Rel c Ω' g' → XRep c Ω' x d → RepS c Ω' ts σ' → W (.ref (c.ad x.c)) d σ' Ω'.H
  | .no => False
section
variable {c : Cn} {W : WX} {σ : St} {Ω Ω1 : Ws} {g g1 : VH} {α β γ δ : Type} {RP : Ws → α → β → Prop} {RP2 : Ws → γ → δ → Prop} {Q : β → Hp → Prop} {Q2 : δ → Hp → Prop} {D : Ends} {ts : SL}
theorem EndG.shift {m : R α} (u : Up g Ω g1 Ω1) (h : EndG c W σ Ω g RP Q m) : EndG c W σ Ω1 g1 RP Q m := by
  cases m with
  | ok a g' => exact fun Ω' b u' => h Ω' b (u.trans u')
  | ex x g' => exact fun Ω' d u' => h Ω' d (u.trans u')
  | no => exact h
theorem EndG.mono {Q' : β → Hp → Prop} {m : R α} (h : EndG c W σ Ω g RP Q m) (hq : ∀ b H, Q b H → Q' b H) : EndG c W σ Ω g RP Q' m := by
  cases m with
  | ok a g' => exact fun Ω' b u R r => hq _ _ (h Ω' b u R r)
  | ex x g' => exact h
  | no => exact h
theorem EndG.bind {m : R α} {k : α → VH → R γ} (h : EndG c W σ Ω g RP2 Q2 (m.bind k)) :
    EndG c W σ Ω g RP (fun b H1 => ∃ Ω1 g1 a, Ω1.H = H1 ∧ Up g Ω g1 Ω1 ∧ Rel c Ω1 g1 ∧ RP Ω1 a b ∧ EndG c W σ Ω1 g1 RP2 Q2 (k a g1)) m := by
  cases m with
  | ok a g' => exact fun Ω' b u R r => ⟨Ω', g', a, rfl, u, R, r, EndG.shift u h⟩
  | ex x g' => exact h
  | no => exact h
theorem EndS.shift {m : RS} (u : Up g Ω g1 Ω1) (h : EndS c W Ω g D m) : EndS c W Ω1 g1 D m := by
  cases m with
  | nx a g' => exact fun Ω' b u' => h Ω' b (u.trans u')
  | rt a g' => exact fun Ω' b u' => h Ω' b (u.trans u')
  | bk a g' => exact fun Ω' b u' => h Ω' b (u.trans u')
  | ct a g' => exact fun Ω' b u' => h Ω' b (u.trans u')
  | ex x a g' => exact fun Ω' d σ' u' => h Ω' d σ' (u.trans u')
  | no => exact h
theorem EndS.bindE {m : R α} {k : α → VH → RS} (S : RepS c Ω ts σ) (h : EndS c W Ω g D (m.toS ts k)) :
    EndG c W σ Ω g RP (fun b H1 => ∃ Ω1 g1 a, Ω1.H = H1 ∧ Up g Ω g1 Ω1 ∧ Rel c Ω1 g1 ∧ RP Ω1 a b ∧ EndS c W Ω1 g1 D (k a g1)) m := by
  cases m with
  | ok a g' => exact fun Ω' b u R r => ⟨Ω', g', a, rfl, u, R, r, EndS.shift u h⟩
  | ex x g' => exact fun Ω' d u R r => h Ω' d σ u R r (S.up u)
  | no => exact h
end
def gOf {α β : Type} (c : Cn) (W : WX) (RP : Ws → α → β → Prop) (f : SL → VH → R α) : St → Hp → (β → Hp → Prop) → Prop := fun σ H Q =>
  ∃ Ω g ts, Ω.H = H ∧ Rel c Ω g ∧ RepS c Ω ts σ ∧ EndG c W σ Ω g RP Q (f ts g)
abbrev tE (c : Cn) (W : WX) (f : Ev) : TE := gOf c W (RepW c) f
abbrev tT (c : Cn) (W : WX) (f : SL → VH → R Bool) : TT := gOf c W (fun _ a b => a = b) f
abbrev tA (c : Cn) (W : WX) (f : SL → VH → R (List T)) : TA := gOf c W (RepsW c) f
def tS (c : Cn) (W : WX) (f : Ss) : TS := fun D σ H => ∃ Ω g ts, Ω.H = H ∧ Rel c Ω g ∧ RepS c Ω ts σ ∧ EndS c W Ω g D (f ts g)
/-- a def's promise by its pure function -/
abbrev FN := List T → VH → R T
def spF (c : Cn) (fn : FN) : Sp := fun vs H Q E => ∃ Ω g ts, Ω.H = H ∧ Rel c Ω g ∧ RepsW c Ω ts vs ∧ EndG c (fun cls d _ H => E cls d H) [] Ω g (RepW c) Q (fn ts g)

theorem PE_weak {X : Cx} {e : Expr} {t t' : TE} (h : PE X e t) (k : ∀ σ H Q, t' σ H Q → t σ H Q) : PE X e t' := ⟨fun pins s σ H Q I q => h.run pins s σ H Q I (k σ H Q q)⟩
theorem PT_weak {X : Cx} {e : Expr} {t t' : TT} (h : PT X e t) (k : ∀ σ H Q, t' σ H Q → t σ H Q) : PT X e t' := ⟨fun pins s σ H Q I q => h.run pins s σ H Q I (k σ H Q q)⟩
theorem PW_weak {X : Cx} {e : Expr} {t t' : TT} (h : PW X e t) (k : ∀ σ H Q, t' σ H Q → t σ H Q) : PW X e t' := ⟨fun w pins s σ H Q I q => h.run w pins s σ H Q I (k σ H Q q)⟩
theorem PA_weak {X : Cx} {e : List Expr} {t t' : TA} (h : PA X e t) (k : ∀ σ H Q, t' σ H Q → t σ H Q) : PA X e t' := ⟨fun p pins s σ H Q I q => h.run p pins s σ H Q I (k σ H Q q)⟩
theorem PK_weak {X : Cx} {e : List Keyword} {t t' : TA} (h : PK X e t) (k : ∀ σ H Q, t' σ H Q → t σ H Q) : PK X e t' := ⟨fun p pins s σ H Q I q => h.run p pins s σ H Q I (k σ H Q q)⟩
theorem PS_weak {X : Cx} {e : Stmt} {t t' : TS} (h : PS X e t) (k : ∀ D σ H, t' D σ H → t D σ H) : PS X e t' := ⟨fun pins s σ H D I q => h.run pins s σ H D I (k D σ H q)⟩
theorem PSs_weak {X : Cx} {e : List Stmt} {t t' : TS} (h : PSs X e t) (k : ∀ D σ H, t' D σ H → t D σ H) : PSs X e t' := ⟨fun pins s σ H D I q => h.run pins s σ H D I (k D σ H q)⟩

/-! ### names, constants -/
def fV (i : Nat) : Ev := fun ts g => match ts[i]? with
  | some (some t) => .ok t g
  | _ => .no
def fK (t : T) : Ev := fun _ g => .ok t g
section
variable {c : Cn} {W : WX} {X : Cx}
theorem de_v (i : Nat) {x : Str} {pos : Pos} (hN : X.N[i]? = some x := by rfl) (hv : Vis X.env.scope x := by first | exact Or.inl rfl | exact Or.inr (Or.inl rfl) | exact Or.inr (Or.inr rfl)) (hd : (x == ("__debug__" : Str)) = false := by decide)
    (hcd : (x == ("__classdict__" : Str)) = false := by decide) : PE X (.Name x pos) (tE c W (fV i)) := by
  refine PE_weak (pe_var hN hv hd hcd) fun σ H Q ⟨Ω, g, ts, e, R, S, h⟩ => ?_
  subst e
  unfold fV at h
  split at h
  · rename_i t e
    obtain ⟨v, h1, h2⟩ := S.2 i t e
    exact ⟨v, h1, h Ω v Up.refl R h2⟩
  · exact h.elim
theorem tE_c {t : T} {v : V} (hr : ∀ F ρ, Rep c F ρ t v) {σ : St} {H : Hp} {Q : VK} (h : tE c W (fK t) σ H Q) : tC v σ H Q := by
  obtain ⟨Ω, g, ts, e, R, S, h⟩ := h
  subst e
  exact h Ω v Up.refl R (hr _ _)
theorem de_int {i : Int} {j pos} : PE X (.Constant (.int i) j pos) (tE c W (fK (.int i))) := PE_weak pe_int fun _ _ _ h => tE_c (fun _ _ => .int) h
theorem de_bl {b : Bool} {j pos} : PE X (.Constant (.bool b) j pos) (tE c W (fK (.bl b))) := PE_weak pe_bl fun _ _ _ h => tE_c (fun _ _ => .bl) h
theorem de_non {j pos} : PE X (.Constant .none j pos) (tE c W (fK .non)) := PE_weak pe_non fun _ _ _ h => tE_c (fun _ _ => .non) h
theorem de_str {x : Str} {l : List Nat} {j pos} (hl : x = ⟨l.toArray⟩ := by rfl) : PE X (.Constant (.str x) j pos) (tE c W (fK (.str l))) := by
  subst hl
  exact PE_weak pe_str fun _ _ _ h => tE_c (fun _ _ => .str) h
/-- a module's constant text -/
theorem de_gstr {x : Str} {l : List Nat} {z : Str} {tk : Tok} {pos : Pos} (hm : X.mg x = some (.str z tk)) (hl : z = ⟨l.toArray⟩ := by rfl) (hg : Gl X x := by rfl) (hd : (x == ("__debug__" : Str)) = false := by decide) : PE X (.Name x pos) (tE c W (fK (.str l))) := by
  subst hl
  exact PE_weak (pe_glob (v := .str ⟨l.toArray⟩) hg hm ⟨_, rfl⟩ hd) fun _ _ _ h => tE_c (fun _ _ => .str) h
/-- a def or class as a value -/
theorem de_gst {x : Str} {n : Nat} {pos : Pos} (hm : X.mg x = some (.ref (c.ad n))) (hg : Gl X x := by rfl) (hd : (x == ("__debug__" : Str)) = false := by decide) : PE X (.Name x pos) (tE c W (fK (.stc n))) :=
  PE_weak (pe_glob (v := .ref (c.ad n)) hg hm rfl hd) fun _ _ _ h => tE_c (fun _ _ => .stc) h
/-- a built-in class as a value -/
theorem de_bty {x : Str} {n : String} {pos : Pos} (hm : X.mg x = none) (hv : bootBuiltins x = some (.type n)) (hg : Gl X x := by rfl) (hn : x ≠ "__name__" := by decide) (hd : (x == ("__debug__" : Str)) = false := by decide) : PE X (.Name x pos) (tE c W (fK (.bty n))) :=
  PE_weak (pe_bltn (v := .ty n) hg hm hv rfl hn hd) fun _ _ _ h => tE_c (fun _ _ => .bty) h
end

/-! ### argument lists -/
abbrev Ea := SL → VH → R (List T)
def fNil : Ea := fun _ g => .ok [] g
def fCons (fa : Ev) (fr : Ea) : Ea := fun ts g => (fa ts g).bind fun x g1 => (fr ts g1).bind fun xs g2 => .ok (x :: xs) g2
section
variable {c : Cn} {W : WX} {X : Cx} {e : Expr} {es : List Expr} {fa : Ev} {fr : Ea}
theorem da_nil : PA X [] (tA c W fNil) := PA_weak pa_nil fun σ H Q ⟨Ω, g, ts, e, R, S, h⟩ => by subst e; exact h Ω [] Up.refl R .nil
theorem tCons_of {ta : TE} {tr : TA} (hta : ta = tE c W fa) (htr : tr = tA c W fr) {σ : St} {H : Hp} {Q : List V → Hp → Prop} (h : tA c W (fCons fa fr) σ H Q) : tCons ta tr σ H Q := by
  subst hta; subst htr
  obtain ⟨Ω, g, ts, e, R, S, h⟩ := h
  subst e
  refine ⟨Ω, g, ts, rfl, R, S, (EndG.bind h).mono fun xv H1 ⟨Ω1, g1, x, e1, u1, R1, r1, h1⟩ => ?_⟩
  subst e1
  refine ⟨Ω1, g1, ts, rfl, R1, S.up u1, (EndG.bind h1).mono fun yv H2 ⟨Ω2, g2, y, e2, u2, R2, r2, h2⟩ => ?_⟩
  subst e2
  exact h2 Ω2 _ Up.refl R2 (.cons (r1.up u2) r2)
theorem da_cons (ha : PE X e (tE c W fa)) (hr : PA X es (tA c W fr)) (hs : starEach (e :: es) X.env = (false, eval e X.env) :: starEach es X.env := by rfl) : PA X (e :: es) (tA c W (fCons fa fr)) :=
  PA_weak (pa_cons ha hr hs) fun σ H Q h => tCons_of rfl rfl h
theorem dk_nil : PK X [] (tA c W fNil) := PK_weak pk_nil fun σ H Q ⟨Ω, g, ts, e, R, S, h⟩ => by subst e; exact h Ω [] Up.refl R .nil
theorem dk_cons {kws : List Keyword} {nm : Option Str} {kpos : Pos} (ha : PE X e (tE c W fa)) (hr : PK X kws (tA c W fr)) : PK X (⟨nm, e, kpos⟩ :: kws) (tA c W (fCons fa fr)) :=
  PK_weak (pk_cons ha hr) fun σ H Q h => tCons_of rfl rfl h
end

/-! ### operators by values -/
def OpS (c : Cn) (r : R2) (fo : T → T → VH → R T) : Prop := ∀ (W : WX) (σ : St) (Ω : Ws) (g : VH) (x y : T) (xv yv : V) (Q : VK), Rel c Ω g → RepW c Ω x xv → RepW c Ω y yv → EndG c W σ Ω g (RepW c) Q (fo x y g) → r xv yv Ω.H Q
def UnS (c : Cn) (r : V → Hp → VK → Prop) (fo : T → VH → R T) : Prop := ∀ (W : WX) (σ : St) (Ω : Ws) (g : VH) (x : T) (xv : V) (Q : VK), Rel c Ω g → RepW c Ω x xv → EndG c W σ Ω g (RepW c) Q (fo x g) → r xv Ω.H Q
def CaS (c : Cn) (r : List V → Hp → VK → Prop) (fo : List T → VH → R T) : Prop := ∀ (W : WX) (σ : St) (Ω : Ws) (g : VH) (x : List T) (xv : List V) (Q : VK), Rel c Ω g → RepsW c Ω x xv → EndG c W σ Ω g (RepW c) Q (fo x g) → r xv Ω.H Q
/-- a method: the receiver, the arguments -/
def MeS (c : Cn) (r : V → List V → Hp → VK → Prop) (fo : T → List T → VH → R T) : Prop := ∀ (W : WX) (σ : St) (Ω : Ws) (g : VH) (x : T) (ys : List T) (xv : V) (yv : List V) (Q : VK), Rel c Ω g → RepW c Ω x xv → RepsW c Ω ys yv → EndG c W σ Ω g (RepW c) Q (fo x ys g) → r xv yv Ω.H Q
def fB (fo : T → T → VH → R T) (fa fb : Ev) : Ev := fun ts g => (fa ts g).bind fun x g1 => (fb ts g1).bind fun y g2 => fo x y g2
def fU (fo : T → VH → R T) (fa : Ev) : Ev := fun ts g => (fa ts g).bind fun x g1 => fo x g1
def fA (fo : List T → VH → R T) (fa : Ea) : Ev := fun ts g => (fa ts g).bind fun x g1 => fo x g1
def fM (fo : T → List T → VH → R T) (fa : Ev) (fr : Ea) : Ev := fun ts g => (fa ts g).bind fun x g1 => (fr ts g1).bind fun ys g2 => fo x ys g2
section
variable {c : Cn} {W : WX} {X : Cx} {a b : Expr} {fa fb : Ev} {pos : Pos} {r : R2} {fo : T → T → VH → R T}
theorem tOp_of (hs : OpS c r fo) {σ : St} {H : Hp} {Q : VK} (h : tE c W (fB fo fa fb) σ H Q) : tOp r (tE c W fa) (tE c W fb) σ H Q := by
  obtain ⟨Ω, g, ts, e, R, S, h⟩ := h
  subst e
  refine ⟨Ω, g, ts, rfl, R, S, (EndG.bind h).mono fun xv H1 ⟨Ω1, g1, x, e1, u1, R1, r1, h1⟩ => ?_⟩
  subst e1
  refine ⟨Ω1, g1, ts, rfl, R1, S.up u1, (EndG.bind h1).mono fun yv H2 ⟨Ω2, g2, y, e2, u2, R2, r2, h2⟩ => ?_⟩
  subst e2
  exact hs W σ Ω2 g2 x y xv yv Q R2 (r1.up u2) r2 h2
theorem tUn_of {r : V → Hp → VK → Prop} {fo : T → VH → R T} (hs : UnS c r fo) {σ : St} {H : Hp} {Q : VK} (h : tE c W (fU fo fa) σ H Q) : tUn r (tE c W fa) σ H Q := by
  obtain ⟨Ω, g, ts, e, R, S, h⟩ := h
  subst e
  refine ⟨Ω, g, ts, rfl, R, S, (EndG.bind h).mono fun xv H1 ⟨Ω1, g1, x, e1, u1, R1, r1, h1⟩ => ?_⟩
  subst e1
  exact hs W σ Ω1 g1 x xv Q R1 r1 h1
theorem de_op {op : Operator} (ho : OpR X (binaryOp op) r) (hs : OpS c r fo) (ha : PE X a (tE c W fa)) (hb : PE X b (tE c W fb)) : PE X (.BinOp a op b pos) (tE c W (fB fo fa fb)) :=
  PE_weak (pe_op ho ha hb) fun _ _ _ h => tOp_of hs h
theorem de_un {op : UnaryOp} {r : V → Hp → VK → Prop} {fo : T → VH → R T} (ho : UnR X (unaryOp op) r) (hs : UnS c r fo) (ha : PE X a (tE c W fa)) : PE X (.UnaryOp op a pos) (tE c W (fU fo fa)) :=
  PE_weak (pe_un ho ha) fun _ _ _ h => tUn_of hs h
theorem de_cmp {op : CmpOp} (ho : OpR X (compareOp op) r) (hs : OpS c r fo) (ha : PE X a (tE c W fa)) (hb : PE X b (tE c W fb)) (hm : behindInMarks op b = false := by rfl) : PE X (.Compare a [op] [b] pos) (tE c W (fB fo fa fb)) :=
  PE_weak (pe_cmpR ho ha hb hm) fun _ _ _ h => tOp_of hs h
theorem de_ix (ho : IxR X r) (hs : OpS c r fo) (ha : PE X a (tE c W fa)) (hb : PE X b (tE c W fb)) (hp : PlainIx b := by exact fun _ _ => rfl) : PE X (.Subscript a b pos) (tE c W (fB fo fa fb)) :=
  PE_weak (pe_ix ho ha hb hp) fun _ _ _ h => tOp_of hs h
theorem tCB_of {r : List V → Hp → VK → Prop} {fo : List T → VH → R T} {fr : Ea} (hs : CaS c r fo) {σ : St} {H : Hp} {Q : VK} (h : tE c W (fA fo fr) σ H Q) : tCB r (tA c W fr) σ H Q := by
  obtain ⟨Ω, g, ts, e, R, S, h⟩ := h
  subst e
  refine ⟨Ω, g, ts, rfl, R, S, (EndG.bind h).mono fun xv H1 ⟨Ω1, g1, x, e1, u1, R1, r1, h1⟩ => ?_⟩
  subst e1
  exact hs W σ Ω1 g1 x xv Q R1 r1 h1
/-- f(e, ..), f a built-in function, a built-in class -/
theorem de_cb {x : Str} {p : Pos} {e : Expr} {es : List Expr} {id : String} {r : List V → Hp → VK → Prop} {fo : List T → VH → R T} {fr : Ea} (hc : CallR X (.builtin id) r) (hs : CaS c r fo) (hm : X.mg x = none) (hv : bootBuiltins x = some (.builtin id)) (ha : PA X (e :: es) (tA c W fr))
    (hg : Gl X x := by rfl) (hn : x ≠ "__name__" := by decide) (hdb : (x == ("__debug__" : Str)) = false := by decide) (he : starEach (e :: es) X.env = (false, eval e X.env) :: starEach es X.env := by rfl)
    (hpl : (backTo pos (starEach es X.env)).any (·.1) = false := by rfl) : PE X (.Call (.Name x p) (e :: es) [] pos) (tE c W (fA fo fr)) :=
  PE_weak (pe_callB hc hg hm hv ha hn hdb he hpl) fun _ _ _ h => tCB_of hs h
theorem de_ct {x : Str} {p : Pos} {e : Expr} {es : List Expr} {id : String} {r : List V → Hp → VK → Prop} {fo : List T → VH → R T} {fr : Ea} (hc : CallR X (.type id) r) (hs : CaS c r fo) (hm : X.mg x = none) (hv : bootBuiltins x = some (.type id)) (ha : PA X (e :: es) (tA c W fr))
    (hg : Gl X x := by rfl) (hn : x ≠ "__name__" := by decide) (hdb : (x == ("__debug__" : Str)) = false := by decide) (he : starEach (e :: es) X.env = (false, eval e X.env) :: starEach es X.env := by rfl)
    (hpl : (backTo pos (starEach es X.env)).any (·.1) = false := by rfl) : PE X (.Call (.Name x p) (e :: es) [] pos) (tE c W (fA fo fr)) :=
  PE_weak (pe_callTy hc hg hm hv ha hn hdb he hpl) fun _ _ _ h => tCB_of hs h
end

/-! ### calls of defs -/
def fCall (fn : FN) (ds : List T) (fa : Ea) : Ev := fun ts g => (fa ts g).bind fun xs g1 => fn (xs ++ ds) g1
section
variable {c : Cn} {W : WX} {X : Cx} {k : Nat} {f : Addr} {fd : FuncData} {ps : List Str} {fn : FN} {ds : List Value} {dts : List T} {dvs : List V} {x : Str} {p pos : Pos} {e : Expr} {es : List Expr} {fa : Ea}
theorem EndG.toE {Ω : Ws} {g : VH} {σ : St} {Q : VK} {m : R T} (h : EndG c W σ Ω g (RepW c) Q m) : EndG c (fun cls d _ H => WE W σ cls d H) [] Ω g (RepW c) Q m := by
  cases m with
  | ok a g' => exact h
  | ex x g' => exact h
  | no => exact h
/-- constants among the defaults -/
def DsOk (c : Cn) (dts : List T) (dvs : List V) : Prop := ∀ F ρ, Reps c F ρ dts dvs
theorem tCall_of (hds : DsOk c dts dvs) {σ : St} {H : Hp} {Q : VK} (h : tE c W (fCall fn dts fa) σ H Q) : tCallSD (spF c fn) dvs (fun σ => WE W σ) (tA c W fa) σ H Q := by
  obtain ⟨Ω, g, ts, e, R, S, h⟩ := h
  subst e
  refine ⟨Ω, g, ts, rfl, R, S, (EndG.bind h).mono fun vs H1 ⟨Ω1, g1, xs, e1, u1, R1, r1, h1⟩ => ?_⟩
  subst e1
  exact ⟨Ω1, g1, xs ++ dts, rfl, R1, r1.app (hds Ω1.F Ω1.ρ), EndG.toE h1⟩
theorem de_call (F : FnOk X.prog X.w X.K X.mg X.base (L2.CX X.prog X.w) k f fd ps (spF c fn)) (hr : Room k X.A) (hm : X.mg x = some (.ref f)) (hk : PySem.W.keepIn X.K (.ref f) = true) (hb : Binds X.K fd ps ds) (hd : Vals dvs ds) (hds : DsOk c dts dvs) (tk : Takes X W)
    (ha : PA X (e :: es) (tA c W fa)) (hg : Gl X x := by rfl) (hdb : (x == ("__debug__" : Str)) = false := by decide) (he : starEach (e :: es) X.env = (false, eval e X.env) :: starEach es X.env := by rfl) (hpl : (backTo pos (starEach es X.env)).any (·.1) = false := by rfl) :
    PE X (.Call (.Name x p) (e :: es) [] pos) (tE c W (fCall fn dts fa)) :=
  PE_weak (pe_callSD F hr hg hm hk hb hd (fun σ => passAt tk σ) ha hdb he hpl) fun _ _ _ h => tCall_of hds h
end
end Zz
set_option Elab.async false
set_option linter.all false
set_option maxRecDepth 100000
set_option maxHeartbeats 4000000
/-! Zz 2: freezing, closed values, defs by their bodies; tests; statements -/
namespace Zz
open PySem PySem.Spec PyProof.Rows L2

/-! ### values that hold no live object of the regions from n on -/
mutual
def T.low (n : Nat) : T → Bool
  | .ref r _ => decide (r < n)
  | .tup l => T.lows n l
  | .lst l => T.lows n l
  | .rol l => T.lows n l
  | .dct _ l => T.lows n l
  | .obj _ _ l => T.lows n l
  | .non => true
  | .bl _ => true
  | .int _ => true
  | .str _ => true
  | .stc _ => true
  | .fnv _ => true
  | .bty _ => true
def T.lows (n : Nat) : List T → Bool
  | [] => true
  | t :: ts => t.low n && T.lows n ts
end
section
variable {c : Cn} {F : Hp} {ρ ρ' : List (List Addr)} {n : Nat}
theorem Rep.low (hρ : ∀ r i a, r < n → at2 ρ r i = some a → at2 ρ' r i = some a) {t : T} {v : V} (h : Rep c F ρ t v) : t.low n = true → Rep c F ρ' t v :=
  Rep.rec (motive_1 := fun t v _ => t.low n = true → Rep c F ρ' t v) (motive_2 := fun ts vs _ => T.lows n ts = true → Reps c F ρ' ts vs)
    (fun _ => .non) (fun _ => .bl) (fun _ => .int) (fun _ => .str) (fun h b => .ref (hρ _ _ _ (of_decide_eq_true (by unfold T.low at b; exact b)) h)) (fun _ => .stc) (fun h k _ => .fnv h k) (fun _ => .bty)
    (fun h _ r b => .tup h (r (by unfold T.low at b; exact b))) (fun h _ r b => .lst h (r (by unfold T.low at b; exact b))) (fun h _ r b => .rol h (r (by unfold T.low at b; exact b)))
    (fun h e _ r b => .dct h e (r (by unfold T.low at b; exact b))) (fun h e _ r b => .obj h e (r (by unfold T.low at b; exact b))) (fun _ => .nil)
    (fun _ _ a b h => .cons (a (by unfold T.lows at h; exact (Bool.and_eq_true_iff.mp h).1)) (b (by unfold T.lows at h; exact (Bool.and_eq_true_iff.mp h).2))) h
theorem Reps.low (hρ : ∀ r i a, r < n → at2 ρ r i = some a → at2 ρ' r i = some a) {ts : List T} {vs : List V} (h : Reps c F ρ ts vs) (b : T.lows n ts = true) : Reps c F ρ' ts vs := by
  induction ts generalizing vs with
  | nil => cases h; exact .nil
  | cons t ts ih =>
    cases h with
    | cons x y =>
      unfold T.lows at b
      obtain ⟨b1, b2⟩ := Bool.and_eq_true_iff.mp b
      exact .cons (x.low hρ b1) (ih y b2)
end

/-! ### freezing -/
def fzL (f : T → VH → Option (T × VH)) : List T → VH → Option (List T × VH)
  | [], g => some ([], g)
  | t :: ts, g => match f t g with
    | none => none
    | some (t', g1) => match fzL f ts g1 with
      | none => none
      | some (ts', g2) => some (t' :: ts', g2)
def fz (lv : Nat) : Nat → T → VH → Option (T × VH)
  | 0, _, _ => none
  | n + 1, t, g => match t with
    | .ref r i => if r < lv then some (.ref r i, g) else match at2 g r i with
      | some (some (.lst l)) => match fzL (fz lv n) l (set2 g r i none) with
        | none => none
        | some (l', g') => some (.lst l', g')
      | some (some (.dct ks l)) => match fzL (fz lv n) l (set2 g r i none) with
        | none => none
        | some (l', g') => some (.dct ks l', g')
      | some (some (.ins k fs l)) => match fzL (fz lv n) l (set2 g r i none) with
        | none => none
        | some (l', g') => some (.obj k fs l', g')
      | _ => none
    | .tup l => match fzL (fz lv n) l g with
      | none => none
      | some (l', g') => some (.tup l', g')
    | .lst l => match fzL (fz lv n) l g with
      | none => none
      | some (l', g') => some (.lst l', g')
    | .dct ks l => match fzL (fz lv n) l g with
      | none => none
      | some (l', g') => some (.dct ks l', g')
    | .obj k fs l => match fzL (fz lv n) l g with
      | none => none
      | some (l', g') => some (.obj k fs l', g')
    | .rol l => some (.rol l, g)
    | .non => some (.non, g)
    | .bl b => some (.bl b, g)
    | .int b => some (.int b, g)
    | .str b => some (.str b, g)
    | .stc b => some (.stc b, g)
    | .fnv b => some (.fnv b, g)
    | .bty b => some (.bty b, g)
def FzOk (c : Cn) (f : T → VH → Option (T × VH)) : Prop := ∀ t g t' g' Ω v P, Rel c Ω g → RepW c Ω t v → f t g = some (t', g') → (∀ Ω', Up g Ω g' Ω' → Rel c Ω' g' → RepW c Ω' t' v → Lks P Ω'.H) → Lks P Ω.H
theorem fzL_ok {c : Cn} {f : T → VH → Option (T × VH)} (hf : FzOk c f) : ∀ ts g ts' g' Ω vs P, Rel c Ω g → RepsW c Ω ts vs → fzL f ts g = some (ts', g') → (∀ Ω', Up g Ω g' Ω' → Rel c Ω' g' → RepsW c Ω' ts' vs → Lks P Ω'.H) → Lks P Ω.H := by
  intro ts
  induction ts with
  | nil =>
    intro g ts' g' Ω vs P R r e k
    cases r
    unfold fzL at e
    cases e
    exact k Ω Up.refl R .nil
  | cons t ts ih =>
    intro g ts' g' Ω vs P R r e k
    cases r with
    | cons a b =>
      unfold fzL at e
      cases q : f t g with
      | none => rw [q] at e; cases e
      | some p =>
        obtain ⟨t1, g1⟩ := p
        rw [q] at e
        simp only at e
        cases q2 : fzL f ts g1 with
        | none => rw [q2] at e; cases e
        | some p2 =>
          obtain ⟨ts1, g2⟩ := p2
          rw [q2] at e
          cases e
          refine hf t g t1 g1 Ω _ P R a q fun Ω1 u1 R1 r1 => ?_
          refine ih g1 ts1 _ Ω1 _ P R1 (b.up u1) q2 fun Ω2 u2 R2 r2 => ?_
          exact k Ω2 (u1.trans u2) R2 (.cons (r1.up u2) r2)
theorem fz_ok (c : Cn) (lv : Nat) : ∀ n, FzOk c (fz lv n) := by
  intro n
  induction n with
  | zero => intro t g t' g' Ω v P R r e k; unfold fz at e; cases e
  | succ n ih =>
    have L := fzL_ok ih
    intro t g t' g' Ω v P R r e k
    unfold fz at e
    cases t with
    | ref r0 i =>
      simp only at e
      split at e
      · cases e; exact k Ω Up.refl R r
      · cases r with
        | ref ha =>
          rename_i a
          split at e
          · rename_i l hl
            split at e
            · cases e
            · rename_i l' g1 q
              cases e
              obtain ⟨a', ho, h1, h2, h3, h4⟩ := R.live _ _ _ hl
              rw [ha] at h1; cases h1
              cases h4 with
              | lst rs =>
                rename_i vs
                obtain ⟨R1, u1⟩ := R.freeze (.lst vs) hl ha
                have key : Lks P (upd Ω.H a (.lst vs)) := by
                  refine L l _ l' _ _ vs P R1 (rs.up u1) q fun Ω2 u2 R2 r2 => k Ω2 (u1.trans u2) R2 (.lst (u2.F _ _ upd_same) r2)
                rw [upd_id h2] at key
                exact key
          · rename_i ks l hl
            split at e
            · cases e
            · rename_i l' g1 q
              cases e
              obtain ⟨a', ho, h1, h2, h3, h4⟩ := R.live _ _ _ hl
              rw [ha] at h1; cases h1
              cases h4 with
              | dct ek rs =>
                rename_i kvs
                refine .lock h2 trivial fun od => ?_
                obtain ⟨R1, u1⟩ := R.freeze (.frz od (.dK kvs)) hl ha
                exact L l _ l' _ _ _ P R1 (rs.up u1) q fun Ω2 u2 R2 r2 => k Ω2 (u1.trans u2) R2 (.dct (u2.F _ _ upd_same) ek r2)
          · rename_i kc fs l hl
            split at e
            · cases e
            · rename_i l' g1 q
              cases e
              obtain ⟨a', ho, h1, h2, h3, h4⟩ := R.live _ _ _ hl
              rw [ha] at h1; cases h1
              cases h4 with
              | ins ek rs =>
                rename_i dx fs'
                obtain ⟨R1, u1⟩ := R.freeze (.ins (c.ad kc) dx fs') hl ha
                have key : Lks P (upd Ω.H a (.ins (c.ad kc) dx fs')) := by
                  exact L l _ l' _ _ _ P R1 (rs.up u1) q fun Ω2 u2 R2 r2 => k Ω2 (u1.trans u2) R2 (.obj (u2.F _ _ upd_same) ek r2)
                rw [upd_id h2] at key
                exact key
          · cases e
    | tup l =>
      simp only at e
      split at e
      · cases e
      · rename_i l' g1 q
        cases e
        cases r with
        | tup h rs => exact L l _ l' _ _ _ P R rs q fun Ω2 u2 R2 r2 => k Ω2 u2 R2 (.tup (u2.F _ _ h) r2)
    | lst l =>
      simp only at e
      split at e
      · cases e
      · rename_i l' g1 q
        cases e
        cases r with
        | lst h rs => exact L l _ l' _ _ _ P R rs q fun Ω2 u2 R2 r2 => k Ω2 u2 R2 (.lst (u2.F _ _ h) r2)
    | dct ks l =>
      simp only at e
      split at e
      · cases e
      · rename_i l' g1 q
        cases e
        cases r with
        | dct h ek rs => exact L l _ l' _ _ _ P R rs q fun Ω2 u2 R2 r2 => k Ω2 u2 R2 (.dct (u2.F _ _ h) ek r2)
    | obj kc fs l =>
      simp only at e
      split at e
      · cases e
      · rename_i l' g1 q
        cases e
        cases r with
        | obj h ek rs => exact L l _ l' _ _ _ P R rs q fun Ω2 u2 R2 r2 => k Ω2 u2 R2 (.obj (u2.F _ _ h) ek r2)
    | _ => cases e; exact k Ω Up.refl R r

/-! ### defs -/
def rets (n : Nat) (f : Ss) (ts : List T) (g : VH) : R T := match f (ts.map some ++ List.replicate (n - ts.length) none) g with
  | .nx _ g' => .ok .non g'
  | .rt t g' => .ok t g'
  | .ex x _ g' => .ex x g'
  | _ => .no
/-- the result of a pure def: frozen; nothing of its own region is left -/
def finP (lv : Nat) (bk : VH → Option VH) (m : R T) : R T := match m with
  | .ok t g1 => match fz lv 60 t g1 with
    | some (t', g2) => match bk g2 with
      | some g3 => if t'.low lv then .ok t' g3 else .no
      | none => .no
    | none => .no
  | .ex x g1 => match x.v with
    | none => match bk g1 with
      | some g3 => .ex x g3
      | none => .no
    | some t => match fz lv 60 t g1 with
      | some (t', g2) => match bk g2 with
        | some g3 => if t'.low lv then .ex ⟨x.c, some t'⟩ g3 else .no
        | none => .no
      | none => .no
  | .no => .no
def bkC (g : VH) : VH → Option VH := fun _ => some g
def C.low (n : Nat) : C → Bool
  | .lst l => T.lows n l
  | .dct _ l => T.lows n l
  | .ins _ _ l => T.lows n l
def bkO (g : VH) : VH → Option VH := fun g2 => if g2.length = g.length + 1 then
  (if (g2.take g.length).all (fun t => t.all fun x => match x with | some y => y.low g.length | none => true) then some (g2.take g.length) else none) else none
theorem RepC.low {c : Cn} {F : Hp} {ρ ρ' : List (List Addr)} {n : Nat} (hρ : ∀ r i a, r < n → at2 ρ r i = some a → at2 ρ' r i = some a) {x : C} {o : HO} (h : RepC c F ρ x o) (b : x.low n = true) : RepC c F ρ' x o := by
  cases h with
  | lst r => exact .lst (r.low hρ b)
  | dct e r => exact .dct e (r.low hρ b)
  | ins e r => exact .ins e (r.low hρ b)
/-- m parameters, n slots: what it makes lies in the caller's region -/
def fnI (m n : Nat) (f : Ss) : FN := fun ts g => if ts.length = m then rets n f ts g else .no
/-- .. in a region of its own, forgotten behind; where the arguments hold nothing live, from no region -/
def fnP (m n : Nat) (f : Ss) : FN := fun ts g => if ts.length = m then
    (if T.lows 0 ts then finP 0 (bkC g) (rets n f ts [[]]) else finP g.length (bkO g) (rets n f ts (g ++ [[]])))
  else .no
section
variable {c : Cn} {Ω Ω2 : Ws} {g g2 : VH}
theorem at2_app {α : Type} (l : List (List α)) (r i : Nat) : at2 (l ++ [[]]) r i = at2 l r i := by
  unfold at2
  by_cases h : r < l.length
  · rw [List.getElem?_append_left h]
  · rw [List.getElem?_eq_none (show l.length ≤ r by omega)]
    by_cases h2 : r = l.length
    · subst h2; simp
    · rw [List.getElem?_eq_none (by simp; omega)]
theorem at2_take {α : Type} (l : List (List α)) (n r i : Nat) : at2 (l.take n) r i = if r < n then at2 l r i else none := by
  unfold at2
  by_cases h : r < n
  · rw [if_pos h, List.getElem?_take_of_lt h]
  · rw [if_neg h, List.getElem?_eq_none (by simp; omega)]; rfl
theorem NL_nil {ρ : List (List Addr)} {b : Addr} : NL [[]] ρ b := fun r i x h => by
  rw [show at2 ([[]] : VH) r i = none from at2_app [] r i] at h
  cases h
theorem Rel.closed (R : Rel c Ω g) : Rel c ⟨Ω.F, [[]], Ω.H⟩ [[]] := by
  have z : ∀ {r i : Nat} {x : Option C}, at2 ([[]] : VH) r i ≠ some x := fun {r i x} h => by
    rw [show at2 ([[]] : VH) r i = none from at2_app [] r i] at h; cases h
  exact ⟨R.sub, rfl, fun r i x h => absurd h z, fun r i x r' i' x' a h => absurd h z, R.tab, R.nt⟩
theorem Rel.uncl (R : Rel c Ω g) (U : Up [[]] ⟨Ω.F, [[]], Ω.H⟩ g2 Ω2) (R2 : Rel c Ω2 g2) : Rel c ⟨Ω2.F, Ω.ρ, Ω2.H⟩ g ∧ Up g Ω g ⟨Ω2.F, Ω.ρ, Ω2.H⟩ := by
  refine ⟨⟨R2.sub, R.shape, fun r i x h => ?_, R.inj, R2.tab, R2.nt⟩, ⟨U.F, fun _ _ _ h => h, fun b o h n k => ⟨(U.fr b o h n NL_nil).1, k⟩, fun b o h n k z => U.nu b o h n NL_nil z⟩⟩
  obtain ⟨a, ho, h1, h2, h3, h4⟩ := R.live r i x h
  exact ⟨a, ho, h1, (U.fr a ho h2 h4.pln.1 NL_nil).1, U.nu a ho h2 h4.pln NL_nil h3, h4.mono U.F fun _ _ _ h => h⟩
theorem Rel.opened (R : Rel c Ω g) : Rel c ⟨Ω.F, Ω.ρ ++ [[]], Ω.H⟩ (g ++ [[]]) ∧ Up g Ω (g ++ [[]]) ⟨Ω.F, Ω.ρ ++ [[]], Ω.H⟩ := by
  have hE : Ext2 Ω.ρ (Ω.ρ ++ [[]]) := fun r i a h => by rw [at2_app]; exact h
  refine ⟨⟨R.sub, ?_, fun r i x h => ?_, fun r i x r' i' x' a h1 h2 h3 h4 => ?_, R.tab, R.nt⟩, ⟨fun _ _ h => h, hE, fun b o h _ k => ⟨h, fun r i x h' => ?_⟩, fun _ _ _ _ _ z => z⟩⟩
  · show (Ω.ρ ++ [[]]).map _ = _
    rw [List.map_append, List.map_append, R.shape]; rfl
  · rw [at2_app] at h
    obtain ⟨a, ho, h1, h2, h3, h4⟩ := R.live r i x h
    exact ⟨a, ho, by show at2 (Ω.ρ ++ [[]]) r i = _; rw [at2_app]; exact h1, h2, h3, h4.mono (fun _ _ h => h) hE⟩
  · rw [at2_app] at h1 h2
    have h3' : at2 (Ω.ρ ++ [[]]) r i = some a := h3
    have h4' : at2 (Ω.ρ ++ [[]]) r' i' = some a := h4
    rw [at2_app] at h3' h4'
    exact R.inj r i x r' i' x' a h1 h2 h3' h4'
  · rw [at2_app] at h'
    show at2 (Ω.ρ ++ [[]]) r i ≠ _
    rw [at2_app]
    exact k r i x h'
theorem Rel.popped (R : Rel c Ω g) (U : Up g Ω g2 Ω2) (R2 : Rel c Ω2 g2) (hl : g2.length = g.length + 1)
    (hc : ∀ r i x, at2 g2 r i = some (some x) → r < g.length → x.low g.length = true) :
    Rel c ⟨Ω2.F, Ω2.ρ.take g.length, Ω2.H⟩ (g2.take g.length) ∧ Up g Ω (g2.take g.length) ⟨Ω2.F, Ω2.ρ.take g.length, Ω2.H⟩ := by
  have lift : ∀ {r i : Nat} {x : C}, at2 (g2.take g.length) r i = some (some x) → r < g.length ∧ at2 g2 r i = some (some x) := fun {r i x} h => by
    rw [at2_take] at h
    split at h
    · rename_i z; exact ⟨z, h⟩
    · cases h
  have liftρ : ∀ {r i : Nat} {a : Addr}, at2 (Ω2.ρ.take g.length) r i = some a → at2 Ω2.ρ r i = some a := fun {r i a} h => by
    rw [at2_take] at h
    split at h
    · exact h
    · cases h
  refine ⟨⟨R2.sub, ?_, fun r i x h => ?_, fun r i x r' i' x' a h1 h2 h3 h4 => R2.inj r i x r' i' x' a (lift h1).2 (lift h2).2 (liftρ h3) (liftρ h4), R2.tab, R2.nt⟩, ⟨U.F, fun r i a h => ?_, fun b o h n k => ⟨(U.fr b o h n k).1, fun r i x h' h3 => ?_⟩, U.nu⟩⟩
  · show (Ω2.ρ.take _).map _ = _
    rw [List.map_take, List.map_take, R2.shape]
  · obtain ⟨hr, h⟩ := lift h
    obtain ⟨a, ho, h1, h2, h3, h4⟩ := R2.live r i x h
    refine ⟨a, ho, ?_, h2, h3, h4.low (fun r i a hr e => by rw [at2_take, if_pos hr]; exact e) (hc r i x h hr)⟩
    show at2 (Ω2.ρ.take _) r i = _
    rw [at2_take, if_pos hr]; exact h1
  · show at2 (Ω2.ρ.take _) r i = _
    have hr : r < g.length := by
      obtain ⟨y, hy⟩ := shape_some R.shape h
      unfold at2 at hy
      cases q : g[r]? with
      | none => rw [q] at hy; simp at hy
      | some t => exact (List.getElem?_eq_some_iff.mp q).1
    rw [at2_take, if_pos hr]
    exact U.ρ r i a h
  · obtain ⟨hr, h'⟩ := lift h'
    exact (U.fr b o h n k).2 r i x h' (liftρ h3)
end

/-! ### the body's promise gives the def's -/
theorem Reps.atStart {c : Cn} {Ω : Ws} {ts : List T} {vs : List V} {N : List Str} {n : Nat} (hn : N.length = n) (r : RepsW c Ω ts vs) : RepS c Ω (ts.map some ++ List.replicate (n - ts.length) none) (L2.start N vs) := by
  subst hn
  unfold L2.start
  refine ⟨by simp [r.len], fun i t e => ?_⟩
  by_cases h : i < ts.length
  · rw [List.getElem?_append_left (by simpa using h), List.getElem?_map] at e
    cases q : ts[i]? with
    | none => rw [q] at e; cases e
    | some u =>
      rw [q] at e
      cases e
      obtain ⟨v, h1, h2⟩ := r.get q
      refine ⟨v, ?_, h2⟩
      have hv : i < vs.length := by rw [← r.len]; exact h
      rw [List.getElem?_append_left (by simpa using hv), List.getElem?_map, h1]; rfl
  · rw [List.getElem?_append_right (by simp; omega), List.getElem?_replicate] at e
    split at e <;> cases e
/-- an exception's wish behind locks -/
abbrev WL (E : XK) : WX := fun cls d _ H => Lks (E cls d) H
theorem Takes.lk {X : Cx} {E : XK} (tk : Takes X (fun cls d _ H => E cls d H)) : Takes X (WL E) := fun u s' ⟨a, B, sI, pins, σ, H, cls, d, e, I, nb, up, sky, na, os, ag, w⟩ => by
  obtain ⟨H', I', q, k⟩ := w.run I
  exact tk u s' ⟨a, B, sI, pins, σ, H', cls, d, e, I', nb, up, sky, k a na, os, ag, q⟩
theorem PSs_lk {X : Cx} {st : List Stmt} {t : TS} (h : PSs X st t) : PSs X st (fun D σ H => t { nx := fun σ H => Lks (D.nx σ) H, rt := fun v H => Lks (D.rt v) H, bk := D.bk, ct := D.ct } σ H) := by
  refine ⟨fun pins s σ H D I q => thn (h.run pins s σ H _ I q) fun f s1 z => ?_⟩
  cases f with
  | next =>
    obtain ⟨σ', H', I', q⟩ := z
    obtain ⟨H2, I2, q2, _⟩ := q.run I'
    exact ⟨σ', H2, I2, q2⟩
  | ret u =>
    obtain ⟨v, σ', H', I', r, q⟩ := z
    obtain ⟨H2, I2, q2, _⟩ := q.run I'
    exact ⟨v, σ', H2, I2, r, q2⟩
  | brk => exact z
  | cont => exact z
/-- freezing an exception's value -/
theorem finP_ok {c : Cn} {lv : Nat} {bk : VH → Option VH} {Ω0 Ω : Ws} {g0 g : VH} {Q : VK} {E : XK} {r : RS} {m : R T}
    (hb : ∀ g2 Ω2 g3, Up g0 Ω0 g2 Ω2 → Rel c Ω2 g2 → bk g2 = some g3 → ∃ Ω3, Ω3.H = Ω2.H ∧ Ω3.F = Ω2.F ∧ Rel c Ω3 g3 ∧ Up g Ω g3 Ω3 ∧ ∀ t v, t.low lv = true → RepW c Ω2 t v → RepW c Ω3 t v)
    (hm : m = (match r with | .nx _ g' => .ok .non g' | .rt t g' => .ok t g' | .ex x _ g' => .ex x g' | _ => .no))
    (h : EndG c (fun cls d _ H => E cls d H) [] Ω g (RepW c) Q (finP lv bk m)) :
    EndS c (WL E) Ω0 g0 { nx := fun _ H => Lks (Q .non) H, rt := fun v H => Lks (Q v) H } r := by
  have main : ∀ t g1 Ω1 v, m = .ok t g1 → Up g0 Ω0 g1 Ω1 → Rel c Ω1 g1 → RepW c Ω1 t v → Lks (Q v) Ω1.H := fun t g1 Ω1 v em u1 R1 r1 => by
    rw [em] at h
    unfold finP at h
    simp only at h
    split at h
    · rename_i t' g2 q
      split at h
      · rename_i g3 q3
        split at h
        · rename_i hl
          refine fz_ok c lv 60 t g1 t' g2 Ω1 v (Q v) R1 r1 q fun Ω2 u2 R2 r2 => ?_
          obtain ⟨Ω3, e1, e2, R3, u3, k⟩ := hb g2 Ω2 g3 (u1.trans u2) R2 q3
          refine .nil ?_
          rw [← e1]
          exact h Ω3 v u3 R3 (k t' v hl r2)
        · exact h.elim
      · exact h.elim
    · exact h.elim
  cases r with
  | nx ts g' => exact fun Ω' σ' u R _ => main .non g' Ω' .non hm u R .non
  | rt t g' => exact fun Ω' v u R r => main t g' Ω' v hm u R r
  | bk ts g' => rw [hm] at h; exact h.elim
  | ct ts g' => rw [hm] at h; exact h.elim
  | no => rw [hm] at h; exact h
  | ex x ts g' =>
    intro Ω1 d σ' u1 R1 xr _
    rw [hm] at h
    unfold finP at h
    obtain ⟨xc, xv⟩ := x
    cases xv with
    | none =>
      simp only at h
      split at h
      · rename_i g3 q3
        obtain ⟨Ω3, e1, e2, R3, u3, k⟩ := hb g' Ω1 g3 u1 R1 q3
        refine .nil ?_
        rw [← e1]
        exact h Ω3 d u3 R3 xr
      · exact h.elim
    | some t =>
      simp only at h
      split at h
      · rename_i t' g2 q
        split at h
        · rename_i g3 q3
          split at h
          · rename_i hl
            obtain ⟨a, w, ed, ea, rw'⟩ := xr
            refine fz_ok c lv 60 t g' t' g2 Ω1 w _ R1 rw' q fun Ω2 u2 R2 r2 => ?_
            obtain ⟨Ω3, e1, e2, R3, u3, k⟩ := hb g2 Ω2 g3 (u1.trans u2) R2 q3
            refine .nil ?_
            rw [← e1]
            refine h Ω3 d u3 R3 ⟨a, w, ed, ?_, k t' w hl r2⟩
            rw [e2]
            exact u2.F _ _ ea
          · exact h.elim
        · exact h.elim
      · exact h.elim
theorem EndS_of_rets {c : Cn} {Ω : Ws} {g : VH} {Q : VK} {E : XK} {r : RS} {m : R T} (hm : m = (match r with | .nx _ g' => .ok .non g' | .rt t g' => .ok t g' | .ex x _ g' => .ex x g' | _ => .no))
    (h : EndG c (fun cls d _ H => E cls d H) [] Ω g (RepW c) Q m) : EndS c (WL E) Ω g { nx := fun _ H => Lks (Q .non) H, rt := fun v H => Lks (Q v) H } r := by
  subst hm
  cases r with
  | nx ts g' => exact fun Ω' σ' u R _ => .nil (h Ω' .non u R .non)
  | rt t g' => exact fun Ω' v u R r => .nil (h Ω' v u R r)
  | bk ts g' => exact h.elim
  | ct ts g' => exact h.elim
  | no => exact h
  | ex x ts g' => exact fun Ω' d σ' u R r _ => .nil (h Ω' d u R r)
section
variable {P : Program} {w : World} {mg : Str → Option Value} {base : Heap} {c : Cn} {x qual : Str} {st : Stmt} {f : Addr} {fd : FuncData} {N ps : List Str} {k m n : Nat} {fb : Ss}
/-- a body's derivation, for every entry -/
def BodyOk (P : Program) (w : World) (K : PySem.W.Frag) (mg : Str → Option Value) (base : Heap) (c : Cn) (k : Nat) (N : List Str) (qual : Str) (st : Stmt) (f : Addr) (fb : Ss) : Prop :=
  ∀ (cdv : Value) (A : Around) (outer : List Env) (s : Shared) (H : Hp) (E : XK), Room k (A.deeper (envOfC qual (defScope st) s.heap.objs.size f cdv)) →
    Takes (cxOf (L2.CX P w) P w K mg base N qual (defScope st) f cdv A outer s H E) (WL E) → PassesOwn (model P w) (A.deeper (envOfC qual (defScope st) s.heap.objs.size f cdv)) (envOfC qual (defScope st) s.heap.objs.size f cdv) (cxOf (L2.CX P w) P w K mg base N qual (defScope st) f cdv A outer s H E).xe →
    PSs (cxOf (L2.CX P w) P w K mg base N qual (defScope st) f cdv A outer s H E) (defBody st) (tS c (WL E) fb)
theorem len_of {fn : FN} (hf : ∀ ts g, ts.length ≠ m → fn ts g = .no) (hp : ps.length = m) : ∀ vs H Q E, spF c fn vs H Q E → vs.length = ps.length := fun vs H Q E ⟨Ω, g, ts, e, R, r, h⟩ => by
  by_cases z : ts.length = m
  · rw [← r.len, z, hp]
  · rw [hf ts g z] at h; exact h.elim
theorem def_of {fn : FN} (F : Fun c.K x qual st f fd) (S : FnScope N ps (defScope st)) (hp : ps.length = m) (hf : ∀ ts g, ts.length ≠ m → fn ts g = .no)
    (hq : ∀ (Ω : Ws) (g : VH) (ts : List T) (vs : List V) (Q : VK) (E : XK), Rel c Ω g → RepsW c Ω ts vs → EndG c (fun cls d _ H => E cls d H) [] Ω g (RepW c) Q (fn ts g) →
      tS c (WL E) fb { nx := fun _ H => Lks (Q .non) H, rt := fun v H => Lks (Q v) H } (start N vs) Ω.H)
    (B : BodyOk P w c.K mg base c k N qual st f fb) : FnOk P w c.K mg base (L2.CX P w) (k + 1) f fd ps (spF c fn) := by
  refine F.okX S (len_of hf hp) fun cdv A outer s H vs Q E hr h => ?_
  obtain ⟨Ω, g, ts, e, R, r, h⟩ := h
  subst e
  have tk : Takes (cxOf (L2.CX P w) P w c.K mg base N qual (defScope st) f cdv A outer s Ω.H E) (fun cls d _ H => E cls d H) := takes_of rfl rfl rfl rfl
  have po := passes_of (X := cxOf (L2.CX P w) P w c.K mg base N qual (defScope st) f cdv A outer s Ω.H E) rfl
  exact ⟨_, PSs_lk (B cdv A outer s Ω.H E hr (Takes.lk tk) po), hq Ω g ts vs Q E R r h⟩
theorem fnP_hq {Ω : Ws} {g : VH} {ts : List T} {vs : List V} {Q : VK} {E : XK} (hN : N.length = n) (R : Rel c Ω g) (r : RepsW c Ω ts vs) (h : EndG c (fun cls d _ H => E cls d H) [] Ω g (RepW c) Q (fnP m n fb ts g)) :
    tS c (WL E) fb { nx := fun _ H => Lks (Q .non) H, rt := fun v H => Lks (Q v) H } (start N vs) Ω.H := by
  by_cases z : ts.length = m
  · unfold fnP at h
    rw [if_pos z] at h
    split at h
    · rename_i hl
      refine ⟨⟨Ω.F, [[]], Ω.H⟩, [[]], ts.map some ++ List.replicate (n - ts.length) none, rfl, R.closed, Reps.atStart (Ω := ⟨Ω.F, [[]], Ω.H⟩) hN (r.low (fun r i a hr => absurd hr (Nat.not_lt_zero _)) hl), ?_⟩
      refine finP_ok (lv := 0) (bk := bkC g) (fun g2 Ω2 g3 U R2 e => ?_) rfl h
      unfold bkC at e
      cases e
      obtain ⟨R3, u3⟩ := R.uncl U R2
      exact ⟨⟨Ω2.F, Ω.ρ, Ω2.H⟩, rfl, rfl, R3, u3, fun t v ht hr => hr.low (fun r i a hr => absurd hr (Nat.not_lt_zero _)) ht⟩
    · obtain ⟨R1, u1⟩ := R.opened
      refine ⟨⟨Ω.F, Ω.ρ ++ [[]], Ω.H⟩, g ++ [[]], ts.map some ++ List.replicate (n - ts.length) none, rfl, R1, Reps.atStart (Ω := ⟨Ω.F, Ω.ρ ++ [[]], Ω.H⟩) hN (r.up u1), ?_⟩
      refine finP_ok (lv := g.length) (bk := bkO g) (fun g2 Ω2 g3 U R2 e => ?_) rfl h
      unfold bkO at e
      split at e
      · rename_i hl
        split at e
        · rename_i ha
          cases e
          obtain ⟨R3, u3⟩ := R.popped (u1.trans U) R2 hl fun r i y hy hr => by
            rw [List.all_eq_true] at ha
            unfold at2 at hy
            cases q : g2[r]? with
            | none => rw [q] at hy; simp at hy
            | some t =>
              rw [q] at hy
              have hm : t ∈ g2.take g.length := List.mem_of_getElem? (i := r) (by rw [List.getElem?_take_of_lt hr]; exact q)
              have := ha t hm
              rw [List.all_eq_true] at this
              exact this (some y) (List.mem_of_getElem? (i := i) (by simpa using hy))
          exact ⟨⟨Ω2.F, Ω2.ρ.take g.length, Ω2.H⟩, rfl, rfl, R3, u3, fun t v ht hr => hr.low (fun r i a hr e => by rw [at2_take, if_pos hr]; exact e) ht⟩
        · cases e
      · cases e
  · rw [show fnP m n fb ts g = .no from if_neg z] at h
    exact h.elim
theorem fnI_hq {Ω : Ws} {g : VH} {ts : List T} {vs : List V} {Q : VK} {E : XK} (hN : N.length = n) (R : Rel c Ω g) (r : RepsW c Ω ts vs) (h : EndG c (fun cls d _ H => E cls d H) [] Ω g (RepW c) Q (fnI m n fb ts g)) :
    tS c (WL E) fb { nx := fun _ H => Lks (Q .non) H, rt := fun v H => Lks (Q v) H } (start N vs) Ω.H := by
  by_cases z : ts.length = m
  · unfold fnI at h
    rw [if_pos z] at h
    exact ⟨Ω, g, _, rfl, R, Reps.atStart hN r, EndS_of_rets rfl h⟩
  · rw [show fnI m n fb ts g = .no from if_neg z] at h
    exact h.elim
theorem def_ok (F : Fun c.K x qual st f fd) (S : FnScope N ps (defScope st)) (B : BodyOk P w c.K mg base c k N qual st f fb) (hp : ps.length = m := by rfl) (hN : N.length = n := by rfl) :
    FnOk P w c.K mg base (L2.CX P w) (k + 1) f fd ps (spF c (fnP m n fb)) :=
  def_of F S hp (fun ts g z => if_neg z) (fun Ω g ts vs Q E R r h => fnP_hq hN R r h) B
theorem def_okI (F : Fun c.K x qual st f fd) (S : FnScope N ps (defScope st)) (B : BodyOk P w c.K mg base c k N qual st f fb) (hp : ps.length = m := by rfl) (hN : N.length = n := by rfl) :
    FnOk P w c.K mg base (L2.CX P w) (k + 1) f fd ps (spF c (fnI m n fb)) :=
  def_of F S hp (fun ts g z => if_neg z) (fun Ω g ts vs Q E R r h => fnI_hq hN R r h) B
end
end Zz
set_option Elab.async false
set_option linter.all false
set_option maxRecDepth 100000
set_option maxHeartbeats 4000000
/-! Zz 3: tests, statements, loops, displays -/
namespace Zz
open PySem L2

/-! ### tests -/
abbrev Et := SL → VH → R Bool
def fAnd (fa fb : Et) : Et := fun ts g => (fa ts g).bind fun b g1 => match b with
  | true => fb ts g1
  | false => .ok false g1
def fOr (fa fb : Et) : Et := fun ts g => (fa ts g).bind fun b g1 => match b with
  | true => .ok true g1
  | false => fb ts g1
def fNot (fa : Et) : Et := fun ts g => (fa ts g).bind fun b g1 => .ok (!b) g1
/-- a value that is a bool -/
def fBt (fa : Ev) : Et := fun ts g => (fa ts g).bind fun x g1 => match x with
  | .bl b => .ok b g1
  | _ => .no
def fAndV (fa fb : Ev) : Ev := fun ts g => (fa ts g).bind fun x g1 => match x with
  | .bl true => fb ts g1
  | .bl false => .ok (.bl false) g1
  | _ => .no
def fOrV (fa fb : Ev) : Ev := fun ts g => (fa ts g).bind fun x g1 => match x with
  | .bl true => .ok (.bl true) g1
  | .bl false => fb ts g1
  | _ => .no
def fNotV (fa : Ev) : Ev := fun ts g => (fa ts g).bind fun x g1 => match x with
  | .bl b => .ok (.bl (!b)) g1
  | _ => .no
def fIf (ft : Et) (fa fb : Ev) : Ev := fun ts g => (ft ts g).bind fun b g1 => match b with
  | true => fa ts g1
  | false => fb ts g1
/-- truth -/
def tru : T → VH → R Bool
  | .non, g => .ok false g
  | .bl b, g => .ok b g
  | .int i, g => .ok (i != 0) g
  | .str x, g => if x.length ≤ 16777216 then .ok (!x.isEmpty) g else .no
  | .lst l, g => .ok (!l.isEmpty) g
  | .rol l, g => .ok (!l.isEmpty) g
  | .tup l, g => .ok (!l.isEmpty) g
  | .ref r i, g => match at2 g r i with
    | some (some (.lst l)) => .ok (!l.isEmpty) g
    | some (some (.dct ks _)) => .ok (!ks.isEmpty) g
    | _ => .no
  | _, _ => .no
def fTr (fa : Ev) : Et := fun ts g => (fa ts g).bind tru
section
variable {c : Cn} {W : WX} {X : Cx} {a b : Expr} {rest : List Expr} {pos : Pos} {fa fb : Ev} {ta tb ft : Et}
theorem tT_bind {α β γ δ : Type} {RP : Ws → α → β → Prop} {RP2 : Ws → γ → δ → Prop} {f : SL → VH → R α} {k : SL → α → VH → R γ} {σ : St} {H : Hp} {Q : δ → Hp → Prop}
    (h : gOf c W RP2 (fun ts g => (f ts g).bind (k ts)) σ H Q) : gOf c W RP f σ H (fun y H1 => ∃ Ω1 g1 ts a, Ω1.H = H1 ∧ Rel c Ω1 g1 ∧ RepS c Ω1 ts σ ∧ RP Ω1 a y ∧ EndG c W σ Ω1 g1 RP2 Q (k ts a g1)) := by
  obtain ⟨Ω, g, ts, e, R, S, h⟩ := h
  subst e
  exact ⟨Ω, g, ts, rfl, R, S, (EndG.bind h).mono fun xv H1 ⟨Ω1, g1, x, e1, u1, R1, r1, h1⟩ => ⟨Ω1, g1, ts, x, e1, R1, S.up u1, r1, h1⟩⟩
theorem gOf_mono {α β : Type} {RP : Ws → α → β → Prop} {f : SL → VH → R α} {σ : St} {H : Hp} {Q Q' : β → Hp → Prop} (h : gOf c W RP f σ H Q) (k : ∀ b H, Q b H → Q' b H) : gOf c W RP f σ H Q' := by
  obtain ⟨Ω, g, ts, e, R, S, h⟩ := h
  exact ⟨Ω, g, ts, e, R, S, h.mono k⟩
theorem fAnd_of {σ : St} {H : Hp} {Q : Bool → Hp → Prop} (h : tT c W (fAnd ta tb) σ H Q) : tAnd (tT c W ta) (tT c W tb) σ H Q := by
  refine gOf_mono (tT_bind (RP := fun _ a b => a = b) h) fun y H1 ⟨Ω1, g1, ts, b, e1, R1, S1, r1, h1⟩ => ?_
  subst e1; subst r1
  cases b with
  | true => exact iteT ⟨Ω1, g1, ts, rfl, R1, S1, h1⟩
  | false => exact iteF (h1 Ω1 _ Up.refl R1 rfl)
theorem fOr_of {σ : St} {H : Hp} {Q : Bool → Hp → Prop} (h : tT c W (fOr ta tb) σ H Q) : tOr (tT c W ta) (tT c W tb) σ H Q := by
  refine gOf_mono (tT_bind (RP := fun _ a b => a = b) h) fun y H1 ⟨Ω1, g1, ts, b, e1, R1, S1, r1, h1⟩ => ?_
  subst e1; subst r1
  cases b with
  | true => exact iteT (h1 Ω1 _ Up.refl R1 rfl)
  | false => exact iteF ⟨Ω1, g1, ts, rfl, R1, S1, h1⟩
theorem dw_and1 (ha : PT X a (tT c W ta)) : PW X (.BoolOp .And [a] pos) (tT c W ta) := pw_and1 ha
theorem dw_or1 (ha : PT X a (tT c W ta)) : PW X (.BoolOp .Or [a] pos) (tT c W ta) := pw_or1 ha
theorem dw_and (ha : PT X a (tT c W ta)) (hb : PW X (.BoolOp .And (b :: rest) pos) (tT c W tb)) : PW X (.BoolOp .And (a :: b :: rest) pos) (tT c W (fAnd ta tb)) := PW_weak (pw_and ha hb) fun _ _ _ h => fAnd_of h
theorem dw_or (ha : PT X a (tT c W ta)) (hb : PW X (.BoolOp .Or (b :: rest) pos) (tT c W tb)) : PW X (.BoolOp .Or (a :: b :: rest) pos) (tT c W (fOr ta tb)) := PW_weak (pw_or ha hb) fun _ _ _ h => fOr_of h
theorem dt_w {e : Expr} (h : PW X e (tT c W ta)) : PT X e (tT c W ta) := h.pt
theorem dt_not (ha : PT X a (tT c W ta)) : PT X (.UnaryOp .Not a pos) (tT c W (fNot ta)) := PT_weak (pt_not ha) fun σ H Q h => by
  refine gOf_mono (tT_bind (RP := fun _ a b => a = b) h) fun y H1 ⟨Ω1, g1, ts, b, e1, R1, S1, r1, h1⟩ => ?_
  subst e1; subst r1
  exact h1 Ω1 _ Up.refl R1 rfl
theorem fBt_of {σ : St} {H : Hp} {Q : Bool → Hp → Prop} (h : tT c W (fBt fa) σ H Q) : tE c W fa σ H fun x H1 => ∃ k, x = .bl k ∧ Q k H1 := by
  refine gOf_mono (tT_bind (RP := RepW c) h) fun y H1 ⟨Ω1, g1, ts, x, e1, R1, S1, r1, h1⟩ => ?_
  subst e1
  cases r1 with
  | bl => exact ⟨_, rfl, h1 Ω1 _ Up.refl R1 rfl⟩
  | _ => exact h1.elim
theorem dt_val {e : Expr} (h : PE X e (tE c W fa)) (he : ∀ whole, isTrue e X.env whole = (do let v ← whole; standAt e.pos; holding [v] (truthy v)) := by intro _; rfl) : PT X e (tT c W (fBt fa)) :=
  PT_weak (pt_val h he) fun _ _ _ h => fBt_of h
theorem dt_cmp {op : CmpOp} {r : R2} {fo : T → T → VH → R T} (ho : OpR X (compareOp op) r) (hs : OpS c r fo) (ha : PE X a (tE c W fa)) (hb : PE X b (tE c W fb)) (hm : behindInMarks op b = false := by rfl) : PT X (.Compare a [op] [b] pos) (tT c W (fBt (fB fo fa fb))) :=
  PT_weak (pt_cmpR ho ha hb hm) fun σ H Q h => by
    have h1 := fBt_of h
    exact tOp_of hs h1
theorem Reps.emp {F : Hp} {ρ : List (List Addr)} {ts : List T} {vs : List V} (h : Reps c F ρ ts vs) : vs.isEmpty = ts.isEmpty := by cases h <;> rfl
theorem tru_of {K : PySem.W.Frag} (hK : c.K = K) {σ : St} {Ω : Ws} {g : VH} {x : T} {xv : V} {Q : Bool → Hp → Prop} (R : Rel c Ω g) (r : RepW c Ω x xv) (h : EndG c W σ Ω g (fun _ a b => a = b) Q (tru x g)) : ∃ k, TruV K xv Ω.H k ∧ Q k Ω.H := by
  subst hK
  cases r with
  | non => exact ⟨false, rfl, h Ω _ Up.refl R rfl⟩
  | bl => exact ⟨_, rfl, h Ω _ Up.refl R rfl⟩
  | int => exact ⟨_, rfl, h Ω _ Up.refl R rfl⟩
  | str =>
    rename_i x
    simp only [tru] at h
    split at h
    · rename_i hl
      refine ⟨!x.isEmpty, ⟨hl, ?_⟩, h Ω _ Up.refl R rfl⟩
      show (!x.isEmpty) = (((x.toArray.size : Nat) : Int) != 0)
      rw [List.size_toArray]
      cases x with
      | nil => rfl
      | cons a l =>
        show true = _
        symm
        rw [bne_iff_ne]
        simp only [List.length_cons]
        omega
    · exact h.elim
  | lst hp rs => exact ⟨_, .inl ⟨_, .inl (.inl (R.sub _ _ hp)), by rw [rs.emp]⟩, h Ω _ Up.refl R rfl⟩
  | rol hp rs => exact ⟨_, .inl ⟨_, Evl.ex_l R.sub hp, by rw [rs.emp]⟩, h Ω _ Up.refl R rfl⟩
  | tup hp rs => exact ⟨_, .inr (.inl ⟨_, .inl (.inl (R.sub _ _ hp)), by rw [rs.emp]⟩), h Ω _ Up.refl R rfl⟩
  | ref ha =>
    simp only [tru] at h
    split at h
    · rename_i l hl
      obtain ⟨a', ho, h1, h2, h3, h4⟩ := R.live _ _ _ hl
      rw [ha] at h1; cases h1
      cases h4 with
      | lst rs => exact ⟨_, .inl ⟨_, .inl (.inl h2), by rw [rs.emp]⟩, h Ω _ Up.refl R rfl⟩
    · rename_i ks l hl
      obtain ⟨a', ho, h1, h2, h3, h4⟩ := R.live _ _ _ hl
      rw [ha] at h1; cases h1
      cases h4 with
      | dct ek rs =>
        refine ⟨_, .inr (.inr ⟨_, h2, ?_⟩), h Ω _ Up.refl R rfl⟩
        rename_i kvs
        rw [ek]
        cases kvs <;> rfl
    · exact h.elim
  | stc => exact h.elim
  | fnv _ _ => exact h.elim
  | bty => exact h.elim
  | dct hp _ _ => exact h.elim
  | obj hp _ _ => exact h.elim
theorem dt_tr {e : Expr} (hK : c.K = X.K) (h : PE X e (tE c W fa)) (he : ∀ whole, isTrue e X.env whole = (do let v ← whole; standAt e.pos; holding [v] (truthy v)) := by intro _; rfl) : PT X e (tT c W (fTr fa)) :=
  PT_weak (pt_truth h he) fun σ H Q h => by
    refine gOf_mono (tT_bind (RP := RepW c) h) fun y H1 ⟨Ω1, g1, ts, x, e1, R1, S1, r1, h1⟩ => ?_
    subst e1
    exact tru_of hK R1 r1 h1
theorem de_and (ha : PE X a (tE c W fa)) (hb : PE X (.BoolOp .And (b :: rest) pos) (tE c W fb)) : PE X (.BoolOp .And (a :: b :: rest) pos) (tE c W (fAndV fa fb)) := PE_weak (pe_and ha hb) fun σ H Q h => by
  refine gOf_mono (tT_bind (RP := RepW c) h) fun y H1 ⟨Ω1, g1, ts, x, e1, R1, S1, r1, h1⟩ => ?_
  subst e1
  cases r1 with
  | @bl b0 =>
    cases b0 with
    | true => exact ⟨true, rfl, iteT ⟨Ω1, g1, ts, rfl, R1, S1, h1⟩⟩
    | false => exact ⟨false, rfl, iteF (h1 Ω1 _ Up.refl R1 .bl)⟩
  | _ => exact h1.elim
theorem de_or (ha : PE X a (tE c W fa)) (hb : PE X (.BoolOp .Or (b :: rest) pos) (tE c W fb)) : PE X (.BoolOp .Or (a :: b :: rest) pos) (tE c W (fOrV fa fb)) := PE_weak (pe_or ha hb) fun σ H Q h => by
  refine gOf_mono (tT_bind (RP := RepW c) h) fun y H1 ⟨Ω1, g1, ts, x, e1, R1, S1, r1, h1⟩ => ?_
  subst e1
  cases r1 with
  | @bl b0 =>
    cases b0 with
    | true => exact ⟨true, rfl, iteT (h1 Ω1 _ Up.refl R1 .bl)⟩
    | false => exact ⟨false, rfl, iteF ⟨Ω1, g1, ts, rfl, R1, S1, h1⟩⟩
  | _ => exact h1.elim
theorem de_one {op} (h : PE X a (tE c W fa)) : PE X (.BoolOp op [a] pos) (tE c W fa) := pe_one h
theorem de_not (ha : PE X a (tE c W fa)) : PE X (.UnaryOp .Not a pos) (tE c W (fNotV fa)) := PE_weak (pe_not ha) fun σ H Q h => by
  refine gOf_mono (tT_bind (RP := RepW c) h) fun y H1 ⟨Ω1, g1, ts, x, e1, R1, S1, r1, h1⟩ => ?_
  subst e1
  cases r1 with
  | bl => exact ⟨_, rfl, h1 Ω1 _ Up.refl R1 .bl⟩
  | _ => exact h1.elim
theorem de_if {t : Expr} (ht : PT X t (tT c W ft)) (ha : PE X a (tE c W fa)) (hb : PE X b (tE c W fb)) : PE X (.IfExp t a b pos) (tE c W (fIf ft fa fb)) := PE_weak (pe_ifExp ht ha hb) fun σ H Q h => by
  refine gOf_mono (tT_bind (RP := fun _ a b => a = b) h) fun y H1 ⟨Ω1, g1, ts, x, e1, R1, S1, r1, h1⟩ => ?_
  subst e1; subst r1
  cases x with
  | true => exact iteT ⟨Ω1, g1, ts, rfl, R1, S1, h1⟩
  | false => exact iteF ⟨Ω1, g1, ts, rfl, R1, S1, h1⟩
end
/-! ### chains: a < b < c -/
def fChain (o o' : T → T → VH → R T) (fa fb fc : Ev) : Ev := fun ts g => (fa ts g).bind fun x g1 => (fb ts g1).bind fun y g2 => (o x y g2).bind fun z g3 => match z with
  | .bl true => (fc ts g3).bind fun w g4 => o' y w g4
  | .bl false => .ok (.bl false) g3
  | _ => .no
section
variable {c : Cn} {W : WX} {X : Cx} {a b d : Expr} {pos : Pos} {fa fb fc : Ev} {op op' : CmpOp} {r r' : R2} {o o' : T → T → VH → R T}
theorem fChain_of (hs : OpS c r o) (hs' : OpS c r' o') {σ : St} {H : Hp} {Q : VK} (h : tE c W (fChain o o' fa fb fc) σ H Q) : tChain r r' (tE c W fa) (tE c W fb) (tE c W fc) σ H Q := by
  obtain ⟨Ω, g, ts, e, R, S, h⟩ := h
  subst e
  refine ⟨Ω, g, ts, rfl, R, S, (EndG.bind h).mono fun xv H1 ⟨Ω1, g1, x, e1, u1, R1, r1, h1⟩ => ?_⟩
  subst e1
  refine ⟨Ω1, g1, ts, rfl, R1, S.up u1, (EndG.bind h1).mono fun yv H2 ⟨Ω2, g2, y, e2, u2, R2, r2, h2⟩ => ?_⟩
  subst e2
  refine hs W σ Ω2 g2 x y xv yv _ R2 (r1.up u2) r2 ((EndG.bind h2).mono fun zv H3 ⟨Ω3, g3, z, e3, u3, R3, r3, h3⟩ => ?_)
  subst e3
  cases r3 with
  | @bl b0 =>
    cases b0 with
    | true =>
      refine ⟨true, rfl, iteT ⟨Ω3, g3, ts, rfl, R3, (S.up u1).up (u2.trans u3), (EndG.bind h3).mono fun wv H4 ⟨Ω4, g4, w, e4, u4, R4, r4, h4⟩ => ?_⟩⟩
      subst e4
      exact hs' W σ Ω4 g4 y w yv wv Q R4 (r2.up (u3.trans u4)) r4 h4
    | false => exact ⟨false, rfl, iteF (h3 Ω3 _ Up.refl R3 .bl)⟩
  | _ => exact h3.elim
theorem de_chain (ho : OpR X (compareOp op) r) (ho' : OpR X (compareOp op') r') (hs : OpS c r o) (hs' : OpS c r' o') (ha : PE X a (tE c W fa)) (hb : PE X b (tE c W fb)) (hc : PE X d (tE c W fc)) (hm : lastMarks [op, op'] [b, d] = false := by with_unfolding_all rfl) :
    PE X (.Compare a [op, op'] [b, d] pos) (tE c W (fChain o o' fa fb fc)) := PE_weak (pe_chain ho ho' ha hb hc hm) fun _ _ _ h => fChain_of hs hs' h
theorem dt_chain (ho : OpR X (compareOp op) r) (ho' : OpR X (compareOp op') r') (hs : OpS c r o) (hs' : OpS c r' o') (ha : PE X a (tE c W fa)) (hb : PE X b (tE c W fb)) (hc : PE X d (tE c W fc)) (hm : lastMarks [op, op'] [b, d] = false := by with_unfolding_all rfl) :
    PT X (.Compare a [op, op'] [b, d] pos) (tT c W (fBt (fChain o o' fa fb fc))) := PT_weak (pt_chain ho ho' ha hb hc hm) fun _ _ _ h => fChain_of hs hs' (fBt_of h)
end

/-! ### statements -/
def sNx : Ss := fun ts g => .nx ts g
def sBk : Ss := fun ts g => .bk ts g
def sCt : Ss := fun ts g => .ct ts g
def sSeq (f1 f2 : Ss) : Ss := fun ts g => match f1 ts g with
  | .nx ts' g' => f2 ts' g'
  | .rt t g' => .rt t g'
  | .bk ts' g' => .bk ts' g'
  | .ct ts' g' => .ct ts' g'
  | .ex x ts' g' => .ex x ts' g'
  | .no => .no
def sEx (fa : Ev) : Ss := fun ts g => (fa ts g).toS ts fun _ g1 => .nx ts g1
def sRt (fa : Ev) : Ss := fun ts g => (fa ts g).toS ts fun t g1 => .rt t g1
def sRtN : Ss := fun _ g => .rt .non g
def sIf (ft : Et) (f1 f2 : Ss) : Ss := fun ts g => (ft ts g).toS ts fun b g1 => match b with
  | true => f1 ts g1
  | false => f2 ts g1
/-- a target: a name; names of a tuple -/
inductive Tg where
  | nm (i : Nat) | tp (is : List Nat)
def setMany : List Nat → List T → SL → SL
  | i :: is, t :: l, ts => setMany is l (ts.set i (some t))
  | _, _, ts => ts
def bindT : Tg → T → SL → Option SL
  | .nm i, t, ts => some (ts.set i (some t))
  | .tp is, .tup l, ts => if is.length = l.length then some (setMany is l ts) else none
  | .tp _, _, _ => none
def gNames : List Nat → TGs
  | [] => gNil
  | i :: is => gCons (gName i) (gNames is)
def gT (K : PySem.W.Frag) : Tg → TG
  | .nm i => gName i
  | .tp is => gTup K is.length (gNames is)
def sAs (tg : Tg) (fa : Ev) : Ss := fun ts g => (fa ts g).toS ts fun t g1 => match bindT tg t ts with
  | some ts' => .nx ts' g1
  | none => .no
def sWh (ft : Et) (fb : Ss) : Nat → Ss
  | 0 => fun _ _ => .no
  | n + 1 => fun ts g => (ft ts g).toS ts fun b g1 => match b with
    | true => match fb ts g1 with
      | .nx ts' g' => sWh ft fb n ts' g'
      | .ct ts' g' => sWh ft fb n ts' g'
      | .bk ts' g' => .nx ts' g'
      | .rt t g' => .rt t g'
      | .ex x ts' g' => .ex x ts' g'
      | .no => .no
    | false => .nx ts g1
section
variable {c : Cn} {W : WX} {X : Cx} {fa : Ev} {ft : Et} {f1 f2 : Ss} {pos : Pos}
theorem EndS.seq {Ω : Ws} {g : VH} {D : Ends} {m : RS} (h : EndS c W Ω g D (match m with
  | .nx ts' g' => f2 ts' g'
  | .rt t g' => .rt t g'
  | .bk ts' g' => .bk ts' g'
  | .ct ts' g' => .ct ts' g'
  | .ex x ts' g' => .ex x ts' g'
  | .no => .no)) : EndS c W Ω g { D with nx := tS c W f2 D } m := by
  cases m with
  | nx ts g' => exact fun Ω' σ' u R S => ⟨Ω', g', ts, rfl, R, S, EndS.shift u h⟩
  | _ => exact h
theorem dss_nil : PSs X [] (tS c W sNx) := PSs_weak pss_nil fun D σ H ⟨Ω, g, ts, e, R, S, h⟩ => by subst e; exact h Ω σ Up.refl R S
theorem dss_cons {st : Stmt} {rest : List Stmt} (h1 : PS X st (tS c W f1)) (h2 : PSs X rest (tS c W f2)) : PSs X (st :: rest) (tS c W (sSeq f1 f2)) :=
  PSs_weak (pss_cons h1 h2) fun D σ H ⟨Ω, g, ts, e, R, S, h⟩ => ⟨Ω, g, ts, e, R, S, EndS.seq h⟩
theorem dss_one {st : Stmt} (h1 : PS X st (tS c W f1)) : PSs X [st] (tS c W f1) := pss_one h1
theorem ds_pass : PS X (.Pass pos) (tS c W sNx) := PS_weak ps_pass fun D σ H ⟨Ω, g, ts, e, R, S, h⟩ => by subst e; exact h Ω σ Up.refl R S
theorem ds_break : PS X (.Break pos) (tS c W sBk) := PS_weak ps_break fun D σ H ⟨Ω, g, ts, e, R, S, h⟩ => by subst e; exact h Ω σ Up.refl R S
theorem ds_continue : PS X (.Continue pos) (tS c W sCt) := PS_weak ps_continue fun D σ H ⟨Ω, g, ts, e, R, S, h⟩ => by subst e; exact h Ω σ Up.refl R S
theorem ds_doc {x j pos'} : PS X (.Expr (.Constant (.str x) j pos) pos') (tS c W sNx) := PS_weak ps_doc fun D σ H ⟨Ω, g, ts, e, R, S, h⟩ => by subst e; exact h Ω σ Up.refl R S
theorem ds_expr {e : Expr} (he : PE X e (tE c W fa)) (hs : swapsWith e none pos.line X.env = pure false := by rfl) : PS X (.Expr e pos) (tS c W (sEx fa)) :=
  PS_weak (ps_expr he hs) fun D σ H ⟨Ω, g, ts, e, R, S, h⟩ => by
    subst e
    refine ⟨Ω, g, ts, rfl, R, S, (EndS.bindE S h).mono fun xv H1 ⟨Ω1, g1, x, e1, u1, R1, r1, h1⟩ => ?_⟩
    subst e1
    exact h1 Ω1 σ Up.refl R1 (S.up u1)
theorem ds_ret {e : Expr} (he : PE X e (tE c W fa)) : PS X (.Return (some e) pos) (tS c W (sRt fa)) :=
  PS_weak (ps_ret he) fun D σ H ⟨Ω, g, ts, e, R, S, h⟩ => by
    subst e
    refine ⟨Ω, g, ts, rfl, R, S, (EndS.bindE S h).mono fun xv H1 ⟨Ω1, g1, x, e1, u1, R1, r1, h1⟩ => ?_⟩
    subst e1
    exact h1 Ω1 xv Up.refl R1 r1
theorem ds_retN : PS X (.Return none pos) (tS c W sRtN) := PS_weak ps_retN fun D σ H ⟨Ω, g, ts, e, R, S, h⟩ => by subst e; exact h Ω .non Up.refl R .non
theorem ds_if {e : Expr} {a b : List Stmt} (ht : PT X e (tT c W ft)) (ha : PSs X a (tS c W f1)) (hb : PSs X b (tS c W f2)) : PS X (.If e a b pos) (tS c W (sIf ft f1 f2)) :=
  PS_weak (ps_if ht ha hb) fun D σ H ⟨Ω, g, ts, e, R, S, h⟩ => by
    subst e
    refine ⟨Ω, g, ts, rfl, R, S, (EndS.bindE S h).mono fun y H1 ⟨Ω1, g1, x, e1, u1, R1, r1, h1⟩ => ?_⟩
    subst e1; subst r1
    cases x with
    | true => exact iteT ⟨Ω1, g1, ts, rfl, R1, S.up u1, h1⟩
    | false => exact iteF ⟨Ω1, g1, ts, rfl, R1, S.up u1, h1⟩
/-- a target of the text -/
structure DG (c : Cn) (X : Cx) (e : Expr) (tg : Tg) : Prop where
  run : PG X e (gT X.K tg)
theorem gNames_of {K : PySem.W.Frag} {Ω : Ws} : ∀ (is : List Nat) (l : List T) (vs : List V) (ts : SL) (σ : St) (Q : St → Hp → Prop), is.length = l.length → RepsW c Ω l vs → RepS c Ω ts σ → (∀ σ', RepS c Ω (setMany is l ts) σ' → Q σ' Ω.H) → gNames is vs σ Ω.H Q
  | [], [], _, ts, σ, Q, _, .nil, S, k => ⟨rfl, k σ S⟩
  | i :: is, t :: l, _, ts, σ, Q, hl, .cons r rs, S, k => ⟨_, _, rfl, gNames_of (K := K) is l _ _ _ Q (by simpa using hl) rs (S.set r i) k⟩
theorem bindT_of {K : PySem.W.Frag} {Ω : Ws} {g : VH} (R : Rel c Ω g) : ∀ (tg : Tg) {t : T} {v : V} {ts ts' : SL} {σ : St} {Q : St → Hp → Prop}, RepW c Ω t v → RepS c Ω ts σ → bindT tg t ts = some ts' → (∀ σ', RepS c Ω ts' σ' → Q σ' Ω.H) → gT K tg v σ Ω.H Q := by
  intro tg t v ts ts' σ Q r S e k
  cases tg with
  | nm i =>
    unfold bindT at e
    cases e
    exact k _ (S.set r i)
  | tp is =>
    cases r with
    | tup hp rs =>
      simp only [bindT] at e
      split at e
      · rename_i hl
        cases e
        exact ⟨_, _, rfl, .inl (.inl (R.sub _ _ hp)), by rw [← rs.len, hl], gNames_of (K := K) is _ _ _ _ Q hl rs S k⟩
      · cases e
    | _ => unfold bindT at e; cases e
theorem dg_nm {i : Nat} {x : Str} (hN : X.N.Nodup) (hi : X.N[i]? = some x := by rfl) (hx : Loc X.env.scope x := by first | exact .inl rfl | exact .inr rfl) (hf : X.fn x = true ∨ X.env.scope.names.lookup x = some .local := by first | exact .inl rfl | exact .inr rfl | assumption) : PG X (.Name x pos) (gT X.K (.nm i)) := pg_name hN hi hx hf
theorem dgs_nil : PGs X [] (gNames []) := pgs_nil
theorem dgs_cons {i : Nat} {x : Str} {rest : List Expr} {is : List Nat} (hN : X.N.Nodup) (hr : PGs X rest (gNames is)) (hi : X.N[i]? = some x := by rfl) (hx : Loc X.env.scope x := by first | exact .inl rfl | exact .inr rfl) (hf : X.fn x = true ∨ X.env.scope.names.lookup x = some .local := by first | exact .inl rfl | exact .inr rfl | assumption)
    (hs : (assignEach (.Name x pos :: rest) X.env).map (·.2) = assign (.Name x pos) X.env :: (assignEach rest X.env).map (·.2) := by rfl) : PGs X (.Name x pos :: rest) (gNames (i :: is)) := pgs_cons (pg_name hN hi hx hf) hr hs
theorem dg_tp {es : List Expr} {k : Nat} {is : List Nat} (hc : X.calm = true) (h : PGs X es (gNames is)) (hn : (assignEach es X.env).length = is.length := by rfl) (hst : (assignEach es X.env).findIdx? (·.1) = none := by rfl) : PG X (.Tuple es k pos) (gT X.K (.tp is)) := pg_tup hc h hn hst
theorem sAs_of {tg : Tg} {D : Ends} {σ : St} {H : Hp} (h : tS c W (sAs tg fa) D σ H) : tAsg (tE c W fa) (gT X.K tg) D σ H := by
  obtain ⟨Ω, g, ts, e, R, S, h⟩ := h
  subst e
  refine ⟨Ω, g, ts, rfl, R, S, (EndS.bindE S h).mono fun xv H1 ⟨Ω1, g1, x, e1, u1, R1, r1, h1⟩ => ?_⟩
  subst e1
  split at h1
  · rename_i ts' q
    exact bindT_of R1 tg r1 (S.up u1) q fun σ' S' => h1 Ω1 σ' Up.refl R1 S'
  · exact h1.elim
theorem ds_as {tg : Tg} {e te : Expr} (he : PE X e (tE c W fa)) (hg : PG X te (gT X.K tg)) (hs : swapsWithSole [te] e pos.line X.env = pure false := by rfl) (hw : swappedStores [te] e X.env = pure none := by rfl)
    (h1 : (assignEach [te] X.env).map (·.2) = [assign te X.env] := by rfl) : PS X (.Assign [te] e pos) (tS c W (sAs tg fa)) := PS_weak (ps_asg he hg hs hw h1) fun _ _ _ h => sAs_of h
theorem ds_while {n : Nat} {e : Expr} {body : List Stmt} (hp : PassesOwn (model X.prog X.w) X.A X.env X.xe) (ht : PT X e (tT c W ft)) (hb : PSs X body (tS c W f1)) : PS X (.While e body [] pos) (tS c W (sWh ft f1 n)) :=
  PS_weak (ps_while hp ht hb) fun D σ H h => by
    refine ⟨fun m σ H => tS c W (sWh ft f1 m) D σ H, ⟨n, h⟩, fun m σ H ⟨Ω, g, ts, e, R, S, h⟩ => ?_⟩
    subst e
    cases m with
    | zero => exact h.elim
    | succ m =>
      refine ⟨Ω, g, ts, rfl, R, S, (EndS.bindE S h).mono fun y H1 ⟨Ω1, g1, x, e1, u1, R1, r1, h1⟩ => ?_⟩
      subst e1; subst r1
      cases x with
      | false => exact iteF (h1 Ω1 σ Up.refl R1 (S.up u1))
      | true =>
        refine iteT ⟨fun σ' H' => tS c W (sWh ft f1 m) D σ' H', fun σ' H' z => ⟨m, Nat.lt_succ_self m, z⟩, Ω1, g1, ts, rfl, R1, S.up u1, ?_⟩
        simp only at h1
        revert h1
        cases f1 ts g1 with
        | nx ts' g' => exact fun h1 Ω' σ' u R' S' => ⟨Ω', g', ts', rfl, R', S', EndS.shift u h1⟩
        | ct ts' g' => exact fun h1 Ω' σ' u R' S' => ⟨Ω', g', ts', rfl, R', S', EndS.shift u h1⟩
        | bk ts' g' => exact fun h1 => h1
        | rt t g' => exact fun h1 => h1
        | ex x ts' g' => exact fun h1 => h1
        | no => exact fun h1 => h1
end
end Zz
set_option Elab.async false
set_option linter.all false
set_option maxRecDepth 100000
set_option maxHeartbeats 4000000
/-! Zz 4: operators by values -/
namespace Zz
open PySem L2

/-! ### views -/
def vwL (t : T) (g : VH) : Option (List T) := match t with
  | .lst l => some l
  | .ref r i => match at2 g r i with
    | some (some (.lst l)) => some l
    | _ => none
  | _ => none
/-- .. also one that is only read -/
def vwR (t : T) (g : VH) : Option (List T) := match t with
  | .rol l => some l
  | .lst l => some l
  | .ref r i => match at2 g r i with
    | some (some (.lst l)) => some l
    | _ => none
  | _ => none
section
variable {c : Cn} {Ω : Ws} {g : VH} {t : T} {v : V} {l : List T}
theorem vwL_ok (R : Rel c Ω g) (r : RepW c Ω t v) (h : vwL t g = some l) : ∃ p vs, v = .ref p ∧ Ω.H p = some (.lst vs) ∧ RepsW c Ω l vs := by
  cases r with
  | lst hp rs => simp only [vwL] at h; cases h; exact ⟨_, _, rfl, R.sub _ _ hp, rs⟩
  | ref ha =>
    simp only [vwL] at h
    split at h
    · rename_i l' hl
      cases h
      obtain ⟨a', ho, h1, h2, h3, h4⟩ := R.live _ _ _ hl
      rw [ha] at h1; cases h1
      cases h4 with
      | lst rs => exact ⟨_, _, rfl, h2, rs⟩
    · cases h
  | _ => simp only [vwL] at h; cases h
theorem vwR_ok (R : Rel c Ω g) (r : RepW c Ω t v) (h : vwR t g = some l) : ∃ p vs, v = .ref p ∧ SqL c.K Ω.H p vs ∧ RepsW c Ω l vs := by
  cases r with
  | rol hp rs => simp only [vwR] at h; cases h; exact ⟨_, _, rfl, Evl.ex_l R.sub hp, rs⟩
  | lst hp rs => simp only [vwR] at h; cases h; exact ⟨_, _, rfl, .inl (.inl (R.sub _ _ hp)), rs⟩
  | ref ha =>
    have h2 : vwL (.ref _ _) g = some l := h
    obtain ⟨p, vs, e1, e2, e3⟩ := vwL_ok R (.ref ha) h2
    exact ⟨p, vs, e1, .inl (.inl e2), e3⟩
  | _ => simp only [vwR] at h; cases h
theorem tup_ok (R : Rel c Ω g) (r : RepW c Ω (.tup l) v) : ∃ p vs, v = .ref p ∧ Ω.H p = some (.tup vs) ∧ RepsW c Ω l vs := by
  cases r with
  | tup hp rs => exact ⟨_, _, rfl, R.sub _ _ hp, rs⟩
end
/-- a new list: frozen, or live in the top region -/
def mkL (lv : Bool) (l : List T) (g : VH) : R T := match lv with
  | false => .ok (.lst l) g
  | true => match g with
    | [] => .no
    | g => .ok (.ref (topR g) (topI g)) (ppush (some (.lst l)) g)
theorem mkL_of {c : Cn} {W : WX} {σ : L2.St} {Ω : Ws} {g : VH} {Q : VK} {lv : Bool} {l : List T} {vs : List V} (R : Rel c Ω g) (r : RepsW c Ω l vs) (h : EndG c W σ Ω g (RepW c) Q (mkL lv l g)) (p : Addr) (hp : Ω.H p = none) : Q (.ref p) (upd Ω.H p (.lst vs)) := by
  cases lv with
  | false =>
    obtain ⟨R1, u1⟩ := R.froz hp (.lst vs)
    exact h ⟨upd Ω.F p (.lst vs), Ω.ρ, upd Ω.H p (.lst vs)⟩ (.ref p) u1 R1 (.lst upd_same (r.up u1))
  | true =>
    unfold mkL at h
    simp only at h
    split at h
    · exact h.elim
    · rename_i hg
      obtain ⟨R1, u1, e⟩ := R.laid (fun z => hg z) hp (.lst r)
      exact h ⟨Ω.F, ppush p Ω.ρ, upd Ω.H p (.lst vs)⟩ (.ref p) u1 R1 (.ref e)
/-- a new tuple -/
theorem mkT_of {c : Cn} {W : WX} {σ : L2.St} {Ω : Ws} {g : VH} {Q : VK} {l : List T} {vs : List V} (R : Rel c Ω g) (r : RepsW c Ω l vs) (h : EndG c W σ Ω g (RepW c) Q (.ok (.tup l) g)) (p : Addr) (hp : Ω.H p = none) : Q (.ref p) (upd Ω.H p (.tup vs)) := by
  obtain ⟨R1, u1⟩ := R.froz hp (.tup vs)
  exact h ⟨upd Ω.F p (.tup vs), Ω.ρ, upd Ω.H p (.tup vs)⟩ (.ref p) u1 R1 (.tup upd_same (r.up u1))

/-! ### arithmetic -/
theorem str_app (a b : List Nat) : (⟨a.toArray⟩ : Str) ++ (⟨b.toArray⟩ : Str) = ⟨(a ++ b).toArray⟩ := by
  show (⟨a.toArray ++ b.toArray⟩ : Str) = _
  simp
theorem str_len (a : List Nat) : (⟨a.toArray⟩ : Str).length = a.length := by
  show a.toArray.size = _
  simp
def oAdd (lv : Bool) (x y : T) (g : VH) : R T := match x, y with
  | .int i, .int j => .ok (.int (i + j)) g
  | .str a, .str b => if a.length + b.length ≤ 16777216 then .ok (.str (a ++ b)) g else .no
  | x, y => match vwL x g, vwL y g with
    | some a, some b => if a.length + b.length ≤ 16777216 then mkL lv (a ++ b) g else .no
    | _, _ => .no
def rAdd3 : R2 := fun x y H Q => (rI0 fun i j => .int (i + j)) x y H Q ∨ (∃ i j, x = .str i ∧ y = .str j ∧ i.length + j.length ≤ sizeLine ∧ Q (.str (i ++ j)) H) ∨ rCat x y H Q
theorem op_add3 {X : Cx} : OpR X (binaryOp .Add) rAdd3 := OpR.or op_add (OpR.or op_add_str op_cat)
theorem os_add {c : Cn} (lv : Bool) : OpS c rAdd3 (oAdd lv) := by
  intro W σ Ω g x y xv yv Q R rx ry h
  unfold oAdd at h
  split at h
  · cases rx; cases ry
    exact .inl ⟨_, _, rfl, rfl, h Ω _ Up.refl R .int⟩
  · cases rx; cases ry
    split at h
    · rename_i hl
      refine .inr (.inl ⟨_, _, rfl, rfl, by rw [str_len, str_len, sizeLine_eq]; exact hl, ?_⟩)
      rw [str_app]
      exact h Ω _ Up.refl R .str
    · exact h.elim
  · split at h
    · rename_i a b ha hb
      split at h
      · rename_i hl
        obtain ⟨p, vs, e1, h1, r1⟩ := vwL_ok R rx ha
        obtain ⟨q, ws, e2, h2, r2⟩ := vwL_ok R ry hb
        exact .inr (.inr ⟨p, q, vs, ws, e1, e2, h1, h2, by rw [← r1.len, ← r2.len, sizeLine_eq]; exact hl, mkL_of R (r1.app r2) h⟩)
      · exact h.elim
    · exact h.elim
def oI (f : Int → Int → T) (x y : T) (g : VH) : R T := match x, y with
  | .int i, .int j => .ok (f i j) g
  | _, _ => .no
def oIc (p : Int → Int → Bool) (f : Int → Int → T) (x y : T) (g : VH) : R T := match x, y with
  | .int i, .int j => if p i j then .ok (f i j) g else .no
  | _, _ => .no
theorem os_int {c : Cn} {f : Int → Int → T} {fv : Int → Int → V} (hf : ∀ F ρ i j, Rep c F ρ (f i j) (fv i j)) : OpS c (rI0 fv) (oI f) := by
  intro W σ Ω g x y xv yv Q R rx ry h
  unfold oI at h
  split at h
  · cases rx; cases ry
    exact ⟨_, _, rfl, rfl, h Ω _ Up.refl R (hf _ _ _ _)⟩
  · exact h.elim
theorem os_intc {c : Cn} {p : Int → Int → Bool} {C : Int → Int → Prop} {f : Int → Int → T} {fv : Int → Int → V} (hp : ∀ i j, p i j = true → C i j) (hf : ∀ F ρ i j, Rep c F ρ (f i j) (fv i j)) : OpS c (rI C fv) (oIc p f) := by
  intro W σ Ω g x y xv yv Q R rx ry h
  unfold oIc at h
  split at h
  · cases rx; cases ry
    split at h
    · rename_i hc
      exact ⟨_, _, rfl, rfl, hp _ _ hc, h Ω _ Up.refl R (hf _ _ _ _)⟩
    · exact h.elim
  · exact h.elim
abbrev oSub : T → T → VH → R T := oI fun i j => .int (i - j)
theorem os_sub {c : Cn} : OpS c (rI0 fun i j => .int (i - j)) oSub := os_int fun _ _ _ _ => .int
def pMul (i j : Int) : Bool := decide (i.natAbs.log2 + j.natAbs.log2 < 1000000)
def pDiv (_ j : Int) : Bool := decide (0 < j) && decide (j.natAbs.log2 < 9000)
def pMod (_ j : Int) : Bool := decide (0 < j)
abbrev oFdv : T → T → VH → R T := oIc pDiv fun i j => .int (i / j)
abbrev oMod : T → T → VH → R T := oIc pMod fun i j => .int (i % j)
theorem os_fdv {c : Cn} : OpS c (rI CDivW fun i j => .int (i / j)) oFdv := os_intc (fun i j h => by
  unfold pDiv at h
  obtain ⟨h1, h2⟩ := Bool.and_eq_true_iff.mp h
  exact ⟨of_decide_eq_true h1, of_decide_eq_true h2⟩) fun _ _ _ _ => .int
theorem os_mod {c : Cn} : OpS c (rI (fun _ j => 0 < j) fun i j => .int (i % j)) oMod := os_intc (fun i j h => of_decide_eq_true h) fun _ _ _ _ => .int
/-- int * int, text * int, list * int -/
def oMul (lv : Bool) (x y : T) (g : VH) : R T := match x, y with
  | .int i, .int j => if pMul i j then .ok (.int (i * j)) g else .no
  | .str a, .int j => if a.length * j.toNat ≤ 16777216 ∧ -(2 ^ 63) ≤ j ∧ j < 2 ^ 63 then .ok (.str (List.replicate j.toNat a).flatten) g else .no
  | _, _ => .no
theorem os_cmpI {c : Cn} (f : Int → Int → Bool) : OpS c (rI0 fun i j => .bl (f i j)) (oI fun i j => .bl (f i j)) := os_int fun _ _ _ _ => .bl
/-- a ** b -/
def CPowW (i j : Int) : Prop := 0 ≤ j ∧ (Builtin.Int.intBits i : Int) * j ≤ 2 ^ 27
def pPow (i j : Int) : Bool := decide (0 ≤ j) && decide (((i.natAbs.log2 : Int) + 1) * j ≤ 2 ^ 27)
theorem op_powW {X : Cx} : OpR X (binaryOp .Pow) (rI CPowW fun i j => .int (i ^ j.toNat)) := opI fun _ _ _ _ _ _ _ hc q => PyProof.Rows.pow_int hc.1 hc.2 q
abbrev oPow : T → T → VH → R T := oIc pPow fun i j => .int (i ^ j.toNat)
theorem os_pow {c : Cn} : OpS c (rI CPowW fun i j => .int (i ^ j.toNat)) oPow := os_intc (fun i j h => by
  unfold pPow at h
  obtain ⟨h1, h2⟩ := Bool.and_eq_true_iff.mp h
  have h1 := of_decide_eq_true h1
  have h2 := of_decide_eq_true h2
  refine ⟨h1, Int.le_trans (Int.mul_le_mul_of_nonneg_right ?_ h1) h2⟩
  show ((if (i == 0) = true then 0 else i.natAbs.log2 + 1 : Nat) : Int) ≤ _
  split <;> omega) fun _ _ _ _ => .int
/-- text * int -/
def rMulS : R2 := fun x y H Q => ∃ (a : List Nat) (j : Int), x = .str ⟨a.toArray⟩ ∧ y = .int j ∧ a.length * j.toNat ≤ 16777216 ∧ -(2 ^ 63) ≤ j ∧ j < 2 ^ 63 ∧ Q (.str ⟨(List.replicate j.toNat a).flatten.toArray⟩) H
theorem op_mulS {X : Cx} : OpR X (binaryOp .Mult) rMulS := by
  intro pins s σ H x y v u Q I rx ry h
  obtain ⟨a, j, rfl, rfl, hl, h1, h2, q⟩ := h
  obtain ⟨t, rfl⟩ := rx
  obtain ⟨t', rfl⟩ := ry
  have el : (⟨a.toArray⟩ : Str).length = a.length := str_len a
  refine PySem.P.mul_str (by rw [decide_eq_false (by omega), decide_eq_false (by omega)]; rfl) (fun hn hb => ?_) (fun hn hb => ?_) ?_
  · rw [el]
    have hj : 1 ≤ j := by omega
    intro z
    have hz : (a.length : Int) * j ≤ 16777216 := by
      have e : ((a.length * j.toNat : Nat) : Int) = (a.length : Int) * j := by
        rw [Int.natCast_mul, Int.toNat_of_nonneg (by omega)]
      rw [← e]
      exact Int.ofNat_le.mpr hl
    have h3 : (2 ^ 63 - 1 : Int) / j < a.length := z
    have h4 : (2 ^ 63 - 1 : Int) < (a.length : Int) * j := (Int.ediv_lt_iff_lt_mul (by omega)).mp h3
    omega
  · rw [el]
    have : ¬ (sizeLine < a.length * j.toNat) := by rw [sizeLine_eq]; omega
    first
      | (unfold Builtin.Str.tooLong; simpa using Nat.le_of_not_lt this)
      | (unfold Builtin.Str.tooLong; exact decide_eq_false this)
  · have fin : ∀ {z : List Nat} (tk : Nat), (List.replicate j.toNat a).flatten = z → EP X pins σ Q (.str ⟨z.toArray⟩ tk) { s with toks := s.toks + 1 } := fun {z} tk e => ⟨.str ⟨z.toArray⟩, H, I.tok _, ⟨tk, rfl⟩, by rw [← e]; exact q⟩
    split
    · rename_i hn
      refine ⟨by decide, ?_⟩
      have e0 : j.toNat = 0 := by omega
      have := fin (z := []) s.toks (by rw [e0]; rfl)
      exact this
    · split
      · rename_i hn hb
        have hb' : j = 1 ∨ a.length = 0 := by
          rw [el] at hb
          simpa using hb
        refine ⟨.str ⟨a.toArray⟩, H, I, ⟨t, rfl⟩, ?_⟩
        have e : (List.replicate j.toNat a).flatten = a := by
          rcases hb' with e | e
          · subst e; simp
          · have e0 : a = [] := List.eq_nil_of_length_eq_zero e
            subst e0
            induction j.toNat with
            | zero => rfl
            | succ n ih => simp
        rw [e] at q
        exact q
      · have e : ((List.replicate j.toNat (⟨a.toArray⟩ : Str).cps).foldl (· ++ ·) #[]) = (List.replicate j.toNat a).flatten.toArray := by
          have gen : ∀ (n : Nat) (acc : Array Nat), (List.replicate n a.toArray).foldl (· ++ ·) acc = acc ++ (List.replicate n a).flatten.toArray := by
            intro n
            induction n with
            | zero => intro acc; simp
            | succ n ih => intro acc; rw [List.replicate_succ, List.foldl_cons, ih, List.replicate_succ, List.flatten_cons]; simp
          rw [gen]; simp
        rw [e]
        refine ⟨?_, fin s.toks rfl⟩
        rw [show (⟨(List.replicate j.toNat a).flatten.toArray⟩ : Str).length = (List.replicate j.toNat a).flatten.length from str_len _]
        have : ¬ (sizeLine < (List.replicate j.toNat a).flatten.length) := by
          have e2 : (List.replicate j.toNat a).flatten.length = a.length * j.toNat := by simp [Nat.mul_comm]
          rw [sizeLine_eq, e2]; omega
        first
          | exact Nat.le_of_not_lt this
          | (unfold Builtin.Str.tooLong; simpa using Nat.le_of_not_lt this)
          | (unfold Builtin.Str.tooLong; exact decide_eq_false this)
def rMul2 : R2 := fun x y H Q => (rI CMulW fun i j => .int (i * j)) x y H Q ∨ rMulS x y H Q
theorem op_mul2 {X : Cx} : OpR X (binaryOp .Mult) rMul2 := OpR.or op_mulW op_mulS
theorem os_mul {c : Cn} (lv : Bool) : OpS c rMul2 (oMul lv) := by
  intro W σ Ω g x y xv yv Q R rx ry h
  unfold oMul at h
  split at h
  · cases rx; cases ry
    split at h
    · rename_i hp
      exact .inl ⟨_, _, rfl, rfl, by unfold pMul at hp; exact (of_decide_eq_true hp : _ < 1000000), h Ω _ Up.refl R .int⟩
    · exact h.elim
  · cases rx; cases ry
    split at h
    · rename_i hp
      exact .inr ⟨_, _, rfl, rfl, hp.1, hp.2.1, hp.2.2, h Ω _ Up.refl R .str⟩
    · exact h.elim
  · exact h.elim
/-- - a -/
def oNeg (x : T) (g : VH) : R T := match x with
  | .int i => .ok (.int (-i)) g
  | _ => .no
theorem us_neg {c : Cn} : UnS c (rU fun i => .int (-i)) oNeg := by
  intro W σ Ω g x xv Q R rx h
  unfold oNeg at h
  split at h
  · cases rx; exact ⟨_, rfl, h Ω _ Up.refl R .int⟩
  · exact h.elim

/-! ### equality -/
/-- data: None, bools, ints, texts, lists and tuples of such -/
def toDs (f : T → Option PyData) : List T → Option (List PyData)
  | [] => some []
  | t :: ts => match f t with
    | none => none
    | some d => match toDs f ts with
      | none => none
      | some ds => some (d :: ds)
def toD (g : VH) : Nat → T → Option PyData
  | 0, _ => none
  | n + 1, t => match t with
    | .non => some .none
    | .bl b => some (.bool b)
    | .int i => some (.int i)
    | .str x => some (.str ⟨x.toArray⟩)
    | .tup l => (toDs (toD g n) l).map .tuple
    | .lst l => (toDs (toD g n) l).map .list
    | .rol l => (toDs (toD g n) l).map .list
    | .ref r i => match at2 g r i with
      | some (some (.lst l)) => (toDs (toD g n) l).map .list
      | _ => none
    | _ => none
theorem toDs_ok {c : Cn} {Ω : Ws} {f : T → Option PyData} (hf : ∀ t v d, RepW c Ω t v → f t = some d → Dp c.K Ω.H v d) : ∀ (ts : List T) (vs : List V) (ds : List PyData), RepsW c Ω ts vs → toDs f ts = some ds → DpAll c.K Ω.H vs ds
  | [], _, _, .nil, h => by unfold toDs at h; cases h; exact .nil
  | t :: ts, _, _, .cons r rs, h => by
    unfold toDs at h
    split at h
    · cases h
    · rename_i d q
      split at h
      · cases h
      · rename_i ds q2
        cases h
        exact .cons (hf _ _ _ r q) (toDs_ok hf ts _ _ rs q2)
theorem toD_ok {c : Cn} {Ω : Ws} {g : VH} (R : Rel c Ω g) : ∀ (n : Nat) (t : T) (v : V) (d : PyData), RepW c Ω t v → toD g n t = some d → Dp c.K Ω.H v d := by
  intro n
  induction n with
  | zero => intro t v d r h; cases h
  | succ n ih =>
    intro t v d r h
    unfold toD at h
    cases r with
    | non => cases h; exact .non
    | bl => cases h; exact .bl _
    | int => cases h; exact .int _
    | str => cases h; exact .str _
    | tup hp rs =>
      obtain ⟨ds, q, e⟩ := Option.map_eq_some_iff.mp h
      subst e
      exact .tup (.inl (.inl (R.sub _ _ hp))) (toDs_ok ih _ _ _ rs q)
    | lst hp rs =>
      obtain ⟨ds, q, e⟩ := Option.map_eq_some_iff.mp h
      subst e
      exact .lst (.inl (.inl (R.sub _ _ hp))) (toDs_ok ih _ _ _ rs q)
    | rol hp rs =>
      obtain ⟨ds, q, e⟩ := Option.map_eq_some_iff.mp h
      subst e
      exact .lst (Evl.ex_l R.sub hp) (toDs_ok ih _ _ _ rs q)
    | ref ha =>
      simp only at h
      split at h
      · rename_i l hl
        obtain ⟨ds, q, e⟩ := Option.map_eq_some_iff.mp h
        subst e
        obtain ⟨a', ho, h1, h2, h3, h4⟩ := R.live _ _ _ hl
        rw [ha] at h1; cases h1
        cases h4 with
        | lst rs => exact .lst (.inl (.inl h2)) (toDs_ok ih _ _ _ rs q)
      · cases h
    | stc => cases h
    | fnv _ _ => cases h
    | bty => cases h
    | dct => cases h
    | obj => cases h
/-- scalars -/
def scT : T → T → Option Bool
  | .non, .non => some true
  | .non, .int _ => some false
  | .int _, .non => some false
  | .non, .bl _ => some false
  | .bl _, .non => some false
  | .non, .str _ => some false
  | .str _, .non => some false
  | .int i, .int j => some (decide (i = j))
  | .bl a, .bl b => some (decide (a = b))
  | .str a, .str b => some (decide (a = b))
  | .int _, .str _ => some false
  | .str _, .int _ => some false
  | .bl _, .str _ => some false
  | .str _, .bl _ => some false
  | _, _ => none
def eqT (x y : T) (g : VH) : Option Bool := match scT x y with
  | some b => some b
  | none => match toD g 40 x, toD g 40 y with
    | some d, some e => if SeqAt.shaped d && SeqAt.shaped e then some (PyData.eqv d e) else none
    | _, _ => none
def oEq (neg : Bool) (x y : T) (g : VH) : R T := match eqT x y g with
  | some b => .ok (.bl (if neg then !b else b)) g
  | none => .no
theorem str_inj {a b : List Nat} : ((⟨a.toArray⟩ : Str) = ⟨b.toArray⟩) ↔ a = b := by
  constructor
  · intro h
    have := congrArg (fun z : Str => z.cps.toList) h
    simpa using this
  · intro h; rw [h]
theorem scT_ok {c : Cn} {Ω : Ws} {x y : T} {xv yv : V} {b : Bool} (rx : RepW c Ω x xv) (ry : RepW c Ω y yv) (h : scT x y = some b) : scal xv yv = true ∧ decide (xv = yv) = b := by
  unfold scT at h
  split at h <;> first
    | (cases rx; cases ry; injection h with h; subst h; refine ⟨rfl, ?_⟩; simp; done)
    | (cases rx; cases ry; injection h with h; subst h; refine ⟨rfl, ?_⟩; simp [str_inj]; done)
    | cases h
def rEq2 (K : PySem.W.Frag) : R2 := fun x y H Q => rEq x y H Q ∨ rEqD K x y H Q
def rNe2 (K : PySem.W.Frag) : R2 := fun x y H Q => rNe x y H Q ∨ rNeD K x y H Q
theorem op_eq2 {X : Cx} (hu : X.A.units + 64 < cLine) : OpR X (compareOp .Eq) (rEq2 X.K) := OpR.or op_eq (op_eqD hu)
theorem op_ne2 {X : Cx} (hu : X.A.units + 64 < cLine) : OpR X (compareOp .NotEq) (rNe2 X.K) := OpR.or op_ne (op_neD hu)
theorem eqT_ok {c : Cn} {Ω : Ws} {g : VH} {x y : T} {xv yv : V} {b : Bool} (R : Rel c Ω g) (rx : RepW c Ω x xv) (ry : RepW c Ω y yv) (h : eqT x y g = some b) :
    (scal xv yv = true ∧ decide (xv = yv) = b) ∨ ∃ d e, Dp c.K Ω.H xv d ∧ Dp c.K Ω.H yv e ∧ SeqAt.shaped d = true ∧ SeqAt.shaped e = true ∧ PyData.eqv d e = b := by
  unfold eqT at h
  split at h
  · rename_i b' q
    cases h
    exact .inl (scT_ok rx ry q)
  · split at h
    · rename_i d e q1 q2
      split at h
      · rename_i hs
        cases h
        obtain ⟨s1, s2⟩ := Bool.and_eq_true_iff.mp hs
        exact .inr ⟨d, e, toD_ok R _ _ _ _ rx q1, toD_ok R _ _ _ _ ry q2, s1, s2, rfl⟩
      · cases h
    · cases h
theorem os_eq {c : Cn} {K : PySem.W.Frag} (hK : c.K = K) : OpS c (rEq2 K) (oEq false) := by
  subst hK
  intro W σ Ω g x y xv yv Q R rx ry h
  unfold oEq at h
  split at h
  · rename_i b q
    have k : Q (.bl b) Ω.H := h Ω _ Up.refl R .bl
    rcases eqT_ok R rx ry q with ⟨h1, h2⟩ | ⟨d, e, h1, h2, h3, h4, h5⟩
    · exact .inl ⟨h1, by rw [h2]; exact k⟩
    · exact .inr ⟨d, e, h1, h2, h3, h4, by rw [h5]; exact k⟩
  · exact h.elim
theorem os_ne {c : Cn} {K : PySem.W.Frag} (hK : c.K = K) : OpS c (rNe2 K) (oEq true) := by
  subst hK
  intro W σ Ω g x y xv yv Q R rx ry h
  unfold oEq at h
  split at h
  · rename_i b q
    have k : Q (.bl (!b)) Ω.H := h Ω _ Up.refl R .bl
    rcases eqT_ok R rx ry q with ⟨h1, h2⟩ | ⟨d, e, h1, h2, h3, h4, h5⟩
    · exact .inl ⟨h1, by rw [h2]; exact k⟩
    · exact .inr ⟨d, e, h1, h2, h3, h4, by rw [h5]; exact k⟩
  · exact h.elim

/-! ### is None -/
def oIsN (neg : Bool) (x y : T) (g : VH) : R T := match y with
  | .non => match x with
    | .non => .ok (.bl (!neg)) g
    | _ => .ok (.bl neg) g
  | _ => .no
theorem os_isN {c : Cn} : OpS c (fun x y H Q => y = .non ∧ Q (.bl (decide (x = .non))) H) (oIsN false) := by
  intro W σ Ω g x y xv yv Q R rx ry h
  unfold oIsN at h
  split at h
  · cases ry
    refine ⟨rfl, ?_⟩
    cases rx <;> exact h Ω _ Up.refl R (by first | exact .bl)
  · exact h.elim
theorem os_notN {c : Cn} : OpS c (fun x y H Q => y = .non ∧ Q (.bl (!decide (x = .non))) H) (oIsN true) := by
  intro W σ Ω g x y xv yv Q R rx ry h
  unfold oIsN at h
  split at h
  · cases ry
    refine ⟨rfl, ?_⟩
    cases rx <;> exact h Ω _ Up.refl R (by first | exact .bl)
  · exact h.elim

/-! ### tables -/
def eqK : T → T → Bool
  | .int i, .int j => decide (i = j)
  | .str a, .str b => decide (a = b)
  | _, _ => false
def isK : T → Bool
  | .int _ => true
  | .str _ => true
  | _ => false
def lkp : List T → List T → T → Option T
  | k :: ks, t :: ts, q => if eqK k q then some t else lkp ks ts q
  | _, _, _ => none
/-- stored: in its place, or at the end -/
def putT (ks ts : List T) (q v : T) : List T × List T := if ks.any (fun k => eqK k q) then (ks, List.zipWith (fun k t => if eqK k q then v else t) ks ts) else (ks ++ [q], ts ++ [v])
def dctOf (t : T) (g : VH) : Option (List T × List T) := match t with
  | .dct ks ts => some (ks, ts)
  | .ref r i => match at2 g r i with
    | some (some (.dct ks ts)) => some (ks, ts)
    | _ => none
  | _ => none
theorem eqK_ok {a b : Key} : eqK (keyT a) (keyT b) = decide (a = b) := by
  cases a with
  | inl i => cases b with
    | inl j => simp [eqK, keyT]
    | inr y => simp [eqK, keyT]
  | inr x => cases b with
    | inl j => simp [eqK, keyT]
    | inr y =>
      simp only [eqK, keyT]
      apply decide_eq_decide.mpr
      constructor
      · intro h
        have : x.cps = y.cps := by
          have := congrArg List.toArray h
          simpa using this
        cases x; cases y; simp at this; rw [this]
      · intro h
        injection h with h
        rw [h]
theorem key_of_T {c : Cn} {F : Hp} {ρ : List (List Addr)} {t : T} {v : V} (r : Rep c F ρ t v) (h : isK t = true) : ∃ k, t = keyT k ∧ v = kV k := by
  cases r with
  | int => exact ⟨.inl _, rfl, rfl⟩
  | str => exact ⟨.inr ⟨_⟩, by simp [keyT], rfl⟩
  | _ => cases h
theorem lkp_ok {c : Cn} {F : Hp} {ρ : List (List Addr)} (k : Key) : ∀ (kvs : List (Key × V)) (ts : List T), Reps c F ρ ts (kvs.map (·.2)) →
    match lkp (kvs.map fun kv => keyT kv.1) ts (keyT k) with
    | some t => ∃ v, valV kvs k = some v ∧ Rep c F ρ t v
    | none => valV kvs k = none
  | [], ts, h => by simp [lkp, valV_nil]
  | kv :: kvs, _, .cons (t := t) (ts := ts) r rs => by
    simp only [List.map_cons, lkp, eqK_ok]
    by_cases e : kv.1 = k
    · rw [if_pos (decide_eq_true e)]
      exact ⟨kv.2, valV_pos e, r⟩
    · rw [if_neg (by simp [e]), valV_neg e]
      exact lkp_ok k kvs ts rs
theorem any_keys (k : Key) (kvs : List (Key × V)) : (kvs.map fun kv => keyT kv.1).any (fun x => eqK x (keyT k)) = kvs.any fun kv => decide (kv.1 = k) := by
  rw [List.any_map]
  congr 1
  funext kv
  exact eqK_ok
theorem putT_ok {c : Cn} {F : Hp} {ρ : List (List Addr)} (k : Key) {t : T} {v : V} (r : Rep c F ρ t v) (kvs : List (Key × V)) (ts : List T) (rs : Reps c F ρ ts (kvs.map (·.2))) :
    (putT (kvs.map fun kv => keyT kv.1) ts (keyT k) t).1 = (putK kvs k v).map (fun kv => keyT kv.1) ∧ Reps c F ρ (putT (kvs.map fun kv => keyT kv.1) ts (keyT k) t).2 ((putK kvs k v).map (·.2)) := by
  unfold putT putK
  rw [any_keys]
  split
  · refine ⟨?_, ?_⟩
    · rw [List.map_map]
      apply List.map_congr_left
      intro kv _
      simp only [Function.comp]
      split <;> rfl
    · rw [List.map_map]
      rename_i hany
      clear hany
      induction kvs generalizing ts with
      | nil => cases rs; exact .nil
      | cons kv kvs ih =>
        cases rs with
        | cons a b =>
          simp only [List.map_cons, List.zipWith_cons_cons, eqK_ok, Function.comp]
          by_cases e : kv.1 = k
          · rw [if_pos (decide_eq_true e), if_pos e]
            exact .cons r (ih _ b)
          · rw [if_neg (by simp [e]), if_neg e]
            exact .cons a (ih _ b)
  · refine ⟨by simp, ?_⟩
    rw [List.map_append]
    exact rs.app (.cons r .nil)
end Zz
set_option Elab.async false
set_option linter.all false
set_option maxRecDepth 100000
set_option maxHeartbeats 4000000
/-! Zz 5: in, items, slices, displays, calls and methods of built-in types -/
namespace Zz
open PySem L2

/-! ### x in y -/
def flatT : T → Bool
  | .non => true
  | .bl _ => true
  | .int _ => true
  | .str _ => true
  | _ => false
def eqF : T → T → Bool
  | .non, .non => true
  | .bl a, .bl b => a == b
  | .bl a, .int b => (if a then 1 else 0) == b
  | .int a, .bl b => a == (if b then 1 else 0)
  | .int a, .int b => a == b
  | .str a, .str b => decide (a = b)
  | _, _ => false
def inF (x : T) (l : List T) : Bool := l.any fun y => eqF y x
section
variable {c : Cn} {F : Hp} {ρ : List (List Addr)}
theorem flat_ok {t : T} {v : V} (r : Rep c F ρ t v) : flatV v = flatT t := by cases r <;> rfl
theorem flats_ok {ts : List T} {vs : List V} (r : Reps c F ρ ts vs) : vs.all flatV = ts.all flatT := by
  induction ts generalizing vs with
  | nil => cases r; rfl
  | cons t ts ih => cases r with | cons a b => rw [List.all_cons, List.all_cons, flat_ok a, ih b]
theorem eqF_ok {x y : T} {xv yv : V} (rx : Rep c F ρ x xv) (ry : Rep c F ρ y yv) (fx : flatT x = true) (fy : flatT y = true) : eqV xv yv = eqF x y := by
  cases rx <;> first | (cases fx; done) | skip
  all_goals (cases ry <;> first | (cases fy; done) | rfl | skip)
  simp only [eqV, eqF]
  rw [Bool.eq_iff_iff]
  simp [str_inj]
theorem inF_ok {x : T} {xv : V} {ts : List T} {vs : List V} (rx : Rep c F ρ x xv) (fx : flatT x = true) (rs : Reps c F ρ ts vs) (fs : ts.all flatT = true) : inV xv vs = inF x ts := by
  unfold inV inF
  induction ts generalizing vs with
  | nil => cases rs; rfl
  | cons t ts ih =>
    cases rs with
    | cons a b =>
      rw [List.all_cons, Bool.and_eq_true_iff] at fs
      rw [List.any_cons, List.any_cons, eqF_ok a rx fs.1 fx, ih b fs.2]
end
def seqOf (t : T) (g : VH) : Option (List T) := match t with
  | .tup l => some l
  | t => vwR t g
theorem seqOf_ok {c : Cn} {Ω : Ws} {g : VH} {t : T} {v : V} {l : List T} (R : Rel c Ω g) (r : RepW c Ω t v) (h : seqOf t g = some l) : ∃ p vs, v = .ref p ∧ (SqL c.K Ω.H p vs ∨ SqT c.K Ω.H p vs) ∧ RepsW c Ω l vs := by
  unfold seqOf at h
  split at h
  · cases h
    obtain ⟨p, vs, e, h1, h2⟩ := tup_ok R r
    exact ⟨p, vs, e, .inr (.inl (.inl h1)), h2⟩
  · obtain ⟨p, vs, e, h1, h2⟩ := vwR_ok R r h
    exact ⟨p, vs, e, .inl h1, h2⟩
theorem dctOf_ok {c : Cn} {Ω : Ws} {g : VH} {t : T} {v : V} {ks ts : List T} (R : Rel c Ω g) (r : RepW c Ω t v) (h : dctOf t g = some (ks, ts)) : ∃ p kvs, v = .ref p ∧ Rd Ω.H p (.dK kvs) ∧ ks = kvs.map (fun kv => keyT kv.1) ∧ RepsW c Ω ts (kvs.map (·.2)) := by
  cases r with
  | dct hp e rs => simp only [dctOf] at h; cases h; exact ⟨_, _, rfl, .inr ⟨_, R.sub _ _ hp⟩, e, rs⟩
  | ref ha =>
    simp only [dctOf] at h
    split at h
    · rename_i hl
      cases h
      obtain ⟨a', ho, h1, h2, h3, h4⟩ := R.live _ _ _ hl
      rw [ha] at h1; cases h1
      cases h4 with
      | dct e rs => exact ⟨_, _, rfl, .inl h2, e, rs⟩
    · cases h
  | _ => simp only [dctOf] at h; cases h
theorem lkp_get {c : Cn} {Ω : Ws} {p : Addr} {kvs : List (Key × V)} {ks ts : List T} {y : T} {yv : V} (hd : Rd Ω.H p (.dK kvs)) (hks : ks = kvs.map fun kv => keyT kv.1) (rs : RepsW c Ω ts (kvs.map (·.2))) (ry : RepW c Ω y yv) (hy : isK y = true) :
    ∃ o, DGet Ω.H p yv o ∧ match lkp ks ts y with
      | some t => ∃ v, o = some v ∧ RepW c Ω t v
      | none => o = none := by
  obtain ⟨k, e1, e2⟩ := key_of_T ry hy
  subst e1; subst e2; subst hks
  refine ⟨valV kvs k, .inl ⟨kvs, k, hd, rfl, rfl⟩, ?_⟩
  have h := lkp_ok k kvs ts rs
  split at h
  · rename_i t q
    first | (rw [q]; exact h) | exact h
  · rename_i q
    first | (rw [q]; exact h) | exact h
/-- x in y, nested data in a list -/
def inD (neg : Bool) (x y : T) (g : VH) : R T := match toD g 40 x, toD g 40 y with
  | some d, some (.list ds) => if SeqAt.shaped d && SeqAt.shaped (.list ds) then .ok (.bl (if neg then !(ds.any fun z => PyData.eqv z d) else ds.any fun z => PyData.eqv z d)) g else .no
  | _, _ => .no
theorem inD_ok {c : Cn} {W : WX} {σ : L2.St} {Ω : Ws} {g : VH} {neg : Bool} {x y : T} {xv yv : V} {Q : VK} (R : Rel c Ω g) (rx : RepW c Ω x xv) (ry : RepW c Ω y yv) (h : EndG c W σ Ω g (RepW c) Q (inD neg x y g)) :
    ∃ d ds, Dp c.K Ω.H xv d ∧ Dp c.K Ω.H yv (.list ds) ∧ SeqAt.shaped d = true ∧ SeqAt.shaped (.list ds) = true ∧ Q (.bl (if neg then !(ds.any fun z => PyData.eqv z d) else ds.any fun z => PyData.eqv z d)) Ω.H := by
  unfold inD at h
  split at h
  · rename_i d ds q1 q2
    split at h
    · rename_i hs
      obtain ⟨s1, s2⟩ := Bool.and_eq_true_iff.mp hs
      exact ⟨d, ds, toD_ok R _ _ _ _ rx q1, toD_ok R _ _ _ _ ry q2, s1, s2, h Ω _ Up.refl R .bl⟩
    · exact h.elim
  · exact h.elim
/-- x in y -/
def oIn (neg : Bool) (x y : T) (g : VH) : R T := match x, y with
  | .str a, .str z => match a with
    | [s] => .ok (.bl (if neg then !(decide (s ∈ z)) else decide (s ∈ z))) g
    | _ => .no
  | x, y => match seqOf y g with
    | some l => if flatT x && l.all flatT then .ok (.bl (if neg then !(inF x l) else inF x l)) g else inD neg x y g
    | none => match dctOf y g with
      | some (ks, ts) => if isK x then .ok (.bl (if neg then !((lkp ks ts x).isSome) else (lkp ks ts x).isSome)) g else .no
      | none => .no
def rIn3 (K : PySem.W.Frag) : R2 := fun x y H Q => (∃ (c : Nat) (z : Str), x = .str ⟨#[c]⟩ ∧ y = .str z ∧ Q (.bl (decide (c ∈ z.cps.toList))) H) ∨ rIn K false x y H Q ∨ (∃ a o, y = .ref a ∧ DGet H a x o ∧ Q (.bl o.isSome) H) ∨ rInD K x y H Q
def rNi3 (K : PySem.W.Frag) : R2 := fun x y H Q => (∃ (c : Nat) (z : Str), x = .str ⟨#[c]⟩ ∧ y = .str z ∧ Q (.bl (!decide (c ∈ z.cps.toList))) H) ∨ rIn K true x y H Q ∨ (∃ a o, y = .ref a ∧ DGet H a x o ∧ Q (.bl (!o.isSome)) H) ∨ rNotInD K x y H Q
theorem op_in3 {X : Cx} (hu : X.A.units + 65 < cLine) : OpR X (compareOp .In) (rIn3 X.K) := OpR.or op_in_sign (OpR.or op_in_seq (OpR.or (by
  intro pins s σ H x y v u Q I rx ry h
  obtain ⟨a, o, rfl, g, q⟩ := h
  cases (show u = Value.ref a from ry)
  exact d_in (by omega) I g rx fun s3 I3 => ⟨.bl o.isSome, H, I3, rfl, q⟩) (op_inD hu)))
theorem op_ni3 {X : Cx} (hu : X.A.units + 65 < cLine) : OpR X (compareOp .NotIn) (rNi3 X.K) := OpR.or op_notIn_sign (OpR.or op_notIn_seq (OpR.or (by
  intro pins s σ H x y v u Q I rx ry h
  obtain ⟨a, o, rfl, g, q⟩ := h
  cases (show u = Value.ref a from ry)
  exact d_notIn (by omega) I g rx fun s3 I3 => ⟨.bl (!o.isSome), H, I3, rfl, q⟩) (op_notInD hu)))
theorem os_in {c : Cn} {K : PySem.W.Frag} (hK : c.K = K) : OpS c (rIn3 K) (oIn false) := by
  subst hK
  intro W σ Ω g x y xv yv Q R rx ry h
  unfold oIn at h
  split at h
  · split at h
    · cases rx; cases ry
      exact .inl ⟨_, _, rfl, rfl, by rw [List.toList_toArray]; exact h Ω _ Up.refl R .bl⟩
    · exact h.elim
  · split at h
    · rename_i l q
      split at h
      · rename_i hf
        obtain ⟨f1, f2⟩ := Bool.and_eq_true_iff.mp hf
        obtain ⟨p, vs, e, h1, h2⟩ := seqOf_ok R ry q
        refine .inr (.inl ⟨p, vs, e, h1, by rw [flat_ok rx]; exact f1, by rw [flats_ok h2]; exact f2, ?_⟩)
        have k : Q (.bl (inF x l)) Ω.H := h Ω _ Up.refl R .bl
        rw [← inF_ok rx f1 h2 f2] at k
        exact k
      · exact .inr (.inr (.inr (inD_ok R rx ry h)))
    · split at h
      · rename_i ks ts q
        split at h
        · rename_i hk
          obtain ⟨p, kvs, e, h1, h2, h3⟩ := dctOf_ok R ry q
          obtain ⟨o, d, ho⟩ := lkp_get h1 h2 h3 rx hk
          have k : Q (.bl ((lkp ks ts x).isSome)) Ω.H := h Ω _ Up.refl R .bl
          refine .inr (.inr (.inl ⟨p, o, e, d, ?_⟩))
          cases q2 : lkp ks ts x with
          | none => rw [q2] at ho k; rw [ho]; exact k
          | some t => rw [q2] at ho k; obtain ⟨v, e2, _⟩ := ho; rw [e2]; exact k
        · exact h.elim
      · exact h.elim
theorem os_ni {c : Cn} {K : PySem.W.Frag} (hK : c.K = K) : OpS c (rNi3 K) (oIn true) := by
  subst hK
  intro W σ Ω g x y xv yv Q R rx ry h
  unfold oIn at h
  split at h
  · split at h
    · cases rx; cases ry
      exact .inl ⟨_, _, rfl, rfl, by rw [List.toList_toArray]; exact h Ω _ Up.refl R .bl⟩
    · exact h.elim
  · split at h
    · rename_i l q
      split at h
      · rename_i hf
        obtain ⟨f1, f2⟩ := Bool.and_eq_true_iff.mp hf
        obtain ⟨p, vs, e, h1, h2⟩ := seqOf_ok R ry q
        refine .inr (.inl ⟨p, vs, e, h1, by rw [flat_ok rx]; exact f1, by rw [flats_ok h2]; exact f2, ?_⟩)
        have k : Q (.bl (!(inF x l))) Ω.H := h Ω _ Up.refl R .bl
        rw [← inF_ok rx f1 h2 f2] at k
        exact k
      · exact .inr (.inr (.inr (inD_ok R rx ry h)))
    · split at h
      · rename_i ks ts q
        split at h
        · rename_i hk
          obtain ⟨p, kvs, e, h1, h2, h3⟩ := dctOf_ok R ry q
          obtain ⟨o, d, ho⟩ := lkp_get h1 h2 h3 rx hk
          have k : Q (.bl (!((lkp ks ts x).isSome))) Ω.H := h Ω _ Up.refl R .bl
          refine .inr (.inr (.inl ⟨p, o, e, d, ?_⟩))
          cases q2 : lkp ks ts x with
          | none => rw [q2] at ho k; rw [ho]; exact k
          | some t => rw [q2] at ho k; obtain ⟨v, e2, _⟩ := ho; rw [e2]; exact k
        · exact h.elim
      · exact h.elim

/-! ### x[i] -/
def oIx (x y : T) (g : VH) : R T := match dctOf x g with
  | some (ks, ts) => if isK y then (match lkp ks ts y with
    | some t => .ok t g
    | none => .no) else .no
  | none => match y with
    | .int i => match x with
      | .str z => if z.length ≤ 16777216 then (match atI z i with
        | some s => .ok (.str [s]) g
        | none => .no) else .no
      | x => match seqOf x g with
        | some l => match atI l i with
          | some t => .ok t g
          | none => .no
        | none => .no
    | _ => .no
def rDIx : R2 := fun x y H Q => ∃ a v, x = .ref a ∧ DGet H a y (some v) ∧ Q v H
theorem ix_dict {X : Cx} (hu : X.A.units + 1 < cLine) : IxR X rDIx := by
  intro value slice pins s σ H x y v u Q I rx ry h hs
  obtain ⟨a, z, rfl, g, q⟩ := h
  cases (show v = Value.ref a from rx)
  exact PyProof.Rows.tail_any (dict_typeIs I g) PySem.F.slot_dict_getitem.lookup (d_getItem hu I g ry fun w' s3 I3 rw' => ⟨z, H, I3, rw', q⟩) hs
def rIx4 (K : PySem.W.Frag) : R2 := fun x y H Q => rIxL K x y H Q ∨ rIxT K x y H Q ∨ rIxS x y H Q ∨ rDIx x y H Q
theorem ix_4 {X : Cx} (hu : X.A.units + 1 < cLine) : IxR X (rIx4 X.K) := IxR.or ix_list (IxR.or ix_tup (IxR.or ix_str (ix_dict hu)))
theorem ixN_len {α β : Type} {xs : List α} {ys : List β} (h : xs.length = ys.length) (i : Int) : ixN xs.length i = ixN ys.length i := by rw [h]
theorem atI_rep {c : Cn} {F : Hp} {ρ : List (List Addr)} {l : List T} {vs : List V} {i : Int} {t : T} (r : Reps c F ρ l vs) (h : atI l i = some t) : ∃ v, atI vs i = some v ∧ Rep c F ρ t v := by
  unfold atI at h ⊢
  rw [← r.len]
  cases q : ixN l.length i with
  | none => rw [q] at h; cases h
  | some j =>
    rw [q] at h
    exact r.get h
theorem os_ix {c : Cn} {K : PySem.W.Frag} (hK : c.K = K) : OpS c (rIx4 K) oIx := by
  subst hK
  intro W σ Ω g x y xv yv Q R rx ry h
  unfold oIx at h
  split at h
  · rename_i ks ts q
    split at h
    · rename_i hk
      split at h
      · rename_i t q2
        obtain ⟨p, kvs, e, h1, h2, h3⟩ := dctOf_ok R rx q
        obtain ⟨o, d, ho⟩ := lkp_get h1 h2 h3 ry hk
        rw [q2] at ho
        obtain ⟨v, e2, r2⟩ := ho
        subst e2
        exact .inr (.inr (.inr ⟨p, v, e, d, h Ω v Up.refl R r2⟩))
      · exact h.elim
    · exact h.elim
  · split at h
    · rename_i i
      cases ry
      split at h
      · cases rx
        split at h
        · rename_i z hz
          split at h
          · rename_i s' q
            refine .inr (.inr (.inl ⟨_, _, s', rfl, rfl, by rw [str_len, sizeLine_eq]; exact hz, by rw [List.toList_toArray]; exact q, ?_⟩))
            exact h Ω _ Up.refl R .str
          · exact h.elim
        · exact h.elim
      · split at h
        · rename_i l q
          split at h
          · rename_i t q2
            obtain ⟨p, vs, e, h1, h2⟩ := seqOf_ok R rx q
            obtain ⟨v, h3, h4⟩ := atI_rep h2 q2
            have k := h Ω v Up.refl R h4
            rcases h1 with h1 | h1
            · exact .inl ⟨p, vs, i, v, e, rfl, h1, h3, k⟩
            · exact .inr (.inl ⟨p, vs, i, v, e, rfl, h1, h3, k⟩)
          · exact h.elim
        · exact h.elim
    · exact h.elim

/-! ### displays -/
def fTup (fa : Ea) : Ev := fun ts g => (fa ts g).bind fun l g1 => if l.length ≤ 16777216 then .ok (.tup l) g1 else .no
def fLst (lv : Bool) (fa : Ea) : Ev := fun ts g => (fa ts g).bind fun l g1 => if l.length ≤ 16777216 then mkL lv l g1 else .no
/-- {} : live -/
def fDn : Ev := fun _ g => match g with
  | [] => .no
  | g => .ok (.ref (topR g) (topI g)) (ppush (some (.dct [] [])) g)
/-- {} : frozen -/
def fDf : Ev := fun _ g => .ok (.dct [] []) g
theorem PE_lk {X : Cx} {e : Expr} {t : TE} (h : PE X e t) : PE X e (fun σ H Q => t σ H fun v H1 => Lks (Q v) H1) := by
  refine ⟨fun pins s σ H Q I q => thn (h.run pins s σ H _ I q) fun u s1 z => ?_⟩
  obtain ⟨v, H', I', r, q⟩ := z
  obtain ⟨H2, I2, q2, _⟩ := q.run I'
  exact ⟨v, H2, I2, r, q2⟩
section
variable {c : Cn} {W : WX} {X : Cx} {es : List Expr} {fa : Ea} {pos : Pos}
theorem de_tup {x1} (h : PA X es (tA c W fa)) : PE X (.Tuple es x1 pos) (tE c W (fTup fa)) := PE_weak (pe_tup h) fun σ H Q h => by
  refine gOf_mono (tT_bind (RP := RepsW c) h) fun y H1 ⟨Ω1, g1, ts, x, e1, R1, S1, r1, h1⟩ => ?_
  subst e1
  split at h1
  · rename_i hl
    exact ⟨by rw [← r1.len, sizeLine_eq]; exact hl, mkT_of R1 r1 h1⟩
  · exact h1.elim
theorem de_lst (lv : Bool) (h : PA X es (tA c W fa)) : PE X (.List es pos) (tE c W (fLst lv fa)) := PE_weak (pe_lst h) fun σ H Q h => by
  refine gOf_mono (tT_bind (RP := RepsW c) h) fun y H1 ⟨Ω1, g1, ts, x, e1, R1, S1, r1, h1⟩ => ?_
  subst e1
  split at h1
  · rename_i hl
    exact ⟨by rw [← r1.len, sizeLine_eq]; exact hl, mkL_of R1 r1 h1⟩
  · exact h1.elim
theorem de_dn : PE X (.Dict [] [] pos) (tE c W fDn) := PE_weak pe_dnewK fun σ H Q ⟨Ω, g, ts, e, R, S, h⟩ => by
  subst e
  intro p hp
  unfold fDn at h
  split at h
  · exact h.elim
  · rename_i hg
    obtain ⟨R1, u1, e⟩ := R.laid (fun z => hg z) hp (x := .dct [] []) (o := .dK []) (.dct rfl .nil)
    exact h ⟨Ω.F, ppush p Ω.ρ, upd Ω.H p (.dK [])⟩ (.ref p) u1 R1 (.ref e)
theorem de_df : PE X (.Dict [] [] pos) (tE c W fDf) := PE_weak (PE_lk pe_dnewK) fun σ H Q ⟨Ω, g, ts, e, R, S, h⟩ => by
  subst e
  intro p hp
  refine .lock (u := .dK []) upd_same trivial fun od => .nil ?_
  obtain ⟨R1, u1⟩ := R.froz hp (.frz od (.dK []))
  rw [upd_upd]
  exact h ⟨upd Ω.F p (.frz od (.dK [])), Ω.ρ, upd Ω.H p (.frz od (.dK []))⟩ (.ref p) u1 R1 (.dct upd_same rfl .nil)
end

/-! ### slices -/
def cutT (l : List T) (lo hi : Option Int) : List T := (l.drop (HT.sIx l.length 0 lo)).take (HT.sIx l.length l.length hi - HT.sIx l.length 0 lo)
def cutN (l : List Nat) (lo hi : Option Int) : List Nat := (l.drop (HT.sIx l.length 0 lo)).take (HT.sIx l.length l.length hi - HT.sIx l.length 0 lo)
abbrev Eo := SL → VH → R (Option Int)
def fNo : Eo := fun _ g => .ok none g
def fSo (fa : Ev) : Eo := fun ts g => (fa ts g).bind fun x g1 => match x with
  | .int i => .ok (some i) g1
  | _ => .no
def oSl (lv : Bool) (x : T) (lo hi : Option Int) (g : VH) : R T := match x with
  | .str z => if z.length ≤ 16777216 then .ok (.str (cutN z lo hi)) g else .no
  | .tup l => if (HT.sIx l.length 0 lo = 0 ∧ HT.sIx l.length l.length hi = l.length) then .ok (.tup l) g else .ok (.tup (cutT l lo hi)) g
  | x => match vwR x g with
    | some l => mkL lv (cutT l lo hi) g
    | none => .no
def fSl (lv : Bool) (fa : Ev) (fl fh : Eo) : Ev := fun ts g => (fa ts g).bind fun x g1 => (fl ts g1).bind fun lo g2 => (fh ts g2).bind fun hi g3 => oSl lv x lo hi g3
abbrev tOo (c : Cn) (W : WX) (f : Eo) : TO := gOf c W (fun _ a b => a = b) f
section
variable {c : Cn} {W : WX} {X : Cx} {fa : Ev} {fl fh : Eo}
theorem do_no : PO X none (tOo c W fNo) := ⟨fun pins s σ H Q I ⟨Ω, g, ts, e, R, S, h⟩ => by
  subst e
  exact po_none.run pins s σ Ω.H Q I (h Ω none Up.refl R rfl)⟩
theorem do_so {e : Expr} (he : PE X e (tE c W fa)) : PO X (some e) (tOo c W (fSo fa)) := ⟨fun pins s σ H Q I h => by
  refine (po_some he).run pins s σ H Q I ?_
  refine gOf_mono (tT_bind (RP := RepW c) h) fun y H1 ⟨Ω1, g1, ts, x, e1, R1, S1, r1, h1⟩ => ?_
  subst e1
  cases r1 with
  | int => exact ⟨_, rfl, h1 Ω1 _ Up.refl R1 rfl⟩
  | _ => exact h1.elim⟩
def rSl3 (K : PySem.W.Frag) : V → Option Int → Option Int → Hp → VK → Prop := fun x lo hi H Q => rSlS x lo hi H Q ∨ rSlL K x lo hi H Q ∨ rSlA K x lo hi H Q
theorem sl_3 : SlR X (rSl3 X.K) := SlR.or sl_str (SlR.or sl_list sl_tupA)
theorem cutT_rep {F : Hp} {ρ : List (List Addr)} {l : List T} {vs : List V} (r : Reps c F ρ l vs) (lo hi : Option Int) : Reps c F ρ (cutT l lo hi) (cutV vs lo hi) := by
  unfold cutT cutV
  rw [← r.len]
  exact (r.drop _).take _
theorem oSl_of {lv : Bool} {K : PySem.W.Frag} (hK : c.K = K) {σ : L2.St} {Ω : Ws} {g : VH} {x : T} {xv : V} {lo hi : Option Int} {Q : VK} (R : Rel c Ω g) (r : RepW c Ω x xv) (h : EndG c W σ Ω g (RepW c) Q (oSl lv x lo hi g)) : rSl3 K xv lo hi Ω.H Q := by
  subst hK
  unfold oSl at h
  split at h
  · cases r
    split at h
    · rename_i z hz
      refine .inl ⟨_, rfl, by rw [str_len, sizeLine_eq]; exact hz, ?_⟩
      have e : cutS ⟨z.toArray⟩ lo hi = ⟨(cutN z lo hi).toArray⟩ := by
        unfold cutS cutN
        rw [str_len, List.toList_toArray]
      rw [e]
      exact h Ω _ Up.refl R .str
    · exact h.elim
  · obtain ⟨p, vs, e, h1, h2⟩ := tup_ok R r
    subst e
    refine .inr (.inr ⟨p, vs, rfl, .inl (.inl h1), fun hw => ?_, fun hw => ?_⟩)
    · rw [← h2.len] at hw
      rw [if_pos hw] at h
      exact h Ω _ Up.refl R r
    · rw [← h2.len] at hw
      rw [if_neg hw] at h
      exact mkT_of R (cutT_rep h2 lo hi) h
  · split at h
    · rename_i l q
      obtain ⟨p, vs, e, h1, h2⟩ := vwR_ok R r q
      exact .inr (.inl ⟨p, vs, e, h1, mkL_of R (cutT_rep h2 lo hi) h⟩)
    · exact h.elim
theorem de_sl {e : Expr} {lo hi : Option Expr} {pos p2 : Pos} (lv : Bool) (hK : c.K = X.K) (he : PE X e (tE c W fa)) (hl : PO X lo (tOo c W fl)) (hh : PO X hi (tOo c W fh)) : PE X (.Subscript e (.Slice lo hi none p2) pos) (tE c W (fSl lv fa fl fh)) :=
  PE_weak (pe_slice sl_3 he hl hh) fun σ H Q ⟨Ω, g, ts, e, R, S, h⟩ => by
    subst e
    refine ⟨Ω, g, ts, rfl, R, S, (EndG.bind h).mono fun xv H1 ⟨Ω1, g1, x, e1, u1, R1, r1, h1⟩ => ?_⟩
    subst e1
    refine ⟨Ω1, g1, ts, rfl, R1, S.up u1, (EndG.bind h1).mono fun lo H2 ⟨Ω2, g2, lo', e2, u2, R2, r2, h2⟩ => ?_⟩
    subst e2; subst r2
    refine ⟨Ω2, g2, ts, rfl, R2, (S.up u1).up u2, (EndG.bind h2).mono fun hi H3 ⟨Ω3, g3, hi', e3, u3, R3, r3, h3⟩ => ?_⟩
    subst e3; subst r3
    exact oSl_of hK R3 (r1.up (u2.trans u3)) h3
end
end Zz
set_option Elab.async false
set_option linter.all false
set_option maxRecDepth 100000
set_option maxHeartbeats 4000000
/-! Zz 6: calls and methods of built-in types; stores -/
namespace Zz
open PySem L2

/-! ### built-in calls -/
def oLen (xs : List T) (g : VH) : R T := match xs with
  | [x] => match x with
    | .str z => if z.length ≤ 16777216 then .ok (.int z.length) g else .no
    | x => match seqOf x g with
      | some l => .ok (.int l.length) g
      | none => match dctOf x g with
        | some (ks, _) => .ok (.int ks.length) g
        | none => .no
  | _ => .no
def rLen4 (K : PySem.W.Frag) : List V → Hp → VK → Prop := fun xs H Q => (∃ x n, xs = [x] ∧ LenV K x H n ∧ Q (.int n) H) ∨ ∃ a kvs, xs = [V.ref a] ∧ Rd H a (.dK kvs) ∧ Q (.int kvs.length) H
theorem cr_len4 {X : Cx} : CallR X (.builtin "len") (rLen4 X.K) := CallR.or call_len (by
  intro pins s σ H xs us Q I r h
  obtain ⟨a, kvs, rfl, ha, q⟩ := h
  cases r with
  | cons r1 r2 =>
    cases r2
    cases r1
    exact d_len I ha fun t s' I' => ⟨.int kvs.length, H, I', ⟨t, rfl⟩, q⟩)
theorem cs_len {c : Cn} {K : PySem.W.Frag} (hK : c.K = K) : CaS c (rLen4 K) oLen := by
  subst hK
  intro W σ Ω g x xv Q R r h
  unfold oLen at h
  split at h
  · cases r with
    | cons rx rn =>
      cases rn
      split at h
      · cases rx
        split at h
        · rename_i z hz
          refine .inl ⟨_, z.length, rfl, ⟨by rw [str_len, sizeLine_eq]; exact hz, by rw [str_len]⟩, ?_⟩
          exact h Ω _ Up.refl R .int
        · exact h.elim
      · split at h
        · rename_i l q
          obtain ⟨p, vs, e, h1, h2⟩ := seqOf_ok R rx q
          subst e
          refine .inl ⟨_, l.length, rfl, ?_, h Ω _ Up.refl R .int⟩
          rw [h2.len]
          exact h1.elim (fun z => .inl ⟨vs, z, rfl⟩) fun z => .inr ⟨vs, z, rfl⟩
        · split at h
          · rename_i ks ts q
            obtain ⟨p, kvs, e, h1, h2, h3⟩ := dctOf_ok R rx q
            subst e
            refine .inr ⟨p, kvs, rfl, h1, ?_⟩
            have k : Q (.int ks.length) Ω.H := h Ω _ Up.refl R .int
            rw [h2, List.length_map] at k
            exact k
          · exact h.elim
  · exact h.elim
/-- ints -/
def intsOf : List T → Option (List Int)
  | [] => some []
  | .int i :: ts => match intsOf ts with
    | some l => some (i :: l)
    | none => none
  | _ => none
theorem intsOf_ok {c : Cn} {F : Hp} {ρ : List (List Addr)} : ∀ {ts : List T} {vs : List V} {l : List Int}, Reps c F ρ ts vs → intsOf ts = some l → vs = l.map V.int
  | [], _, _, .nil, h => by unfold intsOf at h; cases h; rfl
  | t :: ts, _, l, .cons a b, h => by
    cases a with
    | int =>
      simp only [intsOf] at h
      split at h
      · rename_i l' q
        cases h
        rw [intsOf_ok b q]; rfl
      · cases h
    | _ => simp only [intsOf] at h; cases h
def oSum (xs : List T) (g : VH) : R T := match xs with
  | [x] => match vwR x g with
    | some l => match intsOf l with
      | some ns => .ok (.int ns.sum) g
      | none => .no
    | none => .no
  | _ => .no
theorem cs_sum {c : Cn} {K : PySem.W.Frag} (hK : c.K = K) : CaS c (rSum K) oSum := by
  subst hK
  intro W σ Ω g x xv Q R r h
  unfold oSum at h
  split at h
  · cases r with
    | cons rx rn =>
      cases rn
      split at h
      · rename_i l q
        split at h
        · rename_i ns q2
          obtain ⟨p, vs, e, h1, h2⟩ := vwR_ok R rx q
          subst e
          refine ⟨p, ns, rfl, ?_, h Ω _ Up.refl R .int⟩
          rw [← intsOf_ok h2 q2]; exact h1
        · exact h.elim
      · exact h.elim
  · exact h.elim
def oMax2 (xs : List T) (g : VH) : R T := match xs with
  | [.int i, .int j] => .ok (.int (if j > i then j else i)) g
  | _ => .no
def oMin2 (xs : List T) (g : VH) : R T := match xs with
  | [.int i, .int j] => .ok (.int (if j < i then j else i)) g
  | _ => .no
theorem cs_max2 {c : Cn} : CaS c (fun xs H Q => ∃ i j, xs = [.int i, .int j] ∧ Q (.int (if j > i then j else i)) H) oMax2 := by
  intro W σ Ω g x xv Q R r h
  unfold oMax2 at h
  split at h
  · cases r with
    | cons a r => cases r with
      | cons b r => cases r; cases a; cases b; exact ⟨_, _, rfl, h Ω _ Up.refl R .int⟩
  · exact h.elim
theorem cs_min2 {c : Cn} : CaS c (fun xs H Q => ∃ i j, xs = [.int i, .int j] ∧ Q (.int (if j < i then j else i)) H) oMin2 := by
  intro W σ Ω g x xv Q R r h
  unfold oMin2 at h
  split at h
  · cases r with
    | cons a r => cases r with
      | cons b r => cases r; cases a; cases b; exact ⟨_, _, rfl, h Ω _ Up.refl R .int⟩
  · exact h.elim
def oInt (xs : List T) (g : VH) : R T := match xs with
  | [.int i] => .ok (.int i) g
  | [.str a] => if a.length ≤ 640 then (match PySem.intText? ⟨a.toArray⟩ with
    | some n => .ok (.int n) g
    | none => .no) else .no
  | _ => .no
def rInt2 : List V → Hp → VK → Prop := fun xs H Q => ((∃ i, xs = [.int i] ∧ Q (.int i) H) ∨ ∃ k, xs = [.bl k] ∧ Q (.int (if k then 1 else 0)) H) ∨ ∃ a n, xs = [.str a] ∧ PySem.intText? a = some n ∧ a.length ≤ 640 ∧ Q (.int n) H
theorem cr_int2 {X : Cx} : CallR X (.type "int") rInt2 := CallR.or call_int1 call_int_str
theorem cs_int {c : Cn} : CaS c rInt2 oInt := by
  intro W σ Ω g x xv Q R r h
  unfold oInt at h
  split at h
  · cases r with
    | cons a r => cases r; cases a; exact .inl (.inl ⟨_, rfl, h Ω _ Up.refl R .int⟩)
  · cases r with
    | cons a r =>
      cases r; cases a
      split at h
      · rename_i hl
        split at h
        · rename_i n q
          exact .inr ⟨_, n, rfl, q, by rw [str_len]; exact hl, h Ω _ Up.refl R .int⟩
        · exact h.elim
      · exact h.elim
  · exact h.elim
def codes (s : String) : List Nat := (Str.ofString s).cps.toList
theorem codes_eq (s : String) : (⟨(codes s).toArray⟩ : Str) = Str.ofString s := by
  unfold codes
  cases Str.ofString s
  simp
def oStr (xs : List T) (g : VH) : R T := match xs with
  | [.int i] => if i.natAbs.log2 < 1920 then .ok (.str (codes (toString i))) g else .no
  | _ => .no
theorem cs_str {c : Cn} : CaS c (fun xs H Q => ∃ i : Int, xs = [.int i] ∧ i.natAbs.log2 < 1920 ∧ Q (.str (Str.ofString (toString i))) H) oStr := by
  intro W σ Ω g x xv Q R r h
  unfold oStr at h
  split at h
  · cases r with
    | cons a r =>
      cases r; cases a
      split at h
      · rename_i i hl
        refine ⟨_, rfl, hl, ?_⟩
        rw [← codes_eq]
        exact h Ω _ Up.refl R .str
      · exact h.elim
  · exact h.elim
/-- list(x): of a list, a tuple, a dict -/
def oList (lv : Bool) (xs : List T) (g : VH) : R T := match xs with
  | [x] => match seqOf x g with
    | some l => mkL lv l g
    | none => match dctOf x g with
      | some (ks, _) => mkL lv ks g
      | none => .no
  | _ => .no
def rList2 (K : PySem.W.Frag) : List V → Hp → VK → Prop := fun xs H Q => (∃ p ys, xs = [.ref p] ∧ (SqL K H p ys ∨ SqT K H p ys) ∧ ∀ l, H l = none → Q (.ref l) (upd H l (.lst ys))) ∨
  ∃ (a : Addr) (kvs : List (Key × V)), xs = [.ref a] ∧ Rd H a (.dK kvs) ∧ ∀ p, H p = none → Q (.ref p) (upd H p (.lst (kvs.map fun kv => kV kv.1)))
theorem cr_list2 {X : Cx} (hc : X.calm = true) : CallR X (.type "list") (rList2 X.K) := CallR.or call_list_of (call_listD hc)
theorem keys_rep {c : Cn} {F : Hp} {ρ : List (List Addr)} (kvs : List (Key × V)) : Reps c F ρ (kvs.map fun kv => keyT kv.1) (kvs.map fun kv => kV kv.1) := by
  induction kvs with
  | nil => exact .nil
  | cons kv kvs ih =>
    refine .cons ?_ ih
    obtain ⟨k, v⟩ := kv
    cases k with
    | inl i => exact .int
    | inr x =>
      have e : x = ⟨x.cps.toList.toArray⟩ := by cases x; simp
      show Rep c F ρ (.str x.cps.toList) (.str x)
      have r : Rep c F ρ (.str x.cps.toList) (.str ⟨x.cps.toList.toArray⟩) := .str
      rw [← e] at r
      exact r
theorem cs_list {c : Cn} {K : PySem.W.Frag} (hK : c.K = K) (lv : Bool) : CaS c (rList2 K) (oList lv) := by
  subst hK
  intro W σ Ω g x xv Q R r h
  unfold oList at h
  split at h
  · cases r with
    | cons rx rn =>
      cases rn
      split at h
      · rename_i l q
        obtain ⟨p, vs, e, h1, h2⟩ := seqOf_ok R rx q
        subst e
        exact .inl ⟨p, vs, rfl, h1, mkL_of R h2 h⟩
      · split at h
        · rename_i ks ts q
          obtain ⟨p, kvs, e, h1, h2, h3⟩ := dctOf_ok R rx q
          subst e; subst h2
          exact .inr ⟨p, kvs, rfl, h1, mkL_of R (keys_rep kvs) h⟩
        · exact h.elim
  · exact h.elim

/-! ### methods -/
def TyS (c : Cn) (T0 : String) (ty : T → VH → Bool) : Prop := ∀ Ω g x xv, Rel c Ω g → RepW c Ω x xv → ty x g = true → tyV c.K T0 xv Ω.H
def tyStr (t : T) (_ : VH) : Bool := match t with
  | .str _ => true
  | _ => false
def tyInt (t : T) (_ : VH) : Bool := match t with
  | .int _ => true
  | _ => false
def tyLst (t : T) (g : VH) : Bool := (vwR t g).isSome
theorem ts_str {c : Cn} : TyS c "str" tyStr := fun Ω g x xv R r h => by cases r <;> first | rfl | cases h
theorem ts_lst {c : Cn} : TyS c "list" tyLst := fun Ω g x xv R r h => by
  unfold tyLst at h
  cases q : vwR x g with
  | none => rw [q] at h; cases h
  | some l =>
    obtain ⟨p, vs, e, h1, h2⟩ := vwR_ok R r q
    subst e
    exact .inl ⟨rfl, vs, h1⟩
def fBM (ty : T → VH → Bool) (fo : T → List T → VH → R T) (fa : Ev) (fr : Ea) : Ev := fun ts g => (fa ts g).bind fun x g1 => if ty x g1 then (fr ts g1).bind fun ys g2 => fo x ys g2 else .no
def fBM0 (ty : T → VH → Bool) (fo : T → List T → VH → R T) (fa : Ev) : Ev := fun ts g => (fa ts g).bind fun x g1 => if ty x g1 then fo x [] g1 else .no
section
variable {c : Cn} {W : WX} {X : Cx} {fa : Ev} {fr : Ea} {T0 id : String} {ty : T → VH → Bool} {r : V → List V → Hp → VK → Prop} {fo : T → List T → VH → R T} {o e : Expr} {es : List Expr} {name : Str} {apos cpos : Pos}
theorem de_bm (pa : PlainAttrs T0) (slot : Slot T0 name id) (hty : typeOf (.builtin id) = pure (.type "method_descriptor")) (hm : MtR X id r) (ht : TyS c T0 ty) (hs : MeS c r fo) (hK : c.K = X.K) (ho : PE X o (tE c W fa)) (ha : PA X (e :: es) (tA c W fr))
    (hbase : attributeBase o name X.env (eval o X.env) = eval o X.env := by rfl)
    (hfew : ((backTo cpos (starEach (e :: es) X.env)).all (fun x => !x.1) && (backToKw cpos (keywordEach [] X.env)).all (fun x => x.1.isSome)
      && decide ((e :: es).length + ([] : List Keyword).length + (if ([] : List Keyword).isEmpty then 0 else 1) < 30)) = true := by rfl)
    (hline : (apos.endLine == cpos.line) = true := by rfl) (hst : starEach (e :: es) X.env = (false, eval e X.env) :: starEach es X.env := by rfl) (hplain : (backTo cpos (starEach es X.env)).any (·.1) = false := by rfl) :
    PE X (.Call (.Attribute o name apos) (e :: es) [] cpos) (tE c W (fBM ty fo fa fr)) := PE_weak (pe_bm pa slot hty hm ho ha hbase hfew hline hst hplain) fun σ H Q ⟨Ω, g, ts, e, R, S, h⟩ => by
  subst e
  refine ⟨Ω, g, ts, rfl, R, S, (EndG.bind h).mono fun xv H1 ⟨Ω1, g1, x, e1, u1, R1, r1, h1⟩ => ?_⟩
  subst e1
  split at h1
  · rename_i hty
    refine ⟨by rw [← hK]; exact ht Ω1 g1 x xv R1 r1 hty, Ω1, g1, ts, rfl, R1, S.up u1, (EndG.bind h1).mono fun yv H2 ⟨Ω2, g2, y, e2, u2, R2, r2, h2⟩ => ?_⟩
    subst e2
    exact hs W σ Ω2 g2 x y xv yv Q R2 (r1.up u2) r2 h2
  · exact h1.elim
theorem de_bm0 (pa : PlainAttrs T0) (slot : Slot T0 name id) (hty : typeOf (.builtin id) = pure (.type "method_descriptor")) (hm : MtR X id r) (ht : TyS c T0 ty) (hs : MeS c r fo) (hK : c.K = X.K) (ho : PE X o (tE c W fa))
    (hbase : attributeBase o name X.env (eval o X.env) = eval o X.env := by rfl) (hline : (apos.endLine == cpos.line) = true := by rfl) :
    PE X (.Call (.Attribute o name apos) [] [] cpos) (tE c W (fBM0 ty fo fa)) := PE_weak (pe_bm0 pa slot hty hm ho hbase hline) fun σ H Q h => by
  refine gOf_mono (tT_bind (RP := RepW c) h) fun y H1 ⟨Ω1, g1, ts, x, e1, R1, S1, r1, h1⟩ => ?_
  subst e1
  split at h1
  · rename_i hty
    exact ⟨by rw [← hK]; exact ht Ω1 g1 x y R1 r1 hty, hs W σ Ω1 g1 x [] y [] Q R1 r1 .nil h1⟩
  · exact h1.elim
end
/-- a live list is changed by a method that gives back t -/
def wrL (x : T) (g : VH) (k : List T → Option (T × List T)) : R T := match x with
  | .ref r i => match at2 g r i with
    | some (some (.lst l)) => match k l with
      | some (t, l') => .ok t (set2 g r i (some (.lst l')))
      | none => .no
    | _ => .no
  | _ => .no
theorem wrL_of {c : Cn} {W : WX} {σ : L2.St} {Ω : Ws} {g : VH} {Q : VK} {x : T} {xv : V} {k : List T → Option (T × List T)} (R : Rel c Ω g) (r : RepW c Ω x xv) (h : EndG c W σ Ω g (RepW c) Q (wrL x g k)) :
    ∃ p vs l t l', xv = .ref p ∧ Ω.H p = some (.lst vs) ∧ RepsW c Ω l vs ∧ k l = some (t, l') ∧ ∀ v vs', RepW c Ω t v → RepsW c Ω l' vs' → Q v (upd Ω.H p (.lst vs')) := by
  unfold wrL at h
  split at h
  · rename_i r0 i
    split at h
    · rename_i l hl
      split at h
      · rename_i t l' hk
        cases r with
        | ref ha =>
          obtain ⟨a', ho, h1, h2, h3, h4⟩ := R.live _ _ _ hl
          rw [ha] at h1; cases h1
          cases h4 with
          | lst rs =>
            refine ⟨_, _, l, t, l', rfl, h2, rs, hk, fun v vs' rv rvs => ?_⟩
            obtain ⟨R1, u1⟩ := R.wrote hl ha (.lst rvs)
            exact h ⟨Ω.F, Ω.ρ, upd Ω.H _ (.lst vs')⟩ v u1 R1 (rv.up u1)
      · exact h.elim
    · exact h.elim
  · exact h.elim
def oAppend (x : T) (ys : List T) (g : VH) : R T := match ys with
  | [y] => wrL x g fun l => if l.length < 16777216 then some (.non, l ++ [y]) else none
  | _ => .no
theorem ms_append {c : Cn} : MeS c rAppend oAppend := by
  intro W σ Ω g x ys xv yv Q R rx ry h
  unfold oAppend at h
  split at h
  · cases ry with
    | cons r1 r2 =>
      cases r2
      obtain ⟨p, vs, l, t, l', e, h1, rs, hk, k⟩ := wrL_of R rx h
      split at hk
      · rename_i hl
        cases hk
        exact ⟨p, vs, _, e, rfl, h1, by rw [← rs.len, sizeLine_eq]; exact hl, k _ _ .non (rs.app (.cons r1 .nil))⟩
      · cases hk
  · exact h.elim
def oPop (x : T) (ys : List T) (g : VH) : R T := match ys with
  | [] => wrL x g fun l => match l[l.length - 1]? with
    | some y => some (y, l.dropLast)
    | none => none
  | _ => .no
theorem Reps.dropLast {c : Cn} {F : Hp} {ρ : List (List Addr)} {ts : List T} {vs : List V} (h : Reps c F ρ ts vs) : Reps c F ρ ts.dropLast vs.dropLast := by
  rw [List.dropLast_eq_take, List.dropLast_eq_take, h.len]
  exact h.take _
theorem ms_pop {c : Cn} : MeS c rPop oPop := by
  intro W σ Ω g x ys xv yv Q R rx ry h
  unfold oPop at h
  split at h
  · cases ry
    obtain ⟨p, vs, l, t, l', e, h1, rs, hk, k⟩ := wrL_of R rx h
    split at hk
    · rename_i y q
      cases hk
      obtain ⟨v, q2, rv⟩ := rs.get q
      rw [rs.len] at q2
      exact ⟨p, vs, v, e, rfl, h1, q2, k _ _ rv rs.dropLast⟩
    · cases hk
  · exact h.elim
/-- the first place of an item -/
def idxF (x : T) : List T → Option Nat
  | [] => none
  | t :: ts => if eqF t x then some 0 else (idxF x ts).map (· + 1)
theorem idxF_ok {c : Cn} {F : Hp} {ρ : List (List Addr)} {x : T} {xv : V} (rx : Rep c F ρ x xv) (fx : flatT x = true) : ∀ {ts : List T} {vs : List V} {j : Nat}, Reps c F ρ ts vs → ts.all flatT = true → idxF x ts = some j →
    ∃ z, vs[j]? = some z ∧ eqV z xv = true ∧ ∀ (m : Nat) (z' : V), m < j → vs[m]? = some z' → eqV z' xv = false
  | [], _, _, _, _, h => by cases h
  | t :: ts, _, j, .cons a b, hf, h => by
    rw [List.all_cons, Bool.and_eq_true_iff] at hf
    unfold idxF at h
    split at h
    · rename_i e
      cases h
      exact ⟨_, rfl, by rw [eqF_ok a rx hf.1 fx]; exact e, fun m z' hm => absurd hm (Nat.not_lt_zero _)⟩
    · rename_i e
      obtain ⟨j', q, e2⟩ := Option.map_eq_some_iff.mp h
      subst e2
      obtain ⟨z, h1, h2, h3⟩ := idxF_ok rx fx b hf.2 q
      refine ⟨z, by simpa using h1, h2, fun m z' hm hz => ?_⟩
      cases m with
      | zero =>
        simp at hz
        subst hz
        rw [eqF_ok a rx hf.1 fx]
        simpa using e
      | succ m => exact h3 m z' (by omega) (by simpa using hz)
def oIndex (x : T) (ys : List T) (g : VH) : R T := match ys with
  | [y] => match vwR x g with
    | some l => if flatT y && l.all flatT then (match idxF y l with
      | some j => .ok (.int j) g
      | none => .no) else .no
    | none => .no
  | _ => .no
theorem ms_index {c : Cn} {K : PySem.W.Frag} (hK : c.K = K) : MeS c (rIndex K) oIndex := by
  subst hK
  intro W σ Ω g x ys xv yv Q R rx ry h
  unfold oIndex at h
  split at h
  · cases ry with
    | cons r1 r2 =>
      cases r2
      split at h
      · rename_i l q
        split at h
        · rename_i hf
          obtain ⟨f1, f2⟩ := Bool.and_eq_true_iff.mp hf
          split at h
          · rename_i j q2
            obtain ⟨p, vs, e, h1, h2⟩ := vwR_ok R rx q
            obtain ⟨z, k1, k2, k3⟩ := idxF_ok r1 f1 h2 f2 q2
            exact ⟨p, vs, _, j, z, e, rfl, h1, by rw [flat_ok r1]; exact f1, by rw [flats_ok h2]; exact f2, k1, k2, k3, h Ω _ Up.refl R .int⟩
          · exact h.elim
        · exact h.elim
      · exact h.elim
  · exact h.elim
/-- sep.join(texts) -/
def strsOf : List T → Option (List (List Nat))
  | [] => some []
  | .str i :: ts => match strsOf ts with
    | some l => some (i :: l)
    | none => none
  | _ => none
theorem strsOf_ok {c : Cn} {F : Hp} {ρ : List (List Addr)} : ∀ {ts : List T} {vs : List V} {l : List (List Nat)}, Reps c F ρ ts vs → strsOf ts = some l → vs = (l.map fun x => (⟨x.toArray⟩ : Str)).map V.str
  | [], _, _, .nil, h => by unfold strsOf at h; cases h; rfl
  | t :: ts, _, l, .cons a b, h => by
    cases a with
    | str =>
      simp only [strsOf] at h
      split at h
      · rename_i l' q
        cases h
        rw [strsOf_ok b q]; rfl
      · cases h
    | _ => simp only [strsOf] at h; cases h
/-- glued by sep -/
def gluedN (sep : List Nat) : List (List Nat) → List Nat
  | [] => []
  | [x] => x
  | x :: y :: r => x ++ sep ++ gluedN sep (y :: r)
theorem glued_eq (sep : List Nat) (l : List (List Nat)) : Txt.join ⟨sep.toArray⟩ (l.map fun x => (⟨x.toArray⟩ : Str)) = ⟨(gluedN sep l).toArray⟩ := by
  cases l with
  | nil => rfl
  | cons x l =>
    have gen : ∀ (l : List (List Nat)) (acc : List Nat), ((l.map fun x => (⟨x.toArray⟩ : Str)).foldl (fun acc p => acc ++ sep.toArray ++ p.cps) acc.toArray) = (gluedN sep (acc :: l)).toArray := by
      intro l
      induction l with
      | nil => intro acc; rfl
      | cons y l ih =>
        intro acc
        rw [List.map_cons, List.foldl_cons]
        have e : acc.toArray ++ sep.toArray ++ y.toArray = (acc ++ sep ++ y).toArray := by simp
        show List.foldl _ (acc.toArray ++ sep.toArray ++ y.toArray) _ = _
        rw [e, ih]
        cases l with
        | nil => rfl
        | cons z r => simp [gluedN]
    show (⟨((l.map fun x => (⟨x.toArray⟩ : Str)).foldl (fun acc p => acc ++ sep.toArray ++ p.cps) x.toArray)⟩ : Str) = _
    rw [gen]
def oJoin (x : T) (ys : List T) (g : VH) : R T := match x, ys with
  | .str sep, [y] => match seqOf y g with
    | some l => match strsOf l with
      | some ss => if (ss.map List.length).sum + ss.length * sep.length ≤ 16777216 then .ok (.str (gluedN sep ss)) g else .no
      | none => .no
    | none => .no
  | _, _ => .no
theorem ms_join {c : Cn} {K : PySem.W.Frag} (hK : c.K = K) : MeS c (fun x xs H Q => ∃ a p, ∃ ys : List Str, x = .str a ∧ xs = [.ref p] ∧ (SqL K H p (ys.map V.str) ∨ SqT K H p (ys.map V.str)) ∧
    (ys.map (·.length)).sum + ys.length * a.length ≤ 16777216 ∧ Q (.str (Txt.join a ys)) H) oJoin := by
  subst hK
  intro W σ Ω g x ys xv yv Q R rx ry h
  unfold oJoin at h
  split at h
  · cases rx
    cases ry with
    | cons r1 r2 =>
      cases r2
      split at h
      · rename_i l q
        split at h
        · rename_i ss q2
          split at h
          · rename_i hl
            obtain ⟨p, vs, e, h1, h2⟩ := seqOf_ok R r1 q
            subst e
            rw [strsOf_ok h2 q2] at h1
            refine ⟨_, p, ss.map fun x => (⟨x.toArray⟩ : Str), rfl, rfl, h1, ?_, ?_⟩
            · have e1 : (List.map (fun x : Str => x.length) (ss.map fun x => (⟨x.toArray⟩ : Str))) = ss.map List.length := by
                rw [List.map_map]; apply List.map_congr_left; intro a _; exact str_len a
              rw [e1, List.length_map, str_len]
              exact hl
            · rw [glued_eq]
              exact h Ω _ Up.refl R .str
          · exact h.elim
        · exact h.elim
      · exact h.elim
  · exact h.elim
def oEndsw (x : T) (ys : List T) (g : VH) : R T := match x, ys with
  | .str a, [.str b] => .ok (.bl (decide (b.length ≤ a.length) && decide (a.drop (a.length - b.length) = b))) g
  | _, _ => .no
theorem endsw_eq (a b : List Nat) : Txt.endswith ⟨a.toArray⟩ ⟨b.toArray⟩ = (decide (b.length ≤ a.length) && decide (a.drop (a.length - b.length) = b)) := by
  show (decide (0 + (⟨b.toArray⟩ : Str).length ≤ (⟨a.toArray⟩ : Str).length) && (((⟨a.toArray⟩ : Str).cps.extract ((⟨a.toArray⟩ : Str).length - (⟨b.toArray⟩ : Str).length) ((⟨a.toArray⟩ : Str).length - (⟨b.toArray⟩ : Str).length + (⟨b.toArray⟩ : Str).length)) == (⟨b.toArray⟩ : Str).cps)) = _
  rw [str_len, str_len, Nat.zero_add]
  by_cases h : b.length ≤ a.length
  · rw [decide_eq_true h, Bool.true_and, Bool.true_and]
    rw [Bool.eq_iff_iff, decide_eq_true_iff, beq_iff_eq]
    have e : (a.toArray.extract (a.length - b.length) (a.length - b.length + b.length)) = (a.drop (a.length - b.length)).toArray := by
      rw [List.extract_toArray]
      congr 1
      unfold List.extract
      rw [List.take_of_length_le (by simp; omega)]
    show a.toArray.extract _ _ = b.toArray ↔ _
    rw [e]
    constructor
    · intro z; simpa using z
    · intro z; rw [z]
  · rw [decide_eq_false h, Bool.false_and, Bool.false_and]
theorem ms_endsw {c : Cn} : MeS c (fun x xs H Q => ∃ a b, x = .str a ∧ xs = [.str b] ∧ Q (.bl (Txt.endswith a b)) H) oEndsw := by
  intro W σ Ω g x ys xv yv Q R rx ry h
  unfold oEndsw at h
  split at h
  · cases rx
    cases ry with
    | cons r1 r2 =>
      cases r2; cases r1
      refine ⟨_, _, rfl, rfl, ?_⟩
      rw [endsw_eq]
      exact h Ω _ Up.refl R .bl
  · exact h.elim
/-- n.bit_length() -/
def oBits (x : T) (g : VH) : R T := match x with
  | .int i => .ok (.int (if i = 0 then 0 else i.natAbs.log2 + 1 : Nat)) g
  | _ => .no
theorem bits_eq (i : Int) : Builtin.Int.intBits i = (if i = 0 then 0 else i.natAbs.log2 + 1) := by
  show (if (i == 0) = true then 0 else i.natAbs.log2 + 1) = _
  by_cases h : i = 0
  · subst h; rfl
  · rw [if_neg h, if_neg (by simpa using h)]
section
variable {c : Cn} {W : WX} {X : Cx} {fa fb fd : Ev} {o e f : Expr} {apos cpos pos : Pos}
theorem de_bits (ho : PE X o (tE c W fa)) (hbase : attributeBase o "bit_length" X.env (eval o X.env) = eval o X.env := by rfl) (hline : (apos.endLine == pos.line) = true := by rfl) : PE X (.Call (.Attribute o "bit_length" apos) [] [] pos) (tE c W (fU oBits fa)) :=
  PE_weak (pe_bits ho hbase hline) fun σ H Q h => by
    refine gOf_mono (tT_bind (RP := RepW c) h) fun y H1 ⟨Ω1, g1, ts, x, e1, R1, S1, r1, h1⟩ => ?_
    subst e1
    cases r1 with
    | int =>
      refine ⟨_, rfl, ?_⟩
      rw [bits_eq]
      exact h1 Ω1 _ Up.refl R1 .int
    | _ => exact h1.elim
/-- d.get(k, x) -/
def fDGet (fa fb fd : Ev) : Ev := fun ts g => (fa ts g).bind fun x g1 => match dctOf x g1 with
  | none => .no
  | some _ => (fb ts g1).bind fun y g2 => (fd ts g2).bind fun z g3 => match dctOf x g3 with
    | some (ks, vs) => if isK y then .ok ((lkp ks vs y).getD z) g3 else .no
    | none => .no
theorem de_dget (hu : X.A.units + 1 < cLine) (ho : PE X o (tE c W fa)) (he : PE X e (tE c W fb)) (hf : PE X f (tE c W fd)) (m : M2 X o "get" apos e f cpos := by exact ⟨rfl, rfl, rfl, rfl⟩) : PE X (.Call (.Attribute o "get" apos) [e, f] [] cpos) (tE c W (fDGet fa fb fd)) :=
  PE_weak (pe_dget2 hu ho he hf m) fun σ H Q ⟨Ω, g, ts, e, R, S, h⟩ => by
    subst e
    refine ⟨Ω, g, ts, rfl, R, S, (EndG.bind h).mono fun xv H1 ⟨Ω1, g1, x, e1, u1, R1, r1, h1⟩ => ?_⟩
    subst e1
    split at h1
    · exact h1.elim
    · rename_i p q
      obtain ⟨ks, vs⟩ := p
      obtain ⟨a, kvs, e, k1, k2, k3⟩ := dctOf_ok R1 r1 q
      refine ⟨a, e, .inl ⟨kvs, k1⟩, Ω1, g1, ts, rfl, R1, S.up u1, (EndG.bind h1).mono fun yv H2 ⟨Ω2, g2, y, e2, u2, R2, r2, h2⟩ => ?_⟩
      subst e2
      refine ⟨Ω2, g2, ts, rfl, R2, (S.up u1).up u2, (EndG.bind h2).mono fun zv H3 ⟨Ω3, g3, z, e3, u3, R3, r3, h3⟩ => ?_⟩
      subst e3
      split at h3
      · rename_i ks3 vs3 q3
        split at h3
        · rename_i hk
          obtain ⟨a', kvs', e', k1', k2', k3'⟩ := dctOf_ok R3 (r1.up (u2.trans u3)) q3
          rw [e] at e'; cases e'
          obtain ⟨ov, d, ho⟩ := lkp_get k1' k2' k3' (r2.up u3) hk
          refine ⟨ov, d, ?_⟩
          cases q4 : lkp ks3 vs3 y with
          | none =>
            rw [q4] at ho h3
            rw [ho]
            exact h3 Ω3 zv Up.refl R3 r3
          | some t =>
            rw [q4] at ho h3
            obtain ⟨v, e4, rv⟩ := ho
            rw [e4]
            exact h3 Ω3 v Up.refl R3 rv
        · exact h3.elim
      · exact h3.elim
end

/-! ### o[i] = v -/
def setI (x y v : T) (g : VH) : Option VH := match x with
  | .ref r i => match at2 g r i with
    | some (some (.lst l)) => match y with
      | .int j => match ixN l.length j with
        | some k => some (set2 g r i (some (.lst (l.set k v))))
        | none => none
      | _ => none
    | some (some (.dct ks vs)) => if isK y && decide (ks.length < 16777216) then some (set2 g r i (some (.dct (putT ks vs y v).1 (putT ks vs y v).2))) else none
    | _ => none
  | _ => none
/-- o[i] = e: the value first -/
def sSI (fo fi fe : Ev) : Ss := fun ts g => (fe ts g).toS ts fun v g1 => (fo ts g1).toS ts fun x g2 => (fi ts g2).toS ts fun y g3 => match setI x y v g3 with
  | some g4 => .nx ts g4
  | none => .no
def rSetI : TSet := fun o i v H Q => rSetL o i v H Q ∨ rSetD o i v H Q
theorem set_I {X : Cx} (hu : X.A.units + 1 < cLine) : PSet X rSetI := by
  intro pins s σ H o i v ov iv u Q I ro ri rv h
  rcases h with h | h
  · exact set_list pins s σ H o i v ov iv u Q I ro ri rv h
  · exact set_dict hu pins s σ H o i v ov iv u Q I ro ri rv h
theorem setI_of {c : Cn} {Ω : Ws} {g g' : VH} {x y v : T} {xv yv vv : V} {Q : Hp → Prop} (R : Rel c Ω g) (rx : RepW c Ω x xv) (ry : RepW c Ω y yv) (rv : RepW c Ω v vv) (h : setI x y v g = some g')
    (k : ∀ Ω', Up g Ω g' Ω' → Rel c Ω' g' → Q Ω'.H) : rSetI xv yv vv Ω.H Q := by
  unfold setI at h
  split at h
  · rename_i r0 i
    cases rx with
    | ref ha =>
      split at h
      · rename_i l hl
        split at h
        · rename_i j
          cases ry
          split at h
          · rename_i n q
            cases h
            obtain ⟨a', ho, h1, h2, h3, h4⟩ := R.live _ _ _ hl
            rw [ha] at h1; cases h1
            cases h4 with
            | lst rs =>
              obtain ⟨R1, u1⟩ := R.wrote hl ha (.lst (rs.set rv n))
              exact .inl ⟨_, _, j, n, rfl, rfl, h2, by rw [← rs.len]; exact q, k ⟨Ω.F, Ω.ρ, upd Ω.H _ _⟩ u1 R1⟩
          · cases h
        · cases h
      · rename_i ks vs hl
        split at h
        · rename_i hk
          cases h
          obtain ⟨k1, k2⟩ := Bool.and_eq_true_iff.mp hk
          have k2 := of_decide_eq_true k2
          obtain ⟨a', ho, h1, h2, h3, h4⟩ := R.live _ _ _ hl
          rw [ha] at h1; cases h1
          cases h4 with
          | @dct _ _ kvs e rs =>
            obtain ⟨key, e1, e2⟩ := key_of_T ry k1
            subst e1; subst e2; subst e
            have z := putT_ok key rv kvs vs rs
            obtain ⟨R1, u1⟩ := R.wrote hl ha (.dct z.1 z.2)
            exact .inr ⟨_, _, rfl, .inl ⟨kvs, key, h2, rfl, by rw [List.length_map] at k2; rw [sizeLine_eq]; exact k2, rfl⟩, k ⟨Ω.F, Ω.ρ, upd Ω.H _ _⟩ u1 R1⟩
        · cases h
      · cases h
  · cases h
theorem ds_si {c : Cn} {W : WX} {X : Cx} {fo fi fe : Ev} {o i e : Expr} {pos pos' : Pos} (hu : X.A.units + 1 < cLine) (ho : PE X o (tE c W fo)) (hi : PE X i (tE c W fi)) (he : PE X e (tE c W fe))
    (ha : ∀ v, assign (.Subscript o i pos') X.env v = (do
      let ov ← holding [v] (eval o X.env)
      let iv ← holding [v, ov] (eval i X.env)
      standAt pos'
      holding [v, ov, iv] (setItem ov iv v)
      release [v, ov, iv] []) := by intro _; rfl)
    (hs : swapsWithSole [.Subscript o i pos'] e pos.line X.env = pure false := by rfl) (hw : swappedStores [.Subscript o i pos'] e X.env = pure none := by rfl)
    (h1 : (assignEach [.Subscript o i pos'] X.env).map (·.2) = [assign (.Subscript o i pos') X.env] := by rfl) : PS X (.Assign [.Subscript o i pos'] e pos) (tS c W (sSI fo fi fe)) :=
  PS_weak (ps_asg he (pg_sub ho hi (set_I hu) ha) hs hw h1) fun D σ H ⟨Ω, g, ts, e, R, S, h⟩ => by
    subst e
    refine ⟨Ω, g, ts, rfl, R, S, (EndS.bindE S h).mono fun vv H1 ⟨Ω1, g1, v, e1, u1, R1, r1, h1⟩ => ?_⟩
    subst e1
    refine ⟨Ω1, g1, ts, rfl, R1, S.up u1, (EndS.bindE (S.up u1) h1).mono fun xv H2 ⟨Ω2, g2, x, e2, u2, R2, r2, h2⟩ => ?_⟩
    subst e2
    refine ⟨Ω2, g2, ts, rfl, R2, (S.up u1).up u2, (EndS.bindE ((S.up u1).up u2) h2).mono fun yv H3 ⟨Ω3, g3, y, e3, u3, R3, r3, h3⟩ => ?_⟩
    subst e3
    split at h3
    · rename_i g4 q
      exact setI_of R3 (r2.up u3) r3 (r1.up (u2.trans u3)) q fun Ω4 u4 R4 => h3 Ω4 σ u4 R4 (((S.up u1).up u2).up (u3.trans u4))
    · exact h3.elim
end Zz
set_option Elab.async false
set_option linter.all false
set_option maxRecDepth 100000
set_option maxHeartbeats 4000000
/-! Zz 7: attributes; how arguments bind; callees: defs, methods, classes, instances -/
namespace Zz
open PySem L2

/-! ### instances -/
def objOf (t : T) (g : VH) : Option (Nat × List Str × List T) := match t with
  | .obj n fs l => some (n, fs, l)
  | .ref r i => match at2 g r i with
    | some (some (.ins n fs l)) => some (n, fs, l)
    | _ => none
  | _ => none
def lookF : List Str → List T → Str → Option T
  | f :: fs, t :: ts, q => if q = f then some t else lookF fs ts q
  | _, _, _ => none
theorem lookF_ok {c : Cn} {F : Hp} {ρ : List (List Addr)} (q : Str) : ∀ (fs : List (Str × V)) (ts : List T), Reps c F ρ ts (fs.map (·.2)) → match lookF (fs.map (·.1)) ts q with
    | some t => ∃ v, fs.lookup q = some v ∧ Rep c F ρ t v
    | none => fs.lookup q = none
  | [], _, h => by simp [lookF]
  | (f, v) :: fs, _, .cons (t := t) (ts := ts) a b => by
    simp only [List.map_cons, lookF, List.lookup_cons]
    by_cases e : q = f
    · subst e
      simp only [if_true, beq_self_eq_true]
      exact ⟨v, rfl, a⟩
    · rw [if_neg e]
      have e2 : (q == f) = false := by simpa using e
      rw [e2]
      exact lookF_ok q fs ts b
theorem objOf_ok {c : Cn} {Ω : Ws} {g : VH} {t : T} {v : V} {n : Nat} {ns : List Str} {l : List T} (R : Rel c Ω g) (r : RepW c Ω t v) (h : objOf t g = some (n, ns, l)) :
    ∃ p dx fs, v = .ref p ∧ Ω.H p = some (.ins (c.ad n) dx fs) ∧ ns = fs.map (·.1) ∧ RepsW c Ω l (fs.map (·.2)) := by
  cases r with
  | obj hp e rs => simp only [objOf] at h; cases h; exact ⟨_, _, _, rfl, R.sub _ _ hp, e, rs⟩
  | ref ha =>
    simp only [objOf] at h
    split at h
    · rename_i hl
      cases h
      obtain ⟨a', ho, h1, h2, h3, h4⟩ := R.live _ _ _ hl
      rw [ha] at h1; cases h1
      cases h4 with
      | ins e rs => exact ⟨_, _, _, rfl, h2, e, rs⟩
    · cases h
  | _ => simp only [objOf] at h; cases h
/-- what the text's classes (tags cs) must have that the attribute f of their instances may be read, stored -/
def AtOk (c : Cn) (cs : List Nat) (f : Str) : Prop := ∀ n ∈ cs, Cls c.K (c.ad n) ∧ NoAttr c.K (c.ad n) f
def fFld (cs : List Nat) (f : Str) (fa : Ev) : Ev := fun ts g => (fa ts g).bind fun x g1 => match objOf x g1 with
  | some (n, fs, l) => if n ∈ cs then (match lookF fs l f with
    | some t => .ok t g1
    | none => .no) else .no
  | none => .no
def putN (fs : List Str) (l : List T) (f : Str) (v : T) : List Str × List T := match fs, l with
  | g :: fs, t :: l => if g = f then (g :: fs, v :: l) else ((g :: (putN fs l f v).1), (t :: (putN fs l f v).2))
  | _, _ => ([f], [v])
theorem putN_ok {c : Cn} {F : Hp} {ρ : List (List Addr)} (f : Str) {t : T} {v : V} (r : Rep c F ρ t v) : ∀ (fs : List (Str × V)) (ts : List T), Reps c F ρ ts (fs.map (·.2)) →
    (putN (fs.map (·.1)) ts f t).1 = (putF f v fs).map (·.1) ∧ Reps c F ρ (putN (fs.map (·.1)) ts f t).2 ((putF f v fs).map (·.2))
  | [], _, h => by cases h; exact ⟨rfl, .cons r .nil⟩
  | (g, w) :: fs, _, .cons (t := u) (ts := ts) a b => by
    have ih := putN_ok f r fs ts b
    simp only [List.map_cons, putN, putF]
    by_cases e : g = f
    · rw [if_pos e, if_pos e]
      exact ⟨by simp [e], .cons r b⟩
    · rw [if_neg e, if_neg e]
      exact ⟨by simp [ih.1], .cons a ih.2⟩
def sFl (cs : List Nat) (f : Str) (fo fe : Ev) : Ss := fun ts g => (fe ts g).toS ts fun v g1 => (fo ts g1).toS ts fun x g2 => match x with
  | .ref r i => match at2 g2 r i with
    | some (some (.ins n fs l)) => if n ∈ cs ∧ fs.length < 1000 then .nx ts (set2 g2 r i (some (.ins n (putN fs l f v).1 (putN fs l f v).2))) else .no
    | _ => .no
  | _ => .no
section
variable {c : Cn} {W : WX} {X : Cx} {fa fo fe : Ev} {e o : Expr} {f : Str} {cs : List Nat} {pos pos' : Pos}
theorem de_fld (hA : AtOk c cs f) (hK : c.K = X.K) (he : PE X e (tE c W fa)) (hb : attributeBase e f X.env (eval e X.env) = eval e X.env := by rfl) : PE X (.Attribute e f pos) (tE c W (fFld cs f fa)) :=
  PE_weak (pe_fld he hb) fun σ H Q h => by
    refine gOf_mono (tT_bind (RP := RepW c) h) fun y H1 ⟨Ω1, g1, ts, x, e1, R1, S1, r1, h1⟩ => ?_
    subst e1
    split at h1
    · rename_i n fs l q
      split at h1
      · rename_i hn
        split at h1
        · rename_i t q2
          obtain ⟨p, dx, fs', e, k1, k2, k3⟩ := objOf_ok R1 r1 q
          subst k2
          have z := lookF_ok f fs' l k3
          rw [q2] at z
          obtain ⟨v, z1, z2⟩ := z
          rw [← hK]
          exact ⟨p, c.ad n, dx, fs', v, e, k1, (hA n hn).1, (hA n hn).2, z1, h1 Ω1 v Up.refl R1 z2⟩
        · exact h1.elim
      · exact h1.elim
    · exact h1.elim
theorem ds_fl (hA : AtOk c cs f) (hK : c.K = X.K) (ho : PE X o (tE c W fo)) (he : PE X e (tE c W fe)) (hs : swapsWith e (some (.Attribute o f pos')) pos.line X.env = pure false := by rfl) : PS X (.Assign [.Attribute o f pos'] e pos) (tS c W (sFl cs f fo fe)) :=
  PS_weak (ps_fld ho he hs) fun D σ H ⟨Ω, g, ts, e, R, S, h⟩ => by
    subst e
    refine ⟨Ω, g, ts, rfl, R, S, (EndS.bindE S h).mono fun vv H1 ⟨Ω1, g1, v, e1, u1, R1, r1, h1⟩ => ?_⟩
    subst e1
    refine ⟨Ω1, g1, ts, rfl, R1, S.up u1, (EndS.bindE (S.up u1) h1).mono fun xv H2 ⟨Ω2, g2, x, e2, u2, R2, r2, h2⟩ => ?_⟩
    subst e2
    split at h2
    · rename_i r i
      split at h2
      · rename_i n fs l hl
        split at h2
        · rename_i hn
          cases r2 with
          | ref ha =>
            obtain ⟨a', ho', k1, k2, k3, k4⟩ := R2.live _ _ _ hl
            rw [ha] at k1; cases k1
            cases k4 with
            | @ins _ _ _ dx fs' e4 rs =>
              subst e4
              have z := putN_ok f (r1.up u2) fs' l rs
              obtain ⟨R3, u3⟩ := R2.wrote hl ha (.ins (n := n) (dx := dx) z.1 z.2)
              rw [← hK]
              refine ⟨_, c.ad n, dx, fs', rfl, k2, (hA n hn.1).1, (hA n hn.1).2, by have := hn.2; rwa [List.length_map] at this, ?_⟩
              exact h2 ⟨Ω2.F, Ω2.ρ, upd Ω2.H _ _⟩ σ u3 R3 (((S.up u1).up u2).up u3)
        · exact h2.elim
      · exact h2.elim
    · exact h2.elim
end

/-! ### how arguments bind -/
/-- where a parameter's value comes from: a positional argument, a keyword, a default -/
inductive Sr where
  | p (i : Nat) | k (i : Nat) | d (i : Nat)
def arr {α : Type} (us ws ds : List α) : List Sr → Option (List α)
  | [] => some []
  | s :: l => match (match s with
      | .p i => us[i]?
      | .k i => ws[i]?
      | .d i => ds[i]?) with
    | none => none
    | some x => match arr us ws ds l with
      | none => none
      | some xs => some (x :: xs)
theorem arr_rep {c : Cn} {F : Hp} {ρ : List (List Addr)} {a b d : List T} {a' b' d' : List V} (ra : Reps c F ρ a a') (rb : Reps c F ρ b b') (rd : Reps c F ρ d d') : ∀ (pl : List Sr) (xs : List T), arr a b d pl = some xs → ∃ ys, arr a' b' d' pl = some ys ∧ Reps c F ρ xs ys
  | [], _, h => by cases h; exact ⟨[], rfl, .nil⟩
  | s :: l, xs, h => by
    unfold arr at h
    split at h
    · cases h
    · rename_i x q
      split at h
      · cases h
      · rename_i xs' q2
        cases h
        obtain ⟨ys, e, r⟩ := arr_rep ra rb rd l xs' q2
        have : ∃ y, (match s with
          | .p i => a'[i]?
          | .k i => b'[i]?
          | .d i => d'[i]?) = some y ∧ Rep c F ρ x y := by
          cases s with
          | p i => exact ra.get q
          | k i => exact rb.get q
          | d i => exact rd.get q
        obtain ⟨y, e1, r1⟩ := this
        refine ⟨y :: ys, ?_, .cons r1 r⟩
        unfold arr
        rw [e1, e]
theorem arr_val {a b d : List V} {a' b' d' : List Value} (ra : Vals a a') (rb : Vals b b') (rd : Vals d d') : ∀ (pl : List Sr) (xs : List V), arr a b d pl = some xs → ∃ ys, arr a' b' d' pl = some ys ∧ Vals xs ys
  | [], _, h => by cases h; exact ⟨[], rfl, .nil⟩
  | s :: l, xs, h => by
    unfold arr at h
    split at h
    · cases h
    · rename_i x q
      split at h
      · cases h
      · rename_i xs' q2
        cases h
        obtain ⟨ys, e, r⟩ := arr_val ra rb rd l xs' q2
        have : ∃ y, (match s with
          | .p i => a'[i]?
          | .k i => b'[i]?
          | .d i => d'[i]?) = some y ∧ RelV x y := by
          cases s with
          | p i => exact ra.get q
          | k i => exact rb.get q
          | d i => exact rd.get q
        obtain ⟨y, e1, r1⟩ := this
        refine ⟨y :: ys, ?_, .cons r1 r⟩
        unfold arr
        rw [e1, e]
/-- a call with n positional values and the keywords ks binds by the plan pl; dts: the defaults -/
structure KBd (K : PySem.W.Frag) (fd : FuncData) (ps : List Str) (n : Nat) (ks : List Str) (pl : List Sr) (dvs : List V) : Prop where
  ex : ∃ its : List Value, Vals dvs its ∧ ∀ (s : Shared) (us ws xs : List Value), K.In s.heap → us.length = n → ws.length = ks.length → arr us ws its pl = some xs → BindsTo s fd ⟨us, ks.zip ws⟩ (ps.zip xs)
/-- no defaults -/
theorem kbd0 {K : PySem.W.Frag} {x qual : Str} {params : Arguments} {body : List Stmt} {scope : Scope} {f : Addr} {fd : FuncData} {ps : List Str} {n : Nat} {ks : List Str} {pl : List Sr} (F : FunD K x qual params body scope [] [] f fd)
    (h : ∀ (kV doc pm : Value) (an : Option Addr) (cdv ct : Value) (us ws : List Value), us.length = n → ws.length = ks.length → ∃ xs, arr us ws [] pl = some xs ∧ bindArgs (PySem.W.fnOf x qual params body scope .none kV doc pm an cdv ct) ⟨us, ks.zip ws⟩ = pure (ps.zip xs)) : KBd K fd ps n ks pl [] := by
  obtain ⟨oc, od, dV, kV, doc, pm, an, cdv, ct, osl, rfl, lk, hcd, hD, hK⟩ := F.ex
  rcases hD with ⟨_, rfl⟩ | ⟨e, _⟩
  · refine ⟨[], .nil, fun s us ws xs X l1 l2 e => ?_⟩
    obtain ⟨xs', e1, e2⟩ := h kV doc pm an cdv ct us ws l1 l2
    rw [e] at e1; cases e1
    exact .of_eq e2
  · exact absurd rfl e
/-- defaults -/
theorem kbd1 {K : PySem.W.Frag} {x qual : Str} {params : Arguments} {body : List Stmt} {scope : Scope} {f : Addr} {fd : FuncData} {ps : List Str} {n : Nat} {ks : List Str} {pl : List Sr} {dvs : List V} (F : FunD K x qual params body scope dvs [] f fd) (hd : dvs ≠ [])
    (h : ∀ (T : Addr) (kV doc pm : Value) (an : Option Addr) (cdv ct : Value) (us ws its : List Value), us.length = n → ws.length = ks.length → its.length = dvs.length → ∃ xs k, arr us ws its pl = some xs ∧
      bindArgs (PySem.W.fnOf x qual params body scope (.ref T) kV doc pm an cdv ct) ⟨us, ks.zip ws⟩ = seqItems? (.ref T) >>= k ∧ k (some its.toArray) = pure (ps.zip xs)) : KBd K fd ps n ks pl dvs := by
  obtain ⟨oc, od, dV, kV, doc, pm, an, cdv, ct, osl, rfl, lk, hcd, hD, hK⟩ := F.ex
  rcases hD with ⟨e, _⟩ | ⟨_, T, o, its, m, rfl, lT, oT, rT⟩
  · exact absurd e hd
  · refine ⟨its, rT, fun s us ws xs X l1 l2 e => ?_⟩
    obtain ⟨xs', k, e1, e2, e3⟩ := h T kV doc pm an cdv ct us ws its l1 l2 rT.length.symm
    rw [e] at e1; cases e1
    refine BindsTo.of_looks fun M => ?_
    rw [e2]
    exact looks_items X lT oT (.of_pure e3)

/-! ### callees -/
abbrev FC := List T → List T → VH → R T
def Callee (X : Cx) (c : Cn) (W : WX) (f : Value) (ks : List Str) (fn : FC) : Prop :=
  ∀ (pins : List (Addr × Obj)) (s : Shared) (σ : L2.St) (Ω : Ws) (g : VH) (us ws : List Value) (vs zs : List V) (ts tz : List T) (Q : VK), Inv X pins σ Ω.H s → Rel c Ω g → Vals vs us → Vals zs ws → RepsW c Ω ts vs → RepsW c Ω tz zs →
    EndG c W σ Ω g (RepW c) Q (fn ts tz g) → codeAny (model X.prog X.w) X.A (.call f ⟨us, ks.zip ws⟩) (fun r s' => match r with | .ok (.ret v) => EP X pins σ Q v s' | .ok _ => False | .error e => X.xe e s') s
def fcArr (fn : FN) (n m : Nat) (pl : List Sr) (dts : List T) : FC := fun ts tz g => if ts.length = n ∧ tz.length = m then (match arr ts tz dts pl with
  | some xs => fn xs g
  | none => .no) else .no
theorem spF_len {c : Cn} {fn : FN} {k : Nat} {P : Program} {w : World} {mg : Str → Option Value} {base : Heap} {CX : CXT} {f : Addr} {fd : FuncData} {ps : List Str} (F : FnOk P w c.K mg base CX k f fd ps (spF c fn)) : True := trivial
theorem callee_def {X : Cx} {c : Cn} {W : WX} {k n : Nat} {f : Addr} {fd : FuncData} {ps ks : List Str} {fn : FN} {pl : List Sr} {dvs : List V} {dts : List T} (F : FnOk X.prog X.w X.K X.mg X.base (L2.CX X.prog X.w) k f fd ps (spF c fn)) (hr : Room k X.A)
    (hb : KBd X.K fd ps n ks pl dvs) (hds : DsOk c dts dvs) (tk : Takes X W) : Callee X c W (.ref f) ks (fcArr fn n ks.length pl dts) := by
  intro pins s σ Ω g us ws vs zs ts tz Q I R rv rz rt rtz h
  unfold fcArr at h
  split at h
  · rename_i hl
    split at h
    · rename_i xs q
      obtain ⟨its, ri, hB⟩ := hb.ex
      obtain ⟨xv, e1, r1⟩ := arr_rep rt rtz (hds Ω.F Ω.ρ) pl xs q
      obtain ⟨xu, e2, r2⟩ := arr_val rv rz ri pl xv e1
      have B := hB s us ws xu I.kIn (by rw [← rv.length, ← rt.len]; exact hl.1) (by rw [← rz.length, ← rtz.len]; exact hl.2) e2
      refine codeAny_mono (F.run X.A X.stack s Ω.H ⟨us, ks.zip ws⟩ xu xv Q (WE W σ) hr I.env0 B r2 ⟨Ω, g, xs, rfl, R, r1, EndG.toE h⟩) fun r s' hq => ?_
      cases r with
      | error e => exact passAt tk σ pins Ω.H s e s' I hq
      | ok fl =>
        cases fl with
        | ret u => exact I.after hq
        | next => exact False.elim hq
        | brk => exact False.elim hq
        | cont => exact False.elim hq
    · exact h.elim
  · exact h.elim
/-- a class: a new instance, live in the top region (fr: frozen behind __init__) -/
def fcMk (cls : Nat) (fr : Bool) (fc : FC) : FC := fun ts tz g => match g with
  | [] => .no
  | g => (fc (.ref (topR g) (topI g) :: ts) tz (ppush (some (.ins cls [] [])) g)).bind fun v g2 => match v with
    | .non => match fr with
      | false => .ok (.ref (topR g) (topI g)) g2
      | true => match fz (topR g) 60 (.ref (topR g) (topI g)) g2 with
        | some (t, g3) => .ok t g3
        | none => .no
    | _ => .no
theorem EP_lk {X : Cx} {pins : List (Addr × Obj)} {σ : L2.St} {Q : VK} {u : Value} {s : Shared} (h : EP X pins σ (fun v H => Lks (Q v) H) u s) : EP X pins σ Q u s := by
  obtain ⟨v, H', I', r, q⟩ := h
  obtain ⟨H2, I2, q2, _⟩ := q.run I'
  exact ⟨v, H2, I2, r, q2⟩
theorem callee_make {X : Cx} {c : Cn} {W : WX} {k n cls : Nat} {f : Addr} {fd : FuncData} {ps ks : List Str} {fn : FN} {pl : List Sr} {dvs : List V} {dts : List T} (fr : Bool) (M : Mk X.K (c.ad cls) f) (F : FnOk X.prog X.w X.K X.mg X.base (L2.CX X.prog X.w) k f fd ps (spF c fn)) (hr : Room (k + 1) X.A)
    (hb : KBd X.K fd ps n ks pl dvs) (hds : DsOk c dts dvs) (tk : Takes X W) : Callee X c W (.ref (c.ad cls)) ks (fcMk cls fr (fcArr fn n ks.length pl dts)) := by
  intro pins s σ Ω g us ws vs zs ts tz Q I R rv rz rt rtz h
  unfold fcMk at h
  split at h
  · exact h.elim
  · rename_i hg
    have hx := I.hok.fresh (Nat.le_succ s.heap.objs.size)
    have hdx := I.hok.fresh (Nat.le_refl s.heap.objs.size)
    have hne : s.heap.objs.size ≠ s.heap.objs.size + 1 := Nat.ne_of_lt (Nat.lt_succ_self _)
    have I2 := Inv.made (C := c.ad cls) I
    obtain ⟨Ra, ua⟩ := R.other hdx (.own (s.heap.objs.size + 1))
    obtain ⟨Rb, ub, eb⟩ := Ra.laid (fun z => hg z) (p := s.heap.objs.size + 1) (by show upd Ω.H _ _ _ = none; rw [upd_ne hne.symm]; exact hx) (x := .ins cls [] []) (o := .ins (c.ad cls) s.heap.objs.size []) (.ins rfl .nil)
    have uab := ua.trans ub
    have h0 := EndG.bind (RP := RepW c) (EndG.shift uab h)
    by_cases hl : (T.ref (topR g) (topI g) :: ts).length = n ∧ tz.length = ks.length
    · rw [show fcArr fn n ks.length pl dts (T.ref (topR g) (topI g) :: ts) tz (ppush (some (.ins cls [] [])) g) = (match arr (T.ref (topR g) (topI g) :: ts) tz dts pl with
        | some xs => fn xs (ppush (some (.ins cls [] [])) g)
        | none => .no) from if_pos hl] at h0
      cases q : arr (T.ref (topR g) (topI g) :: ts) tz dts pl with
      | none => rw [q] at h0; exact h0.elim
      | some xs =>
        rw [q] at h0
        obtain ⟨its, ri, hB⟩ := hb.ex
        have rt1 : RepsW c ⟨Ω.F, ppush (s.heap.objs.size + 1) Ω.ρ, upd (upd Ω.H s.heap.objs.size (.own (s.heap.objs.size + 1))) (s.heap.objs.size + 1) (.ins (c.ad cls) s.heap.objs.size [])⟩ (.ref (topR g) (topI g) :: ts) (.ref (s.heap.objs.size + 1) :: vs) := .cons (.ref eb) (rt.up uab)
        have rv1 : Vals (V.ref (s.heap.objs.size + 1) :: vs) (Value.ref (s.heap.objs.size + 1) :: us) := .cons rfl rv
        obtain ⟨xv, e1, r1⟩ := arr_rep rt1 (rtz.up uab) (hds _ _) pl xs q
        obtain ⟨xu, e2, r2⟩ := arr_val rv1 rz ri pl xv e1
        have B := hB { s with heap := (s.heap.push PySem.W.emptyDict).push (PySem.W.instObj (c.ad cls) s.heap.objs.size) } (Value.ref (s.heap.objs.size + 1) :: us) ws xu I2.kIn (by rw [← rv1.length, ← rt1.len]; exact hl.1) (by rw [← rz.length, ← rtz.len]; exact hl.2) e2
        refine make_map (f := f) I.kIn M.makes M.init (beq_iff_eq.mp M.fn) (codeAny_mono (F.run _ X.stack _ _ ⟨Value.ref (s.heap.objs.size + 1) :: us, ks.zip ws⟩ xu xv _ (WE W σ) (hr.make (c.ad cls) us (ks.zip ws))
          (I2.env0.make (c.ad cls) us (ks.zip ws)) B r2 ⟨_, _, xs, rfl, Rb, r1, EndG.toE h0⟩) fun r s' hq' => ?_)
        cases r with
        | error e => exact passAt tk σ pins _ _ e s' I2 hq'
        | ok fl =>
          cases fl with
          | ret u =>
            obtain ⟨v, H', I3, rv', Ω1, g1, a, eH, u1, R1, ra, h1⟩ := I2.after hq'
            subst eH
            have rref : RepW c Ω1 (.ref (topR g) (topI g)) (.ref (s.heap.objs.size + 1)) := Rep.mono u1.F u1.ρ (.ref eb)
            cases ra with
            | non =>
              refine ⟨rv', EP_lk ⟨V.ref (s.heap.objs.size + 1), Ω1.H, I3, rfl, ?_⟩⟩
              simp only at h1
              split at h1
              · exact .nil (h1 Ω1 _ Up.refl R1 rref)
              · split at h1
                · rename_i t g3 q3
                  exact fz_ok c (topR g) 60 _ _ _ _ Ω1 _ _ R1 rref q3 fun Ω2 u2 R2 r2 => .nil (h1 Ω2 _ u2 R2 r2)
                · exact h1.elim
            | _ => exact h1.elim
          | next => exact False.elim hq'
          | brk => exact False.elim hq'
          | cont => exact False.elim hq'
    · rw [show fcArr fn n ks.length pl dts (T.ref (topR g) (topI g) :: ts) tz (ppush (some (.ins cls [] [])) g) = .no from if_neg hl] at h0
      exact h0.elim

/-! ### the arguments as they are written -/
def fArgs (fa fk : Ea) (ts : SL) (g : VH) : R (List T × List T) := (fa ts g).bind fun xs g1 => (fk ts g1).bind fun ys g2 => .ok (xs, ys) g2
def PArgs (X : Cx) (c : Cn) (W : WX) (es : List Expr) (kws : List Keyword) (pos : Pos) (ks : List Str) (fa fk : Ea) : Prop :=
  ∀ (f : Value) (first : List Value) (pins : List (Addr × Obj)) (s : Shared) (σ : L2.St) (Ω : Ws) (g : VH) (ts : SL) (RQ : Value → Shared → Prop), Inv X pins σ Ω.H s → Rel c Ω g → RepS c Ω ts σ →
    EndG c W σ Ω g (fun Ω a (b : List V × List V) => RepsW c Ω a.1 b.1 ∧ RepsW c Ω a.2 b.2) (fun b H2 => ∀ us ws s2, Inv X pins σ H2 s2 → Vals b.1 us → Vals b.2 ws → (PySem.W.keepIn X.K f = true ∨ ∃ a C, f = .ref a ∧ StX.InsC X H2 a C) ∧ wpAny (model X.prog X.w) X.A (call f (first ++ us) (ks.zip ws)) RQ X.xe s2) (fArgs fa fk ts g) →
    wpAny (model X.prog X.w) X.A (callWith pos f first (backTo pos (starEach es X.env)) (backToKw pos (keywordEach kws X.env))) RQ X.xe s
theorem callW_any {X : Cx} {pins : List (Addr × Obj)} {σ : L2.St} {f : Value} {first : List Value} {pos : Pos} {s : Shared} {args : List (Bool × Sem Value)} {keywords : List (Option Str × Sem Value)} {RQ : Value → Shared → Prop} (hplain : (args.any (·.1) || keywords.any (·.1.isNone)) = false)
    (h : wpAny (model X.prog X.w) X.A (evalArgs f true args keywords) (fun a s₁ => ∃ H, Inv X pins σ H s₁ ∧ (PySem.W.keepIn X.K f = true ∨ ∃ a C, f = .ref a ∧ StX.InsC X H a C) ∧ wpAny (model X.prog X.w) X.A (call f (first ++ a.pos) a.kw) RQ X.xe s₁) X.xe s) :
    wpAny (model X.prog X.w) X.A (callWith pos f first args keywords) RQ X.xe s := by
  unfold callWith
  refine wpAny_bind (wpAny_holding (wpAny_mono h (fun a s₁ h₁ => wpAny_bind (wpAny_standAt ?_)) fun _ _ x => x))
  obtain ⟨H, I, hk, hq⟩ := h₁
  simp only [hplain]
  have tail : ∀ {t : Sem Value}, wpAny (model X.prog X.w) X.A t RQ X.xe s₁ → wpAny (model X.prog X.w) X.A (t >>= fun r => holding [r] point >>= fun _ => pure r) RQ X.xe s₁ :=
    fun ht => wpAny_bind (wpAny_mono ht (fun r s₂ hr => wpAny_bind (wpAny_holding (wpAny_point (wpAny_pure hr)))) fun _ _ x => x)
  have marked (mk : Value) : wpAny (model X.prog X.w) X.A (callMarked mk f (first ++ a.pos) a.kw) RQ X.xe s₁ := by unfold callMarked; exact Calls.wpAny_keep hq
  rcases hk with hk | ⟨x, C, rfl, hi⟩
  · obtain ⟨k, hk', L⟩ := PySem.W.keeps_K (M := model X.prog X.w) hk _ I.kIn
    refine wpAny_bind (L.here ?_)
    rcases hk' with rfl | rfl | rfl
    · simp only
      split
      · exact tail hq
      · exact tail (marked _)
    · exact tail hq
    · simp only
      split
      · exact tail hq
      · exact tail (marked _)
  · obtain ⟨ox, od, J, hd⟩ := StX.insC_at I hi
    have L := PySem.W.kco_keeper (M := model X.prog X.w) J hd
    refine wpAny_bind (L.here ?_)
    exact tail (wpAny_operateT hq)
section
variable {c : Cn} {W : WX} {X : Cx} {e : Expr} {es : List Expr} {kws : List Keyword} {pos : Pos} {ks : List Str} {fa fk : Ea}
theorem dargs_cons (ha : PA X (e :: es) (tA c W fa)) (hkw : PK X kws (tA c W fk)) (hall : (backToKw pos (keywordEach kws X.env)).all (·.1.isSome) = true := by rfl) (hks : (backToKw pos (keywordEach kws X.env)).filterMap (·.1) = ks := by rfl)
    (he : starEach (e :: es) X.env = (false, eval e X.env) :: starEach es X.env := by rfl) (hpl : ((backTo pos (starEach (e :: es) X.env)).any (·.1) || (backToKw pos (keywordEach kws X.env)).any (·.1.isNone)) = false := by rfl) : PArgs X c W (e :: es) kws pos ks fa fk := by
  intro f first pins s σ Ω g ts RQ I R S h
  refine callW_any (pins := pins) (σ := σ) hpl (PyProof.Rows.evalArgs_kw2 hall ?_ he)
  refine thn (ha.run pos pins s σ Ω.H _ I ⟨Ω, g, ts, rfl, R, S, EndG.bind h⟩) fun us s1 ⟨vs, H1, I1, rv, Ω1, g1, xs, e1, u1, R1, r1, h1⟩ => ?_
  subst e1
  refine thn (hkw.run pos pins s1 σ Ω1.H _ I1 ⟨Ω1, g1, ts, rfl, R1, S.up u1, EndG.bind h1⟩) fun ws s2 ⟨zs, H2, I2, rz, Ω2, g2, ys, e2, u2, R2, r2, h2⟩ => ?_
  subst e2
  obtain ⟨k1, k2⟩ := h2 Ω2 (vs, zs) Up.refl R2 ⟨r1.up u2, r2⟩ us ws s2 I2 rv rz
  rw [hks]
  exact ⟨Ω2.H, I2, k1, k2⟩
theorem dargs_nil (hkw : PK X kws (tA c W fk)) (hall : (backToKw pos (keywordEach kws X.env)).all (·.1.isSome) = true := by rfl) (hks : (backToKw pos (keywordEach kws X.env)).filterMap (·.1) = ks := by rfl)
    (hpl : ((backTo pos (starEach [] X.env)).any (·.1) || (backToKw pos (keywordEach kws X.env)).any (·.1.isNone)) = false := by rfl) : PArgs X c W [] kws pos ks fNil fk := by
  intro f first pins s σ Ω g ts RQ I R S h
  refine callW_any (pins := pins) (σ := σ) hpl (PyProof.Rows.evalArgs_kw2_nil hall ?_)
  refine thn (hkw.run pos pins s σ Ω.H _ I ⟨Ω, g, ts, rfl, R, S, EndG.bind h⟩) fun ws s2 ⟨zs, H2, I2, rz, Ω2, g2, ys, e2, u2, R2, r2, h2⟩ => ?_
  subst e2
  obtain ⟨k1, k2⟩ := h2 Ω2 ([], zs) Up.refl R2 ⟨.nil, r2⟩ [] ws s2 I2 .nil rz
  rw [hks]
  exact ⟨Ω2.H, I2, k1, k2⟩
end

/-! ### the calls -/
/-- f(..), f a global name -/
def fCn (fc : FC) (fa fk : Ea) : Ev := fun ts g => (fArgs fa fk ts g).bind fun p g1 => fc p.1 p.2 g1
/-- o.m(..) of an instance of the class cls -/
def fMt (cls : Nat) (m : Str) (fc : FC) (fo : Ev) (fa fk : Ea) : Ev := fun ts g => (fo ts g).bind fun x g1 => match objOf x g1 with
  | some (n, fs, l) => if n = cls ∧ lookF fs l m = none then (fArgs fa fk ts g1).bind fun p g2 => fc (x :: p.1) p.2 g2 else .no
  | none => .no
/-- o(..) of an instance of the class cls -/
def fOb (cls : Nat) (fc : FC) (fo : Ev) (fa fk : Ea) : Ev := fun ts g => (fo ts g).bind fun x g1 => (fArgs fa fk ts g1).bind fun p g2 => match objOf x g2 with
  | some (n, _, _) => if n = cls then fc (x :: p.1) p.2 g2 else .no
  | none => .no
section
variable {c : Cn} {W : WX} {X : Cx} {es : List Expr} {kws : List Keyword} {pos p apos : Pos} {ks : List Str} {fo : Ev} {fa fk : Ea} {x m : Str} {fc : FC} {f : Addr} {o : Expr} {cls : Nat}
theorem de_cn (hC : Callee X c W (.ref f) ks fc) (hA : PArgs X c W es kws pos ks fa fk) (hm : X.mg x = some (.ref f)) (hk : PySem.W.keepIn X.K (.ref f) = true) (hg : Gl X x := by rfl) (hdb : (x == ("__debug__" : Str)) = false := by decide) : PE X (.Call (.Name x p) es kws pos) (tE c W (fCn fc fa fk)) := by
  refine ⟨fun pins s σ H Q I ⟨Ω, g, ts, e, R, S, h⟩ => ?_⟩
  subst e
  refine wpAny_Call_Name_kw (ld_glob I hg hm ?_ hdb)
  refine hA _ [] pins s σ Ω g ts _ I R S ((EndG.bind h).mono fun b H1 ⟨Ω1, g1, a, e1, u1, R1, ⟨r1, r2⟩, h1⟩ us ws s2 I2 rv rz => ⟨.inl hk, ?_⟩)
  subst e1
  exact wpAny_call (hC pins s2 σ Ω1 g1 us ws b.1 b.2 a.1 a.2 Q I2 R1 rv rz r1 r2 h1)
theorem de_mt {pl : Sem Bool} (hC : Callee X c W (.ref f) ks fc) (hA : PArgs X c W es kws pos ks fa fk) (ho : PE X o (tE c W fo)) (hcl : Cls X.K (c.ad cls)) (hm : Meth X.K (c.ad cls) m f)
    (ht : eval (.Call (.Attribute o m apos) es kws pos) X.env = (do
      let ov ← eval o X.env
      standAt apos.atName
      let (f, first) ← holding [ov] (getMethod ov m pl)
      callWith pos f first (backTo pos (starEach es X.env)) (backToKw pos (keywordEach kws X.env))) := by rfl) : PE X (.Call (.Attribute o m apos) es kws pos) (tE c W (fMt cls m fc fo fa fk)) := by
  refine ⟨fun pins s σ H Q I ⟨Ω, g, ts, e, R, S, h⟩ => ?_⟩
  subst e
  refine PySem.W.methodCall_KW (pl := pl) (thn (ho.run pins s σ Ω.H _ I ⟨Ω, g, ts, rfl, R, S, EndG.bind h⟩) fun u s1 ⟨xv, H1, I1, rx, Ω1, g1, x, e1, u1, R1, r1, h1⟩ => ?_) ht
  subst e1
  split at h1
  · rename_i n fs l q
    split at h1
    · rename_i hn
      obtain ⟨a, dx, fs', ex, k1, k2, k3⟩ := objOf_ok R1 r1 q
      subst ex; subst k2
      obtain rfl : u = Value.ref a := rx
      have z := lookF_ok m fs' l k3
      rw [hn.2] at z
      rw [hn.1] at k1
      refine getmeth_ok I1 k1 hcl hm z ?_
      refine hA _ [.ref a] pins s1 σ Ω1 g1 ts _ I1 R1 (S.up u1) ((EndG.bind h1).mono fun b H2 ⟨Ω2, g2, p, e2, u2, R2, ⟨r2, r3⟩, h2⟩ us ws s2 I2 rv rz => ⟨.inl hm.kp, ?_⟩)
      subst e2
      exact wpAny_call (hC pins s2 σ Ω2 g2 (.ref a :: us) ws (.ref a :: b.1) b.2 (x :: p.1) p.2 Q I2 R2 (.cons rfl rv) rz (.cons (r1.up u2) r2) r3 h2)
    · exact h1.elim
  · exact h1.elim
theorem de_ob {g0 : Addr} (hC : Callee X c W (.ref g0) ks fc) (hA : PArgs X c W es kws pos ks fa fk) (ho : PE X o (tE c W fo)) (hcl : StX.CallO X.K (c.ad cls) g0)
    (ht : eval (.Call o es kws pos) X.env = (do callWith pos (← eval o X.env) [] (backTo pos (starEach es X.env)) (backToKw pos (keywordEach kws X.env))) := by rfl) : PE X (.Call o es kws pos) (tE c W (fOb cls fc fo fa fk)) := by
  refine ⟨fun pins s σ H Q I ⟨Ω, g, ts, e, R, S, h⟩ => ?_⟩
  subst e
  rw [ht]
  refine wpAny_bind (thn (ho.run pins s σ Ω.H _ I ⟨Ω, g, ts, rfl, R, S, EndG.bind h⟩) fun u s1 ⟨xv, H1, I1, rx, Ω1, g1, x, e1, u1, R1, r1, h1⟩ => ?_)
  subst e1
  refine hA _ [] pins s1 σ Ω1 g1 ts _ I1 R1 (S.up u1) ((EndG.bind h1).mono fun b H2 ⟨Ω2, g2, p, e2, u2, R2, ⟨r2, r3⟩, h2⟩ us ws s2 I2 rv rz => ?_)
  subst e2
  split at h2
  · rename_i n fs l q
    split at h2
    · rename_i hn
      obtain ⟨a, dx, fs', ex, k1, k2, k3⟩ := objOf_ok R2 (r1.up u2) q
      subst ex
      rw [hn] at k1
      obtain rfl : u = Value.ref a := rx
      have hi : StX.InsC X Ω2.H a (c.ad cls) := .inr ⟨dx, fs', k1⟩
      refine ⟨.inr ⟨a, c.ad cls, rfl, hi⟩, ?_⟩
      obtain ⟨ox, od, J, hd⟩ := StX.insC_at I2 hi
      have z := hC pins s2 σ Ω2 g2 (.ref a :: us) ws (.ref a :: b.1) b.2 (x :: p.1) p.2 Q I2 R2 (.cons rfl rv) rz (.cons (r1.up u2) r2) r3 h2
      exact wpAny_call (PySem.W.kco_code I2.kIn J hd hcl.at_ hcl.fn hcl.fi z)
    · exact h2.elim
  · exact h2.elim
end
end Zz
set_option Elab.async false
set_option linter.all false
set_option maxRecDepth 100000
set_option maxHeartbeats 4000000
/-! Zz 8: what loops walk; for; list comprehensions -/
namespace Zz
open PySem PySem.Spec PyProof.Rows L2
abbrev St := L2.St

/-! ### sources -/
inductive Src where
  | fix (l : List T)
  | liv (r i : Nat) (f : Nat → T → T) (n : Nat)
def Src.nx : Src → Nat → VH → Option (Option T)
  | .fix l, i, _ => some l[i]?
  | .liv r j f _, i, g => match at2 g r j with
    | some (some (.lst l)) => some (l[i]?.map (f i))
    | _ => none
structure IOk (c : Cn) (J : It) (S : Src) (Ω0 : Ws) : Prop where
  stop : ∀ (i : Nat) (Ω : Ws) (g : VH), (∀ a o, Ω0.F a = some o → Ω.F a = some o) → Ext2 Ω0.ρ Ω.ρ → Rel c Ω g → S.nx i g = some none → J.stop i Ω.H
  go : ∀ (i : Nat) (Ω : Ws) (g : VH) (t : T), (∀ a o, Ω0.F a = some o → Ω.F a = some o) → Ext2 Ω0.ρ Ω.ρ → Rel c Ω g → S.nx i g = some (some t) → J.go i Ω.H
  yld : ∀ (i : Nat) (Ω : Ws) (g : VH) (t : T) (x : V) (H' : Hp), (∀ a o, Ω0.F a = some o → Ω.F a = some o) → Ext2 Ω0.ρ Ω.ρ → Rel c Ω g → S.nx i g = some (some t) → J.yld i Ω.H x H' →
    ∃ Ω', Ω'.H = H' ∧ Up g Ω g Ω' ∧ Rel c Ω' g ∧ RepW c Ω' t x
abbrev Fi := SL → VH → R Src
abbrev tI (c : Cn) (W : WX) (f : Fi) : TI := gOf c W (fun Ω S J => IOk c J S Ω) f
section
variable {c : Cn} {Ω0 : Ws}
theorem RepsX.at {Ω Ω0 : Ws} {ts : List T} {vs : List V} (h : Reps c Ω0.F Ω0.ρ ts vs) (hF : ∀ a o, Ω0.F a = some o → Ω.F a = some o) (hρ : Ext2 Ω0.ρ Ω.ρ) : RepsW c Ω ts vs := h.mono hF hρ
theorem getN {α β : Type} {l : List α} {m : List β} (h : l.length = m.length) {i : Nat} (e : l[i]? = none) : m.length ≤ i := by
  rw [← h]; exact List.getElem?_eq_none_iff.mp e
/-- a frozen list or one that is only read -/
theorem iok_fixL {a : Addr} {xs : List V} {l : List T} (h : SqL c.K Ω0.F a xs) (r : RepsW c Ω0 l xs) : IOk c (Itl c.K a) (.fix l) Ω0 := by
  have hh : ∀ (Ω : Ws) (g : VH), (∀ a o, Ω0.F a = some o → Ω.F a = some o) → Rel c Ω g → SqL c.K Ω.H a xs := fun Ω g hF R => Evl.ex_l R.sub (Evl.ex_l hF h)
  refine ⟨fun i Ω g hF hρ R e => ⟨xs, hh Ω g hF R, getN r.len (Option.some.inj e)⟩, fun i Ω g t hF hρ R e => ?_, fun i Ω g t x H' hF hρ R e y => ?_⟩
  · obtain ⟨v, q, _⟩ := r.get (Option.some.inj e)
    exact ⟨xs, v, hh Ω g hF R, q⟩
  · obtain ⟨v, q, rv⟩ := r.get (Option.some.inj e)
    obtain ⟨e1, y⟩ := y
    have := y xs (hh Ω g hF R)
    rw [q] at this; cases this
    exact ⟨Ω, e1.symm, Up.refl, R, rv.mono hF hρ⟩
theorem iok_livL {a : Addr} {r0 i0 n : Nat} (ha : at2 Ω0.ρ r0 i0 = some a) : IOk c (Itl c.K a) (.liv r0 i0 (fun _ t => t) n) Ω0 := by
  have hh : ∀ (Ω : Ws) (g : VH) (l : List T), Ext2 Ω0.ρ Ω.ρ → Rel c Ω g → at2 g r0 i0 = some (some (.lst l)) → ∃ vs, Ω.H a = some (.lst vs) ∧ RepsW c Ω l vs := fun Ω g l hρ R e => by
    obtain ⟨a', ho, h1, h2, h3, h4⟩ := R.live _ _ _ e
    rw [hρ _ _ _ ha] at h1; cases h1
    cases h4 with
    | lst rs => exact ⟨_, h2, rs⟩
  refine ⟨fun i Ω g hF hρ R e => ?_, fun i Ω g t hF hρ R e => ?_, fun i Ω g t x H' hF hρ R e y => ?_⟩
  · simp only [Src.nx] at e
    split at e
    · rename_i l hl
      obtain ⟨vs, h1, h2⟩ := hh Ω g l hρ R hl
      have e := Option.some.inj e
      rw [Option.map_eq_none_iff] at e
      exact ⟨vs, .inl (.inl h1), getN h2.len e⟩
    · cases e
  · simp only [Src.nx] at e
    split at e
    · rename_i l hl
      obtain ⟨vs, h1, h2⟩ := hh Ω g l hρ R hl
      obtain ⟨t', e1, e2⟩ := Option.map_eq_some_iff.mp (Option.some.inj e)
      obtain ⟨v, q, rv⟩ := h2.get e1
      exact ⟨vs, v, .inl (.inl h1), q⟩
    · cases e
  · simp only [Src.nx] at e
    split at e
    · rename_i l hl
      obtain ⟨vs, h1, h2⟩ := hh Ω g l hρ R hl
      obtain ⟨t', e1, e2⟩ := Option.map_eq_some_iff.mp (Option.some.inj e)
      obtain ⟨v, q, rv⟩ := h2.get e1
      obtain ⟨e3, y⟩ := y
      have := y vs (.inl (.inl h1))
      rw [q] at this; cases this
      subst e2
      exact ⟨Ω, e3.symm, Up.refl, R, rv⟩
    · cases e
theorem iok_tup {a : Addr} {xs : List V} {l : List T} (h : Ω0.F a = some (.tup xs)) (r : RepsW c Ω0 l xs) : IOk c (Itt c.K a) (.fix l) Ω0 := by
  have hh : ∀ (Ω : Ws) (g : VH), (∀ a o, Ω0.F a = some o → Ω.F a = some o) → Rel c Ω g → SqT c.K Ω.H a xs := fun Ω g hF R => .inl (.inl (R.sub _ _ (hF _ _ h)))
  refine ⟨fun i Ω g hF hρ R e => ⟨xs, hh Ω g hF R, getN r.len (Option.some.inj e)⟩, fun i Ω g t hF hρ R e => ?_, fun i Ω g t x H' hF hρ R e y => ?_⟩
  · obtain ⟨v, q, _⟩ := r.get (Option.some.inj e)
    exact ⟨xs, v, hh Ω g hF R, q⟩
  · obtain ⟨v, q, rv⟩ := r.get (Option.some.inj e)
    obtain ⟨e1, y⟩ := y
    have := y xs (hh Ω g hF R)
    rw [q] at this; cases this
    exact ⟨Ω, e1.symm, Up.refl, R, rv.mono hF hρ⟩
theorem iok_str {z : List Nat} : IOk c (Its ⟨z.toArray⟩) (.fix (z.map fun s => .str [s])) Ω0 := by
  refine ⟨fun i Ω g hF hρ R e => ?_, fun i Ω g t hF hρ R e => ?_, fun i Ω g t x H' hF hρ R e y => ?_⟩
  · have e := Option.some.inj e
    rw [List.getElem?_map, Option.map_eq_none_iff] at e
    show z.toArray.size ≤ i
    simpa using e
  · obtain ⟨s, e1, e2⟩ := Option.map_eq_some_iff.mp ((List.getElem?_map ..).symm.trans (Option.some.inj e))
    show i < z.toArray.size
    have := (List.getElem?_eq_some_iff.mp e1).1
    simpa using this
  · obtain ⟨s, e1, e2⟩ := Option.map_eq_some_iff.mp ((List.getElem?_map ..).symm.trans (Option.some.inj e))
    obtain ⟨e3, s', y1, y2⟩ := y
    have : z[i]? = some s' := by simpa using y1
    rw [e1] at this; cases this
    subst e2; subst y2
    exact ⟨Ω, e3.symm, Up.refl, R, .str⟩
theorem iok_keys {d : Addr} {o : Obj} {kvs : List (Key × V)} (h : Ω0.F d = some (.frz o (.dK kvs))) : IOk c (Itk d o kvs) (.fix (kvs.map fun kv => keyT kv.1)) Ω0 := by
  have hh : ∀ (Ω : Ws) (g : VH), (∀ a o, Ω0.F a = some o → Ω.F a = some o) → Rel c Ω g → Ω.H d = some (.frz o (.dK kvs)) := fun Ω g hF R => R.sub _ _ (hF _ _ h)
  refine ⟨fun i Ω g hF hρ R e => ?_, fun i Ω g t hF hρ R e => ?_, fun i Ω g t x H' hF hρ R e y => ?_⟩
  · have e := Option.some.inj e
    rw [List.getElem?_map, Option.map_eq_none_iff] at e
    exact (walk_keys (d := d) (o := o) (kvs := kvs)).stops _ (hh Ω g hF R) |> fun z => ⟨hh Ω g hF R, by simpa using e⟩
  · obtain ⟨kv, e1, e2⟩ := Option.map_eq_some_iff.mp ((List.getElem?_map ..).symm.trans (Option.some.inj e))
    exact (walk_keys (d := d) (o := o) (kvs := kvs)).goes i _ ((List.getElem?_eq_some_iff.mp e1).1) (hh Ω g hF R)
  · obtain ⟨kv, e1, e2⟩ := Option.map_eq_some_iff.mp ((List.getElem?_map ..).symm.trans (Option.some.inj e))
    obtain ⟨e3, k, v, y1, y2⟩ := (walk_keys (d := d) (o := o) (kvs := kvs)).yields i _ _ _ ((List.getElem?_eq_some_iff.mp e1).1) (hh Ω g hF R) y
    rw [e1] at y1; cases y1
    subst e2; subst y2
    refine ⟨Ω, e3.symm, Up.refl, R, ?_⟩
    have := keys_rep (c := c) (F := Ω.F) (ρ := Ω.ρ) [(k, v)]
    cases this with
    | cons a _ => exact a
theorem iok_rng {lo : Int} {n : Nat} : IOk c (Itr lo n) (.fix ((List.range n).map fun i => .int (lo + (i : Nat)))) Ω0 := by
  refine ⟨fun i Ω g hF hρ R e => ?_, fun i Ω g t hF hρ R e => ?_, fun i Ω g t x H' hF hρ R e y => ?_⟩
  · have e := Option.some.inj e
    rw [List.getElem?_map, Option.map_eq_none_iff] at e
    show n ≤ i
    simpa using e
  · obtain ⟨s, e1, e2⟩ := Option.map_eq_some_iff.mp ((List.getElem?_map ..).symm.trans (Option.some.inj e))
    show i < n
    simpa using (List.getElem?_eq_some_iff.mp e1).1
  · obtain ⟨s, e1, e2⟩ := Option.map_eq_some_iff.mp ((List.getElem?_map ..).symm.trans (Option.some.inj e))
    obtain ⟨e3, y2⟩ := y
    have hs : s = i := by
      obtain ⟨hl, h2⟩ := List.getElem?_eq_some_iff.mp e1
      simpa using h2.symm
    subst hs; subst e2; subst y2
    exact ⟨Ω, e3.symm, Up.refl, R, .int⟩
theorem iok_rngC {lo k : Int} {n : Nat} : IOk c (Itc lo k n) (.fix ((List.range n).map fun i => .int (lo + (i : Nat) * k))) Ω0 := by
  refine ⟨fun i Ω g hF hρ R e => ?_, fun i Ω g t hF hρ R e => ?_, fun i Ω g t x H' hF hρ R e y => ?_⟩
  · have e := Option.some.inj e
    rw [List.getElem?_map, Option.map_eq_none_iff] at e
    show n ≤ i
    simpa using e
  · obtain ⟨s, e1, e2⟩ := Option.map_eq_some_iff.mp ((List.getElem?_map ..).symm.trans (Option.some.inj e))
    show i < n
    simpa using (List.getElem?_eq_some_iff.mp e1).1
  · obtain ⟨s, e1, e2⟩ := Option.map_eq_some_iff.mp ((List.getElem?_map ..).symm.trans (Option.some.inj e))
    obtain ⟨e3, y2⟩ := y
    have hs : s = i := by
      obtain ⟨hl, h2⟩ := List.getElem?_eq_some_iff.mp e1
      simpa using h2.symm
    subst hs; subst e2; subst y2
    exact ⟨Ω, e3.symm, Up.refl, R, .int⟩
theorem getI_len {α β : Type} {l : List α} {m : List β} (h : l.length = m.length) {i : Nat} : (l.mapIdx fun i x => (i, x))[i]? = none → m.length ≤ i := fun e => by
  rw [← h]; simpa using e
def enT (l : List T) : List T := l.mapIdx fun i t => .tup [.int (i : Nat), t]
theorem iok_enFix {a : Addr} {xs : List V} {l : List T} (h : SqL c.K Ω0.F a xs) (r : RepsW c Ω0 l xs) : IOk c (Ite c.K a) (.fix (enT l)) Ω0 := by
  have hh : ∀ (Ω : Ws) (g : VH), (∀ a o, Ω0.F a = some o → Ω.F a = some o) → Rel c Ω g → SqL c.K Ω.H a xs := fun Ω g hF R => Evl.ex_l R.sub (Evl.ex_l hF h)
  refine ⟨fun i Ω g hF hρ R e => ⟨xs, hh Ω g hF R, ?_⟩, fun i Ω g t hF hρ R e => ?_, fun i Ω g t x H' hF hρ R e y => ?_⟩
  · have e := Option.some.inj e
    rw [← r.len]
    simpa [enT] using e
  · obtain ⟨t', e1, e2⟩ := Option.map_eq_some_iff.mp ((List.getElem?_mapIdx ..).symm.trans (Option.some.inj e))
    obtain ⟨v, q, _⟩ := r.get e1
    exact ⟨xs, v, hh Ω g hF R, q⟩
  · obtain ⟨t', e1, e2⟩ := Option.map_eq_some_iff.mp ((List.getElem?_mapIdx ..).symm.trans (Option.some.inj e))
    obtain ⟨v, q, rv⟩ := r.get e1
    obtain ⟨p, x', y1, y2, y3, y4⟩ := y
    have := y4 xs (hh Ω g hF R)
    rw [q] at this; cases this
    subst e2; subst y1; subst y3
    obtain ⟨R1, u1⟩ := R.froz y2 (.tup [.int (i : Nat), v])
    exact ⟨⟨upd Ω.F p (.tup [.int (i : Nat), v]), Ω.ρ, upd Ω.H p (.tup [.int (i : Nat), v])⟩, rfl, u1, R1, .tup upd_same (.cons .int (.cons ((rv.mono hF hρ).up u1) .nil))⟩
theorem iok_enLiv {a : Addr} {r0 i0 n : Nat} (ha : at2 Ω0.ρ r0 i0 = some a) : IOk c (Ite c.K a) (.liv r0 i0 (fun i t => .tup [.int (i : Nat), t]) n) Ω0 := by
  have hh : ∀ (Ω : Ws) (g : VH) (l : List T), Ext2 Ω0.ρ Ω.ρ → Rel c Ω g → at2 g r0 i0 = some (some (.lst l)) → ∃ vs, Ω.H a = some (.lst vs) ∧ RepsW c Ω l vs := fun Ω g l hρ R e => by
    obtain ⟨a', ho, h1, h2, h3, h4⟩ := R.live _ _ _ e
    rw [hρ _ _ _ ha] at h1; cases h1
    cases h4 with
    | lst rs => exact ⟨_, h2, rs⟩
  refine ⟨fun i Ω g hF hρ R e => ?_, fun i Ω g t hF hρ R e => ?_, fun i Ω g t x H' hF hρ R e y => ?_⟩
  · simp only [Src.nx] at e
    split at e
    · rename_i l hl
      obtain ⟨vs, h1, h2⟩ := hh Ω g l hρ R hl
      have e := Option.some.inj e
      rw [Option.map_eq_none_iff] at e
      exact ⟨vs, .inl (.inl h1), getN h2.len e⟩
    · cases e
  · simp only [Src.nx] at e
    split at e
    · rename_i l hl
      obtain ⟨vs, h1, h2⟩ := hh Ω g l hρ R hl
      obtain ⟨t', e1, e2⟩ := Option.map_eq_some_iff.mp (Option.some.inj e)
      obtain ⟨v, q, rv⟩ := h2.get e1
      exact ⟨vs, v, .inl (.inl h1), q⟩
    · cases e
  · simp only [Src.nx] at e
    split at e
    · rename_i l hl
      obtain ⟨vs, h1, h2⟩ := hh Ω g l hρ R hl
      obtain ⟨t', e1, e2⟩ := Option.map_eq_some_iff.mp (Option.some.inj e)
      obtain ⟨v, q, rv⟩ := h2.get e1
      obtain ⟨p, x', y1, y2, y3, y4⟩ := y
      have := y4 vs (.inl (.inl h1))
      rw [q] at this; cases this
      subst e2; subst y1; subst y3
      obtain ⟨R1, u1⟩ := R.froz y2 (.tup [.int (i : Nat), v])
      exact ⟨⟨upd Ω.F p (.tup [.int (i : Nat), v]), Ω.ρ, upd Ω.H p (.tup [.int (i : Nat), v])⟩, rfl, u1, R1, .tup upd_same (.cons .int (.cons (rv.up u1) .nil))⟩
    · cases e
end
/-- what a value is walked as -/
def srcOf (t : T) (g : VH) : R Src := match t with
  | .rol l => .ok (.fix l) g
  | .lst l => .ok (.fix l) g
  | .tup l => .ok (.fix l) g
  | .str z => .ok (.fix (z.map fun s => .str [s])) g
  | .dct ks _ => .ok (.fix ks) g
  | .ref r i => match at2 g r i with
    | some (some (.lst l)) => .ok (.liv r i (fun _ t => t) l.length) g
    | _ => .no
  | _ => .no
def srcEn (xs : List T) (g : VH) : R Src := match xs with
  | [.rol l] => .ok (.fix (enT l)) g
  | [.lst l] => .ok (.fix (enT l)) g
  | [.ref r i] => match at2 g r i with
    | some (some (.lst l)) => .ok (.liv r i (fun i t => .tup [.int (i : Nat), t]) l.length) g
    | _ => .no
  | _ => .no
def iIn (i : Int) : Bool := decide (-(2 ^ 62) ≤ i) && decide (i < 2 ^ 62)
theorem iIn_ok {i : Int} (h : iIn i = true) : -(2 ^ 62) ≤ i ∧ i < 2 ^ 62 := by
  unfold iIn at h
  obtain ⟨h1, h2⟩ := Bool.and_eq_true_iff.mp h
  exact ⟨of_decide_eq_true h1, of_decide_eq_true h2⟩
def srcR1 (xs : List T) (g : VH) : R Src := match xs with
  | [.int j] => if iIn j then .ok (.fix ((List.range j.toNat).map fun i => .int (0 + (i : Nat)))) g else .no
  | _ => .no
def srcR2 (xs : List T) (g : VH) : R Src := match xs with
  | [.int i, .int j] => if iIn i && iIn j then .ok (.fix ((List.range (j - i).toNat).map fun n => .int (i + (n : Nat)))) g else .no
  | _ => .no
/-- downwards by one -/
def srcR3 (xs : List T) (g : VH) : R Src := match xs with
  | [.int i, .int j, .int k] => if iIn i && iIn j && decide (k = -1) then .ok (.fix ((List.range (i - j).toNat).map fun n => .int (i + (n : Nat) * (-1)))) g else .no
  | _ => .no
def fI (fa : Ev) : Fi := fun ts g => (fa ts g).bind srcOf
def fIa (s : List T → VH → R Src) (fa : Ea) : Fi := fun ts g => (fa ts g).bind s
section
variable {c : Cn} {W : WX} {X : Cx} {tg e : Expr} {fa : Ev} {fr : Ea} {p pos : Pos}
theorem di_any (hK : c.K = X.K) (he : PE X e (tE c W fa)) : PI X tg e (tI c W (fI fa)) := by
  refine ⟨fun pins s σ H Rq I h => ?_⟩
  refine thn (he.run pins s σ H _ I (tT_bind (RP := RepW c) h)) fun u s1 ⟨x, H1, I1, rx, Ω1, g1, ts, t, e1, R1, S1, r1, h1⟩ => ?_
  subst e1
  have lst : ∀ {a : Addr} {xs : List V}, SqL c.K Ω1.H a xs → Rq (Itl c.K a) Ω1.H → u = Value.ref a → wpAny (model X.prog X.w) X.A (pyIter u) (PIE X pins σ tg Rq) X.xe s1 := fun {a xs} hq q eu => by
    subst eu
    rw [hK] at hq q
    obtain ⟨its, rv, p, hz⟩ := I1.list hq
    exact wpAny_pyIter_list p.isList (pi_one (tk := s1.toks) I1 _ (turn_list a _) ⟨_, Heap.get?_push_size _ rfl, rfl, rfl⟩ q)
  cases r1 with
  | rol hp rs => exact lst (Evl.ex_l R1.sub hp) (h1 Ω1 (Itl c.K _) Up.refl R1 (iok_fixL hp rs)) rx
  | lst hp rs => exact lst (.inl (.inl (R1.sub _ _ hp))) (h1 Ω1 (Itl c.K _) Up.refl R1 (iok_fixL (.inl (.inl hp)) rs)) rx
  | tup hp rs =>
    have q := h1 Ω1 (Itt c.K _) Up.refl R1 (iok_tup hp rs)
    rw [hK] at q
    obtain ⟨its, rv, p, hz⟩ := I1.tuple (.inl (.inl (R1.sub _ _ hp)))
    cases rx
    exact wpAny_pyIter_tuple (show s1.heap.IsTuple _ its.toArray from p) (pi_one (tk := s1.toks) I1 _ (turn_tuple _ _) ⟨_, Heap.get?_push_size _ rfl, rfl, rfl⟩ q)
  | @str z =>
    have q := h1 Ω1 (Its ⟨z.toArray⟩) Up.refl R1 iok_str
    obtain ⟨t, rfl⟩ := rx
    cases ha : (⟨z.toArray⟩ : Str).cps.all (· < 128)
    · exact wpAny_pyIter_wide ha (pi_one (tk := s1.toks) I1 _ (turn_str _ _ t "str_iterator" (.inr rfl)) ⟨_, Heap.get?_push_size _ rfl, rfl, rfl⟩ q)
    · exact wpAny_pyIter_ascii ha (pi_one (tk := s1.toks) I1 _ (turn_str _ _ t "str_ascii_iterator" (.inl rfl)) ⟨_, Heap.get?_push_size _ rfl, rfl, rfl⟩ q)
  | @dct d ts' ks kvs od hp ek rs =>
    subst ek
    have q := h1 Ω1 (Itk d od kvs) Up.refl R1 (iok_keys hp)
    obtain rfl : u = Value.ref d := rx
    obtain ⟨hs, hgd, hx, es, ep, vs, hdt, hsz, kv, hm⟩ := I1.frzK (R1.sub _ _ hp)
    refine iter_keys hs hgd hx hdt (pi_one (tk := s1.toks) I1 _ (turn_keys _ hdt) ⟨_, Heap.get?_push_size _ rfl, rfl, ?_⟩ q)
    rw [hsz] <;> rfl
  | ref ha =>
    simp only [srcOf] at h1
    split at h1
    · rename_i l hl
      obtain ⟨a', ho, k1, k2, k3, k4⟩ := R1.live _ _ _ hl
      rw [ha] at k1; cases k1
      cases k4 with
      | lst rs => exact lst (.inl (.inl k2)) (h1 Ω1 (Itl c.K _) Up.refl R1 (iok_livL ha)) rx
    · exact h1.elim
  | _ => exact h1.elim
theorem di_enum {tpos : Pos} {elts : List Expr} {kk : Nat} (hK : c.K = X.K) (hm : X.mg "enumerate" = none) (ha : PA X [e] (tA c W fr)) (hg : Gl X "enumerate" := by rfl) (hs : starEach [e] X.env = [(false, eval e X.env)] := by rfl) :
    PI X (.Tuple elts kk tpos) (.Call (.Name "enumerate" p) [e] [] pos) (tI c W (fIa srcEn fr)) := by
  refine ⟨fun pins s σ H Rq I h => (pi_enum hg hm ha hs).run pins s σ H Rq I ?_⟩
  refine gOf_mono (tT_bind (RP := RepsW c) h) fun y H1 ⟨Ω1, g1, ts, x, e1, R1, S1, r1, h1⟩ => ?_
  subst e1
  unfold srcEn at h1
  split at h1
  · cases r1 with
    | cons ra rn =>
      cases rn
      cases ra with
      | rol hp rs => exact ⟨_, _, rfl, by rw [← hK]; exact Evl.ex_l R1.sub hp, by rw [← hK]; exact h1 Ω1 (Ite c.K _) Up.refl R1 (iok_enFix hp rs)⟩
  · cases r1 with
    | cons ra rn =>
      cases rn
      cases ra with
      | lst hp rs => exact ⟨_, _, rfl, .inl (.inl (R1.sub _ _ hp)), by rw [← hK]; exact h1 Ω1 (Ite c.K _) Up.refl R1 (iok_enFix (.inl (.inl hp)) rs)⟩
  · cases r1 with
    | cons ra rn =>
      cases rn
      cases ra with
      | ref ha =>
        split at h1
        · rename_i l hl
          obtain ⟨a', ho, k1, k2, k3, k4⟩ := R1.live _ _ _ hl
          rw [ha] at k1; cases k1
          cases k4 with
          | lst rs => exact ⟨_, _, rfl, .inl (.inl k2), by rw [← hK]; exact h1 Ω1 (Ite c.K _) Up.refl R1 (iok_enLiv ha)⟩
        · exact h1.elim
  · exact h1.elim
theorem di_range1 (hm : X.mg "range" = none) (ha : PA X [e] (tA c W fr)) (hg : Gl X "range" := by rfl) (hs : starEach [e] X.env = [(false, eval e X.env)] := by rfl) : PI X tg (.Call (.Name "range" p) [e] [] pos) (tI c W (fIa srcR1 fr)) := by
  refine ⟨fun pins s σ H Rq I h => (pi_range1 hg hm ha hs).run pins s σ H Rq I ?_⟩
  refine gOf_mono (tT_bind (RP := RepsW c) h) fun y H1 ⟨Ω1, g1, ts, x, e1, R1, S1, r1, h1⟩ => ?_
  subst e1
  unfold srcR1 at h1
  split at h1
  · split at h1
    · rename_i hi
      cases r1 with
      | cons ra rn =>
        cases rn; cases ra
        exact ⟨_, rfl, (iIn_ok hi).1, (iIn_ok hi).2, h1 Ω1 _ Up.refl R1 iok_rng⟩
    · exact h1.elim
  · exact h1.elim
theorem di_range2 {e2 : Expr} (hm : X.mg "range" = none) (ha : PA X [e, e2] (tA c W fr)) (hg : Gl X "range" := by rfl) (hs : starEach [e, e2] X.env = [(false, eval e X.env), (false, eval e2 X.env)] := by rfl) (hs2 : starEach [e2] X.env = [(false, eval e2 X.env)] := by rfl) :
    PI X tg (.Call (.Name "range" p) [e, e2] [] pos) (tI c W (fIa srcR2 fr)) := by
  refine ⟨fun pins s σ H Rq I h => (pi_range2 hg hm ha hs hs2).run pins s σ H Rq I ?_⟩
  refine gOf_mono (tT_bind (RP := RepsW c) h) fun y H1 ⟨Ω1, g1, ts, x, e1, R1, S1, r1, h1⟩ => ?_
  subst e1
  unfold srcR2 at h1
  split at h1
  · split at h1
    · rename_i hi
      obtain ⟨h2, h3⟩ := Bool.and_eq_true_iff.mp hi
      cases r1 with
      | cons ra rn =>
        cases rn with
        | cons rb rn =>
          cases rn; cases ra; cases rb
          exact ⟨_, _, rfl, ⟨(iIn_ok h2).1, (iIn_ok h2).2, (iIn_ok h3).1, (iIn_ok h3).2⟩, h1 Ω1 _ Up.refl R1 iok_rng⟩
    · exact h1.elim
  · exact h1.elim
theorem di_range3 {e2 e3 : Expr} (hm : X.mg "range" = none) (ha : PA X [e, e2, e3] (tA c W fr)) (hg : Gl X "range" := by rfl) (hpi : PI X tg (.Call (.Name "range" p) [e, e2, e3] [] pos) (iRng3 (tA c W fr))) :
    PI X tg (.Call (.Name "range" p) [e, e2, e3] [] pos) (tI c W (fIa srcR3 fr)) := by
  refine ⟨fun pins s σ H Rq I h => hpi.run pins s σ H Rq I ?_⟩
  refine gOf_mono (tT_bind (RP := RepsW c) h) fun y H1 ⟨Ω1, g1, ts, x, e1, R1, S1, r1, h1⟩ => ?_
  subst e1
  unfold srcR3 at h1
  split at h1
  · split at h1
    · rename_i hi
      obtain ⟨h2, h4⟩ := Bool.and_eq_true_iff.mp hi
      obtain ⟨h2, h3⟩ := Bool.and_eq_true_iff.mp h2
      have h4 := of_decide_eq_true h4
      subst h4
      cases r1 with
      | cons ra rn =>
        cases rn with
        | cons rb rn =>
          cases rn with
          | cons rc rn =>
            cases rn; cases ra; cases rb; cases rc
            exact ⟨_, _, _, _, rfl, RgC.neg (iIn_ok h2).1 (iIn_ok h2).2 (iIn_ok h3).1 (iIn_ok h3).2, h1 Ω1 _ Up.refl R1 iok_rngC⟩
    · exact h1.elim
  · exact h1.elim
end

/-! ### for -/
def forN (nx : Nat → VH → Option (Option T)) (tg : Tg) (fb : Ss) : Nat → Nat → Ss
  | 0, _, _, _ => .no
  | m + 1, i, ts, g => match nx i g with
    | none => .no
    | some none => .nx ts g
    | some (some t) => match bindT tg t ts with
      | none => .no
      | some ts' => match fb ts' g with
        | .nx ts2 g2 => forN nx tg fb m (i + 1) ts2 g2
        | .ct ts2 g2 => forN nx tg fb m (i + 1) ts2 g2
        | .bk ts2 g2 => .nx ts2 g2
        | .rt t g2 => .rt t g2
        | .ex x ts2 g2 => .ex x ts2 g2
        | .no => .no
/-- over a list of values -/
def forL (tg : Tg) (fb : Ss) : List T → Ss
  | [], ts, g => .nx ts g
  | t :: l, ts, g => match bindT tg t ts with
    | none => .no
    | some ts' => match fb ts' g with
      | .nx ts2 g2 => forL tg fb l ts2 g2
      | .ct ts2 g2 => forL tg fb l ts2 g2
      | .bk ts2 g2 => .nx ts2 g2
      | .rt t g2 => .rt t g2
      | .ex x ts2 g2 => .ex x ts2 g2
      | .no => .no
theorem forL_eq (tg : Tg) (fb : Ss) (l : List T) : ∀ (l' : List T) (i : Nat) (ts : SL) (g : VH), l.drop i = l' → forN (Src.fix l).nx tg fb (l'.length + 1) i ts g = forL tg fb l' ts g
  | [], i, ts, g, e => by
    have h : l[i]? = none := List.getElem?_eq_none (List.drop_eq_nil_iff.mp e)
    show (match some l[i]? with | none => _ | some none => _ | some (some t) => _) = _
    rw [h]; rfl
  | t :: l', i, ts, g, e => by
    have h : l[i]? = some t := by
      have := congrArg (fun x => x[0]?) e
      simpa using this
    have e' : l.drop (i + 1) = l' := by
      rw [← List.drop_drop, e]; rfl
    show (match some l[i]? with | none => _ | some none => _ | some (some t) => _) = _
    rw [h]
    show (match bindT tg t ts with | none => RS.no | some ts' => _) = (match bindT tg t ts with | none => RS.no | some ts' => _)
    cases bindT tg t ts with
    | none => rfl
    | some ts' =>
      show (match fb ts' g with | .nx ts2 g2 => _ | .ct ts2 g2 => _ | .bk ts2 g2 => _ | .rt t g2 => _ | .ex x ts2 g2 => _ | .no => _) = (match fb ts' g with | .nx ts2 g2 => _ | .ct ts2 g2 => _ | .bk ts2 g2 => _ | .rt t g2 => _ | .ex x ts2 g2 => _ | .no => _)
      cases fb ts' g with
      | nx ts2 g2 => exact forL_eq tg fb l l' (i + 1) ts2 g2 e'
      | ct ts2 g2 => exact forL_eq tg fb l l' (i + 1) ts2 g2 e'
      | _ => rfl
def forS (S : Src) (tg : Tg) (fb : Ss) : Ss := fun ts g1 => match S with
  | .fix l => forL tg fb l ts g1
  | .liv r j f n => forN (Src.liv r j f n).nx tg fb (n + 1) 0 ts g1
def sFor (fi : Fi) (tg : Tg) (fb : Ss) : Ss := fun ts g => (fi ts g).toS ts fun S g1 => forS S tg fb ts g1
theorem sFor_fuel (S : Src) (tg : Tg) (fb : Ss) (ts : SL) (g : VH) : ∃ m, forS S tg fb ts g = forN S.nx tg fb m 0 ts g := by
  cases S with
  | fix l => exact ⟨l.length + 1, (forL_eq tg fb l l 0 ts g rfl).symm⟩
  | liv r j f n => exact ⟨n + 1, rfl⟩
section
variable {c : Cn} {W : WX} {X : Cx} {tg iter : Expr} {fi : Fi} {fb : Ss} {pos : Pos}
theorem ds_for {t : Tg} {body : List Stmt} (hp : PassesOwn (model X.prog X.w) X.A X.env X.xe) (hc : X.calm = true) (hi : PI X tg iter (tI c W fi)) (hg : PG X tg (gT X.K t)) (hb : PSs X body (tS c W fb))
    (hs : ∀ x, foldedSetIterable iter X.env x = pure x := by intro _; rfl) : PS X (.For tg iter body [] pos) (tS c W (sFor fi t fb)) :=
  PS_weak (ps_for hp hc hi hg hb hs) fun D σ H ⟨Ω, g, ts, e, R, S, h⟩ => by
    subst e
    refine ⟨Ω, g, ts, rfl, R, S, (EndS.bindE (RP := fun Ω S J => IOk c J S Ω) S h).mono fun J H1 ⟨Ω1, g1, A, e1, u1, R1, io, h1⟩ => ?_⟩
    subst e1
    obtain ⟨m0, em⟩ := sFor_fuel A t fb ts g1
    rw [em] at h1
    refine ⟨fun i m σ' H' => ∃ Ω2 g2 ts2, Ω2.H = H' ∧ Rel c Ω2 g2 ∧ RepS c Ω2 ts2 σ' ∧ (∀ a o, Ω1.F a = some o → Ω2.F a = some o) ∧ Ext2 Ω1.ρ Ω2.ρ ∧ EndS c W Ω2 g2 D (forN A.nx t fb m i ts2 g2), ⟨m0, Ω1, g1, ts, rfl, R1, S.up u1, fun _ _ z => z, fun _ _ _ z => z, h1⟩, ?_⟩
    rintro i m σ' H' ⟨Ω2, g2, ts2, e2, R2, S2, hF, hρ, h2⟩
    subst e2
    cases m with
    | zero => exact h2.elim
    | succ m =>
      unfold forN at h2
      split at h2
      · exact h2.elim
      · rename_i q
        exact .inl ⟨io.stop i Ω2 g2 hF hρ R2 q, h2 Ω2 σ' Up.refl R2 S2⟩
      · rename_i t' q
        refine .inr ⟨io.go i Ω2 g2 t' hF hρ R2 q, fun σ3 H3 => ∃ Ω3 g3 ts3, Ω3.H = H3 ∧ Rel c Ω3 g3 ∧ RepS c Ω3 ts3 σ3 ∧ (∀ a o, Ω1.F a = some o → Ω3.F a = some o) ∧ Ext2 Ω1.ρ Ω3.ρ ∧ EndS c W Ω3 g3 D (forN A.nx t fb m (i + 1) ts3 g3), fun σ3 H3 z => ⟨m, Nat.lt_succ_self m, z⟩, fun x H3 y => ?_⟩
        obtain ⟨Ω3, e3, u3, R3, r3⟩ := io.yld i Ω2 g2 t' x H3 hF hρ R2 q y
        subst e3
        split at h2
        · exact h2.elim
        · rename_i ts3 qb
          refine bindT_of R3 t r3 (S2.up u3) qb fun σ4 S4 => ?_
          have h3 := EndS.shift u3 h2
          refine ⟨Ω3, g2, ts3, rfl, R3, S4, ?_⟩
          revert h3
          cases fb ts3 g2 with
          | nx ts' g' => exact fun h3 Ω' σ' u R' S' => ⟨Ω', g', ts', rfl, R', S', fun a o z => (u3.trans u).F a o (hF a o z), fun r i a z => (u3.trans u).ρ r i a (hρ r i a z), EndS.shift u h3⟩
          | ct ts' g' => exact fun h3 Ω' σ' u R' S' => ⟨Ω', g', ts', rfl, R', S', fun a o z => (u3.trans u).F a o (hF a o z), fun r i a z => (u3.trans u).ρ r i a (hρ r i a z), EndS.shift u h3⟩
          | bk ts' g' => exact fun h3 => h3
          | rt t g' => exact fun h3 => h3
          | ex x ts' g' => exact fun h3 => h3
          | no => exact fun h3 => h3
end
end Zz
set_option Elab.async false
set_option linter.all false
set_option maxRecDepth 100000
set_option maxHeartbeats 4000000
/-! Zz 9: comprehensions -/
namespace Zz
open PySem PySem.Spec PyProof.Rows L2

/-! ### an object that grows beside the worlds -/
def Ex (Ω Ω' : Ws) : Prop := (∀ a o, Ω.F a = some o → Ω'.F a = some o) ∧ Ext2 Ω.ρ Ω'.ρ
theorem Ex.refl {Ω : Ws} : Ex Ω Ω := ⟨fun _ _ z => z, fun _ _ _ z => z⟩
theorem Ex.trans {Ω Ω1 Ω2 : Ws} (a : Ex Ω Ω1) (b : Ex Ω1 Ω2) : Ex Ω Ω2 := ⟨fun x o h => b.1 x o (a.1 x o h), fun r i x h => b.2 r i x (a.2 r i x h)⟩
theorem Up.ex {g g' : VH} {Ω Ω' : Ws} (u : Up g Ω g' Ω') : Ex Ω Ω' := ⟨u.F, u.ρ⟩
theorem RepS.ex {c : Cn} {Ω Ω' : Ws} {ts : SL} {σ : St} (h : RepS c Ω ts σ) (u : Ex Ω Ω') : RepS c Ω' ts σ := ⟨h.1, fun i t e => let ⟨v, h1, h2⟩ := h.2 i t e; ⟨v, h1, h2.mono u.1 u.2⟩⟩
structure Dst (c : Cn) (Ω0 : Ws) (g0 : VH) (D : Addr) (Ω : Ws) (g : VH) (o : HO) : Prop where
  n0 : Ω0.H D = none
  pl : Pln o
  up : Up g0 Ω0 g Ω
  rel : Rel c Ω g
  hd : Ω.H D = some o
  hf : Ω.F D = none
  nl : NL g Ω.ρ D
section
variable {c : Cn} {Ω0 Ω Ω1 : Ws} {g0 g g1 : VH} {D : Addr} {o o' : HO}
theorem Dst.start (R : Rel c Ω g) (h : Ω.H D = none) (o : HO) (hp : Pln o := by exact ⟨fun _ z => (by cases z), fun _ z => (by cases z)⟩) : Dst c Ω g D ⟨Ω.F, Ω.ρ, upd Ω.H D o⟩ g o := by
  obtain ⟨R1, u1⟩ := R.other h o
  refine ⟨h, hp, u1, R1, upd_same, R.nF h, fun r i x e z => ?_⟩
  obtain ⟨a, ho, h1, h2, h3, h4⟩ := R.live r i x e
  have z' : at2 Ω.ρ r i = some D := z
  rw [h1] at z'; cases z'
  rw [h] at h2; cases h2
theorem Dst.step (d : Dst c Ω0 g0 D Ω g o) (u : Up g Ω g1 Ω1) (R : Rel c Ω1 g1) : Dst c Ω0 g0 D Ω1 g1 o :=
  ⟨d.n0, d.pl, d.up.trans u, R, (u.fr D o d.hd d.pl.1 d.nl).1, u.nu D o d.hd d.pl d.nl d.hf, (u.fr D o d.hd d.pl.1 d.nl).2⟩
theorem Rel.off (R : Rel c Ω g) {p : Addr} {o : HO} {H' : Hp} (hp : Ω.H p = some o) (hpl : Pln o) (hF : Ω.F p = none) (hn : NL g Ω.ρ p) (hH : ∀ a, a ≠ p → H' a = Ω.H a) : Rel c ⟨Ω.F, Ω.ρ, H'⟩ g := by
  refine ⟨fun a o h => ?_, R.shape, fun r i x h => ?_, R.inj, tabs_off R.tab hp hpl hH, R.nt⟩
  · have h' : Ω.F a = some o := h
    show H' a = _
    rw [hH a (fun e => by rw [e, hF] at h'; cases h')]
    exact R.sub a o h'
  · obtain ⟨a, ho, h1, h2, h3, h4⟩ := R.live r i x h
    exact ⟨a, ho, h1, by show H' a = _; rw [hH a (fun e => hn r i x h (by rw [h1, e]))]; exact h2, h3, h4⟩
theorem Up.off (u : Up g0 Ω0 g Ω) {p : Addr} {H' : Hp} (h0 : Ω0.H p = none) (hH : ∀ a, a ≠ p → H' a = Ω.H a) : Up g0 Ω0 g ⟨Ω.F, Ω.ρ, H'⟩ := by
  refine ⟨u.F, u.ρ, fun b o h n k => ⟨?_, (u.fr b o h n k).2⟩, fun b o h n k z => u.nu b o h n k z⟩
  show H' b = _
  rw [hH b (ne_of_none h h0)]
  exact (u.fr b o h n k).1
theorem Dst.set (d : Dst c Ω0 g0 D Ω g o) (o' : HO) (hp : Pln o' := by exact ⟨fun _ z => (by cases z), fun _ z => (by cases z)⟩) : Dst c Ω0 g0 D ⟨Ω.F, Ω.ρ, upd Ω.H D o'⟩ g o' :=
  ⟨d.n0, hp, d.up.off d.n0 fun a h => upd_ne h, d.rel.off d.hd d.pl d.hf d.nl fun a h => upd_ne h, upd_same, d.hf, d.nl⟩
theorem Dst.fin (d : Dst c Ω0 g0 D Ω g o) : ∃ Ω2, Up g0 Ω0 g Ω2 ∧ Rel c Ω2 g ∧ Ω2.H D = none ∧ upd Ω2.H D o = Ω.H ∧ Ex Ω Ω2 := by
  have e : ∀ a, a ≠ D → (fun b => if b = D then none else Ω.H b : Hp) a = Ω.H a := fun a h => by show (if a = D then none else Ω.H a) = _; rw [if_neg h]
  refine ⟨⟨Ω.F, Ω.ρ, fun b => if b = D then none else Ω.H b⟩, d.up.off d.n0 e, d.rel.off d.hd d.pl d.hf d.nl e, by show (if D = D then none else _) = none; rw [if_pos rfl], ?_, Ex.refl⟩
  funext b
  by_cases hb : b = D
  · subst hb; rw [upd_same]; exact d.hd.symm
  · rw [upd_ne hb]; exact e b hb
end

/-! ### wiped slots -/
def wipeT (ts : SL) : List Nat → SL
  | [] => ts
  | v :: vs => (wipeT ts vs).set v none
theorem wipe_in {σ : St} {i : Nat} : ∀ {vs : List Nat}, i ∈ vs → (wipe σ vs)[i]? = if i < σ.length then some none else none
  | [], h => by simp at h
  | v :: vs, h => by
    unfold wipe
    by_cases e : v = i
    · subst e
      rw [List.getElem?_set_self', ← wipe_length σ vs]
      by_cases hl : v < (wipe σ vs).length
      · rw [if_pos hl]; simp [hl]
      · rw [if_neg hl]; simp [Nat.le_of_not_lt hl]
    · rw [List.getElem?_set_ne e]
      exact wipe_in (by simpa [Ne.symm e] using h)
theorem wipe_eq {σ σ' : St} {vs : List Nat} (hl : σ.length = σ'.length) (h : ∀ i, i ∉ vs → σ[i]? = σ'[i]?) : wipe σ vs = wipe σ' vs := by
  apply List.ext_getElem?
  intro i
  by_cases hi : i ∈ vs
  · rw [wipe_in hi, wipe_in hi, hl]
  · rw [wipe_out hi, wipe_out hi, h i hi]
theorem wipe_set {σ : St} {vs : List Nat} {i : Nat} {x : Option V} (hi : i ∈ vs) : wipe (σ.set i x) vs = wipe σ vs :=
  wipe_eq (by simp) fun j hj => List.getElem?_set_ne fun e => by subst e; exact hj hi
theorem wipe_wipe {σ : St} {vs : List Nat} : wipe (wipe σ vs) vs = wipe σ vs := wipe_eq (wipe_length _ _) fun i hi => wipe_out hi
theorem wipeT_length (ts : SL) : ∀ vs : List Nat, (wipeT ts vs).length = ts.length
  | [] => rfl
  | v :: vs => by unfold wipeT; rw [List.length_set, wipeT_length ts vs]
theorem wipeT_some {ts : SL} {i : Nat} {x : T} : ∀ {vs : List Nat}, (wipeT ts vs)[i]? = some (some x) → ts[i]? = some (some x) ∧ i ∉ vs
  | [], h => ⟨h, by simp⟩
  | v :: vs, h => by
    unfold wipeT at h
    by_cases hi : v = i
    · subst hi
      by_cases hv : v < (wipeT ts vs).length
      · rw [List.getElem?_set_self hv] at h; cases h
      · rw [List.getElem?_eq_none (by simpa using hv)] at h; cases h
    · rw [List.getElem?_set_ne hi] at h
      obtain ⟨h1, h2⟩ := wipeT_some h
      exact ⟨h1, by simp only [List.mem_cons, not_or]; exact ⟨fun e => hi e.symm, h2⟩⟩
theorem RepS.wipe {c : Cn} {Ω : Ws} {ts : SL} {σ : St} (h : RepS c Ω ts σ) (vs : List Nat) : RepS c Ω (wipeT ts vs) (L2.wipe σ vs) := by
  refine ⟨by rw [wipeT_length, wipe_length]; exact h.1, fun i t e => ?_⟩
  obtain ⟨h1, h2⟩ := wipeT_some e
  obtain ⟨v, h3, h4⟩ := h.2 i t h1
  exact ⟨v, by rw [wipe_out h2]; exact h3, h4⟩
def tgIn : Tg → List Nat → Bool
  | .nm i, vs => decide (i ∈ vs)
  | .tp is, vs => is.all fun i => decide (i ∈ vs)
theorem gNames_of2 {c : Cn} {K : PySem.W.Frag} {Ω : Ws} {ws : List Nat} : ∀ (is : List Nat) (l : List T) (vs : List V) (ts : SL) (σ : St) (Q : St → Hp → Prop), is.length = l.length → (∀ i ∈ is, i ∈ ws) → RepsW c Ω l vs → RepS c Ω ts σ →
    (∀ σ', RepS c Ω (setMany is l ts) σ' → wipe σ' ws = wipe σ ws → Q σ' Ω.H) → gNames is vs σ Ω.H Q
  | [], [], _, ts, σ, Q, _, _, .nil, S, k => ⟨rfl, k σ S rfl⟩
  | i :: is, t :: l, _, ts, σ, Q, hl, hi, .cons r rs, S, k => ⟨_, _, rfl, gNames_of2 (K := K) is l _ _ _ Q (by simpa using hl) (fun j hj => hi j (List.mem_cons_of_mem _ hj)) rs (S.set r i) fun σ' S' e => k σ' S' (e.trans (wipe_set (hi i List.mem_cons_self)))⟩
theorem bindT_of2 {c : Cn} {K : PySem.W.Frag} {Ω : Ws} {g : VH} {ws : List Nat} (R : Rel c Ω g) : ∀ (tg : Tg) {t : T} {v : V} {ts ts' : SL} {σ : St} {Q : St → Hp → Prop}, tgIn tg ws = true → RepW c Ω t v → RepS c Ω ts σ → bindT tg t ts = some ts' → (∀ σ', RepS c Ω ts' σ' → wipe σ' ws = wipe σ ws → Q σ' Ω.H) → gT K tg v σ Ω.H Q := by
  intro tg t v ts ts' σ Q hw r S e k
  cases tg with
  | nm i =>
    unfold bindT at e
    cases e
    exact k _ (S.set r i) (wipe_set (of_decide_eq_true hw))
  | tp is =>
    cases r with
    | tup hp rs =>
      simp only [bindT] at e
      split at e
      · rename_i hl
        cases e
        refine ⟨_, _, rfl, .inl (.inl (R.sub _ _ hp)), by rw [← rs.len, hl], gNames_of2 (K := K) is _ _ _ _ Q hl (fun i hi => ?_) rs S k⟩
        exact of_decide_eq_true (List.all_eq_true.mp hw i hi)
      · cases e
    | _ => unfold bindT at e; cases e

/-! ### the loop of a block -/
def R.bindX {α β : Type} (m : R α) (k : α → VH → R β) : R β := match m with
  | .ok a g => k a g
  | _ => .no
def itN {β : Type} (nx : Nat → VH → Option (Option T)) (tg : Tg) (body : SL → β → VH → R β) (ts : SL) : Nat → Nat → β → VH → R β
  | 0, _, _, _ => .no
  | m + 1, i, acc, g => match nx i g with
    | none => .no
    | some none => .ok acc g
    | some (some t) => match bindT tg t ts with
      | none => .no
      | some ts' => match body ts' acc g with
        | .ok acc' g' => itN nx tg body ts m (i + 1) acc' g'
        | _ => .no
def itL {β : Type} (tg : Tg) (body : SL → β → VH → R β) (ts : SL) : List T → β → VH → R β
  | [], acc, g => .ok acc g
  | t :: l, acc, g => match bindT tg t ts with
    | none => .no
    | some ts' => match body ts' acc g with
      | .ok acc' g' => itL tg body ts l acc' g'
      | _ => .no
theorem itL_eq {β : Type} (tg : Tg) (body : SL → β → VH → R β) (ts : SL) (l : List T) : ∀ (l' : List T) (i : Nat) (acc : β) (g : VH), l.drop i = l' → itN (Src.fix l).nx tg body ts (l'.length + 1) i acc g = itL tg body ts l' acc g
  | [], i, acc, g, e => by
    have h : l[i]? = none := List.getElem?_eq_none (List.drop_eq_nil_iff.mp e)
    show (match some l[i]? with | none => _ | some none => _ | some (some t) => _) = _
    rw [h]; rfl
  | t :: l', i, acc, g, e => by
    have h : l[i]? = some t := by
      have := congrArg (fun x => x[0]?) e
      simpa using this
    have e' : l.drop (i + 1) = l' := by
      rw [← List.drop_drop, e]; rfl
    show (match some l[i]? with | none => _ | some none => _ | some (some t) => _) = _
    rw [h]
    show (match bindT tg t ts with | none => R.no | some ts' => _) = (match bindT tg t ts with | none => R.no | some ts' => _)
    cases bindT tg t ts with
    | none => rfl
    | some ts' =>
      show (match body ts' acc g with | .ok acc' g' => _ | _ => _) = (match body ts' acc g with | .ok acc' g' => _ | _ => _)
      cases body ts' acc g with
      | ok ts2 g2 => exact itL_eq tg body ts l l' (i + 1) ts2 g2 e'
      | _ => rfl
def itS {β : Type} (S : Src) (tg : Tg) (body : SL → β → VH → R β) (ts : SL) (acc : β) (g : VH) : R β := match S with
  | .fix l => itL tg body ts l acc g
  | .liv r j f n => itN (Src.liv r j f n).nx tg body ts (n + 1) 0 acc g
theorem itS_fuel {β : Type} (S : Src) (tg : Tg) (body : SL → β → VH → R β) (ts : SL) (acc : β) (g : VH) : ∃ m, itS S tg body ts acc g = itN S.nx tg body ts m 0 acc g := by
  cases S with
  | fix l => exact ⟨l.length + 1, (itL_eq tg body ts l l 0 acc g rfl).symm⟩
  | liv r j f n => exact ⟨n + 1, rfl⟩
/-- what a turn wants: Nx behind it -/
abbrev Inn := St → Hp → (Hp → Prop) → Prop
def InnOk {β : Type} (c : Cn) (Ω0 : Ws) (g0 : VH) (D : Addr) (RA : Ws → β → HO → Prop) (body : SL → β → VH → R β) (inner : Inn) : Prop :=
  ∀ (Ω : Ws) (g : VH) (o : HO) (acc acc' : β) (g' : VH) (ts : SL) (σ : St) (Nx : Hp → Prop), Dst c Ω0 g0 D Ω g o → RA Ω acc o → RepS c Ω ts σ → body ts acc g = .ok acc' g' →
    (∀ Ω' o', Dst c Ω0 g0 D Ω' g' o' → RA Ω' acc' o' → Ex Ω Ω' → Nx Ω'.H) → inner σ Ω.H Nx
theorem walkD {β : Type} {c : Cn} {K : PySem.W.Frag} {Ω0 Ω1 Ω2 : Ws} {g0 g2 gE : VH} {D : Addr} {RA : Ws → β → HO → Prop} {body : SL → β → VH → R β} {inner : Inn} {J : It} {A : Src} {t : Tg} {vs : List Nat} {σ : St} {ts : SL} {acc accE : β} {o : HO} {Qd : Hp → Prop}
    (hra : ∀ Ω Ω' acc o, RA Ω acc o → Ex Ω Ω' → RA Ω' acc o) (io : IOk c J A Ω1) (hin : InnOk c Ω0 g0 D RA body inner) (htg : tgIn t vs = true) (d : Dst c Ω0 g0 D Ω2 g2 o) (x12 : Ex Ω1 Ω2) (ra : RA Ω2 acc o) (S : RepS c Ω2 ts (wipe σ vs))
    (hn : itS A t body ts acc g2 = .ok accE gE) (hd : ∀ Ω oE, Dst c Ω0 g0 D Ω gE oE → RA Ω accE oE → Ex Ω2 Ω → Qd Ω.H) :
    ∃ W : Nat → Nat → Hp → Prop, (∃ m, W 0 m Ω2.H) ∧ ∀ i m H, W i m H →
      (J.stop i H ∧ Qd H) ∨ (J.go i H ∧ ∃ Nx : Hp → Prop, (∀ H', Nx H' → ∃ m', m' < m ∧ W (i + 1) m' H') ∧ ∀ x H', J.yld i H x H' → gT K t x (wipe σ vs) H' fun σ2 H2 => wipe σ2 vs = wipe σ vs ∧ inner σ2 H2 Nx) := by
  obtain ⟨m0, em⟩ := itS_fuel A t body ts acc g2
  rw [em] at hn
  refine ⟨fun i m H => ∃ Ω g acc o, Ω.H = H ∧ Dst c Ω0 g0 D Ω g o ∧ RA Ω acc o ∧ RepS c Ω ts (wipe σ vs) ∧ Ex Ω2 Ω ∧ itN A.nx t body ts m i acc g = .ok accE gE, ⟨m0, Ω2, g2, acc, o, rfl, d, ra, S, Ex.refl, hn⟩, ?_⟩
  rintro i m H ⟨Ω, g, acc1, o1, eH, d1, ra1, S1, ex1, h⟩
  subst eH
  have x1 := x12.trans ex1
  cases m with
  | zero => cases h
  | succ m =>
    unfold itN at h
    split at h
    · cases h
    · rename_i q
      cases h
      exact .inl ⟨io.stop i Ω _ x1.1 x1.2 d1.rel q, hd Ω o1 d1 ra1 ex1⟩
    · rename_i t' q
      split at h
      · cases h
      · rename_i ts' qb
        split at h
        · rename_i acc' g' qq
          refine .inr ⟨io.go i Ω g t' x1.1 x1.2 d1.rel q, fun H' => ∃ Ω' g acc o, Ω'.H = H' ∧ Dst c Ω0 g0 D Ω' g o ∧ RA Ω' acc o ∧ RepS c Ω' ts (wipe σ vs) ∧ Ex Ω2 Ω' ∧ itN A.nx t body ts m (i + 1) acc g = .ok accE gE, fun H' z => ⟨m, Nat.lt_succ_self m, z⟩, fun x H' y => ?_⟩
          obtain ⟨Ω3, e3, u3, R3, r3⟩ := io.yld i Ω g t' x H' x1.1 x1.2 d1.rel q y
          subst e3
          refine bindT_of2 R3 t htg r3 (S1.up u3) qb fun σ4 S4 ew => ⟨by rw [ew, wipe_wipe], ?_⟩
          exact hin Ω3 g o1 acc1 acc' g' ts' σ4 _ (d1.step u3 R3) (hra _ _ _ _ ra1 u3.ex) S4 qq fun Ω' o' d' ra' ex' => ⟨Ω', g', acc', o', rfl, d', ra', S1.ex (u3.ex.trans ex'), ex1.trans (u3.ex.trans ex'), h⟩
        · cases h

/-! ### lists -/
def RL (c : Cn) (Ω : Ws) (acc : List T) (o : HO) : Prop := ∃ vs, o = .lst vs ∧ RepsW c Ω acc vs
theorem RL.ex {c : Cn} : ∀ Ω Ω' acc o, RL c Ω acc o → Ex Ω Ω' → RL c Ω' acc o := fun Ω Ω' acc o ⟨vs, e, r⟩ x => ⟨vs, e, r.mono x.1 x.2⟩
abbrev WF : WX := fun _ _ _ _ => False
def bTest {β : Type} (ft : Et) (body : SL → β → VH → R β) (ts : SL) (acc : β) (g : VH) : R β := match ft ts g with
  | .ok true g1 => body ts acc g1
  | .ok false g1 => .ok acc g1
  | _ => .no
def bApp (fe : Ev) (ts : SL) (acc : List T) (g : VH) : R (List T) := match fe ts g with
  | .ok y g1 => if acc.length < 16777216 then .ok (acc ++ [y]) g1 else .no
  | _ => .no
theorem inn_test {β : Type} {c : Cn} {Ω0 : Ws} {g0 : VH} {D : Addr} {RA : Ws → β → HO → Prop} (hra : ∀ Ω Ω' acc o, RA Ω acc o → Ex Ω Ω' → RA Ω' acc o) {ft : Et} {body : SL → β → VH → R β} {inner : Inn} (hi : InnOk c Ω0 g0 D RA body inner) :
    InnOk c Ω0 g0 D RA (bTest ft body) (fun σ H Nx => tT c WF ft σ H fun b H3 => if b = true then inner σ H3 Nx else Nx H3) := by
  intro Ω g o acc acc' g' ts σ Nx d ra S e k
  refine ⟨Ω, g, ts, rfl, d.rel, S, ?_⟩
  unfold bTest at e
  split at e
  · rename_i g1 q
    rw [q]
    intro Ω' b u R rb
    cases rb
    rw [if_pos rfl]
    exact hi Ω' g1 o acc acc' g' ts σ Nx (d.step u R) (hra _ _ _ _ ra u.ex) (S.up u) e fun Ω2 o2 d2 ra2 x2 => k Ω2 o2 d2 ra2 (u.ex.trans x2)
  · rename_i g1 q
    rw [q]
    cases e
    intro Ω' b u R rb
    cases rb
    rw [if_neg Bool.false_ne_true]
    exact k Ω' o (d.step u R) (hra _ _ _ _ ra u.ex) u.ex
  · cases e
theorem inn_app {c : Cn} {Ω0 : Ws} {g0 : VH} {D : Addr} {fe : Ev} : InnOk c Ω0 g0 D (RL c) (bApp fe) (fun σ H Nx => tE c WF fe σ H fun y H4 => ∃ acc, H4 D = some (.lst acc) ∧ acc.length < sizeLine ∧ Nx (upd H4 D (.lst (acc ++ [y])))) := by
  intro Ω g o acc acc' g' ts σ Nx d ra S e k
  refine ⟨Ω, g, ts, rfl, d.rel, S, ?_⟩
  obtain ⟨vs, eo, r⟩ := ra
  subst eo
  unfold bApp at e
  split at e
  · rename_i y g1 q
    rw [q]
    split at e
    · rename_i hl
      cases e
      intro Ω' v u R rv
      have d1 := d.step u R
      refine ⟨vs, d1.hd, by rw [← r.len, sizeLine_eq]; exact hl, ?_⟩
      exact k ⟨Ω'.F, Ω'.ρ, upd Ω'.H D (.lst (vs ++ [v]))⟩ _ (d1.set _) ⟨_, rfl, (r.up u).app (.cons rv .nil)⟩ u.ex
    · cases e
  · cases e
/-- [e for t in .. if ..] -/
def fLc (lv : Bool) (fi : Fi) (t : Tg) (vs : List Nat) (ft : Et) (fe : Ev) : Ev := fun ts g => (fi ts g).bind fun S g1 => match itS S t (bTest ft (bApp fe)) (wipeT ts vs) [] g1 with
  | .ok acc g2 => mkL lv acc g2
  | _ => .no
/-- [e for t in .. if .. for t1 in .. if ..] -/
def bIn {β : Type} (fi : Fi) (t : Tg) (vs : List Nat) (body : SL → β → VH → R β) (ts : SL) (acc : β) (g : VH) : R β := match fi ts g with
  | .ok S g1 => itS S t body (wipeT ts vs) acc g1
  | _ => .no
def fLc2 (lv : Bool) (fi : Fi) (t : Tg) (vs : List Nat) (ft : Et) (fi1 : Fi) (t1 : Tg) (vs1 : List Nat) (ft1 : Et) (fe : Ev) : Ev := fun ts g => (fi ts g).bind fun S g1 => match itS S t (bTest ft (bIn fi1 t1 vs1 (bTest ft1 (bApp fe)))) (wipeT ts vs) [] g1 with
  | .ok acc g2 => mkL lv acc g2
  | _ => .no
theorem inn_in {β : Type} {c : Cn} {K : PySem.W.Frag} {Ω0 : Ws} {g0 : VH} {D : Addr} {RA : Ws → β → HO → Prop} (hra : ∀ Ω Ω' acc o, RA Ω acc o → Ex Ω Ω' → RA Ω' acc o) {fi : Fi} {t : Tg} {vs : List Nat} {body : SL → β → VH → R β} {inner : Inn} (htg : tgIn t vs = true) (hi : InnOk c Ω0 g0 D RA body inner) :
    InnOk c Ω0 g0 D RA (bIn fi t vs body) (fun σ H Nx => tI c WF fi σ H fun J1 H4 => ∃ W1 : Nat → Nat → Hp → Prop, (∃ m, W1 0 m H4) ∧ ∀ j k H, W1 j k H →
      (J1.stop j H ∧ Nx H) ∨ (J1.go j H ∧ ∃ Nx1 : Hp → Prop, (∀ H', Nx1 H' → ∃ k', k' < k ∧ W1 (j + 1) k' H') ∧ ∀ x H', J1.yld j H x H' → gT K t x (wipe σ vs) H' fun σ3 H5 => wipe σ3 vs = wipe σ vs ∧ inner σ3 H5 Nx1)) := by
  intro Ω g o acc acc' g' ts σ Nx d ra S e k
  refine ⟨Ω, g, ts, rfl, d.rel, S, ?_⟩
  unfold bIn at e
  split at e
  · rename_i A g1 q
    rw [q]
    intro Ω' J u R io
    exact walkD hra io hi htg (d.step u R) Ex.refl (hra _ _ _ _ ra u.ex) ((S.up u).wipe vs) e fun Ω2 o2 d2 ra2 x2 => k Ω2 o2 d2 ra2 (u.ex.trans x2)
  · cases e
abbrev Blk (X : Cx) (scope : Scope) (P : Cx → Prop) : Prop := ∀ (s : Shared) (H : Hp) (C : Addr) (cl : List (Str × Addr)) (fp : List Addr), P (X.blk s H scope (compEnvC scope cl C X.env) fp)
def fYes : Et := fun _ g => .ok true g
theorem dts_nil {X : Cx} {c : Cn} {W : WX} : PTs X [] (tT c W fYes) := ⟨fun pins s σ H Q I ⟨Ω, g, ts, e, R, S, h⟩ => by subst e; exact wpAny_tests_nil ⟨Ω.H, I, h Ω true Up.refl R rfl⟩⟩
theorem dts_one {X : Cx} {c : Cn} {W : WX} {e : Expr} {ft : Et} (h : PT X e (tT c W ft)) : PTs X [e] (tT c W ft) := pts_one h
section
variable {c : Cn} {W : WX} {X : Cx} {elt tg iter : Expr} {ifs : List Expr} {scope : Scope} {own : List (Str × Nat)} {pos spos : Pos} {fi : Fi} {ft : Et} {fe : Ev} {t : Tg} {vs : List Nat}
theorem tLc_of (lv : Bool) (htg : tgIn t vs = true) {σ : St} {H : Hp} {Q : VK} (h : tE c W (fLc lv fi t vs ft fe) σ H Q) : tLc (tI c W fi) (gT X.K t) (tT c WF ft) (tE c WF fe) vs σ H Q := by
  obtain ⟨Ω, g, ts, e, R, S, h⟩ := h
  subst e
  refine ⟨Ω, g, ts, rfl, R, S, (EndG.bind (RP := fun Ω S J => IOk c J S Ω) h).mono fun J H1 ⟨Ω1, g1, A, e1, u1, R1, io, h1⟩ => ?_⟩
  subst e1
  intro D hD
  split at h1
  · rename_i acc g2 q
    have d := Dst.start R1 hD (.lst [])
    refine walkD (Ω2 := ⟨Ω1.F, Ω1.ρ, upd Ω1.H D (.lst [])⟩) RL.ex io (inn_test RL.ex inn_app) htg d Ex.refl ⟨[], rfl, .nil⟩ ((S.up u1).wipe vs) q fun Ω2 o2 d2 ⟨vs2, eo, r2⟩ x2 => ?_
    subst eo
    obtain ⟨Ω3, u3, R3, n3, e3, x3⟩ := d2.fin
    rw [← e3]
    exact mkL_of R3 (r2.mono x3.1 x3.2) (EndG.shift u3 h1) D n3
  · exact h1.elim
theorem de_lc (lv : Bool) (hc : X.calm = true) (hN : X.N.Nodup) (hi : PI X tg iter (tI c W fi)) (hg : Blk X scope fun Y => PG Y tg (gT X.K t)) (ht : Blk X scope fun Y => PTs Y ifs (tT c WF ft)) (he : Blk X scope fun Y => PE Y elt (tE c WF fe))
    (ok : blkC X.N X.env.scope scope own = true := by decide) (hv : own.map (·.2) = vs := by rfl) (htg : tgIn t vs = true := by rfl) (hs : ∀ x, foldedSetIterable iter X.env x = pure x := by intro _; rfl) :
    PE X (.ListComp elt [⟨tg, iter, ifs, 0⟩] scope pos) (tE c W (fLc lv fi t vs ft fe)) := by
  subst hv
  exact PE_weak (pe_lc hc hN hi (blkOk_by ok) hg ht he hs) fun _ _ _ h => tLc_of lv htg h
theorem tAsg_of (X : Cx) {te : TE} {fa : Ev} (hw : ∀ {σ : St} {H : Hp} {Q : VK}, tE c W fa σ H Q → te σ H Q) {i : Nat} {D : Ends} {σ : St} {H : Hp} (h : tS c W (sAs (.nm i) fa) D σ H) : tAsg te (gName i) D σ H := hw (sAs_of (X := X) (tg := .nm i) h)
/-- x = [..] on one line -/
theorem ds_setLc {i : Nat} {y : Str} {py : Pos} (lv : Bool) (hc : X.calm = true) (hN : X.N.Nodup) (hi : PI X tg iter (tI c W fi)) (hg : Blk X scope fun Y => PG Y tg (gT X.K t)) (ht : Blk X scope fun Y => PTs Y ifs (tT c WF ft)) (he : Blk X scope fun Y => PE Y elt (tE c WF fe))
    (hy : X.N[i]? = some y := by rfl) (hyl : X.env.scope.names.lookup y = some .local := by rfl) (hsw : swapsWith (.ListComp elt [⟨tg, iter, ifs, 0⟩] scope pos) (some (.Name y py)) spos.line X.env = pure true := by exact sw_true rfl rfl rfl rfl)
    (ok : blkC X.N X.env.scope scope own = true := by decide) (hv : own.map (·.2) = vs := by rfl) (htg : tgIn t vs = true := by rfl) (hs : ∀ x, foldedSetIterable iter X.env x = pure x := by intro _; rfl) :
    PS X (.Assign [.Name y py] (.ListComp elt [⟨tg, iter, ifs, 0⟩] scope pos) spos) (tS c W (sAs (.nm i) (fLc lv fi t vs ft fe))) := by
  subst hv
  exact PS_weak (ps_setLc hc hN hy hyl hsw hi (blkOk_by ok) hg ht he hs) fun _ _ _ h => tAsg_of X (fun h => tLc_of lv htg h) h
end
/-! ### two clauses -/
section
variable {c : Cn} {W : WX} {X : Cx} {elt tg iter tg1 iter1 : Expr} {ifs ifs1 : List Expr} {scope : Scope} {own : List (Str × Nat)} {pos spos : Pos} {fi fi1 : Fi} {ft ft1 : Et} {fe : Ev} {t t1 : Tg} {vs vs1 : List Nat}
theorem tLc2_of (lv : Bool) (htg : tgIn t vs = true) (htg1 : tgIn t1 vs1 = true) {σ : St} {H : Hp} {Q : VK} (h : tE c W (fLc2 lv fi t vs ft fi1 t1 vs1 ft1 fe) σ H Q) : tLc2 (tI c W fi) (gT X.K t) (tT c WF ft) (tI c WF fi1) (gT X.K t1) (tT c WF ft1) (tE c WF fe) vs vs1 σ H Q := by
  obtain ⟨Ω, g, ts, e, R, S, h⟩ := h
  subst e
  refine ⟨Ω, g, ts, rfl, R, S, (EndG.bind (RP := fun Ω S J => IOk c J S Ω) h).mono fun J H1 ⟨Ω1, g1, A, e1, u1, R1, io, h1⟩ => ?_⟩
  subst e1
  intro D hD
  split at h1
  · rename_i acc g2 q
    have d := Dst.start R1 hD (.lst [])
    refine walkD (Ω2 := ⟨Ω1.F, Ω1.ρ, upd Ω1.H D (.lst [])⟩) RL.ex io (inn_test RL.ex (inn_in RL.ex htg1 (inn_test RL.ex inn_app))) htg d Ex.refl ⟨[], rfl, .nil⟩ ((S.up u1).wipe vs) q fun Ω2 o2 d2 ⟨vs2, eo, r2⟩ x2 => ?_
    subst eo
    obtain ⟨Ω3, u3, R3, n3, e3, x3⟩ := d2.fin
    rw [← e3]
    exact mkL_of R3 (r2.mono x3.1 x3.2) (EndG.shift u3 h1) D n3
  · exact h1.elim
theorem de_lc2 (lv : Bool) (hc : X.calm = true) (hN : X.N.Nodup) (hi : PI X tg iter (tI c W fi)) (hg : Blk X scope fun Y => PG Y tg (gT X.K t)) (ht : Blk X scope fun Y => PTs Y ifs (tT c WF ft))
    (hi1 : Blk X scope fun Y => PI Y tg1 iter1 (tI c WF fi1)) (hg1 : Blk X scope fun Y => PG Y tg1 (gT X.K t1)) (ht1 : Blk X scope fun Y => PTs Y ifs1 (tT c WF ft1)) (he : Blk X scope fun Y => PE Y elt (tE c WF fe))
    (ok : blkC X.N X.env.scope scope own = true := by decide) (hv : own.map (·.2) = vs := by rfl) (hv1 : ∀ i ∈ vs1, i ∈ own.map (·.2) := by decide) (htg : tgIn t vs = true := by rfl) (htg1 : tgIn t1 vs1 = true := by rfl)
    (hs : ∀ x, foldedSetIterable iter X.env x = pure x := by intro _; rfl) (hs1 : ∀ env x, foldedSetIterable iter1 env x = pure x := by intro _ _; rfl) :
    PE X (.ListComp elt [⟨tg, iter, ifs, 0⟩, ⟨tg1, iter1, ifs1, 0⟩] scope pos) (tE c W (fLc2 lv fi t vs ft fi1 t1 vs1 ft1 fe)) := by
  subst hv
  exact PE_weak (pe_lc2 hc hN hi (blkOk_by ok) hv1 hg ht hi1 hg1 ht1 he hs hs1) fun _ _ _ h => tLc2_of lv htg htg1 h
theorem ds_setLc2 {i : Nat} {y : Str} {py : Pos} (lv : Bool) (hc : X.calm = true) (hN : X.N.Nodup) (hi : PI X tg iter (tI c W fi)) (hg : Blk X scope fun Y => PG Y tg (gT X.K t)) (ht : Blk X scope fun Y => PTs Y ifs (tT c WF ft))
    (hi1 : Blk X scope fun Y => PI Y tg1 iter1 (tI c WF fi1)) (hg1 : Blk X scope fun Y => PG Y tg1 (gT X.K t1)) (ht1 : Blk X scope fun Y => PTs Y ifs1 (tT c WF ft1)) (he : Blk X scope fun Y => PE Y elt (tE c WF fe))
    (hy : X.N[i]? = some y := by rfl) (hyl : X.env.scope.names.lookup y = some .local := by rfl) (hsw : swapsWith (.ListComp elt [⟨tg, iter, ifs, 0⟩, ⟨tg1, iter1, ifs1, 0⟩] scope pos) (some (.Name y py)) spos.line X.env = pure true := by exact sw_true rfl rfl rfl rfl)
    (ok : blkC X.N X.env.scope scope own = true := by decide) (hv : own.map (·.2) = vs := by rfl) (hv1 : ∀ i ∈ vs1, i ∈ own.map (·.2) := by decide) (htg : tgIn t vs = true := by rfl) (htg1 : tgIn t1 vs1 = true := by rfl)
    (hs : ∀ x, foldedSetIterable iter X.env x = pure x := by intro _; rfl) (hs1 : ∀ env x, foldedSetIterable iter1 env x = pure x := by intro _ _; rfl) :
    PS X (.Assign [.Name y py] (.ListComp elt [⟨tg, iter, ifs, 0⟩, ⟨tg1, iter1, ifs1, 0⟩] scope pos) spos) (tS c W (sAs (.nm i) (fLc2 lv fi t vs ft fi1 t1 vs1 ft1 fe))) := by
  subst hv
  exact PS_weak (ps_setLc2 hc hN hy hyl hsw hi (blkOk_by ok) hv1 hg ht hi1 hg1 ht1 he hs hs1) fun _ _ _ h => tAsg_of X (fun h => tLc2_of lv htg htg1 h) h
end
/-! ### dicts -/
def RD (c : Cn) (Ω : Ws) (acc : List T × List T) (o : HO) : Prop := ∃ kvs, o = .dK kvs ∧ acc.1 = kvs.map (fun kv => keyT kv.1) ∧ RepsW c Ω acc.2 (kvs.map (·.2))
theorem RD.ex {c : Cn} : ∀ Ω Ω' acc o, RD c Ω acc o → Ex Ω Ω' → RD c Ω' acc o := fun Ω Ω' acc o ⟨vs, e, k, r⟩ x => ⟨vs, e, k, r.mono x.1 x.2⟩
def bPut (fk fe : Ev) (ts : SL) (acc : List T × List T) (g : VH) : R (List T × List T) := match fk ts g with
  | .ok y g1 => match fe ts g1 with
    | .ok z g2 => if isK y && decide (acc.1.length < 16777216) then .ok (putT acc.1 acc.2 y z) g2 else .no
    | _ => .no
  | _ => .no
theorem inn_put {c : Cn} {Ω0 : Ws} {g0 : VH} {D : Addr} {fk fe : Ev} : InnOk c Ω0 g0 D (RD c) (bPut fk fe)
    (fun σ H Nx => tE c WF fk σ H fun y H4 => tE c WF fe σ H4 fun z H5 => ∃ kvs k, y = kV k ∧ H5 D = some (.dK kvs) ∧ kvs.length < sizeLine ∧ Nx (upd H5 D (.dK (putK kvs k z)))) := by
  intro Ω g o acc acc' g' ts σ Nx d ra S e k
  refine ⟨Ω, g, ts, rfl, d.rel, S, ?_⟩
  obtain ⟨kvs, eo, ek, r⟩ := ra
  obtain ⟨aks, ats⟩ := acc
  subst eo
  simp only at ek
  subst ek
  unfold bPut at e
  split at e
  · rename_i y g1 q
    rw [q]
    split at e
    · rename_i z g2 q2
      split at e
      · rename_i hl
        obtain ⟨hk, hl0⟩ := Bool.and_eq_true_iff.mp hl
        have hlt := of_decide_eq_true hl0
        cases e
        intro Ω1 yv u1 R1 ry
        obtain ⟨key, e1, e2⟩ := key_of_T ry hk
        subst e1; subst e2
        refine ⟨Ω1, g1, ts, rfl, R1, S.up u1, ?_⟩
        rw [q2]
        intro Ω2 zv u2 R2 rz
        have d2 := (d.step u1 R1).step u2 R2
        refine ⟨kvs, key, rfl, d2.hd, by rw [sizeLine_eq]; rw [List.length_map] at hlt; exact hlt, ?_⟩
        have z := putT_ok key rz kvs ats ((r.up u1).up u2)
        exact k ⟨Ω2.F, Ω2.ρ, upd Ω2.H D (.dK (putK kvs key zv))⟩ _ (d2.set _) ⟨_, rfl, z.1, z.2⟩ (u1.ex.trans u2.ex)
      · cases e
    · cases e
  · cases e
def mkD (lv : Bool) (ks ts : List T) (g : VH) : R T := match lv with
  | false => .ok (.dct ks ts) g
  | true => match g with
    | [] => .no
    | g => .ok (.ref (topR g) (topI g)) (ppush (some (.dct ks ts)) g)
theorem mkD_of {c : Cn} {W : WX} {σ : L2.St} {Ω : Ws} {g : VH} {Q : VK} {lv : Bool} {ks ts : List T} {kvs : List (Key × V)} (R : Rel c Ω g) (ek : ks = kvs.map (fun kv => keyT kv.1)) (r : RepsW c Ω ts (kvs.map (·.2))) (h : EndG c W σ Ω g (RepW c) Q (mkD lv ks ts g)) (p : Addr) (hp : Ω.H p = none) : Lks (Q (.ref p)) (upd Ω.H p (.dK kvs)) := by
  cases lv with
  | false =>
    refine .lock (u := .dK kvs) upd_same trivial fun od => .nil ?_
    obtain ⟨R1, u1⟩ := R.froz hp (.frz od (.dK kvs))
    rw [upd_upd]
    exact h ⟨upd Ω.F p (.frz od (.dK kvs)), Ω.ρ, upd Ω.H p (.frz od (.dK kvs))⟩ (.ref p) u1 R1 (.dct upd_same ek (r.up u1))
  | true =>
    unfold mkD at h
    simp only at h
    split at h
    · exact h.elim
    · rename_i hg
      obtain ⟨R1, u1, e⟩ := R.laid (fun z => hg z) hp (x := .dct ks ts) (o := .dK kvs) (.dct ek r)
      exact .nil (h ⟨Ω.F, ppush p Ω.ρ, upd Ω.H p (.dK kvs)⟩ (.ref p) u1 R1 (.ref e))
/-- {k : e for t in .. if ..} -/
def fDc (lv : Bool) (fi : Fi) (t : Tg) (vs : List Nat) (ft : Et) (fk fe : Ev) : Ev := fun ts g => (fi ts g).bind fun S g1 => match itS S t (bTest ft (bPut fk fe)) (wipeT ts vs) ([], []) g1 with
  | .ok acc g2 => mkD lv acc.1 acc.2 g2
  | _ => .no
section
variable {c : Cn} {W : WX} {X : Cx} {kx vx tg iter : Expr} {ifs : List Expr} {scope : Scope} {own : List (Str × Nat)} {pos spos : Pos} {fi : Fi} {ft : Et} {fk fe : Ev} {t : Tg} {vs : List Nat}
theorem tDc_of (lv : Bool) (htg : tgIn t vs = true) {σ : St} {H : Hp} {Q : VK} (h : tE c W (fDc lv fi t vs ft fk fe) σ H Q) : tDc (tI c W fi) (gT X.K t) (tT c WF ft) (tE c WF fk) (tE c WF fe) vs σ H (fun v H1 => Lks (Q v) H1) := by
  obtain ⟨Ω, g, ts, e, R, S, h⟩ := h
  subst e
  refine ⟨Ω, g, ts, rfl, R, S, (EndG.bind (RP := fun Ω S J => IOk c J S Ω) h).mono fun J H1 ⟨Ω1, g1, A, e1, u1, R1, io, h1⟩ => ?_⟩
  subst e1
  intro D hD
  split at h1
  · rename_i acc g2 q
    have d := Dst.start R1 hD (.dK [])
    refine walkD (Ω2 := ⟨Ω1.F, Ω1.ρ, upd Ω1.H D (.dK [])⟩) RD.ex io (inn_test RD.ex inn_put) htg d Ex.refl ⟨[], rfl, rfl, .nil⟩ ((S.up u1).wipe vs) q fun Ω2 o2 d2 ⟨kvs, eo, ek, r2⟩ x2 => ?_
    subst eo
    obtain ⟨Ω3, u3, R3, n3, e3, x3⟩ := d2.fin
    rw [← e3]
    exact mkD_of R3 ek (r2.mono x3.1 x3.2) (EndG.shift u3 h1) D n3
  · exact h1.elim
theorem de_dc (lv : Bool) (hc : X.calm = true) (hN : X.N.Nodup) (hi : PI X tg iter (tI c W fi)) (hg : Blk X scope fun Y => PG Y tg (gT X.K t)) (ht : Blk X scope fun Y => PTs Y ifs (tT c WF ft)) (hk : Blk X scope fun Y => PE Y kx (tE c WF fk)) (he : Blk X scope fun Y => PE Y vx (tE c WF fe))
    (ok : blkC X.N X.env.scope scope own = true := by decide) (hv : own.map (·.2) = vs := by rfl) (htg : tgIn t vs = true := by rfl) (hs : ∀ x, foldedSetIterable iter X.env x = pure x := by intro _; rfl) :
    PE X (.DictComp kx vx [⟨tg, iter, ifs, 0⟩] scope pos) (tE c W (fDc lv fi t vs ft fk fe)) := by
  subst hv
  exact PE_weak (PE_lk (pe_dc hc hN hi (blkOk_by ok) hg ht hk he hs)) fun _ _ _ h => tDc_of lv htg h
end
end Zz
set_option Elab.async false
set_option linter.all false
set_option maxRecDepth 100000
set_option maxHeartbeats 4000000
/-! Zz 10: x = {..} on one line -/
namespace Zz
open PySem PySem.Spec PyProof.Rows L2
section
variable {c : Cn} {W : WX} {X : Cx} {kx vx tg iter : Expr} {ifs : List Expr} {scope : Scope} {own : List (Str × Nat)} {pos spos : Pos} {fi : Fi} {ft : Et} {fk fe : Ev} {t : Tg} {vs : List Nat}
theorem sw_trueD {gs : List Comprehension} {py : Pos} {y : Str} {l : Nat} {env : Env} (hk : env.scope.kind = .function) (hy : env.scope.names.lookup y = some .local) (hl : (py.line == pos.line) = true)
    (ha : (scope.names.any fun (n, k) => n == y && (k == .local || k == .cell)) = false) : swapsWith (.DictComp kx vx gs scope pos) (some (.Name y py)) l env = pure true := by
  have ky : env.kindOf y = some .local := hy
  have hb : env.blockKind = .function := by unfold Env.blockKind; rw [hk]; rfl
  unfold swapsWith
  simp only [hb, ky, ha, Expr.pos, hl]
  rfl
theorem ps_setDc {i : Nat} {y : Str} {py : Pos} {wi : TI} {g : TG} {tt : TT} {tk tv : TE} (hc : X.calm = true) (hN : X.N.Nodup) (hy : X.N[i]? = some y) (hyl : X.env.scope.names.lookup y = some .local)
    (hsw : swapsWith (.DictComp kx vx [⟨tg, iter, ifs, 0⟩] scope pos) (some (.Name y py)) spos.line X.env = pure true) (hi : PI X tg iter wi) (ok : BlkOk X.N X.env.scope scope own)
    (hg : Blk X scope fun Y => PG Y tg g) (ht : Blk X scope fun Y => PTs Y ifs tt) (hk : Blk X scope fun Y => PE Y kx tk) (he : Blk X scope fun Y => PE Y vx tv) (hs : ∀ x, foldedSetIterable iter X.env x = pure x) :
    PS X (.Assign [.Name y py] (.DictComp kx vx [⟨tg, iter, ifs, 0⟩] scope pos) spos) (fun D σ H => tDc wi g tt tk tv (own.map (·.2)) σ H fun v H1 => Lks (gName i v σ · D.nx) H1) := by
  refine ⟨fun pins s σ H D I h => ?_⟩
  rw [exec_Assign_Name_used _ _ _ _ hsw]
  refine wpAny_bind (wpAny_standAt (wpAny_bind ?_))
  show wpAny _ X.A (do let _ ← comprehension (.DictComp kx vx [⟨tg, iter, ifs, 0⟩] scope pos) scope X.env (firstIterPos [⟨tg, iter, ifs, 0⟩] pos) newDict false (eval iter X.env) (some (assign (.Name y py) X.env))) _ _ s
  refine wpAny_bind (thn (dc_core (Qf := fun _ s' => SP X pins D .next s') hc hN I hi ok hg ht hk he hs h fun L C s' m H0 I0 q0 hn f => ?_) fun _ s' hq => wpAny_pure (wpAny_pure hq))
  obtain ⟨H', I', q, kn⟩ := q0.run I0
  show wpAny _ _ (assign (.Name y py) X.env (.ref L)) _ _ _
  refine wpAny_assign_Name (store_ok2 (v := V.ref L) I' hN hy (.inl hyl) rfl (fun s2 I2 ⟨a, sb, ha⟩ => ?_) (.inr hyl))
  obtain ⟨f0, f1, f2, f3, f4, f5⟩ := f
  have haC : C ≠ a := by
    rcases ha with z | z
    · rw [z]; exact f1
    · exact fun e => f4 y a z e.symm
  refine ⟨m, hn.sameBut sb haC, fun h3 sb3 => ?_⟩
  exact ⟨_, H', I2.turned (t' := s2.toks) (fun b o hb e => (sb3.2 b hb).trans e) (kn _ f0) f1 f3 f4 f5, q⟩
theorem ds_setDc {i : Nat} {y : Str} {py : Pos} (lv : Bool) (hc : X.calm = true) (hN : X.N.Nodup) (hi : PI X tg iter (tI c W fi)) (hg : Blk X scope fun Y => PG Y tg (gT X.K t)) (ht : Blk X scope fun Y => PTs Y ifs (tT c WF ft)) (hk : Blk X scope fun Y => PE Y kx (tE c WF fk)) (he : Blk X scope fun Y => PE Y vx (tE c WF fe))
    (hy : X.N[i]? = some y := by rfl) (hyl : X.env.scope.names.lookup y = some .local := by rfl) (hsw : swapsWith (.DictComp kx vx [⟨tg, iter, ifs, 0⟩] scope pos) (some (.Name y py)) spos.line X.env = pure true := by exact sw_trueD rfl rfl rfl rfl)
    (ok : blkC X.N X.env.scope scope own = true := by decide) (hv : own.map (·.2) = vs := by rfl) (htg : tgIn t vs = true := by rfl) (hs : ∀ x, foldedSetIterable iter X.env x = pure x := by intro _; rfl) :
    PS X (.Assign [.Name y py] (.DictComp kx vx [⟨tg, iter, ifs, 0⟩] scope pos) spos) (tS c W (sAs (.nm i) (fDc lv fi t vs ft fk fe))) := by
  subst hv
  refine PS_weak (ps_setDc hc hN hy hyl hsw hi (blkOk_by ok) hg ht hk he hs) fun D σ H h => ?_
  exact tDc_of lv htg (sAs_of (X := X) (tg := .nm i) h)
end
end Zz
set_option Elab.async false
set_option linter.all false
set_option maxRecDepth 100000
set_option maxHeartbeats 4000000
/-! Zz 11: nested defs, properties, with -/
namespace Zz
open PySem PySem.Spec PyProof.Rows L2 NdefX LamX

/-! ### nested defs that capture nothing -/
def BodyOkN (P : Program) (w : World) (K : PySem.W.Frag) (mg : Str → Option Value) (base : Heap) (c : Cn) (k : Nat) (N : List Str) (F : NF) (f : Addr) (fb : Ss) : Prop :=
  ∀ (A : Around) (outer : List Env) (s : Shared) (H : Hp) (E : XK), Room k (A.deeper (envF F f s.heap.objs.size)) →
    Takes (ncx (L2.CX P w) P w K mg base N F f A outer s H E) (WL E) → PassesOwn (model P w) (A.deeper (envF F f s.heap.objs.size)) (envF F f s.heap.objs.size) (ncx (L2.CX P w) P w K mg base N F f A outer s H E).xe →
    PSs (ncx (L2.CX P w) P w K mg base N F f A outer s H E) F.body (tS c (WL E) fb)
section
variable {P : Program} {w : World} {mg : Str → Option Value} {base : Heap} {c : Cn} {F : NF} {f : Addr} {N ps : List Str} {k m n : Nat} {fb : Ss}
theorem nok_ok (S : NScope N ps [] F.scope) (hb : ∀ (doc pm ctv : Value) (us : List Value), us.length = ps.length → bindArgs (F.fd doc pm ctv) ⟨us, []⟩ = pure (ps.zip us)) (B : BodyOkN P w c.K mg base c k N F f fb) (hp : ps.length = m := by rfl) (hN : N.length = n := by rfl) :
    NOk P w c.K mg base (L2.CX P w) (k + 1) f F ps [] (fun _ => spF c (fnP m n fb)) := by
  refine nok_of S hb (fun _ => len_of (fun ts g z => if_neg z) hp) fun A outer s H vs ws Q E hr hf hc hw h => ?_
  obtain ⟨Ω, g, ts, e, R, r, h⟩ := h
  subst e
  have tk : Takes (ncx (L2.CX P w) P w c.K mg base N F f A outer s Ω.H E) (fun cls d _ H => E cls d H) := takes_of rfl rfl rfl rfl
  have po := passes_of (X := ncx (L2.CX P w) P w c.K mg base N F f A outer s Ω.H E) rfl
  obtain rfl : ws = [] := List.eq_nil_of_length_eq_zero hw
  have e1 : startF N vs [] = start N vs := by unfold startF L2.start; simp
  rw [e1]
  exact ⟨_, PSs_lk (B A outer s Ω.H E hr (Takes.lk tk) po), fnP_hq hN R r h⟩
end
def sNdef (i n : Nat) : Ss := fun ts g => .nx (ts.set i (some (.fnv n))) g
section
variable {c : Cn} {W : WX} {X : Cx}
theorem ds_ndef {nm : Nat → Nat → Str} {cd P : Addr} {name : Str} {params : Arguments} {body : List Stmt} {scope : Scope} {pos : Pos} {i n : Nat} (TB : TabB X.base X.mg cd P) (hcode : X.env.code = .ref cd) (hm : (P, nm) ∈ c.tabs) (hn : nm pos.line pos.col = X.env.qual ++ name)
    (hu : ∀ p ∈ c.tabs, p.1 = P → p.2 = nm) (hN : X.N.Nodup) (hmk : ∀ c', (⟨name, X.env.qual ++ name, params, body, scope, cloFrom X.env.cells scope.names [], c'⟩ : NF) = c.nf n c')
    (hi : X.N[i]? = some name := by rfl) (hfree : ∀ y ∈ scope.names, y.2 = .free → X.env.scope.names.lookup y.1 = some .cell ∨ X.env.scope.names.lookup y.1 = some .free := by decide) (hd0 : params.defaults = [] := by rfl) (hk0 : params.kw_defaults = [] := by rfl) (ha : annTrees params none X.env = [] := by rfl)
    (hx : Loc X.env.scope name := by first | exact .inl rfl | exact .inr rfl) (hf : X.fn name = true ∨ X.env.scope.names.lookup name = some .local := by first | exact .inl rfl | exact .inr rfl | assumption) :
    PS X (.FunctionDef name params body [] none [] scope none name pos) (tS c W (sNdef i n)) := by
  refine PS_weak (ps_ndefM TB hcode hm hn hu hfree hd0 hk0 ha hN hi hx hf) fun D σ H ⟨Ω, g, ts, e, R, S, h⟩ => ?_
  subst e
  refine ⟨R.tab, fun f c' H1 eN nn T1 f0 f1 c1 => ?_⟩
  simp only [hmk c'] at f1
  have ec : (c.nf n c').c = c' := by rw [← hmk c']
  have eq : X.env.qual ++ name = (c.nf n c').qual := by rw [← hmk c']
  have c1 : H1 (c.nf n c').c = some (CodeO (c.nf n c').c (c.nf n c').qual) := by
    rw [ec, ← eq]; exact c1
  rw [ec] at c1
  have nF : Ω.F f = none := R.nF f0
  have keep : ∀ a o, Ω.F a = some o → H1 a = some o := fun a o h => eN a o (R.sub a o h) (R.nt a o h)
  let F' : Hp := fun b => if b = f ∨ b = c' then H1 b else Ω.F b
  have F1 : F' f = some (FnO f (c.nf n c')) := (if_pos (.inl rfl)).trans f1
  have F2 : F' c' = some (CodeO c' (c.nf n c').qual) := (if_pos (.inr rfl)).trans c1
  have FK : ∀ a o, Ω.F a = some o → F' a = some o := fun a o h => by
    by_cases z : a = f ∨ a = c'
    · exact (if_pos z).trans (keep a o h)
    · exact (if_neg z).trans h
  have nl : ∀ a ho, Ω.H a = some ho → Pln ho → ¬ (a = f ∨ a = c') := fun a ho h p z => by
    rcases z with z | z
    · rw [z, f0] at h; cases h
    · have := eN a ho h p.1
      rw [z, c1] at this
      exact p.2 _ (Option.some.inj this).symm
  have R1 : Rel c ⟨F', Ω.ρ, H1⟩ g := by
    refine ⟨fun a o h => ?_, R.shape, fun r i x h => ?_, R.inj, T1, fun a o h ps e => ?_⟩
    · by_cases z : a = f ∨ a = c'
      · exact (show F' a = H1 a from if_pos z).symm.trans h
      · exact keep a o ((show F' a = Ω.F a from if_neg z).symm.trans h)
    · obtain ⟨a, ho, h1, h2, h3, h4⟩ := R.live r i x h
      exact ⟨a, ho, h1, eN a ho h2 h4.pln.1, (if_neg (nl a ho h2 h4.pln)).trans h3, h4.mono FK fun _ _ _ z => z⟩
    · by_cases z1 : a = f
      · have h' : F' a = some o := h
        rw [z1, F1] at h'; cases h'; exact fnO_ne ps e
      · by_cases z2 : a = c'
        · have h' : F' a = some o := h
          rw [z2, F2] at h'; cases h'; exact codeO_ne ps e
        · exact R.nt a o ((show F' a = Ω.F a from if_neg (fun z => z.elim z1 z2)).symm.trans h) ps e
  have u1 : Up g Ω g ⟨F', Ω.ρ, H1⟩ := ⟨FK, fun _ _ _ z => z, fun b o h n k => ⟨eN b o h n, k⟩, fun b o h n k z => (if_neg (nl b o h n)).trans z⟩
  exact h ⟨F', Ω.ρ, H1⟩ _ u1 R1 ((S.up u1).set (.fnv F1 (by rw [ec]; exact F2)) i)
/-- f(..), f a name that holds such a def -/
def fCv (i : Nat) (fnT : Nat → FN) (fa : Ea) : Ev := fun ts g => match ts[i]? with
  | some (some (.fnv n)) => (fa ts g).bind fun xs g1 => fnT n xs g1
  | _ => .no
theorem de_cv {k i : Nat} {ps : Nat → List Str} {fnT : Nat → FN} {x : Str} {e : Expr} {es : List Expr} {p pos : Pos} {fa : Ea} (Fn : ∀ n f c', NOk X.prog X.w X.K X.mg X.base (L2.CX X.prog X.w) k f (c.nf n c') (ps n) [] (fun _ => spF c (fnT n))) (hcl : ∀ n c', (c.nf n c').cl = [])
    (hr : Room k X.A) (tk : Takes X W) (ha : PA X (e :: es) (tA c W fa)) (hN : X.N[i]? = some x := by rfl) (hv : Vis X.env.scope x := by first | exact Or.inl rfl | exact Or.inr (Or.inl rfl) | exact Or.inr (Or.inr rfl)) (hd : (x == ("__debug__" : Str)) = false := by decide)
    (hcd : (x == ("__classdict__" : Str)) = false := by decide) (he : starEach (e :: es) X.env = (false, eval e X.env) :: starEach es X.env := by rfl) (hpl : (backTo pos (starEach es X.env)).any (·.1) = false := by rfl) :
    PE X (.Call (.Name x p) (e :: es) [] pos) (tE c W (fCv i fnT fa)) := by
  refine ⟨fun pins s σ H Q I h => ?_⟩
  obtain ⟨Ω, g, ts, eH, R, S, h⟩ := h
  subst eH
  unfold fCv at h
  split at h
  · rename_i n et
    obtain ⟨fv, hs, rf⟩ := S.2 i _ et
    cases rf with
    | @fnv _ f c' hF hC =>
      refine wpAny_Call_Name_kw (thn ((pe_var (pos := p) hN hv hd hcd).run pins s σ Ω.H (fun v H1 => v = .ref f ∧ H1 = Ω.H) I ⟨.ref f, hs, rfl, rfl⟩) fun u s1 ⟨v, H1, I1, r1, ev, eH⟩ => ?_)
      subst ev
      rw [eH] at I1
      obtain rfl : u = Value.ref f := r1
      refine PySem.W.callWith_F (first := []) (fnAt_of I1 (R.sub _ _ hF)) (thn (ha.run pos pins s1 σ Ω.H _ I1 ⟨Ω, g, ts, rfl, R, S, EndG.bind h⟩) fun us s2 ⟨vs, H2, I2, r, Ω2, g2, xs, e2, u2, R2, r2, h2⟩ => ?_) he hpl
      subst e2
      refine ⟨fnAt_of I2 (R2.sub _ _ (u2.F _ _ hF)), ?_⟩
      show wpAny _ _ (call (.ref f) us) _ _ _
      refine wpAny_call (codeAny_mono ((Fn n f c').run X.A X.stack s2 Ω2.H us vs [] Q (WE W σ) hr I2.env0 (R2.sub _ _ (u2.F _ _ hF)) (R2.sub _ _ (u2.F _ _ hC)) ⟨rfl, fun y c0 e0 => (by rw [hcl n c'] at e0; cases e0), fun x y c0 e0 => (by rw [hcl n c'] at e0; cases e0), fun j y ej => (by simp at ej)⟩ r ⟨Ω2, g2, xs, rfl, R2, r2, EndG.toE h2⟩) fun rr s' hq => ?_)
      cases rr with
      | error er => exact passAt tk σ pins Ω2.H s2 er s' I2 hq
      | ok fl =>
        cases fl with
        | ret u => exact I2.after hq
        | next => exact False.elim hq
        | brk => exact False.elim hq
        | cont => exact False.elim hq
  · exact h.elim

/-! ### properties -/
/-- o.f of an instance of the class cls, f a property -/
def fProp (cls : Nat) (fn : FN) (fo : Ev) : Ev := fun ts g => (fo ts g).bind fun x g1 => match objOf x g1 with
  | some (n, _, _) => if n = cls then (match fn [x] g1 with
    | .ok t g2 => .ok t g2
    | _ => .no) else .no
  | none => .no
theorem de_prop {k cls : Nat} {p g0 : Addr} {f : Str} {fd : FuncData} {ps : List Str} {fn : FN} {e : Expr} {pos : Pos} {fo : Ev} (he : PE X e (tE c W fo)) (hcl : Cls X.K (c.ad cls)) (hp : PropOf X.K (c.ad cls) f p g0)
    (F : FnOk X.prog X.w X.K X.mg X.base (L2.CX X.prog X.w) k g0 fd ps (spF c fn)) (hr : Room (k + 1) X.A) (hb : Binds X.K fd ps []) (hab : attributeBase e f X.env (eval e X.env) = eval e X.env := by rfl) : PE X (.Attribute e f pos) (tE c W (fProp cls fn fo)) := by
  refine ⟨fun pins s σ H Q I h => ?_⟩
  refine attr_of hab (thn (he.run pins s σ H _ I (tT_bind (RP := RepW c) h)) fun u s1 ⟨x, H1, I1, rx, Ω1, g1, ts, t, e1, R1, S1, r1, h1⟩ => ?_)
  subst e1
  split at h1
  · rename_i n fs l q
    split at h1
    · rename_i hn
      obtain ⟨a, dx, fs', ex, k1, k2, k3⟩ := objOf_ok R1 r1 q
      subst ex
      obtain rfl : u = Value.ref a := rx
      rw [hn] at k1
      refine getprop_ok (E := fun _ _ _ => False) (dvs := []) I1 k1 hcl hp F hr hb .nil passL ⟨Ω1, g1, [t], rfl, R1, .cons r1 .nil, ?_⟩
      revert h1
      cases fn [t] g1 with
      | ok t' g2 => exact fun h1 => h1
      | ex x g2 => exact fun h1 => h1.elim
      | no => exact fun h1 => h1
    · exact h1.elim
  · exact h1.elim

/-! ### with, nothing raised within -/
def sWithN (cls i : Nat) (fe fx : FC) (fo : Ev) (fb : Ss) : Ss := fun ts g => (fo ts g).toS ts fun x g1 => match objOf x g1 with
  | some (n, _, _) => if n = cls then (fe [x] [] g1).toS ts fun v g2 => match fb (ts.set i (some v)) g2 with
    | .nx ts' g3 => match fx [x, .non, .non, .non] [] g3 with
      | .ok _ g4 => .nx ts' g4
      | _ => .no
    | .rt t g3 => match fx [x, .non, .non, .non] [] g3 with
      | .ok _ g4 => .rt t g4
      | _ => .no
    | _ => .no else .no
  | none => .no
theorem ds_withN {cls i : Nat} {fe fx : FC} {ae ax : Addr} {fo : Ev} {fb : Ss} {ctx : Expr} {y : Str} {py pos : Pos} {body : List Stmt} (hctx : PE X ctx (tE c W fo)) (hce : Callee X c W (.ref ae) [] fe) (hcx : Callee X c W (.ref ax) [] fx) (hb : PSs X.nox body (tS c WF fb)) (hg : PG X.nox (.Name y py) (gName i))
    (he : PySem.W.findIn X.K (.ref (c.ad cls)) "__enter__" = some (some (.ref ae))) (hfe : PySem.W.isFn X.K (.ref ae) = true) (hx : PySem.W.findIn X.K (.ref (c.ad cls)) "__exit__" = some (some (.ref ax))) (hfx : PySem.W.isFn X.K (.ref ax) = true) :
    PS X (.With [⟨ctx, some (.Name y py)⟩] body pos) (tS c W (sWithN cls i fe fx fo fb)) := by
  refine ⟨fun pins s σ H D I ⟨Ω, g, ts, e, R, S, h⟩ => ?_⟩
  subst e
  refine PySem.W.kw_execN (thn (hctx.run pins s σ Ω.H _ I ⟨Ω, g, ts, rfl, R, S, EndS.bindE S h⟩) fun u s1 ⟨xv, H1, I1, rx, Ω1, g1, x, e1, u1, R1, r1, h1⟩ => ?_)
  subst e1
  split at h1
  · rename_i n fs l q
    split at h1
    · rename_i hn
      obtain ⟨a, dx, fs', ex, k1, k2, k3⟩ := objOf_ok R1 r1 q
      subst ex
      obtain rfl : u = Value.ref a := rx
      rw [hn] at k1
      obtain ⟨mA, O, _, _, _, _⟩ := ins_get I1.hok k1
      obtain ⟨od, J, _⟩ := O.look
      have S1 := S.up u1
      unfold PySem.W.KwIn
      refine PySem.W.kw_core (b := assign (.Name y py) X.env) I1.kIn J he hfe hx hfx ?_
      refine wpAny_call (codeAny_mono (hce pins s1 σ Ω1 g1 [.ref a] [] [.ref a] [] [x] [] _ I1 R1 (.cons rfl .nil) .nil (.cons r1 .nil) .nil (EndS.bindE S1 h1)) fun rr s2 hq => ?_)
      cases rr with
      | error er => exact hq
      | ok fl =>
        cases fl with
        | next => exact False.elim hq
        | brk => exact False.elim hq
        | cont => exact False.elim hq
        | ret u2 =>
          obtain ⟨vv, H2, I2, rv, Ω2, g2, vt, e2, u2', R2, r2, h2⟩ := hq
          subst e2
          have S2 := S1.up u2'
          have rx2 := r1.up u2'
          -- the name, the body
          refine wpAny_mono (hg.run pins s2 σ Ω2.H vv u2 (fun σ' H' => σ' = σ.set i (some vv) ∧ H' = Ω2.H) (I2.wish _) rv ⟨rfl, rfl⟩) (fun _ s3 ⟨σ3, H3, I3, e3, e4⟩ => ?_) fun _ _ z => z
          subst e3; subst e4
          have S3 := S2.set r2 i
          -- the exit behind the body, at any flow
          have exit : ∀ (Ω3 : Ws) (g3 : VH) (σ4 : St) (s4 : Shared) (Q4 : Hp → Prop), Inv X pins σ4 Ω3.H s4 → Rel c Ω3 g3 → RepW c Ω3 x (.ref a) → EndG c W σ4 Ω3 g3 (RepW c) (fun _ H' => Q4 H') (fx [x, .non, .non, .non] [] g3) →
              wpAny (model X.prog X.w) X.A (call (.ref ax) [.ref a, .none, .none, .none]) (fun _ s5 => ∃ H5, Inv X pins σ4 H5 s5 ∧ Q4 H5) X.xe s4 := fun Ω3 g3 σ4 s4 Q4 I4 R4 r4 h4 => by
            refine wpAny_call (codeAny_mono (hcx pins s4 σ4 Ω3 g3 [.ref a, .none, .none, .none] [] [.ref a, .non, .non, .non] [] [x, .non, .non, .non] [] _ I4 R4 (.cons rfl (.cons rfl (.cons rfl (.cons rfl .nil)))) .nil (.cons r4 (.cons .non (.cons .non (.cons .non .nil)))) .nil h4) fun rr s5 hq => ?_)
            cases rr with
            | error er => exact hq
            | ok fl =>
              cases fl with
              | next => exact False.elim hq
              | brk => exact False.elim hq
              | cont => exact False.elim hq
              | ret u3 =>
                obtain ⟨v5, H5, I5, _, q5⟩ := hq
                exact ⟨H5, I5, q5⟩
          revert h2
          cases qb : fb (ts.set i (some vt)) g2 with
          | nx ts3 g3 =>
            intro h2
            refine wpAny_mono (hb.run pins s3 _ Ω2.H { nx := fun σ4 H4 => ∃ Ω4, Ω4.H = H4 ∧ Up g2 Ω2 g3 Ω4 ∧ Rel c Ω4 g3 ∧ RepS c Ω4 ts3 σ4, rt := fun _ _ => False, bk := fun _ _ => False, ct := fun _ _ => False } I3 ⟨Ω2, g2, _, rfl, R2, S3, ?_⟩) (fun fl s4 h4 => ?_) fun _ _ z => z
            · rw [qb]
              exact fun Ω' σ' u' R' S' => ⟨Ω', rfl, u', R', S'⟩
            · cases fl with
              | next =>
                obtain ⟨σ4, H4, I4, Ω4, e4, u4, R4, S4⟩ := h4
                subst e4
                have I4 := I4.unwish
                have h3 := EndS.shift u4 h2
                simp only at h3
                revert h3
                cases qx : fx [x, .non, .non, .non] [] g3 with
                | ok _ g4 =>
                  intro h3
                  refine wpAny_mono (exit Ω4 g3 σ4 s4 (fun H5 => ∃ Ω5, Ω5.H = H5 ∧ Up g3 Ω4 g4 Ω5 ∧ Rel c Ω5 g4) I4 R4 (rx2.up u4) ?_) (fun _ s5 ⟨H5, I5, Ω5, e5, u5, R5⟩ => ?_) fun _ _ z => z
                  · rw [qx]
                    exact fun Ω' b u' R' _ => ⟨Ω', rfl, u', R'⟩
                  · subst e5
                    exact ⟨σ4, Ω5.H, I5, h3 Ω5 σ4 u5 R5 (S4.up u5)⟩
                | ex _ _ => exact fun h3 => h3.elim
                | no => exact fun h3 => h3.elim
              | ret _ => obtain ⟨_, _, _, _, _, z⟩ := h4; exact z.elim
              | brk => obtain ⟨_, _, _, z⟩ := h4; exact z.elim
              | cont => obtain ⟨_, _, _, z⟩ := h4; exact z.elim
          | rt t3 g3 =>
            intro h2
            refine wpAny_mono (hb.run pins s3 _ Ω2.H { nx := fun _ _ => False, rt := fun v4 H4 => ∃ Ω4, Ω4.H = H4 ∧ Up g2 Ω2 g3 Ω4 ∧ Rel c Ω4 g3 ∧ RepW c Ω4 t3 v4, bk := fun _ _ => False, ct := fun _ _ => False } I3 ⟨Ω2, g2, _, rfl, R2, S3, ?_⟩) (fun fl s4 h4 => ?_) fun _ _ z => z
            · rw [qb]
              exact fun Ω' v' u' R' r' => ⟨Ω', rfl, u', R', r'⟩
            · cases fl with
              | ret uv =>
                obtain ⟨v4, σ4, H4, I4, rv4, Ω4, e4, u4, R4, r4⟩ := h4
                subst e4
                have I4 := I4.unwish
                have h3 := EndS.shift u4 h2
                simp only at h3
                revert h3
                cases qx : fx [x, .non, .non, .non] [] g3 with
                | ok _ g4 =>
                  intro h3
                  refine wpAny_mono (exit Ω4 g3 σ4 s4 (fun H5 => ∃ Ω5, Ω5.H = H5 ∧ Up g3 Ω4 g4 Ω5 ∧ Rel c Ω5 g4) I4 R4 (rx2.up u4) ?_) (fun _ s5 ⟨H5, I5, Ω5, e5, u5, R5⟩ => ?_) fun _ _ z => z
                  · rw [qx]
                    exact fun Ω' b u' R' _ => ⟨Ω', rfl, u', R'⟩
                  · subst e5
                    exact ⟨v4, σ4, Ω5.H, I5, rv4, h3 Ω5 v4 u5 R5 (r4.up u5)⟩
                | ex _ _ => exact fun h3 => h3.elim
                | no => exact fun h3 => h3.elim
              | next => obtain ⟨_, _, _, z⟩ := h4; exact z.elim
              | brk => obtain ⟨_, _, _, z⟩ := h4; exact z.elim
              | cont => obtain ⟨_, _, _, z⟩ := h4; exact z.elim
          | bk _ _ => exact fun h2 => h2.elim
          | ct _ _ => exact fun h2 => h2.elim
          | ex _ _ _ => exact fun h2 => h2.elim
          | no => exact fun h2 => h2.elim
    · exact h1.elim
  · exact h1.elim
end
end Zz
set_option Elab.async false
set_option linter.all false
set_option maxRecDepth 100000
set_option maxHeartbeats 4000000
/-! Zz 12: isinstance, sorted, a, b = x, y; regions of statements; what is never reached -/
namespace Zz
open PySem PySem.Spec PyProof.Rows L2

/-! ### isinstance -/
def tyT (t : T) (g : VH) : Option T := match t with
  | .non => some (.bty "NoneType")
  | .bl _ => some (.bty "bool")
  | .int _ => some (.bty "int")
  | .str _ => some (.bty "str")
  | .tup _ => some (.bty "tuple")
  | .lst _ => some (.bty "list")
  | .rol _ => some (.bty "list")
  | .dct _ _ => some (.bty "dict")
  | .obj n _ _ => some (.stc n)
  | .ref r i => match at2 g r i with
    | some (some (.lst _)) => some (.bty "list")
    | some (some (.dct _ _)) => some (.bty "dict")
    | some (some (.ins n _ _)) => some (.stc n)
    | _ => none
  | _ => none
def clV (c : Cn) (t : T) : Value := match t with
  | .bty n => .type n
  | .stc n => .ref (c.ad n)
  | _ => .none
structure InsF (K : PySem.W.Frag) (C : Addr) : Prop where
  cl : Cls K C
  ha : PySem.W.findIn K (.ref C) "__class__" = some (some (.builtin "object.__class__"))
  hn : PySem.W.specialIn K (.builtin "object.__class__") "__get__" = some (some (.builtin "getset_descriptor.__get__"))
  htk : PySem.W.takesIn K (.builtin "object.__class__") = some true
  hm : PySem.W.mroIn K C (.type "object") = some true
structure IsiOk (c : Cn) (tab : T → T → Option Bool) : Prop where
  kit : ∀ t k b, tab t k = some b → PySem.W.kitOne c.K (clV c t) (clV c k) = some b
  ins : ∀ n k b, tab (.stc n) k = some b → InsF c.K (c.ad n)
theorem tyT_ok {c : Cn} {Ω : Ws} {g : VH} {x t : T} {v : V} (R : Rel c Ω g) (r : RepW c Ω x v) (h : tyT x g = some t) (hi : ∀ n, t = .stc n → InsF c.K (c.ad n)) : TyX c.K Ω.H v (clV c t) := by
  have lst : ∀ {p : Addr} {vs : List V}, SqL c.K Ω.H p vs → TyX c.K Ω.H (.ref p) (.type "list") := fun {p vs} q => by
    rcases q with (q | ⟨o, q⟩) | ⟨_, _, _, hk, _, hc, _, _⟩
    · exact .base (.lst q)
    · exact .base (.frz q)
    · exact .kList hk (by assumption)
  cases r with
  | non => cases h; exact .base .non
  | bl => cases h; exact .base (.bl _)
  | int => cases h; exact .base (.int _)
  | str => cases h; exact .base (.str _)
  | tup hp rs => cases h; exact .base (.tup (R.sub _ _ hp))
  | lst hp rs => cases h; exact lst (.inl (.inl (R.sub _ _ hp)))
  | rol hp rs => cases h; exact lst (Evl.ex_l R.sub hp)
  | dct hp ek rs => cases h; exact .fDict (R.sub _ _ hp)
  | @obj p n ns ts dx fs hp e rs =>
    cases h
    have z := hi n rfl
    exact .base (.ins (R.sub _ _ hp) z.cl z.ha z.hn z.htk z.hm)
  | ref ha =>
    simp only [tyT] at h
    split at h
    · rename_i l hl
      cases h
      obtain ⟨a', ho, k1, k2, k3, k4⟩ := R.live _ _ _ hl
      rw [ha] at k1; cases k1
      cases k4 with
      | lst rs => exact lst (.inl (.inl k2))
    · rename_i ks l hl
      cases h
      obtain ⟨a', ho, k1, k2, k3, k4⟩ := R.live _ _ _ hl
      rw [ha] at k1; cases k1
      cases k4 with
      | dct _ rs => exact .base (.dK k2)
    · rename_i n ns l hl
      cases h
      obtain ⟨a', ho, k1, k2, k3, k4⟩ := R.live _ _ _ hl
      rw [ha] at k1; cases k1
      cases k4 with
      | ins _ rs =>
        have z := hi n rfl
        exact .base (.ins k2 z.cl z.ha z.hn z.htk z.hm)
    · cases h
  | stc => cases h
  | fnv _ _ => cases h
  | bty => cases h
def oIsi (tab : T → T → Option Bool) (xs : List T) (g : VH) : R T := match xs with
  | [x, .bty n] => match tyT x g with
    | some t => match tab t (.bty n) with
      | some b => .ok (.bl b) g
      | none => .no
    | none => .no
  | [x, .stc n] => match tyT x g with
    | some t => match tab t (.stc n) with
      | some b => .ok (.bl b) g
      | none => .no
    | none => .no
  | _ => .no
theorem cs_isi {c : Cn} {K : PySem.W.Frag} {tab : T → T → Option Bool} (hK : c.K = K) (hT : IsiOk c tab) : CaS c (rIsi K) (oIsi tab) := by
  subst hK
  intro W σ Ω g x xv Q R r h
  unfold oIsi at h
  split at h
  · cases r with
    | cons ra rn => cases rn with
      | cons rb rn =>
        cases rn; cases rb
        split at h
        · rename_i t q
          split at h
          · rename_i b q2
            exact ⟨_, _, _, _, b, rfl, .ty _, tyT_ok R ra q (fun n e => hT.ins n _ b (by rw [← e]; exact q2)), hT.kit _ _ _ q2, h Ω _ Up.refl R .bl⟩
          · exact h.elim
        · exact h.elim
  · cases r with
    | cons ra rn => cases rn with
      | cons rb rn =>
        cases rn; cases rb
        split at h
        · rename_i t q
          split at h
          · rename_i b q2
            exact ⟨_, _, _, _, b, rfl, .own _, tyT_ok R ra q (fun n e => hT.ins n _ b (by rw [← e]; exact q2)), hT.kit _ _ _ q2, h Ω _ Up.refl R .bl⟩
          · exact h.elim
        · exact h.elim
  · exact h.elim
/-- a table of answers -/
structure IsiL where
  bb : List (String × String × Bool)
  bs : List (String × Nat × Bool)
  sb : List (Nat × String × Bool)
  ss : List (Nat × Nat × Bool)
def find3 {α β : Type} [BEq α] [BEq β] (l : List (α × β × Bool)) (a : α) (b : β) : Option Bool := (l.find? fun p => p.1 == a && p.2.1 == b).map (·.2.2)
def isiT (L : IsiL) (t k : T) : Option Bool := match t, k with
  | .bty a, .bty b => find3 L.bb a b
  | .bty a, .stc n => find3 L.bs a n
  | .stc m, .bty b => find3 L.sb m b
  | .stc m, .stc n => find3 L.ss m n
  | _, _ => none
theorem find3_ok {α β : Type} [BEq α] [BEq β] [LawfulBEq α] [LawfulBEq β] {l : List (α × β × Bool)} {a : α} {b : β} {r : Bool} {P : α → β → Bool → Prop} (h : ∀ p ∈ l, P p.1 p.2.1 p.2.2) (e : find3 l a b = some r) : P a b r := by
  unfold find3 at e
  obtain ⟨p, h1, h2⟩ := Option.map_eq_some_iff.mp e
  have h3 := List.find?_some h1
  obtain ⟨h4, h5⟩ := Bool.and_eq_true_iff.mp h3
  have := h p (List.mem_of_find?_eq_some h1)
  rw [← eq_of_beq h4, ← eq_of_beq h5, ← h2]
  exact this
theorem isiOk_of {c : Cn} {L : IsiL} (h1 : ∀ p ∈ L.bb, kitB p.1 p.2.1 = some p.2.2) (h2 : ∀ p ∈ L.bs, PySem.W.kitOne c.K (.type p.1) (.ref (c.ad p.2.1)) = some p.2.2) (h3 : ∀ p ∈ L.sb, PySem.W.kitOne c.K (.ref (c.ad p.1)) (.type p.2.1) = some p.2.2 ∧ InsF c.K (c.ad p.1))
    (h4 : ∀ p ∈ L.ss, PySem.W.kitOne c.K (.ref (c.ad p.1)) (.ref (c.ad p.2.1)) = some p.2.2 ∧ InsF c.K (c.ad p.1)) : IsiOk c (isiT L) := by
  refine ⟨fun t k b e => ?_, fun n k b e => ?_⟩
  · unfold isiT at e
    split at e
    · exact kit_ty (find3_ok (P := fun a b r => kitB a b = some r) h1 e)
    · exact find3_ok (P := fun a b r => PySem.W.kitOne c.K (.type a) (.ref (c.ad b)) = some r) h2 e
    · exact (find3_ok (P := fun a b r => PySem.W.kitOne c.K (.ref (c.ad a)) (.type b) = some r ∧ InsF c.K (c.ad a)) h3 e).1
    · exact (find3_ok (P := fun a b r => PySem.W.kitOne c.K (.ref (c.ad a)) (.ref (c.ad b)) = some r ∧ InsF c.K (c.ad a)) h4 e).1
    · cases e
  · cases k with
    | bty b' => exact (find3_ok (P := fun a b r => PySem.W.kitOne c.K (.ref (c.ad a)) (.type b) = some r ∧ InsF c.K (c.ad a)) h3 (show find3 L.sb n b' = some b from e)).2
    | stc n' => exact (find3_ok (P := fun a b r => PySem.W.kitOne c.K (.ref (c.ad a)) (.ref (c.ad b)) = some r ∧ InsF c.K (c.ad a)) h4 (show find3 L.ss n n' = some b from e)).2
    | _ => cases e
/-- the built-in types' answers -/
def isiBB : List (String × String × Bool) := [("bool", "int", true), ("int", "int", true), ("str", "int", false), ("list", "int", false), ("tuple", "int", false), ("dict", "int", false), ("NoneType", "int", false),
  ("bool", "bool", true), ("int", "bool", false), ("str", "bool", false), ("list", "bool", false), ("tuple", "bool", false), ("dict", "bool", false), ("NoneType", "bool", false),
  ("bool", "str", false), ("int", "str", false), ("str", "str", true), ("list", "str", false), ("tuple", "str", false), ("dict", "str", false), ("NoneType", "str", false),
  ("bool", "list", false), ("int", "list", false), ("str", "list", false), ("list", "list", true), ("tuple", "list", false), ("dict", "list", false), ("NoneType", "list", false),
  ("bool", "tuple", false), ("int", "tuple", false), ("str", "tuple", false), ("list", "tuple", false), ("tuple", "tuple", true), ("dict", "tuple", false), ("NoneType", "tuple", false)]
theorem isiBB_ok : ∀ p ∈ isiBB, kitB p.1 p.2.1 = some p.2.2 := by decide +kernel

/-! ### sorted: pairs of numbers; numbers -/
def pairsOf : List T → Option (List (Int × Int))
  | [] => some []
  | .tup [.int i, .int j] :: ts => match pairsOf ts with
    | some l => some ((i, j) :: l)
    | none => none
  | _ => none
def leP (a b : Int × Int) : Bool := decide (a.1 < b.1) || (decide (a.1 = b.1) && decide (a.2 ≤ b.2))
def insB {α : Type} (le : α → α → Bool) (a : α) : List α → List α
  | [] => [a]
  | b :: l => if le a b then a :: b :: l else b :: insB le a l
def sortB {α : Type} (le : α → α → Bool) : List α → List α
  | [] => []
  | a :: l => insB le a (sortB le l)
theorem insB_perm {α : Type} (le : α → α → Bool) (a : α) : ∀ l : List α, (insB le a l).Perm (a :: l)
  | [] => List.Perm.refl _
  | b :: l => by
    unfold insB
    split
    · exact List.Perm.refl _
    · exact ((insB_perm le a l).cons b).trans (List.Perm.swap a b l)
theorem sortB_perm {α : Type} (le : α → α → Bool) : ∀ l : List α, (sortB le l).Perm l
  | [] => List.Perm.refl _
  | a :: l => (insB_perm le a _).trans ((sortB_perm le l).cons a)
theorem insB_sorted {α : Type} {le : α → α → Bool} (ht : ∀ a b, le a b = true ∨ le b a = true) (htr : ∀ a b c, le a b = true → le b c = true → le a c = true) (a : α) : ∀ l : List α, l.Pairwise (fun x y => le x y = true) → (insB le a l).Pairwise (fun x y => le x y = true)
  | [], _ => List.pairwise_singleton _ _
  | b :: l, h => by
    obtain ⟨h1, h2⟩ := List.pairwise_cons.mp h
    unfold insB
    split
    · rename_i hab
      refine List.pairwise_cons.mpr ⟨fun x hx => ?_, h⟩
      rcases List.mem_cons.mp hx with e | hx
      · rw [e]; exact hab
      · exact htr _ _ _ hab (h1 x hx)
    · rename_i hab
      refine List.pairwise_cons.mpr ⟨fun x hx => ?_, insB_sorted ht htr a l h2⟩
      rcases List.mem_cons.mp ((insB_perm le a l).mem_iff.mp hx) with e | hx
      · rw [e]; exact (ht b a).elim id fun z => absurd z (by simpa using hab)
      · exact h1 x hx
theorem sortB_sorted {α : Type} {le : α → α → Bool} (ht : ∀ a b, le a b = true ∨ le b a = true) (htr : ∀ a b c, le a b = true → le b c = true → le a c = true) : ∀ l : List α, (sortB le l).Pairwise (fun x y => le x y = true)
  | [] => .nil
  | a :: l => insB_sorted ht htr a _ (sortB_sorted ht htr l)
theorem leP_total (a b : Int × Int) : leP a b = true ∨ leP b a = true := by
  unfold leP; simp only [Bool.or_eq_true, Bool.and_eq_true, decide_eq_true_eq]; omega
theorem leP_trans (a b c : Int × Int) : leP a b = true → leP b c = true → leP a c = true := by
  unfold leP; simp only [Bool.or_eq_true, Bool.and_eq_true, decide_eq_true_eq]; omega
theorem leP_anti (a b : Int × Int) (h1 : leP a b = true) (h2 : leP b a = true) : a = b := by
  unfold leP at h1 h2; simp only [Bool.or_eq_true, Bool.and_eq_true, decide_eq_true_eq] at h1 h2
  exact Prod.ext (by omega) (by omega)
def prT (p : Int × Int) : T := .tup [.int p.1, .int p.2]
def oSortP (lv : Bool) (xs : List T) (g : VH) : R T := match xs with
  | [x] => match vwR x g with
    | some l => match pairsOf l with
      | some ps => mkL lv ((sortB leP ps).map prT) g
      | none => .no
    | none => .no
  | _ => .no
def keyV (H : Hp) : V → Int × Int
  | .ref t => match H t with
    | some (.tup [.int i, .int j]) => (i, j)
    | _ => (0, 0)
  | _ => (0, 0)
theorem pairsOf_ok {c : Cn} {Ω : Ws} {g : VH} (R : Rel c Ω g) : ∀ {ts : List T} {vs : List V} {ps : List (Int × Int)}, RepsW c Ω ts vs → pairsOf ts = some ps →
    vs.map (keyV Ω.H) = ps ∧ ∀ x ∈ vs, (∃ t, x = V.ref t ∧ Ω.H t = some (.tup [.int (keyV Ω.H x).1, .int (keyV Ω.H x).2])) ∧ RepW c Ω (prT (keyV Ω.H x)) x
  | [], _, _, .nil, h => by unfold pairsOf at h; cases h; exact ⟨rfl, fun x hx => by simp at hx⟩
  | t :: ts, _, ps, .cons a b, h => by
    unfold pairsOf at h
    split at h
    · rename_i eq; cases eq
    · rename_i i j ts' eq
      cases eq
      split at h
      · rename_i l q
        cases h
        obtain ⟨h1, h2⟩ := pairsOf_ok R b q
        cases a with
        | @tup p _ vs' hp rs =>
          have hH := R.sub _ _ hp
          have hv : vs' = [.int i, .int j] := by
            cases rs with
            | cons r1 rs => cases rs with
              | cons r2 rs => cases rs; cases r1; cases r2; rfl
          subst hv
          have ek : keyV Ω.H (.ref p) = (i, j) := by
            show (match Ω.H p with | some (.tup [.int i, .int j]) => (i, j) | _ => (0, 0)) = _
            rw [hH]
          refine ⟨by rw [List.map_cons, ek, h1], fun x hx => ?_⟩
          rcases List.mem_cons.mp hx with e | hx
          · subst e
            rw [ek]
            exact ⟨⟨p, rfl, hH⟩, .tup hp rs⟩
          · exact h2 x hx
      · cases h
    · cases h
theorem reps_map {c : Cn} {Ω : Ws} {f : V → T} : ∀ {vs : List V}, (∀ x ∈ vs, RepW c Ω (f x) x) → RepsW c Ω (vs.map f) vs
  | [], _ => .nil
  | v :: vs, h => .cons (h v List.mem_cons_self) (reps_map fun x hx => h x (List.mem_cons_of_mem _ hx))
theorem cs_sortP {c : Cn} {K : PySem.W.Frag} (hK : c.K = K) (lv : Bool) : CaS c (rSortedPO K) (oSortP lv) := by
  subst hK
  intro W σ Ω g x xv Q R r h
  unfold oSortP at h
  split at h
  · cases r with
    | cons rx rn =>
      cases rn
      split at h
      · rename_i l q
        split at h
        · rename_i ps q2
          obtain ⟨p, vs, e, h1, h2⟩ := vwR_ok R rx q
          subst e
          obtain ⟨hk, hv⟩ := pairsOf_ok R h2 q2
          refine ⟨p, vs, keyV Ω.H, rfl, h1, fun x hx => (hv x hx).1, fun ys p' sr st hp' => ?_⟩
          have hm : ∀ y ∈ ys, RepW c Ω (prT (keyV Ω.H y)) y := fun y hy => (hv y (st.perm.mem_iff.mp hy)).2
          have e : ys.map (keyV Ω.H) = sortB leP ps := by
            refine List.Perm.eq_of_pairwise (le := fun x y => leP x y = true) (fun a b _ _ h1 h2 => leP_anti a b h1 h2) ?_ (sortB_sorted leP_total leP_trans ps) ((st.perm.map _).trans (by rw [hk]; exact (sortB_perm leP ps).symm))
            rw [List.pairwise_map]
            refine List.Pairwise.imp (fun {x y} hxy => ?_) sr
            have hxy : SrtO.lexB (keyV Ω.H y) (keyV Ω.H x) = false := hxy
            have hn : ¬ (SrtO.lexB (keyV Ω.H y) (keyV Ω.H x) = true) := by rw [hxy]; decide
            rw [SrtO.lexB_iff] at hn
            unfold leP
            simp only [Bool.or_eq_true, Bool.and_eq_true, decide_eq_true_eq]
            omega
          have rr := reps_map hm
          rw [show (fun y => prT (keyV Ω.H y)) = prT ∘ keyV Ω.H from rfl, ← List.map_map, e] at rr
          exact mkL_of R rr h p' hp'
        · exact h.elim
      · exact h.elim
  · exact h.elim

/-! ### a, b = x, y -/
def sPar (is : List Nat) (fa : Ea) : Ss := fun ts g => (fa ts g).toS ts fun l g1 => if is.length = l.length then .nx (setMany is l ts) g1 else .no
section
variable {c : Cn} {W : WX} {X : Cx} {fa : Ea} {px py pz pt pos : Pos} {x y z : Str} {a b d : Expr} {kt k2 pt2}
theorem ds_par {i j : Nat} (hc : X.calm = true) (hN : X.N.Nodup) (ha : PA X [a, b] (tA c W fa)) (hi : X.N[i]? = some x := by rfl) (hj : X.N[j]? = some y := by rfl) (hij : i ≠ j := by decide) (hx : X.env.scope.names.lookup x = some .local := by rfl) (hy : X.env.scope.names.lookup y = some .local := by rfl)
    (hw : swappedStores [.Tuple [.Name x px, .Name y py] kt pt] (.Tuple [a, b] k2 pt2) X.env = pure (some [x, y]) := by rfl) (hs : swapsWithSole [.Tuple [.Name x px, .Name y py] kt pt] (.Tuple [a, b] k2 pt2) pos.line X.env = pure false := by rfl) :
    PS X (.Assign [.Tuple [.Name x px, .Name y py] kt pt] (.Tuple [a, b] k2 pt2) pos) (tS c W (sPar [i, j] fa)) :=
  PS_weak (ps_par hc hN hi hj hij hx hy ha hw hs) fun D σ H ⟨Ω, g, ts, e, R, S, h⟩ => by
    subst e
    refine ⟨Ω, g, ts, rfl, R, S, (EndS.bindE (RP := RepsW c) S h).mono fun vs H1 ⟨Ω1, g1, l, e1, u1, R1, r1, h1⟩ => ?_⟩
    subst e1
    split at h1
    · rename_i hl
      cases r1 with
      | nil => cases hl
      | cons ra rn => cases rn with
        | nil => cases hl
        | cons rb rn => cases rn with
          | nil => exact ⟨_, _, rfl, h1 Ω1 _ Up.refl R1 (((S.up u1).set ra i).set rb j)⟩
          | cons _ _ => simp at hl
    · exact h1.elim
theorem ds_par3 {i j l : Nat} (hc : X.calm = true) (hN : X.N.Nodup) (ha : PA X [a, b, d] (tA c W fa)) (hi : X.N[i]? = some x := by rfl) (hj : X.N[j]? = some y := by rfl) (hl : X.N[l]? = some z := by rfl) (hij : i ≠ j := by decide) (hil : i ≠ l := by decide) (hjl : j ≠ l := by decide)
    (hx : X.env.scope.names.lookup x = some .local := by rfl) (hy : X.env.scope.names.lookup y = some .local := by rfl) (hz : X.env.scope.names.lookup z = some .local := by rfl)
    (hw : swappedStores [.Tuple [.Name x px, .Name y py, .Name z pz] kt pt] (.Tuple [a, b, d] k2 pt2) X.env = pure (some [x, y, z]) := by rfl) (hs : swapsWithSole [.Tuple [.Name x px, .Name y py, .Name z pz] kt pt] (.Tuple [a, b, d] k2 pt2) pos.line X.env = pure false := by rfl) :
    PS X (.Assign [.Tuple [.Name x px, .Name y py, .Name z pz] kt pt] (.Tuple [a, b, d] k2 pt2) pos) (tS c W (sPar [i, j, l] fa)) :=
  PS_weak (ps_par3 hc hN hi hj hl hij hil hjl hx hy hz ha hw hs) fun D σ H ⟨Ω, g, ts, e, R, S, h⟩ => by
    subst e
    refine ⟨Ω, g, ts, rfl, R, S, (EndS.bindE (RP := RepsW c) S h).mono fun vs H1 ⟨Ω1, g1, l, e1, u1, R1, r1, h1⟩ => ?_⟩
    subst e1
    split at h1
    · rename_i hl
      cases r1 with
      | nil => cases hl
      | cons ra rn => cases rn with
        | nil => cases hl
        | cons rb rn => cases rn with
          | nil => simp at hl
          | cons rc rn => cases rn with
            | nil => exact ⟨_, _, _, rfl, h1 Ω1 _ Up.refl R1 ((((S.up u1).set ra i).set rb j).set rc l)⟩
            | cons _ _ => simp at hl
    · exact h1.elim
/-! ### what is never reached -/
def sNo : Ss := fun _ _ => .no
def fNever : Ev := fun _ _ => .no
theorem ds_no {st : Stmt} : PS X st (tS c W sNo) := ⟨fun pins s σ H D I ⟨Ω, g, ts, e, R, S, h⟩ => h.elim⟩
theorem de_never {e : Expr} : PE X e (tE c W fNever) := ⟨fun pins s σ H Q I ⟨Ω, g, ts, e, R, S, h⟩ => h.elim⟩
theorem dss_no {st : List Stmt} : PSs X st (tS c W sNo) := ⟨fun pins s σ H D I ⟨Ω, g, ts, e, R, S, h⟩ => h.elim⟩
/-! ### statements in a region of their own: of the slots only those of ks go in; closed values only come out -/
def keepT (ks : List Nat) (ts : SL) : SL := ts.mapIdx fun i t => if ks.contains i then (match t with
  | some t => if t.low 0 then some t else none
  | none => none) else none
def lowSl (ts : SL) : SL := ts.map fun t => match t with
  | some t => if t.low 0 then some t else none
  | none => none
def sReg (ks : List Nat) (f : Ss) : Ss := fun ts g => match f (keepT ks ts) [[]] with
  | .nx ts' _ => .nx (lowSl ts') g
  | .rt t _ => if t.low 0 then .rt t g else .no
  | .bk ts' _ => .bk (lowSl ts') g
  | .ct ts' _ => .ct (lowSl ts') g
  | _ => .no
theorem RepS.keep {Ω : Ws} {ts : SL} {σ : L2.St} (S : RepS c Ω ts σ) (ks : List Nat) : RepS c ⟨Ω.F, [[]], Ω.H⟩ (keepT ks ts) σ := by
  refine ⟨by rw [← S.1]; unfold keepT; simp, fun i t e => ?_⟩
  unfold keepT at e
  rw [List.getElem?_mapIdx] at e
  cases q : ts[i]? with
  | none => rw [q] at e; cases e
  | some o =>
    rw [q] at e
    have e := Option.some.inj e
    split at e
    · cases o with
      | none => cases e
      | some t' =>
        simp only at e
        split at e
        · rename_i hl
          cases e
          obtain ⟨v, h1, h2⟩ := S.2 i _ q
          exact ⟨v, h1, h2.low (fun r i a hr => absurd hr (Nat.not_lt_zero _)) hl⟩
        · cases e
    · cases e
theorem RepS.lowSl {Ω Ω' : Ws} {ts : SL} {σ : L2.St} (S : RepS c Ω ts σ) (hF : Ω'.F = Ω.F) : RepS c Ω' (lowSl ts) σ := by
  refine ⟨by rw [← S.1]; unfold Zz.lowSl; simp, fun i t e => ?_⟩
  unfold Zz.lowSl at e
  rw [List.getElem?_map] at e
  cases q : ts[i]? with
  | none => rw [q] at e; cases e
  | some o =>
    rw [q] at e
    have e := Option.some.inj e
    cases o with
    | none => cases e
    | some t' =>
      simp only at e
      split at e
      · rename_i hl
        cases e
        obtain ⟨v, h1, h2⟩ := S.2 i _ q
        refine ⟨v, h1, ?_⟩
        rw [hF]
        exact h2.low (fun r i a hr => absurd hr (Nat.not_lt_zero _)) hl
      · cases e
theorem dss_reg {st : List Stmt} {f : Ss} (ks : List Nat) (h : PSs X st (tS c W f)) : PSs X st (tS c W (sReg ks f)) := PSs_weak h fun D σ H ⟨Ω, g, ts, e, R, S, h⟩ => by
  subst e
  refine ⟨⟨Ω.F, [[]], Ω.H⟩, [[]], keepT ks ts, rfl, R.closed, S.keep ks, ?_⟩
  unfold sReg at h
  revert h
  cases f (keepT ks ts) [[]] with
  | nx ts' g' => exact fun h Ω' σ' u R' S' => let ⟨R3, u3⟩ := R.uncl u R'; h ⟨Ω'.F, Ω.ρ, Ω'.H⟩ σ' u3 R3 (S'.lowSl rfl)
  | bk ts' g' => exact fun h Ω' σ' u R' S' => let ⟨R3, u3⟩ := R.uncl u R'; h ⟨Ω'.F, Ω.ρ, Ω'.H⟩ σ' u3 R3 (S'.lowSl rfl)
  | ct ts' g' => exact fun h Ω' σ' u R' S' => let ⟨R3, u3⟩ := R.uncl u R'; h ⟨Ω'.F, Ω.ρ, Ω'.H⟩ σ' u3 R3 (S'.lowSl rfl)
  | rt t g' =>
    intro h Ω' v u R' r'
    simp only at h
    split at h
    · rename_i hl
      obtain ⟨R3, u3⟩ := R.uncl u R'
      exact h ⟨Ω'.F, Ω.ρ, Ω'.H⟩ v u3 R3 (r'.low (fun r i a hr => absurd hr (Nat.not_lt_zero _)) hl)
    · exact h.elim
  | ex x ts' g' => exact fun h => h.elim
  | no => exact fun h => h.elim
/-- .. behind a first part that runs as it is -/
theorem pss_app {l1 l2 : List Stmt} {f1 f2 : Ss} (h1 : PSs X l1 (tS c W f1)) (h2 : PSs X l2 (tS c W f2)) : True := trivial
end
end Zz
set_option Elab.async false
set_option linter.all false
set_option maxRecDepth 100000
set_option maxHeartbeats 4000000
/-! Zz 13: defs with defaults by their bodies; how they bind; the end -/
namespace Zz
open PySem PySem.Spec PyProof.Rows L2
section
variable {P : Program} {w : World} {mg : Str → Option Value} {base : Heap} {c : Cn} {x qual : Str} {st : Stmt} {f : Addr} {fd : FuncData} {N ps : List Str} {k m n : Nat} {fb : Ss} {dvs : List V}
/-- a def of the text, with its defaults -/
abbrev FunT (K : PySem.W.Frag) (x qual : Str) (st : Stmt) (dvs : List V) (f : Addr) (fd : FuncData) : Prop := FunD K x qual (defArgs st) (defBody st) (defScope st) dvs [] f fd
theorem defD_of {fn : FN} (F : FunT c.K x qual st dvs f fd) (S : FnScope N ps (defScope st)) (hp : ps.length = m) (hf : ∀ ts g, ts.length ≠ m → fn ts g = .no)
    (hq : ∀ (Ω : Ws) (g : VH) (ts : List T) (vs : List V) (Q : VK) (E : XK), Rel c Ω g → RepsW c Ω ts vs → EndG c (fun cls d _ H => E cls d H) [] Ω g (RepW c) Q (fn ts g) →
      tS c (WL E) fb { nx := fun _ H => Lks (Q .non) H, rt := fun v H => Lks (Q v) H } (L2.start N vs) Ω.H)
    (B : BodyOk P w c.K mg base c k N qual st f fb) : FnOk P w c.K mg base (L2.CX P w) (k + 1) f fd ps (spF c fn) := by
  refine FunD.ok F S (len_of hf hp) fun cdv A outer s H vs Q E room pr => ?_
  obtain ⟨Ω, g, ts, e, R, r, pr⟩ := pr
  subst e
  refine ⟨_, PSs_lk (B cdv A outer s Ω.H E room (Takes.lk (takes_of rfl rfl rfl rfl)) (passes_of (X := cxOf (L2.CX P w) P w c.K mg base N qual (defScope st) f cdv A outer s Ω.H E) rfl)), ?_⟩
  exact hq Ω g ts vs Q E R r pr
theorem def_okD (F : FunT c.K x qual st dvs f fd) (S : FnScope N ps (defScope st)) (B : BodyOk P w c.K mg base c k N qual st f fb) (hp : ps.length = m := by rfl) (hN : N.length = n := by rfl) :
    FnOk P w c.K mg base (L2.CX P w) (k + 1) f fd ps (spF c (fnP m n fb)) := defD_of F S hp (fun ts g z => if_neg z) (fun Ω g ts vs Q E R r pr => fnP_hq hN R r pr) B
theorem def_okDI (F : FunT c.K x qual st dvs f fd) (S : FnScope N ps (defScope st)) (B : BodyOk P w c.K mg base c k N qual st f fb) (hp : ps.length = m := by rfl) (hN : N.length = n := by rfl) :
    FnOk P w c.K mg base (L2.CX P w) (k + 1) f fd ps (spF c (fnI m n fb)) := defD_of F S hp (fun ts g z => if_neg z) (fun Ω g ts vs Q E R r pr => fnI_hq hN R r pr) B
end
/-! ### .. with its code object known -/
def CdOf (K : PySem.W.Frag) (f : Addr) (cdv : Value) : Prop := ∃ (oc : Value) (od : Option Addr) (fd : FuncData) (osl : Array (Option Value)), K.lookup f = some ⟨oc, od, .func fd, osl⟩ ∧ fd.code = cdv
section
variable {P : Program} {w : World} {mg : Str → Option Value} {base : Heap} {c : Cn} {x qual : Str} {st : Stmt} {f : Addr} {fd : FuncData} {N ps : List Str} {k m n : Nat} {fb : Ss} {dvs : List V}
def BodyOkC (P : Program) (w : World) (K : PySem.W.Frag) (mg : Str → Option Value) (base : Heap) (c : Cn) (k : Nat) (N : List Str) (qual : Str) (st : Stmt) (f : Addr) (fb : Ss) : Prop :=
  ∀ (cdv : Value) (A : Around) (outer : List Env) (s : Shared) (H : Hp) (E : XK), CdOf K f cdv → Room k (A.deeper (envOfC qual (defScope st) s.heap.objs.size f cdv)) →
    Takes (cxOf (L2.CX P w) P w K mg base N qual (defScope st) f cdv A outer s H E) (WL E) → PassesOwn (model P w) (A.deeper (envOfC qual (defScope st) s.heap.objs.size f cdv)) (envOfC qual (defScope st) s.heap.objs.size f cdv) (cxOf (L2.CX P w) P w K mg base N qual (defScope st) f cdv A outer s H E).xe →
    PSs (cxOf (L2.CX P w) P w K mg base N qual (defScope st) f cdv A outer s H E) (defBody st) (tS c (WL E) fb)
theorem def_okDC (F : FunT c.K x qual st dvs f fd) (S : FnScope N ps (defScope st)) (B : BodyOkC P w c.K mg base c k N qual st f fb) (hp : ps.length = m := by rfl) (hN : N.length = n := by rfl) :
    FnOk P w c.K mg base (L2.CX P w) (k + 1) f fd ps (spF c (fnP m n fb)) := by
  obtain ⟨oc, od, dV, kV, doc, pm, an, cdv, ct, osl, rfl, lk, hcd, _, _⟩ := F.ex
  refine fn_of lk hcd S (len_of (fun ts g z => if_neg z) hp) fun A outer s H vs Q E room pr => ?_
  obtain ⟨Ω, g, ts, e, R, r, pr⟩ := pr
  subst e
  refine ⟨_, PSs_lk (B cdv A outer s Ω.H E ⟨oc, od, _, osl, lk, rfl⟩ room (Takes.lk (takes_of rfl rfl rfl rfl)) (passes_of (X := cxOf (L2.CX P w) P w c.K mg base N qual (defScope st) f cdv A outer s Ω.H E) rfl)), ?_⟩
  exact fnP_hq hN R r pr
end
theorem funT_binds {K : PySem.W.Frag} {x qual : Str} {st : Stmt} {f : Addr} {fd : FuncData} {ps : List Str} (F : FunT K x qual st [] f fd)
    (b : ∀ (kV doc pm : Value) (an : Option Addr) (cdv ct : Value) (us : List Value), us.length = ps.length → bindArgs (PySem.W.fnOf x qual (defArgs st) (defBody st) (defScope st) .none kV doc pm an cdv ct) ⟨us, []⟩ = pure (ps.zip us)) : Binds K fd ps [] := by
  obtain ⟨oc, od, dV, kV, doc, pm, an, cdv, ct, osl, rfl, lk, hcd, hD, _⟩ := F.ex
  rcases hD with ⟨_, rfl⟩ | ⟨e, _⟩
  · exact .all (b kV doc pm an cdv ct)
  · exact absurd rfl e
theorem hu65 {A : Around} {k : Nat} (hr : Room k A) : A.units + 65 < cLine := by have := hr.un; omega
/-- a look by decide -/
def scopeB (N ps : List Str) (sc : Scope) : Bool := decide (sc.kind = .function) && !sc.isCoroutine && !sc.isGenerator && decide N.Nodup && decide (N.take ps.length = ps) && ps.all (fun x => decide (sc.names.lookup x = some .local) || decide (sc.names.lookup x = some .cell)) && sc.names.all fun y => !decide (y.2 = .free)
theorem scopeB_ok {N ps : List Str} {sc : Scope} (b : scopeB N ps sc = true) : FnScope N ps sc := by
  unfold scopeB at b
  simp only [Bool.and_eq_true, Bool.not_eq_true', decide_eq_true_eq, List.all_eq_true, Bool.or_eq_true, decide_eq_false_iff_not] at b
  obtain ⟨⟨⟨⟨⟨⟨b1, b2⟩, b3⟩, b4⟩, b5⟩, b6⟩, b7⟩ := b
  exact ⟨b1, b2, b3, b4, b5, b6, b7⟩
end Zz
set_option Elab.async false
set_option linter.all false
set_option maxRecDepth 100000
set_option maxHeartbeats 4000000
/-! K88: printed by gen.py -/
namespace K88
open PySem L2 Zz
def top (i : Nat) : Stmt := PySem.Challenge.pw_takennames_k88_folders_by_name.main.body.getD i (.Pass ⟨0, 0, 0, 0⟩)
def forBody : Stmt → List Stmt
  | .For _ _ b _ _ => b
  | _ => []
abbrev st_Folder_most : Stmt := (inClass (top 54) 1)
theorem sc_Folder_most : FnScope (["self"] : List Str) (["self"] : List Str) (defScope st_Folder_most) := scopeB_ok (by decide +kernel)
abbrev st_law : Stmt := (top 61)
theorem sc_law : FnScope (["_law_script", "_law_purse_here", "_law_wide", "_law_part", "_law_cut", "_law_first", "_law_second", "_law_third", "_law_plain", "_law_action"] : List Str) (["_law_script"] : List Str) (defScope st_law) := scopeB_ok (by decide +kernel)
abbrev st__law_purses : Stmt := (top 60)
theorem sc__law_purses : FnScope (["_law_script", "_law_few", "_law_at"] : List Str) (["_law_script", "_law_few"] : List Str) (defScope st__law_purses) := scopeB_ok (by decide +kernel)
abbrev st__law_purse : Stmt := (top 57)
theorem sc__law_purse : FnScope (["_law_script", "_law_at", "_law_cell"] : List Str) (["_law_script", "_law_at"] : List Str) (defScope st__law_purse) := scopeB_ok (by decide +kernel)
abbrev st__law_draw : Stmt := (top 59)
theorem sc__law_draw : FnScope (["_law_purse_here", "_law_many", "_law_drawn", "_law_found", "_law_piece"] : List Str) (["_law_purse_here", "_law_many"] : List Str) (defScope st__law_draw) := scopeB_ok (by decide +kernel)
abbrev st__law_mixed : Stmt := (top 58)
theorem sc__law_mixed : FnScope (["_law_cell", "_law_turn", "_law_at", "_law_mixed_here"] : List Str) (["_law_cell", "_law_turn", "_law_at"] : List Str) (defScope st__law_mixed) := scopeB_ok (by decide +kernel)
abbrev st_CleanerU_initU : Stmt := (inClass (top 49) 0)
theorem sc_CleanerU_initU : FnScope (["self", "steps", "step"] : List Str) (["self", "steps"] : List Str) (defScope st_CleanerU_initU) := scopeB_ok (by decide +kernel)
abbrev st_are_steps : Stmt := (top 44)
theorem sc_are_steps : FnScope (["value", "step"] : List Str) (["value"] : List Str) (defScope st_are_steps) := scopeB_ok (by decide +kernel)
abbrev st_is_step : Stmt := (top 43)
theorem sc_is_step : FnScope (["value"] : List Str) (["value"] : List Str) (defScope st_is_step) := scopeB_ok (by decide +kernel)
abbrev st_are_changes : Stmt := (top 41)
theorem sc_are_changes : FnScope (["value", "seen", "pair"] : List Str) (["value"] : List Str) (defScope st_are_changes) := scopeB_ok (by decide +kernel)
abbrev st_is_sign : Stmt := (top 17)
theorem sc_is_sign : FnScope (["value"] : List Str) (["value"] : List Str) (defScope st_is_sign) := scopeB_ok (by decide +kernel)
abbrev st_is_whole : Stmt := (top 15)
theorem sc_is_whole : FnScope (["value"] : List Str) (["value"] : List Str) (defScope st_is_whole) := scopeB_ok (by decide +kernel)
abbrev st_are_signs : Stmt := (top 42)
theorem sc_are_signs : FnScope (["value", "at", "sign"] : List Str) (["value"] : List Str) (defScope st_are_signs) := scopeB_ok (by decide +kernel)
abbrev st_copied : Stmt := (top 45)
theorem sc_copied : FnScope (["step"] : List Str) (["step"] : List Str) (defScope st_copied) := scopeB_ok (by decide +kernel)
abbrev st_FolderU_initU : Stmt := (inClass (top 54) 0)
theorem sc_FolderU_initU : FnScope (["self", "cleaner", "width"] : List Str) (["self", "cleaner", "width"] : List Str) (defScope st_FolderU_initU) := scopeB_ok (by decide +kernel)
abbrev st_check_cleaner : Stmt := (top 50)
theorem sc_check_cleaner : FnScope (["cleaner"] : List Str) (["cleaner"] : List Str) (defScope st_check_cleaner) := scopeB_ok (by decide +kernel)
abbrev st_check_width : Stmt := (top 24)
theorem sc_check_width : FnScope (["width"] : List Str) (["width"] : List Str) (defScope st_check_width) := scopeB_ok (by decide +kernel)
abbrev st_is_width : Stmt := (top 20)
theorem sc_is_width : FnScope (["value"] : List Str) (["value"] : List Str) (defScope st_is_width) := scopeB_ok (by decide +kernel)
abbrev st_Folder_come : Stmt := (inClass (top 54) 7)
theorem sc_Folder_come : FnScope (["self", "name"] : List Str) (["self", "name"] : List Str) (defScope st_Folder_come) := scopeB_ok (by decide +kernel)
abbrev st_check_name : Stmt := (top 22)
theorem sc_check_name : FnScope (["name"] : List Str) (["name"] : List Str) (defScope st_check_name) := scopeB_ok (by decide +kernel)
abbrev st_is_name : Stmt := (top 18)
theorem sc_is_name : FnScope (["value", "sign"] : List Str) (["value"] : List Str) (defScope st_is_name) := scopeB_ok (by decide +kernel)
abbrev st_Folder_change : Stmt := (inClass (top 54) 6)
theorem sc_Folder_change : FnScope (["self", "rows"] : List Str) (["self", "rows"] : List Str) (defScope st_Folder_change) := scopeB_ok (by decide +kernel)
abbrev st_Folder_grown : Stmt := (inClass (top 54) 5)
theorem sc_Folder_grown : FnScope (["self", "names", "rows", "name", "row"] : List Str) (["self", "names"] : List Str) (defScope st_Folder_grown) := scopeB_ok (by decide +kernel)
abbrev st_Folder_outlook : Stmt := (inClass (top 54) 4)
theorem sc_Folder_outlook : FnScope (["self", "rows", "name", "wish", "got", "tried", "row"] : List Str) (["self", "rows", "name"] : List Str) (defScope st_Folder_outlook) := scopeB_ok (by decide +kernel)
abbrev st_wish_of : Stmt := (top 52)
theorem sc_wish_of : FnScope (["name", "system", "cleaner", "width", "text"] : List Str) (["name", "system"] : List Str) (defScope st_wish_of) := scopeB_ok (by decide +kernel)
abbrev st_Cleaner_cleaned : Stmt := (inClass (top 49) 2)
theorem sc_Cleaner_cleaned : FnScope (["self", "text", "step"] : List Str) (["self", "text"] : List Str) (defScope st_Cleaner_cleaned) := scopeB_ok (by decide +kernel)
abbrev st_stepped : Stmt := (top 48)
theorem sc_stepped : FnScope (["step", "text", "word", "part", "others", "sign", "other"] : List Str) (["step", "text"] : List Str) (defScope st_stepped) := scopeB_ok (by decide +kernel)
abbrev st_squeezed : Stmt := (top 46)
theorem sc_squeezed : FnScope (["text", "signs", "found", "sign"] : List Str) (["text", "signs"] : List Str) (defScope st_squeezed) := scopeB_ok (by decide +kernel)
abbrev st_headless : Stmt := (top 47)
theorem sc_headless : FnScope (["text", "signs", "at", "sign"] : List Str) (["text", "signs"] : List Str) (defScope st_headless) := scopeB_ok (by decide +kernel)
abbrev st_first_free : Stmt := (top 29)
theorem sc_first_free : FnScope (["name", "width", "given", "tried"] : List Str) (["name", "width", "given"] : List Str) (defScope st_first_free) := scopeB_ok (by decide +kernel)
abbrev st_after : Stmt := (top 27)
theorem sc_after : FnScope (["name", "width", "base", "digits", "found"] : List Str) (["name", "width"] : List Str) (defScope st_after) := scopeB_ok (by decide +kernel)
abbrev st_parts : Stmt := (top 26)
theorem sc_parts : FnScope (["name", "at"] : List Str) (["name"] : List Str) (defScope st_parts) := scopeB_ok (by decide +kernel)
abbrev st_FolderU_callU : Stmt := (inClass (top 54) 14)
theorem sc_FolderU_callU : FnScope (["self", "name"] : List Str) (["self", "name"] : List Str) (defScope st_FolderU_callU) := scopeB_ok (by decide +kernel)
abbrev st_Folder_bound : Stmt := (inClass (top 54) 3)
theorem sc_Folder_bound : FnScope (["self", "most"] : List Str) (["self", "most"] : List Str) (defScope st_Folder_bound) := scopeB_ok (by decide +kernel)
abbrev st_Folder_could : Stmt := (inClass (top 54) 16)
theorem sc_Folder_could : FnScope (["self", "index"] : List Str) (["self", "index"] : List Str) (defScope st_Folder_could) := scopeB_ok (by decide +kernel)
abbrev st_check_index : Stmt := (top 25)
theorem sc_check_index : FnScope (["index", "many"] : List Str) (["index", "many"] : List Str) (defScope st_check_index) := scopeB_ok (by decide +kernel)
abbrev st_is_count : Stmt := (top 16)
theorem sc_is_count : FnScope (["value"] : List Str) (["value"] : List Str) (defScope st_is_count) := scopeB_ok (by decide +kernel)
abbrev st_chances : Stmt := (top 39)
theorem sc_chances : FnScope (["names", "index", "width"] : List Str) (["names", "index", "width"] : List Str) (defScope st_chances) := scopeB_ok (by decide +kernel)
abbrev st_stretch : Stmt := (top 37)
theorem sc_stretch : FnScope (["name", "width", "given", "found"] : List Str) (["name", "width", "given"] : List Str) (defScope st_stretch) := scopeB_ok (by decide +kernel)
abbrev st_flowing : Stmt := (top 30)
theorem sc_flowing : FnScope (["names", "width", "found", "lost", "work", "name", "later"] : List Str) (["names", "width"] : List Str) (defScope st_flowing) := scopeB_ok (by decide +kernel)
abbrev st_without : Stmt := (top 38)
theorem sc_without : FnScope (["names", "index"] : List Str) (["names", "index"] : List Str) (defScope st_without) := scopeB_ok (by decide +kernel)
abbrev st_Folder_wants : Stmt := (inClass (top 54) 15)
theorem sc_Folder_wants : FnScope (["self", "row"] : List Str) (["self"] : List Str) (defScope st_Folder_wants) := scopeB_ok (by decide +kernel)
abbrev st_Folder_before : Stmt := (inClass (top 54) 17)
theorem sc_Folder_before : FnScope (["self", "index", "pairs", "one", "other"] : List Str) (["self", "index"] : List Str) (defScope st_Folder_before) := scopeB_ok (by decide +kernel)
abbrev st_pairs_of : Stmt := (top 35)
theorem sc_pairs_of : FnScope (["names", "given", "width", "found", "other", "row", "one"] : List Str) (["names", "given", "width"] : List Str) (defScope st_pairs_of) := scopeB_ok (by decide +kernel)
abbrev st_needs : Stmt := (top 33)
theorem sc_needs : FnScope (["names", "given", "width", "holders", "found", "at", "got", "name"] : List Str) (["names", "given", "width"] : List Str) (defScope st_needs) := scopeB_ok (by decide +kernel)
abbrev st_ahead_of : Stmt := (top 32)
theorem sc_ahead_of : FnScope (["name", "got", "width", "holders", "found"] : List Str) (["name", "got", "width", "holders"] : List Str) (defScope st_ahead_of) := scopeB_ok (by decide +kernel)
abbrev st_closed : Stmt := (top 34)
theorem sc_closed : FnScope (["found", "full", "middle", "row", "one"] : List Str) (["found"] : List Str) (defScope st_closed) := scopeB_ok (by decide +kernel)
abbrev st_Folder_names : Stmt := (inClass (top 54) 13)
theorem sc_Folder_names : FnScope (["self", "row"] : List Str) (["self"] : List Str) (defScope st_Folder_names) := scopeB_ok (by decide +kernel)
abbrev st_Folder_attempt : Stmt := (inClass (top 54) 21)
theorem sc_Folder_attempt : FnScope (["self", "action", "same"] : List Str) (["self", "action"] : List Str) (defScope st_Folder_attempt) := scopeB_ok (by decide +kernel)
abbrev st_Folder_trial : Stmt := (inClass (top 54) 20)
theorem sc_Folder_trial : FnScope (["self"] : List Str) (["self"] : List Str) (defScope st_Folder_trial) := scopeB_ok (by decide +kernel)
abbrev st_TrialU_initU : Stmt := (inClass (top 55) 0)
theorem sc_TrialU_initU : FnScope (["self", "folder"] : List Str) (["self", "folder"] : List Str) (defScope st_TrialU_initU) := scopeB_ok (by decide +kernel)
abbrev st_TrialU_enterU : Stmt := (inClass (top 55) 1)
theorem sc_TrialU_enterU : FnScope (["self", "folder"] : List Str) (["self"] : List Str) (defScope st_TrialU_enterU) := scopeB_ok (by decide +kernel)
abbrev st_TrialU_exitU : Stmt := (inClass (top 55) 2)
theorem sc_TrialU_exitU : FnScope (["self", "kind", "value", "trace"] : List Str) (["self", "kind", "value", "trace"] : List Str) (defScope st_TrialU_exitU) := scopeB_ok (by decide +kernel)
abbrev st__law_action : Stmt := ((forBody ((defBody (top 61)).getD 0 (.Pass ⟨0, 0, 0, 0⟩))).getD 9 (.Pass ⟨0, 0, 0, 0⟩))
def nf__law_action (c : Addr) : NdefX.NF := ⟨"_law_action", "law.<locals>._law_action", defArgs st__law_action, defBody st__law_action, defScope st__law_action, [], c⟩
theorem sc__law_action : NdefX.NScope (["_law_same"] : List Str) (["_law_same"] : List Str) [] (defScope st__law_action) := NdefX.nscope_by (by decide +kernel)
structure Fx (c : Cn) (mg : Str → Option Value) (fd : Nat → FuncData) : Prop where
  cl_Folder : Cls c.K (c.ad 59)
  at_Folder_limit : NoAttr c.K (c.ad 59) ("limit" : Str)
  cl_Trial : Cls c.K (c.ad 82)
  at_Trial_limit : NoAttr c.K (c.ad 82) ("limit" : Str)
  d_Folder_most : FunT c.K ("most" : Str) ("Folder.most" : Str) st_Folder_most [] (c.ad 61) (fd 61)
  pr_Folder_most : PropOf c.K (c.ad 59) ("most" : Str) (c.ad 1061) (c.ad 61)
  b_len : mg ("len" : Str) = none
  b_min : mg ("min" : Str) = none
  b_max : mg ("max" : Str) = none
  b_range : mg ("range" : Str) = none
  b_sum : mg ("sum" : Str) = none
  d__law_purse : FunT c.K ("_law_purse" : Str) ("_law_purse" : Str) st__law_purse [] (c.ad 86) (fd 86)
  m__law_purse : mg ("_law_purse" : Str) = some (.ref (c.ad 86))
  d__law_purses : FunT c.K ("_law_purses" : Str) ("_law_purses" : Str) st__law_purses [] (c.ad 89) (fd 89)
  m__law_purses : mg ("_law_purses" : Str) = some (.ref (c.ad 89))
  d__law_mixed : FunT c.K ("_law_mixed" : Str) ("_law_mixed" : Str) st__law_mixed [] (c.ad 87) (fd 87)
  m__law_mixed : mg ("_law_mixed" : Str) = some (.ref (c.ad 87))
  d__law_draw : FunT c.K ("_law_draw" : Str) ("_law_draw" : Str) st__law_draw [] (c.ad 88) (fd 88)
  m__law_draw : mg ("_law_draw" : Str) = some (.ref (c.ad 88))
  b_list : mg ("list" : Str) = none
  b_isinstance : mg ("isinstance" : Str) = none
  b_tuple : mg ("tuple" : Str) = none
  b_str : mg ("str" : Str) = none
  g_SIGNS : ∃ tk, mg ("SIGNS" : Str) = some (.str ("-0123456789abcdefghijklmnopqrstuvwxyz" : Str) tk)
  d_is_sign : FunT c.K ("is_sign" : Str) ("is_sign" : Str) st_is_sign [] (c.ad 22) (fd 22)
  m_is_sign : mg ("is_sign" : Str) = some (.ref (c.ad 22))
  d_are_changes : FunT c.K ("are_changes" : Str) ("are_changes" : Str) st_are_changes [] (c.ad 41) (fd 41)
  m_are_changes : mg ("are_changes" : Str) = some (.ref (c.ad 41))
  b_int : mg ("int" : Str) = none
  b_bool : mg ("bool" : Str) = none
  d_is_whole : FunT c.K ("is_whole" : Str) ("is_whole" : Str) st_is_whole [] (c.ad 20) (fd 20)
  m_is_whole : mg ("is_whole" : Str) = some (.ref (c.ad 20))
  b_enumerate : mg ("enumerate" : Str) = none
  d_are_signs : FunT c.K ("are_signs" : Str) ("are_signs" : Str) st_are_signs [] (c.ad 42) (fd 42)
  m_are_signs : mg ("are_signs" : Str) = some (.ref (c.ad 42))
  d_is_step : FunT c.K ("is_step" : Str) ("is_step" : Str) st_is_step [] (c.ad 43) (fd 43)
  m_is_step : mg ("is_step" : Str) = some (.ref (c.ad 43))
  d_are_steps : FunT c.K ("are_steps" : Str) ("are_steps" : Str) st_are_steps [] (c.ad 44) (fd 44)
  m_are_steps : mg ("are_steps" : Str) = some (.ref (c.ad 44))
  cl_Cleaner : Cls c.K (c.ad 49)
  at_Cleaner_row : NoAttr c.K (c.ad 49) ("row" : Str)
  d_copied : FunT c.K ("copied" : Str) ("copied" : Str) st_copied [] (c.ad 45) (fd 45)
  m_copied : mg ("copied" : Str) = some (.ref (c.ad 45))
  d_CleanerU_initU : FunT c.K ("__init__" : Str) ("Cleaner.__init__" : Str) st_CleanerU_initU [] (c.ad 50) (fd 50)
  mk_Cleaner : Mk c.K (c.ad 49) (c.ad 50)
  m_Cleaner : mg ("Cleaner" : Str) = some (.ref (c.ad 49))
  d_check_cleaner : FunT c.K ("check_cleaner" : Str) ("check_cleaner" : Str) st_check_cleaner [] (c.ad 57) (fd 57)
  m_check_cleaner : mg ("check_cleaner" : Str) = some (.ref (c.ad 57))
  d_is_width : FunT c.K ("is_width" : Str) ("is_width" : Str) st_is_width [] (c.ad 25) (fd 25)
  m_is_width : mg ("is_width" : Str) = some (.ref (c.ad 25))
  d_check_width : FunT c.K ("check_width" : Str) ("check_width" : Str) st_check_width [] (c.ad 28) (fd 28)
  m_check_width : mg ("check_width" : Str) = some (.ref (c.ad 28))
  at_Folder_cleaner : NoAttr c.K (c.ad 59) ("cleaner" : Str)
  at_Folder_width : NoAttr c.K (c.ad 59) ("width" : Str)
  at_Folder_rows : NoAttr c.K (c.ad 59) ("rows" : Str)
  at_Trial_rows : NoAttr c.K (c.ad 82) ("rows" : Str)
  at_Folder_past : NoAttr c.K (c.ad 59) ("past" : Str)
  at_Trial_past : NoAttr c.K (c.ad 82) ("past" : Str)
  d_FolderU_initU : FunT c.K ("__init__" : Str) ("Folder.__init__" : Str) st_FolderU_initU [.non, .non] (c.ad 60) (fd 60)
  mk_Folder : Mk c.K (c.ad 59) (c.ad 60)
  m_Folder : mg ("Folder" : Str) = some (.ref (c.ad 59))
  d_is_name : FunT c.K ("is_name" : Str) ("is_name" : Str) st_is_name [] (c.ad 23) (fd 23)
  m_is_name : mg ("is_name" : Str) = some (.ref (c.ad 23))
  d_check_name : FunT c.K ("check_name" : Str) ("check_name" : Str) st_check_name [] (c.ad 26) (fd 26)
  m_check_name : mg ("check_name" : Str) = some (.ref (c.ad 26))
  d_Folder_change : FunT c.K ("change" : Str) ("Folder.change" : Str) st_Folder_change [] (c.ad 66) (fd 66)
  d_squeezed : FunT c.K ("squeezed" : Str) ("squeezed" : Str) st_squeezed [] (c.ad 46) (fd 46)
  m_squeezed : mg ("squeezed" : Str) = some (.ref (c.ad 46))
  d_headless : FunT c.K ("headless" : Str) ("headless" : Str) st_headless [] (c.ad 47) (fd 47)
  m_headless : mg ("headless" : Str) = some (.ref (c.ad 47))
  d_stepped : FunT c.K ("stepped" : Str) ("stepped" : Str) st_stepped [] (c.ad 48) (fd 48)
  m_stepped : mg ("stepped" : Str) = some (.ref (c.ad 48))
  d_Cleaner_cleaned : FunT c.K ("cleaned" : Str) ("Cleaner.cleaned" : Str) st_Cleaner_cleaned [] (c.ad 52) (fd 52)
  me_Cleaner_cleaned : Meth c.K (c.ad 49) ("cleaned" : Str) (c.ad 52)
  d_wish_of : FunT c.K ("wish_of" : Str) ("wish_of" : Str) st_wish_of [] (c.ad 58) (fd 58)
  m_wish_of : mg ("wish_of" : Str) = some (.ref (c.ad 58))
  g_DIGITS : ∃ tk, mg ("DIGITS" : Str) = some (.str ("0123456789" : Str) tk)
  d_parts : FunT c.K ("parts" : Str) ("parts" : Str) st_parts [] (c.ad 30) (fd 30)
  m_parts : mg ("parts" : Str) = some (.ref (c.ad 30))
  d_after : FunT c.K ("after" : Str) ("after" : Str) st_after [] (c.ad 31) (fd 31)
  m_after : mg ("after" : Str) = some (.ref (c.ad 31))
  d_first_free : FunT c.K ("first_free" : Str) ("first_free" : Str) st_first_free [] (c.ad 32) (fd 32)
  m_first_free : mg ("first_free" : Str) = some (.ref (c.ad 32))
  d_Folder_outlook : FunT c.K ("outlook" : Str) ("Folder.outlook" : Str) st_Folder_outlook [] (c.ad 64) (fd 64)
  me_Folder_outlook : Meth c.K (c.ad 59) ("outlook" : Str) (c.ad 64)
  d_Folder_grown : FunT c.K ("grown" : Str) ("Folder.grown" : Str) st_Folder_grown [] (c.ad 65) (fd 65)
  me_Folder_grown : Meth c.K (c.ad 59) ("grown" : Str) (c.ad 65)
  me_Folder_change : Meth c.K (c.ad 59) ("change" : Str) (c.ad 66)
  d_Folder_come : FunT c.K ("come" : Str) ("Folder.come" : Str) st_Folder_come [] (c.ad 67) (fd 67)
  me_Folder_come : Meth c.K (c.ad 59) ("come" : Str) (c.ad 67)
  d_FolderU_callU : FunT c.K ("__call__" : Str) ("Folder.__call__" : Str) st_FolderU_callU [] (c.ad 74) (fd 74)
  co_Folder : StX.CallO c.K (c.ad 59) (c.ad 74)
  d_Folder_bound : FunT c.K ("bound" : Str) ("Folder.bound" : Str) st_Folder_bound [] (c.ad 63) (fd 63)
  me_Folder_bound : Meth c.K (c.ad 59) ("bound" : Str) (c.ad 63)
  d_is_count : FunT c.K ("is_count" : Str) ("is_count" : Str) st_is_count [] (c.ad 21) (fd 21)
  m_is_count : mg ("is_count" : Str) = some (.ref (c.ad 21))
  d_check_index : FunT c.K ("check_index" : Str) ("check_index" : Str) st_check_index [] (c.ad 29) (fd 29)
  m_check_index : mg ("check_index" : Str) = some (.ref (c.ad 29))
  d_stretch : FunT c.K ("stretch" : Str) ("stretch" : Str) st_stretch [] (c.ad 38) (fd 38)
  d_flowing : FunT c.K ("flowing" : Str) ("flowing" : Str) st_flowing [] (c.ad 33) (fd 33)
  d_without : FunT c.K ("without" : Str) ("without" : Str) st_without [] (c.ad 39) (fd 39)
  m_without : mg ("without" : Str) = some (.ref (c.ad 39))
  m_flowing : mg ("flowing" : Str) = some (.ref (c.ad 33))
  m_stretch : mg ("stretch" : Str) = some (.ref (c.ad 38))
  d_chances : FunT c.K ("chances" : Str) ("chances" : Str) st_chances [] (c.ad 40) (fd 40)
  d_Folder_wants : FunT c.K ("wants" : Str) ("Folder.wants" : Str) st_Folder_wants [] (c.ad 75) (fd 75)
  me_Folder_wants : Meth c.K (c.ad 59) ("wants" : Str) (c.ad 75)
  m_chances : mg ("chances" : Str) = some (.ref (c.ad 40))
  d_Folder_could : FunT c.K ("could" : Str) ("Folder.could" : Str) st_Folder_could [] (c.ad 76) (fd 76)
  me_Folder_could : Meth c.K (c.ad 59) ("could" : Str) (c.ad 76)
  d_ahead_of : FunT c.K ("ahead_of" : Str) ("ahead_of" : Str) st_ahead_of [] (c.ad 34) (fd 34)
  m_ahead_of : mg ("ahead_of" : Str) = some (.ref (c.ad 34))
  d_needs : FunT c.K ("needs" : Str) ("needs" : Str) st_needs [] (c.ad 35) (fd 35)
  m_needs : mg ("needs" : Str) = some (.ref (c.ad 35))
  d_closed : FunT c.K ("closed" : Str) ("closed" : Str) st_closed [] (c.ad 36) (fd 36)
  m_closed : mg ("closed" : Str) = some (.ref (c.ad 36))
  b_sorted : mg ("sorted" : Str) = none
  d_pairs_of : FunT c.K ("pairs_of" : Str) ("pairs_of" : Str) st_pairs_of [] (c.ad 37) (fd 37)
  d_Folder_names : FunT c.K ("names" : Str) ("Folder.names" : Str) st_Folder_names [] (c.ad 73) (fd 73)
  me_Folder_names : Meth c.K (c.ad 59) ("names" : Str) (c.ad 73)
  m_pairs_of : mg ("pairs_of" : Str) = some (.ref (c.ad 37))
  d_Folder_before : FunT c.K ("before" : Str) ("Folder.before" : Str) st_Folder_before [] (c.ad 77) (fd 77)
  me_Folder_before : Meth c.K (c.ad 59) ("before" : Str) (c.ad 77)
  at_Trial_folder : NoAttr c.K (c.ad 82) ("folder" : Str)
  d_TrialU_initU : FunT c.K ("__init__" : Str) ("Trial.__init__" : Str) st_TrialU_initU [] (c.ad 83) (fd 83)
  mk_Trial : Mk c.K (c.ad 82) (c.ad 83)
  m_Trial : mg ("Trial" : Str) = some (.ref (c.ad 82))
  d_Folder_trial : FunT c.K ("trial" : Str) ("Folder.trial" : Str) st_Folder_trial [] (c.ad 80) (fd 80)
  me_Folder_trial : Meth c.K (c.ad 59) ("trial" : Str) (c.ad 80)
  d_TrialU_enterU : FunT c.K ("__enter__" : Str) ("Trial.__enter__" : Str) st_TrialU_enterU [] (c.ad 84) (fd 84)
  wi_Trialenter : PySem.W.findIn c.K (.ref (c.ad 82)) ("__enter__" : Str) = some (some (.ref (c.ad 84)))
  wf_Trialenter : PySem.W.isFn c.K (.ref (c.ad 84)) = true
  d_TrialU_exitU : FunT c.K ("__exit__" : Str) ("Trial.__exit__" : Str) st_TrialU_exitU [] (c.ad 85) (fd 85)
  wi_Trialexit : PySem.W.findIn c.K (.ref (c.ad 82)) ("__exit__" : Str) = some (some (.ref (c.ad 85)))
  wf_Trialexit : PySem.W.isFn c.K (.ref (c.ad 85)) = true
  d_Folder_attempt : FunT c.K ("attempt" : Str) ("Folder.attempt" : Str) st_Folder_attempt [] (c.ad 81) (fd 81)
  me_Folder_attempt : Meth c.K (c.ad 59) ("attempt" : Str) (c.ad 81)
  d_law : FunT c.K ("law" : Str) ("law" : Str) st_law [] (c.ad 90) (fd 90)
  is_Cleaner : PySem.W.kitOne c.K (.ref (c.ad 49)) (.ref (c.ad 49)) = some true
  in_Cleaner : InsF c.K (c.ad 49)
  nf0 : ∀ c', c.nf 0 c' = nf__law_action c'
  ncl : ∀ n c', (c.nf n c').cl = []
def isiL : IsiL := ⟨isiBB, [], [], [(49, 49, true)]⟩
section
variable {P : Program} {w : World} {mg : Str → Option Value} {base : Heap} {c : Cn} {fd : Nat → FuncData}
theorem ok_isi (F : Fx c mg fd) : IsiOk c (isiT isiL) := isiOk_of isiBB_ok (fun p hp => by cases hp) (fun p hp => by cases hp) fun p hp => by
  rcases List.mem_cons.mp hp with e | hp
  · subst e; exact ⟨F.is_Cleaner, F.in_Cleaner⟩
  cases hp
def nmT : Nat → Nat → Str := fun _ _ => ("law.<locals>._law_action" : Str)
structure Tx (c : Cn) (mg : Str → Option Value) (base : Heap) (cd Pt : Addr) : Prop where
  tb : LamX.TabB base mg cd Pt
  hm : (Pt, nmT) ∈ c.tabs
  hu : ∀ p ∈ c.tabs, p.1 = Pt → p.2 = nmT
  code : ∀ cdv, CdOf c.K (c.ad 90) cdv → cdv = .ref cd
theorem at_limit_59_82 (F : Fx c mg fd) : AtOk c [59, 82] ("limit" : Str) := fun n hn => by
  rcases List.mem_cons.mp hn with e | hn
  · subst e; exact ⟨F.cl_Folder, F.at_Folder_limit⟩
  rcases List.mem_cons.mp hn with e | hn
  · subst e; exact ⟨F.cl_Trial, F.at_Trial_limit⟩
  cases hn

/-! Folder.most -/
def ev_Folder_most : Ss := sRt (fFld [59, 82] ("limit" : Str) (fV 0))
def fn_Folder_most : FN := fnP 1 1 ev_Folder_most
theorem bo_Folder_most (F : Fx c mg fd) : BodyOk P w c.K mg base c 0 (["self"] : List Str) ("Folder.most" : Str) st_Folder_most (c.ad 61) ev_Folder_most := fun cdv A outer s H E hr tk po =>
  dss_one (ds_ret (de_fld (at_limit_59_82 F) rfl (de_v 0)))
theorem ok_Folder_most (F : Fx c mg fd) : FnOk P w c.K mg base (L2.CX P w) 1 (c.ad 61) (fd 61) (["self"] : List Str) (spF c fn_Folder_most) := def_okD F.d_Folder_most sc_Folder_most (bo_Folder_most F)

theorem bi_Folder_most (F : Fx c mg fd) : Binds c.K (fd 61) (["self"] : List Str) [] := funT_binds F.d_Folder_most fun _ _ _ _ _ _ us hl => match us, hl with | [_], _ => rfl

/-! nested: _law_action -/
def ev__law_action : Ss := sRt (fProp 59 fn_Folder_most (fV 0))
def fn__law_action : FN := fnP 1 1 ev__law_action
theorem bo__law_action (F : Fx c mg fd) (f c' : Addr) : BodyOkN P w c.K mg base c 2 (["_law_same"] : List Str) (nf__law_action c') f ev__law_action := fun A outer s H E hr tk po =>
  dss_one (ds_ret (de_prop (de_v 0) F.cl_Folder F.pr_Folder_most (ok_Folder_most F) (hr.mono (by decide)) (bi_Folder_most F)))
theorem ok__law_action (F : Fx c mg fd) (f c' : Addr) : NdefX.NOk P w c.K mg base (L2.CX P w) 3 f (nf__law_action c') (["_law_same"] : List Str) [] (fun _ => spF c fn__law_action) := nok_ok sc__law_action (fun _ _ _ us hl => match us, hl with | [_], _ => rfl) (bo__law_action F f c')

def fnT : Nat → FN
  | 0 => fn__law_action
  | _ => fun _ _ => .no
def psT : Nat → List Str
  | 0 => (["_law_same"] : List Str)
  | _ => []
theorem ok_fnT (F : Fx c mg fd) : ∀ (n : Nat) (f c' : Addr), NdefX.NOk P w c.K mg base (L2.CX P w) 3 f (c.nf n c') (psT n) [] (fun _ => spF c (fnT n))
  | 0, f, c' => by rw [F.nf0 c']; exact (ok__law_action F f c').mono (by decide)
  | _ + 1, _, _ => ⟨fun _ _ _ _ _ ⟨_, _, _, _, _, _, z⟩ => z.elim, fun _ _ _ _ _ _ _ _ _ _ _ _ _ _ _ ⟨_, _, _, _, _, _, z⟩ => z.elim⟩
theorem ok_ncl (F : Fx c mg fd) (n : Nat) (c' : Addr) : (c.nf n c').cl = [] := F.ncl n c'

def ev__law_purse_0 : Ss := sAs (.nm 2) (fA oSum (fCons (fSl false (fV 0) (fSo (fV 1)) (fSo (fB (oAdd false) (fV 1) (fK (.int 1))))) (fNil)))

def ev__law_purse_1 : Ss := sRt (fLst true (fCons (fB oMod (fA oMax2 (fCons (fB oSub (fV 2) (fB oPow (fK (.int 10)) (fK (.int 18)))) (fCons (fK (.int 0)) (fNil)))) (fB oPow (fB oPow (fK (.int 10)) (fK (.int 60))) (fK (.int 8)))) (fCons (fB oMod (fV 2) (fK (.int 2147483629))) (fCons (fK (.int 0)) (fCons (fV 1) (fNil))))))

/-! _law_purse -/
def ev__law_purse : Ss := sSeq ev__law_purse_0 (ev__law_purse_1)
def fn__law_purse : FN := fnI 2 3 ev__law_purse
theorem bo__law_purse (F : Fx c mg fd) : BodyOk P w c.K mg base c 0 (["_law_script", "_law_at", "_law_cell"] : List Str) ("_law_purse" : Str) st__law_purse (c.ad 86) ev__law_purse := fun cdv A outer s H E hr tk po =>
  dss_cons (f1 := ev__law_purse_0) (ds_as (tg := .nm 2) (de_cb (cr_sum rfl) (cs_sum rfl) F.b_sum rfl (da_cons (de_sl false rfl (de_v 0) (do_so (de_v 1)) (do_so (de_op op_add3 (os_add false) (de_v 1) (de_int)))) (da_nil))) (dg_nm sc__law_purse.nd)) (dss_one (f1 := ev__law_purse_1) (ds_ret (de_lst true (da_cons (de_op op_mod os_mod (de_cb (call_max2 rfl) cs_max2 F.b_max rfl (da_cons (de_op op_sub os_sub (de_v 2) (de_op op_powW os_pow (de_int) (de_int))) (da_cons (de_int) (da_nil)))) (de_op op_powW os_pow (de_op op_powW os_pow (de_int) (de_int)) (de_int))) (da_cons (de_op op_mod os_mod (de_v 2) (de_int)) (da_cons (de_int) (da_cons (de_v 1) (da_nil))))))))
theorem ok__law_purse (F : Fx c mg fd) : FnOk P w c.K mg base (L2.CX P w) 1 (c.ad 86) (fd 86) (["_law_script", "_law_at"] : List Str) (spF c fn__law_purse) := def_okDI F.d__law_purse sc__law_purse (bo__law_purse F)

def pl_kb__law_purse_2 : List Sr := [.p 0, .p 1]
theorem kb__law_purse_2 (F : Fx c mg fd) : KBd c.K (fd 86) (["_law_script", "_law_at"] : List Str) 2 ([] : List Str) pl_kb__law_purse_2 [] := kbd0 F.d__law_purse fun _ _ _ _ _ _ us ws l1 l2 => match us, ws, l1, l2 with | [_, _], [], _, _ => ⟨_, rfl, rfl⟩

/-! _law_purses -/
def ev__law_purses : Ss := sRt (fLc false (fIa srcR1 (fCons (fA oMax2 (fCons (fK (.int 1)) (fCons (fA oMin2 (fCons (fV 1) (fCons (fA oLen (fCons (fV 0) (fNil))) (fNil)))) (fNil)))) (fNil))) (.nm 2) [2] (fYes) (fCn (fcArr fn__law_purse 2 0 pl_kb__law_purse_2 []) (fCons (fV 0) (fCons (fV 2) (fNil))) (fNil)))
def fn__law_purses : FN := fnI 2 3 ev__law_purses
theorem bo__law_purses (F : Fx c mg fd) : BodyOk P w c.K mg base c 1 (["_law_script", "_law_few", "_law_at"] : List Str) ("_law_purses" : Str) st__law_purses (c.ad 89) ev__law_purses := fun cdv A outer s H E hr tk po =>
  dss_one (ds_ret (de_lc (own := [(("_law_at" : Str), 2)]) (t := (.nm 2)) false rfl sc__law_purses.nd (di_range1 F.b_range (da_cons (de_cb (call_max2 rfl) cs_max2 F.b_max rfl (da_cons (de_int) (da_cons (de_cb (call_min2 rfl) cs_min2 F.b_min rfl (da_cons (de_v 1) (da_cons (de_cb cr_len4 (cs_len rfl) F.b_len rfl (da_cons (de_v 0) (da_nil))) (da_nil)))) (da_nil)))) (da_nil))) (fun _ _ _ _ _ => dg_nm sc__law_purses.nd) (fun _ _ _ _ _ => dts_nil) (fun _ _ _ _ _ => de_cn (callee_def (ok__law_purse F) (hr.mono (by decide)) (kb__law_purse_2 F) (fun _ _ => .nil) takes0) (dargs_cons (ks := ([] : List Str)) (da_cons (de_v 0) (da_cons (de_v 2) (da_nil))) (dk_nil)) F.m__law_purse F.d__law_purse.kp) (ok := by kernel_rfl)))
theorem ok__law_purses (F : Fx c mg fd) : FnOk P w c.K mg base (L2.CX P w) 2 (c.ad 89) (fd 89) (["_law_script", "_law_few"] : List Str) (spF c fn__law_purses) := def_okDI F.d__law_purses sc__law_purses (bo__law_purses F)

def pl_kb__law_purses_2 : List Sr := [.p 0, .p 1]
theorem kb__law_purses_2 (F : Fx c mg fd) : KBd c.K (fd 89) (["_law_script", "_law_few"] : List Str) 2 ([] : List Str) pl_kb__law_purses_2 [] := kbd0 F.d__law_purses fun _ _ _ _ _ _ us ws l1 l2 => match us, ws, l1, l2 with | [_, _], [], _, _ => ⟨_, rfl, rfl⟩

def ev__law_mixed_0 : Ss := sAs (.nm 3) (fB (oAdd false) (fB (oMul false) (fV 0) (fK (.int 69069))) (fB (oMul false) (fB (oMul false) (fK (.int 104729)) (fV 1)) (fV 1)))

def ev__law_mixed_1 : Ss := sAs (.nm 3) (fB oMod (fB (oAdd false) (fB (oAdd false) (fV 3) (fB (oMul false) (fK (.int 7919)) (fV 2))) (fV 1)) (fK (.int 2147483647)))

def ev__law_mixed_2 : Ss := sAs (.nm 3) (fB oMod (fB (oAdd false) (fB (oMul false) (fV 3) (fV 3)) (fK (.int 40503))) (fK (.int 2147483629)))

def ev__law_mixed_3 : Ss := sRt (fB oMod (fB (oMul false) (fV 3) (fK (.int 48271))) (fK (.int 2147483587)))

/-! _law_mixed -/
def ev__law_mixed : Ss := sSeq ev__law_mixed_0 (sSeq ev__law_mixed_1 (sSeq ev__law_mixed_2 (ev__law_mixed_3)))
def fn__law_mixed : FN := fnP 3 4 ev__law_mixed
theorem bo__law_mixed (F : Fx c mg fd) : BodyOk P w c.K mg base c 0 (["_law_cell", "_law_turn", "_law_at", "_law_mixed_here"] : List Str) ("_law_mixed" : Str) st__law_mixed (c.ad 87) ev__law_mixed := fun cdv A outer s H E hr tk po =>
  dss_cons (f1 := ev__law_mixed_0) (ds_as (tg := .nm 3) (de_op op_add3 (os_add false) (de_op op_mul2 (os_mul false) (de_v 0) (de_int)) (de_op op_mul2 (os_mul false) (de_op op_mul2 (os_mul false) (de_int) (de_v 1)) (de_v 1))) (dg_nm sc__law_mixed.nd)) (dss_cons (f1 := ev__law_mixed_1) (ds_as (tg := .nm 3) (de_op op_mod os_mod (de_op op_add3 (os_add false) (de_op op_add3 (os_add false) (de_v 3) (de_op op_mul2 (os_mul false) (de_int) (de_v 2))) (de_v 1)) (de_int)) (dg_nm sc__law_mixed.nd)) (dss_cons (f1 := ev__law_mixed_2) (ds_as (tg := .nm 3) (de_op op_mod os_mod (de_op op_add3 (os_add false) (de_op op_mul2 (os_mul false) (de_v 3) (de_v 3)) (de_int)) (de_int)) (dg_nm sc__law_mixed.nd)) (dss_one (f1 := ev__law_mixed_3) (ds_ret (de_op op_mod os_mod (de_op op_mul2 (os_mul false) (de_v 3) (de_int)) (de_int))))))
theorem ok__law_mixed (F : Fx c mg fd) : FnOk P w c.K mg base (L2.CX P w) 1 (c.ad 87) (fd 87) (["_law_cell", "_law_turn", "_law_at"] : List Str) (spF c fn__law_mixed) := def_okD F.d__law_mixed sc__law_mixed (bo__law_mixed F)

def pl_kb__law_mixed_3 : List Sr := [.p 0, .p 1, .p 2]
theorem kb__law_mixed_3 (F : Fx c mg fd) : KBd c.K (fd 87) (["_law_cell", "_law_turn", "_law_at"] : List Str) 3 ([] : List Str) pl_kb__law_mixed_3 [] := kbd0 F.d__law_mixed fun _ _ _ _ _ _ us ws l1 l2 => match us, ws, l1, l2 with | [_, _, _], [], _, _ => ⟨_, rfl, rfl⟩

def ev__law_draw_b1_0 : Ss := sSI (fV 0) (fK (.int 2)) (fB (oAdd false) (fB oIx (fV 0) (fK (.int 2))) (fK (.int 1)))

def ev__law_draw_b1_1 : Ss := sAs (.nm 3) (fB (oAdd false) (fB (oMul false) (fV 3) (fK (.int 2147483587))) (fCn (fcArr fn__law_mixed 3 0 pl_kb__law_mixed_3 []) (fCons (fB oIx (fV 0) (fK (.int 1))) (fCons (fB oIx (fV 0) (fK (.int 2))) (fCons (fB oIx (fV 0) (fK (.int 3))) (fNil)))) (fNil)))

def ev__law_draw_b1 : Ss := sSeq ev__law_draw_b1_0 (ev__law_draw_b1_1)

def ev__law_draw_0 : Ss := sIf (fBt (fB (oI fun i j => .bl (decide (j < i))) (fB oIx (fV 0) (fK (.int 0))) (fK (.int 0)))) (sSeq (sAs (.nm 2) (fB oMod (fB oIx (fV 0) (fK (.int 0))) (fV 1))) (sSeq (sSI (fV 0) (fK (.int 0)) (fB oFdv (fB oIx (fV 0) (fK (.int 0))) (fV 1))) (sRt (fV 2)))) (sNx)

def ev__law_draw_1 : Ss := sAs (.nm 3) (fK (.int 0))

def ev__law_draw_2 : Ss := sFor (fIa srcR1 (fCons (fB (oAdd false) (fK (.int 1)) (fB oFdv (fU oBits (fV 1)) (fK (.int 28)))) (fNil))) (.nm 4) ev__law_draw_b1

def ev__law_draw_3 : Ss := sRt (fB oMod (fV 3) (fV 1))

/-! _law_draw -/
def ev__law_draw : Ss := sSeq ev__law_draw_0 (sSeq ev__law_draw_1 (sSeq ev__law_draw_2 (ev__law_draw_3)))
def fn__law_draw : FN := fnI 2 5 ev__law_draw
theorem bo__law_draw (F : Fx c mg fd) : BodyOk P w c.K mg base c 1 (["_law_purse_here", "_law_many", "_law_drawn", "_law_found", "_law_piece"] : List Str) ("_law_draw" : Str) st__law_draw (c.ad 88) ev__law_draw := fun cdv A outer s H E hr tk po =>
  dss_cons (f1 := ev__law_draw_0) (ds_if (dt_cmp op_gt (os_cmpI fun i j => decide (j < i)) (de_ix (ix_4 (hu_of hr)) (os_ix rfl) (de_v 0) (de_int)) (de_int)) (dss_cons (ds_as (tg := .nm 2) (de_op op_mod os_mod (de_ix (ix_4 (hu_of hr)) (os_ix rfl) (de_v 0) (de_int)) (de_v 1)) (dg_nm sc__law_draw.nd)) (dss_cons (ds_si (hu_of hr) (de_v 0) (de_int) (de_op op_fdivW os_fdv (de_ix (ix_4 (hu_of hr)) (os_ix rfl) (de_v 0) (de_int)) (de_v 1))) (dss_one (ds_ret (de_v 2))))) (dss_nil)) (dss_cons (f1 := ev__law_draw_1) (ds_as (tg := .nm 3) (de_int) (dg_nm sc__law_draw.nd)) (dss_cons (f1 := ev__law_draw_2) (ds_for (t := (.nm 4)) (fb := ev__law_draw_b1) po rfl (di_range1 F.b_range (da_cons (de_op op_add3 (os_add false) (de_int) (de_op op_fdivW os_fdv (de_bits (de_v 1)) (de_int))) (da_nil))) (dg_nm sc__law_draw.nd) (dss_cons (f1 := ev__law_draw_b1_0) (ds_si (hu_of hr) (de_v 0) (de_int) (de_op op_add3 (os_add false) (de_ix (ix_4 (hu_of hr)) (os_ix rfl) (de_v 0) (de_int)) (de_int))) (dss_one (f1 := ev__law_draw_b1_1) (ds_as (tg := .nm 3) (de_op op_add3 (os_add false) (de_op op_mul2 (os_mul false) (de_v 3) (de_int)) (de_cn (callee_def (ok__law_mixed F) (hr.mono (by decide)) (kb__law_mixed_3 F) (fun _ _ => .nil) tk) (dargs_cons (ks := ([] : List Str)) (da_cons (de_ix (ix_4 (hu_of hr)) (os_ix rfl) (de_v 0) (de_int)) (da_cons (de_ix (ix_4 (hu_of hr)) (os_ix rfl) (de_v 0) (de_int)) (da_cons (de_ix (ix_4 (hu_of hr)) (os_ix rfl) (de_v 0) (de_int)) (da_nil)))) (dk_nil)) F.m__law_mixed F.d__law_mixed.kp)) (dg_nm sc__law_draw.nd))))) (dss_one (f1 := ev__law_draw_3) (ds_ret (de_op op_mod os_mod (de_v 3) (de_v 1))))))
theorem ok__law_draw (F : Fx c mg fd) : FnOk P w c.K mg base (L2.CX P w) 2 (c.ad 88) (fd 88) (["_law_purse_here", "_law_many"] : List Str) (spF c fn__law_draw) := def_okDI F.d__law_draw sc__law_draw (bo__law_draw F)

def pl_kb__law_draw_2 : List Sr := [.p 0, .p 1]
theorem kb__law_draw_2 (F : Fx c mg fd) : KBd c.K (fd 88) (["_law_purse_here", "_law_many"] : List Str) 2 ([] : List Str) pl_kb__law_draw_2 [] := kbd0 F.d__law_draw fun _ _ _ _ _ _ us ws l1 l2 => match us, ws, l1, l2 with | [_, _], [], _, _ => ⟨_, rfl, rfl⟩

/-! is_sign -/
def ev_is_sign : Ss := sRt (fAndV (fA (oIsi (isiT isiL)) (fCons (fV 0) (fCons (fK (.bty "str")) (fNil)))) (fAndV (fB (oEq false) (fA oLen (fCons (fV 0) (fNil))) (fK (.int 1))) (fB (oIn false) (fV 0) (fK (.str [45, 48, 49, 50, 51, 52, 53, 54, 55, 56, 57, 97, 98, 99, 100, 101, 102, 103, 104, 105, 106, 107, 108, 109, 110, 111, 112, 113, 114, 115, 116, 117, 118, 119, 120, 121, 122])))))
def fn_is_sign : FN := fnP 1 1 ev_is_sign
theorem bo_is_sign (F : Fx c mg fd) : BodyOk P w c.K mg base c 0 (["value"] : List Str) ("is_sign" : Str) st_is_sign (c.ad 22) ev_is_sign := fun cdv A outer s H E hr tk po =>
  dss_one (ds_ret (de_and (de_cb call_isi (cs_isi rfl (ok_isi F)) F.b_isinstance rfl (da_cons (de_v 0) (da_cons (de_bty (n := "str") F.b_str rfl) (da_nil)))) (de_and (de_cmp (op_eq2 hr.units) (os_eq rfl) (de_cb cr_len4 (cs_len rfl) F.b_len rfl (da_cons (de_v 0) (da_nil))) (de_int)) (de_one (de_cmp (op_in3 (hu65 hr)) (os_in rfl) (de_v 0) (de_gstr (l := [45, 48, 49, 50, 51, 52, 53, 54, 55, 56, 57, 97, 98, 99, 100, 101, 102, 103, 104, 105, 106, 107, 108, 109, 110, 111, 112, 113, 114, 115, 116, 117, 118, 119, 120, 121, 122]) F.g_SIGNS.choose_spec))))))
theorem ok_is_sign (F : Fx c mg fd) : FnOk P w c.K mg base (L2.CX P w) 1 (c.ad 22) (fd 22) (["value"] : List Str) (spF c fn_is_sign) := def_okD F.d_is_sign sc_is_sign (bo_is_sign F)

def pl_kb_is_sign_1 : List Sr := [.p 0]
theorem kb_is_sign_1 (F : Fx c mg fd) : KBd c.K (fd 22) (["value"] : List Str) 1 ([] : List Str) pl_kb_is_sign_1 [] := kbd0 F.d_is_sign fun _ _ _ _ _ _ us ws l1 l2 => match us, ws, l1, l2 with | [_], [], _, _ => ⟨_, rfl, rfl⟩

def ev_are_changes_b1_0 : Ss := sIf (fOr (fNot (fBt (fA (oIsi (isiT isiL)) (fCons (fV 2) (fCons (fK (.bty "tuple")) (fNil)))))) (fOr (fBt (fB (oEq true) (fA oLen (fCons (fV 2) (fNil))) (fK (.int 2)))) (fOr (fNot (fBt (fCn (fcArr fn_is_sign 1 0 pl_kb_is_sign_1 []) (fCons (fB oIx (fV 2) (fK (.int 0))) (fNil)) (fNil)))) (fNot (fBt (fCn (fcArr fn_is_sign 1 0 pl_kb_is_sign_1 []) (fCons (fB oIx (fV 2) (fK (.int 1))) (fNil)) (fNil))))))) (sRt (fK (.bl false))) (sNx)

def ev_are_changes_b1_1 : Ss := sIf (fBt (fB (oIn false) (fB oIx (fV 2) (fK (.int 0))) (fV 1))) (sRt (fK (.bl false))) (sNx)

def ev_are_changes_b1_2 : Ss := sEx (fBM tyLst oAppend (fV 1) (fCons (fB oIx (fV 2) (fK (.int 0))) (fNil)))

def ev_are_changes_b1 : Ss := sSeq ev_are_changes_b1_0 (sSeq ev_are_changes_b1_1 (ev_are_changes_b1_2))

def ev_are_changes_0 : Ss := sIf (fOr (fNot (fBt (fA (oIsi (isiT isiL)) (fCons (fV 0) (fCons (fK (.bty "list")) (fNil)))))) (fBt (fB (oEq false) (fV 0) (fLst false (fNil))))) (sRt (fK (.bl false))) (sNx)

def ev_are_changes_1 : Ss := sAs (.nm 1) (fLst true (fNil))

def ev_are_changes_2 : Ss := sFor (fI (fV 0)) (.nm 2) ev_are_changes_b1

def ev_are_changes_3 : Ss := sRt (fK (.bl true))

/-! are_changes -/
def ev_are_changes : Ss := sSeq ev_are_changes_0 (sSeq ev_are_changes_1 (sSeq ev_are_changes_2 (ev_are_changes_3)))
def fn_are_changes : FN := fnP 1 3 ev_are_changes
theorem bo_are_changes (F : Fx c mg fd) : BodyOk P w c.K mg base c 1 (["value", "seen", "pair"] : List Str) ("are_changes" : Str) st_are_changes (c.ad 41) ev_are_changes := fun cdv A outer s H E hr tk po =>
  dss_cons (f1 := ev_are_changes_0) (ds_if (dt_w (dw_or (dt_not (dt_val (de_cb call_isi (cs_isi rfl (ok_isi F)) F.b_isinstance rfl (da_cons (de_v 0) (da_cons (de_bty (n := "list") F.b_list rfl) (da_nil)))))) (dw_or1 (dt_cmp (op_eq2 hr.units) (os_eq rfl) (de_v 0) (de_lst false (da_nil)))))) (dss_one (ds_ret (de_bl))) (dss_nil)) (dss_cons (f1 := ev_are_changes_1) (ds_as (tg := .nm 1) (de_lst true (da_nil)) (dg_nm sc_are_changes.nd)) (dss_cons (f1 := ev_are_changes_2) (ds_for (t := (.nm 2)) (fb := ev_are_changes_b1) po rfl (di_any rfl (de_v 0)) (dg_nm sc_are_changes.nd) (dss_cons (f1 := ev_are_changes_b1_0) (ds_if (dt_w (dw_or (dt_not (dt_val (de_cb call_isi (cs_isi rfl (ok_isi F)) F.b_isinstance rfl (da_cons (de_v 2) (da_cons (de_bty (n := "tuple") F.b_tuple rfl) (da_nil)))))) (dw_or (dt_cmp (op_ne2 hr.units) (os_ne rfl) (de_cb cr_len4 (cs_len rfl) F.b_len rfl (da_cons (de_v 2) (da_nil))) (de_int)) (dw_or (dt_not (dt_val (de_cn (callee_def (ok_is_sign F) (hr.mono (by decide)) (kb_is_sign_1 F) (fun _ _ => .nil) tk) (dargs_cons (ks := ([] : List Str)) (da_cons (de_ix (ix_4 (hu_of hr)) (os_ix rfl) (de_v 2) (de_int)) (da_nil)) (dk_nil)) F.m_is_sign F.d_is_sign.kp))) (dw_or1 (dt_not (dt_val (de_cn (callee_def (ok_is_sign F) (hr.mono (by decide)) (kb_is_sign_1 F) (fun _ _ => .nil) tk) (dargs_cons (ks := ([] : List Str)) (da_cons (de_ix (ix_4 (hu_of hr)) (os_ix rfl) (de_v 2) (de_int)) (da_nil)) (dk_nil)) F.m_is_sign F.d_is_sign.kp)))))))) (dss_one (ds_ret (de_bl))) (dss_nil)) (dss_cons (f1 := ev_are_changes_b1_1) (ds_if (dt_cmp (op_in3 (hu65 hr)) (os_in rfl) (de_ix (ix_4 (hu_of hr)) (os_ix rfl) (de_v 2) (de_int)) (de_v 1)) (dss_one (ds_ret (de_bl))) (dss_nil)) (dss_one (f1 := ev_are_changes_b1_2) (ds_expr (de_bm PySem.F.plainAttrs_list PySem.F.slot_list_append PySem.F.type_list_append mt_append ts_lst ms_append rfl (de_v 1) (da_cons (de_ix (ix_4 (hu_of hr)) (os_ix rfl) (de_v 2) (de_int)) (da_nil)))))))) (dss_one (f1 := ev_are_changes_3) (ds_ret (de_bl)))))
theorem ok_are_changes (F : Fx c mg fd) : FnOk P w c.K mg base (L2.CX P w) 2 (c.ad 41) (fd 41) (["value"] : List Str) (spF c fn_are_changes) := def_okD F.d_are_changes sc_are_changes (bo_are_changes F)

def pl_kb_are_changes_1 : List Sr := [.p 0]
theorem kb_are_changes_1 (F : Fx c mg fd) : KBd c.K (fd 41) (["value"] : List Str) 1 ([] : List Str) pl_kb_are_changes_1 [] := kbd0 F.d_are_changes fun _ _ _ _ _ _ us ws l1 l2 => match us, ws, l1, l2 with | [_], [], _, _ => ⟨_, rfl, rfl⟩

/-! is_whole -/
def ev_is_whole : Ss := sRt (fAndV (fA (oIsi (isiT isiL)) (fCons (fV 0) (fCons (fK (.bty "int")) (fNil)))) (fNotV (fA (oIsi (isiT isiL)) (fCons (fV 0) (fCons (fK (.bty "bool")) (fNil))))))
def fn_is_whole : FN := fnP 1 1 ev_is_whole
theorem bo_is_whole (F : Fx c mg fd) : BodyOk P w c.K mg base c 0 (["value"] : List Str) ("is_whole" : Str) st_is_whole (c.ad 20) ev_is_whole := fun cdv A outer s H E hr tk po =>
  dss_one (ds_ret (de_and (de_cb call_isi (cs_isi rfl (ok_isi F)) F.b_isinstance rfl (da_cons (de_v 0) (da_cons (de_bty (n := "int") F.b_int rfl) (da_nil)))) (de_one (de_not (de_cb call_isi (cs_isi rfl (ok_isi F)) F.b_isinstance rfl (da_cons (de_v 0) (da_cons (de_bty (n := "bool") F.b_bool rfl) (da_nil))))))))
theorem ok_is_whole (F : Fx c mg fd) : FnOk P w c.K mg base (L2.CX P w) 1 (c.ad 20) (fd 20) (["value"] : List Str) (spF c fn_is_whole) := def_okD F.d_is_whole sc_is_whole (bo_is_whole F)

def pl_kb_is_whole_1 : List Sr := [.p 0]
theorem kb_is_whole_1 (F : Fx c mg fd) : KBd c.K (fd 20) (["value"] : List Str) 1 ([] : List Str) pl_kb_is_whole_1 [] := kbd0 F.d_is_whole fun _ _ _ _ _ _ us ws l1 l2 => match us, ws, l1, l2 with | [_], [], _, _ => ⟨_, rfl, rfl⟩

def ev_are_signs_b1 : Ss := sIf (fOr (fNot (fBt (fCn (fcArr fn_is_sign 1 0 pl_kb_is_sign_1 []) (fCons (fV 2) (fNil)) (fNil)))) (fBt (fB (oIn false) (fV 2) (fSl false (fV 0) (fNo) (fSo (fV 1)))))) (sRt (fK (.bl false))) (sNx)

def ev_are_signs_0 : Ss := sIf (fOr (fNot (fBt (fA (oIsi (isiT isiL)) (fCons (fV 0) (fCons (fK (.bty "str")) (fNil)))))) (fBt (fB (oEq false) (fV 0) (fK (.str []))))) (sRt (fK (.bl false))) (sNx)

def ev_are_signs_1 : Ss := sFor (fIa srcEn (fCons (fV 0) (fNil))) (.tp [1, 2]) ev_are_signs_b1

def ev_are_signs_2 : Ss := sRt (fK (.bl true))

/-! are_signs -/
def ev_are_signs : Ss := sSeq ev_are_signs_0 (sSeq ev_are_signs_1 (ev_are_signs_2))
def fn_are_signs : FN := fnP 1 3 ev_are_signs
theorem bo_are_signs (F : Fx c mg fd) : BodyOk P w c.K mg base c 1 (["value", "at", "sign"] : List Str) ("are_signs" : Str) st_are_signs (c.ad 42) ev_are_signs := fun cdv A outer s H E hr tk po =>
  dss_cons (f1 := ev_are_signs_0) (ds_if (dt_w (dw_or (dt_not (dt_val (de_cb call_isi (cs_isi rfl (ok_isi F)) F.b_isinstance rfl (da_cons (de_v 0) (da_cons (de_bty (n := "str") F.b_str rfl) (da_nil)))))) (dw_or1 (dt_cmp (op_eq2 hr.units) (os_eq rfl) (de_v 0) (de_str (l := [])))))) (dss_one (ds_ret (de_bl))) (dss_nil)) (dss_cons (f1 := ev_are_signs_1) (ds_for (t := (.tp [1, 2])) (fb := ev_are_signs_b1) po rfl (di_enum rfl F.b_enumerate (da_cons (de_v 0) (da_nil))) (dg_tp rfl (dgs_cons sc_are_signs.nd (dgs_cons sc_are_signs.nd (dgs_nil)))) (dss_one (ds_if (dt_w (dw_or (dt_not (dt_val (de_cn (callee_def (ok_is_sign F) (hr.mono (by decide)) (kb_is_sign_1 F) (fun _ _ => .nil) tk) (dargs_cons (ks := ([] : List Str)) (da_cons (de_v 2) (da_nil)) (dk_nil)) F.m_is_sign F.d_is_sign.kp))) (dw_or1 (dt_cmp (op_in3 (hu65 hr)) (os_in rfl) (de_v 2) (de_sl false rfl (de_v 0) (do_no) (do_so (de_v 1))))))) (dss_one (ds_ret (de_bl))) (dss_nil)))) (dss_one (f1 := ev_are_signs_2) (ds_ret (de_bl))))
theorem ok_are_signs (F : Fx c mg fd) : FnOk P w c.K mg base (L2.CX P w) 2 (c.ad 42) (fd 42) (["value"] : List Str) (spF c fn_are_signs) := def_okD F.d_are_signs sc_are_signs (bo_are_signs F)

def pl_kb_are_signs_1 : List Sr := [.p 0]
theorem kb_are_signs_1 (F : Fx c mg fd) : KBd c.K (fd 42) (["value"] : List Str) 1 ([] : List Str) pl_kb_are_signs_1 [] := kbd0 F.d_are_signs fun _ _ _ _ _ _ us ws l1 l2 => match us, ws, l1, l2 with | [_], [], _, _ => ⟨_, rfl, rfl⟩

def ev_is_step_0 : Ss := sIf (fOr (fNot (fBt (fA (oIsi (isiT isiL)) (fCons (fV 0) (fCons (fK (.bty "tuple")) (fNil)))))) (fOr (fBt (fB (oEq true) (fA oLen (fCons (fV 0) (fNil))) (fK (.int 2)))) (fNot (fBt (fA (oIsi (isiT isiL)) (fCons (fB oIx (fV 0) (fK (.int 0))) (fCons (fK (.bty "str")) (fNil)))))))) (sRt (fK (.bl false))) (sNx)

def ev_is_step_1 : Ss := sIf (fBt (fB (oEq false) (fB oIx (fV 0) (fK (.int 0))) (fK (.str [99, 104, 97, 110, 103, 101])))) (sRt (fCn (fcArr fn_are_changes 1 0 pl_kb_are_changes_1 []) (fCons (fB oIx (fV 0) (fK (.int 1))) (fNil)) (fNil))) (sNx)

def ev_is_step_2 : Ss := sIf (fBt (fB (oEq false) (fB oIx (fV 0) (fK (.int 0))) (fK (.str [99, 117, 116])))) (sRt (fAndV (fCn (fcArr fn_is_whole 1 0 pl_kb_is_whole_1 []) (fCons (fB oIx (fV 0) (fK (.int 1))) (fNil)) (fNil)) (fB (oI fun i j => .bl (decide (j ≤ i))) (fB oIx (fV 0) (fK (.int 1))) (fK (.int 1))))) (sNx)

def ev_is_step_3 : Ss := sRt (fAndV (fB (oIn false) (fB oIx (fV 0) (fK (.int 0))) (fTup (fCons (fK (.str [115, 116, 114, 105, 107, 101])) (fCons (fK (.str [115, 113, 117, 101, 101, 122, 101])) (fCons (fK (.str [97, 104, 101, 97, 100])) (fNil)))))) (fCn (fcArr fn_are_signs 1 0 pl_kb_are_signs_1 []) (fCons (fB oIx (fV 0) (fK (.int 1))) (fNil)) (fNil)))

/-! is_step -/
def ev_is_step : Ss := sSeq ev_is_step_0 (sSeq ev_is_step_1 (sSeq ev_is_step_2 (ev_is_step_3)))
def fn_is_step : FN := fnP 1 1 ev_is_step
theorem bo_is_step (F : Fx c mg fd) : BodyOk P w c.K mg base c 2 (["value"] : List Str) ("is_step" : Str) st_is_step (c.ad 43) ev_is_step := fun cdv A outer s H E hr tk po =>
  dss_cons (f1 := ev_is_step_0) (ds_if (dt_w (dw_or (dt_not (dt_val (de_cb call_isi (cs_isi rfl (ok_isi F)) F.b_isinstance rfl (da_cons (de_v 0) (da_cons (de_bty (n := "tuple") F.b_tuple rfl) (da_nil)))))) (dw_or (dt_cmp (op_ne2 hr.units) (os_ne rfl) (de_cb cr_len4 (cs_len rfl) F.b_len rfl (da_cons (de_v 0) (da_nil))) (de_int)) (dw_or1 (dt_not (dt_val (de_cb call_isi (cs_isi rfl (ok_isi F)) F.b_isinstance rfl (da_cons (de_ix (ix_4 (hu_of hr)) (os_ix rfl) (de_v 0) (de_int)) (da_cons (de_bty (n := "str") F.b_str rfl) (da_nil)))))))))) (dss_one (ds_ret (de_bl))) (dss_nil)) (dss_cons (f1 := ev_is_step_1) (ds_if (dt_cmp (op_eq2 hr.units) (os_eq rfl) (de_ix (ix_4 (hu_of hr)) (os_ix rfl) (de_v 0) (de_int)) (de_str (l := [99, 104, 97, 110, 103, 101]))) (dss_one (ds_ret (de_cn (callee_def (ok_are_changes F) (hr.mono (by decide)) (kb_are_changes_1 F) (fun _ _ => .nil) tk) (dargs_cons (ks := ([] : List Str)) (da_cons (de_ix (ix_4 (hu_of hr)) (os_ix rfl) (de_v 0) (de_int)) (da_nil)) (dk_nil)) F.m_are_changes F.d_are_changes.kp))) (dss_nil)) (dss_cons (f1 := ev_is_step_2) (ds_if (dt_cmp (op_eq2 hr.units) (os_eq rfl) (de_ix (ix_4 (hu_of hr)) (os_ix rfl) (de_v 0) (de_int)) (de_str (l := [99, 117, 116]))) (dss_one (ds_ret (de_and (de_cn (callee_def (ok_is_whole F) (hr.mono (by decide)) (kb_is_whole_1 F) (fun _ _ => .nil) tk) (dargs_cons (ks := ([] : List Str)) (da_cons (de_ix (ix_4 (hu_of hr)) (os_ix rfl) (de_v 0) (de_int)) (da_nil)) (dk_nil)) F.m_is_whole F.d_is_whole.kp) (de_one (de_cmp op_ge (os_cmpI fun i j => decide (j ≤ i)) (de_ix (ix_4 (hu_of hr)) (os_ix rfl) (de_v 0) (de_int)) (de_int)))))) (dss_nil)) (dss_one (f1 := ev_is_step_3) (ds_ret (de_and (de_cmp (op_in3 (hu65 hr)) (os_in rfl) (de_ix (ix_4 (hu_of hr)) (os_ix rfl) (de_v 0) (de_int)) (de_tup (da_cons (de_str (l := [115, 116, 114, 105, 107, 101])) (da_cons (de_str (l := [115, 113, 117, 101, 101, 122, 101])) (da_cons (de_str (l := [97, 104, 101, 97, 100])) (da_nil)))))) (de_one (de_cn (callee_def (ok_are_signs F) (hr.mono (by decide)) (kb_are_signs_1 F) (fun _ _ => .nil) tk) (dargs_cons (ks := ([] : List Str)) (da_cons (de_ix (ix_4 (hu_of hr)) (os_ix rfl) (de_v 0) (de_int)) (da_nil)) (dk_nil)) F.m_are_signs F.d_are_signs.kp)))))))
theorem ok_is_step (F : Fx c mg fd) : FnOk P w c.K mg base (L2.CX P w) 3 (c.ad 43) (fd 43) (["value"] : List Str) (spF c fn_is_step) := def_okD F.d_is_step sc_is_step (bo_is_step F)

def pl_kb_is_step_1 : List Sr := [.p 0]
theorem kb_is_step_1 (F : Fx c mg fd) : KBd c.K (fd 43) (["value"] : List Str) 1 ([] : List Str) pl_kb_is_step_1 [] := kbd0 F.d_is_step fun _ _ _ _ _ _ us ws l1 l2 => match us, ws, l1, l2 with | [_], [], _, _ => ⟨_, rfl, rfl⟩

/-! are_steps -/
def ev_are_steps : Ss := sRt (fAndV (fA (oIsi (isiT isiL)) (fCons (fV 0) (fCons (fK (.bty "list")) (fNil)))) (fB (oEq false) (fLc false (fI (fV 0)) (.nm 1) [1] (fNot (fBt (fCn (fcArr fn_is_step 1 0 pl_kb_is_step_1 []) (fCons (fV 1) (fNil)) (fNil)))) (fV 1)) (fLst false (fNil))))
def fn_are_steps : FN := fnP 1 2 ev_are_steps
theorem bo_are_steps (F : Fx c mg fd) : BodyOk P w c.K mg base c 3 (["value", "step"] : List Str) ("are_steps" : Str) st_are_steps (c.ad 44) ev_are_steps := fun cdv A outer s H E hr tk po =>
  dss_one (ds_ret (de_and (de_cb call_isi (cs_isi rfl (ok_isi F)) F.b_isinstance rfl (da_cons (de_v 0) (da_cons (de_bty (n := "list") F.b_list rfl) (da_nil)))) (de_one (de_cmp (op_eq2 hr.units) (os_eq rfl) (de_lc (own := [(("step" : Str), 1)]) (t := (.nm 1)) false rfl sc_are_steps.nd (di_any rfl (de_v 0)) (fun _ _ _ _ _ => dg_nm sc_are_steps.nd) (fun _ _ _ _ _ => dts_one (dt_not (dt_val (de_cn (callee_def (ok_is_step F) (hr.mono (by decide)) (kb_is_step_1 F) (fun _ _ => .nil) takes0) (dargs_cons (ks := ([] : List Str)) (da_cons (de_v 1) (da_nil)) (dk_nil)) F.m_is_step F.d_is_step.kp)))) (fun _ _ _ _ _ => de_v 1) (ok := by kernel_rfl)) (de_lst false (da_nil))))))
theorem ok_are_steps (F : Fx c mg fd) : FnOk P w c.K mg base (L2.CX P w) 4 (c.ad 44) (fd 44) (["value"] : List Str) (spF c fn_are_steps) := def_okD F.d_are_steps sc_are_steps (bo_are_steps F)

def pl_kb_are_steps_1 : List Sr := [.p 0]
theorem kb_are_steps_1 (F : Fx c mg fd) : KBd c.K (fd 44) (["value"] : List Str) 1 ([] : List Str) pl_kb_are_steps_1 [] := kbd0 F.d_are_steps fun _ _ _ _ _ _ us ws l1 l2 => match us, ws, l1, l2 with | [_], [], _, _ => ⟨_, rfl, rfl⟩

theorem at_row_49 (F : Fx c mg fd) : AtOk c [49] ("row" : Str) := fun n hn => by
  rcases List.mem_cons.mp hn with e | hn
  · subst e; exact ⟨F.cl_Cleaner, F.at_Cleaner_row⟩
  cases hn

/-! copied -/
def ev_copied : Ss := sRt (fIf (fBt (fB (oEq false) (fB oIx (fV 0) (fK (.int 0))) (fK (.str [99, 104, 97, 110, 103, 101])))) (fTup (fCons (fB oIx (fV 0) (fK (.int 0))) (fCons (fA (oList false) (fCons (fB oIx (fV 0) (fK (.int 1))) (fNil))) (fNil)))) (fV 0))
def fn_copied : FN := fnP 1 1 ev_copied
theorem bo_copied (F : Fx c mg fd) : BodyOk P w c.K mg base c 0 (["step"] : List Str) ("copied" : Str) st_copied (c.ad 45) ev_copied := fun cdv A outer s H E hr tk po =>
  dss_one (ds_ret (de_if (dt_cmp (op_eq2 hr.units) (os_eq rfl) (de_ix (ix_4 (hu_of hr)) (os_ix rfl) (de_v 0) (de_int)) (de_str (l := [99, 104, 97, 110, 103, 101]))) (de_tup (da_cons (de_ix (ix_4 (hu_of hr)) (os_ix rfl) (de_v 0) (de_int)) (da_cons (de_ct (cr_list2 rfl) (cs_list rfl false) F.b_list rfl (da_cons (de_ix (ix_4 (hu_of hr)) (os_ix rfl) (de_v 0) (de_int)) (da_nil))) (da_nil)))) (de_v 0)))
theorem ok_copied (F : Fx c mg fd) : FnOk P w c.K mg base (L2.CX P w) 1 (c.ad 45) (fd 45) (["step"] : List Str) (spF c fn_copied) := def_okD F.d_copied sc_copied (bo_copied F)

def pl_kb_copied_1 : List Sr := [.p 0]
theorem kb_copied_1 (F : Fx c mg fd) : KBd c.K (fd 45) (["step"] : List Str) 1 ([] : List Str) pl_kb_copied_1 [] := kbd0 F.d_copied fun _ _ _ _ _ _ us ws l1 l2 => match us, ws, l1, l2 with | [_], [], _, _ => ⟨_, rfl, rfl⟩

def ev_CleanerU_initU_0 : Ss := sIf (fNot (fBt (fCn (fcArr fn_are_steps 1 0 pl_kb_are_steps_1 []) (fCons (fV 1) (fNil)) (fNil)))) (sNo) (sNx)

def ev_CleanerU_initU_1 : Ss := sFl [49] ("row" : Str) (fV 0) (fLc false (fI (fV 1)) (.nm 2) [2] (fYes) (fCn (fcArr fn_copied 1 0 pl_kb_copied_1 []) (fCons (fV 2) (fNil)) (fNil)))

/-! Cleaner.__init__ -/
-- not walked: row 209 (Raise)
def ev_CleanerU_initU : Ss := sSeq ev_CleanerU_initU_0 (ev_CleanerU_initU_1)
def fn_CleanerU_initU : FN := fnP 2 3 ev_CleanerU_initU
theorem bo_CleanerU_initU (F : Fx c mg fd) : BodyOk P w c.K mg base c 4 (["self", "steps", "step"] : List Str) ("Cleaner.__init__" : Str) st_CleanerU_initU (c.ad 50) ev_CleanerU_initU := fun cdv A outer s H E hr tk po =>
  dss_cons (f1 := ev_CleanerU_initU_0) (ds_if (dt_not (dt_val (de_cn (callee_def (ok_are_steps F) (hr.mono (by decide)) (kb_are_steps_1 F) (fun _ _ => .nil) tk) (dargs_cons (ks := ([] : List Str)) (da_cons (de_v 1) (da_nil)) (dk_nil)) F.m_are_steps F.d_are_steps.kp))) (dss_one (ds_no)) (dss_nil)) (dss_one (f1 := ev_CleanerU_initU_1) (ds_fl (at_row_49 F) rfl (de_v 0) (de_lc (own := [(("step" : Str), 2)]) (t := (.nm 2)) false rfl sc_CleanerU_initU.nd (di_any rfl (de_v 1)) (fun _ _ _ _ _ => dg_nm sc_CleanerU_initU.nd) (fun _ _ _ _ _ => dts_nil) (fun _ _ _ _ _ => de_cn (callee_def (ok_copied F) (hr.mono (by decide)) (kb_copied_1 F) (fun _ _ => .nil) takes0) (dargs_cons (ks := ([] : List Str)) (da_cons (de_v 2) (da_nil)) (dk_nil)) F.m_copied F.d_copied.kp) (ok := by kernel_rfl))))
theorem ok_CleanerU_initU (F : Fx c mg fd) : FnOk P w c.K mg base (L2.CX P w) 5 (c.ad 50) (fd 50) (["self", "steps"] : List Str) (spF c fn_CleanerU_initU) := def_okD F.d_CleanerU_initU sc_CleanerU_initU (bo_CleanerU_initU F)

def pl_kb_CleanerU_initU_2 : List Sr := [.p 0, .p 1]
theorem kb_CleanerU_initU_2 (F : Fx c mg fd) : KBd c.K (fd 50) (["self", "steps"] : List Str) 2 ([] : List Str) pl_kb_CleanerU_initU_2 [] := kbd0 F.d_CleanerU_initU fun _ _ _ _ _ _ us ws l1 l2 => match us, ws, l1, l2 with | [_, _], [], _, _ => ⟨_, rfl, rfl⟩

/-! check_cleaner -/
-- not walked: row 235 (Raise)
def ev_check_cleaner : Ss := sIf (fNot (fBt (fA (oIsi (isiT isiL)) (fCons (fV 0) (fCons (fK (.stc 49)) (fNil)))))) (sNo) (sNx)
def fn_check_cleaner : FN := fnP 1 1 ev_check_cleaner
theorem bo_check_cleaner (F : Fx c mg fd) : BodyOk P w c.K mg base c 0 (["cleaner"] : List Str) ("check_cleaner" : Str) st_check_cleaner (c.ad 57) ev_check_cleaner := fun cdv A outer s H E hr tk po =>
  dss_one (ds_if (dt_not (dt_val (de_cb call_isi (cs_isi rfl (ok_isi F)) F.b_isinstance rfl (da_cons (de_v 0) (da_cons (de_gst (n := 49) F.m_Cleaner) (da_nil)))))) (dss_one (ds_no)) (dss_nil))
theorem ok_check_cleaner (F : Fx c mg fd) : FnOk P w c.K mg base (L2.CX P w) 1 (c.ad 57) (fd 57) (["cleaner"] : List Str) (spF c fn_check_cleaner) := def_okD F.d_check_cleaner sc_check_cleaner (bo_check_cleaner F)

def pl_kb_check_cleaner_1 : List Sr := [.p 0]
theorem kb_check_cleaner_1 (F : Fx c mg fd) : KBd c.K (fd 57) (["cleaner"] : List Str) 1 ([] : List Str) pl_kb_check_cleaner_1 [] := kbd0 F.d_check_cleaner fun _ _ _ _ _ _ us ws l1 l2 => match us, ws, l1, l2 with | [_], [], _, _ => ⟨_, rfl, rfl⟩

/-! is_width -/
def ev_is_width : Ss := sRt (fOrV (fB (oIsN false) (fV 0) (fK .non)) (fAndV (fCn (fcArr fn_is_whole 1 0 pl_kb_is_whole_1 []) (fCons (fV 0) (fNil)) (fNil)) (fChain (oI fun i j => .bl (decide (i ≤ j))) (oI fun i j => .bl (decide (i ≤ j))) (fK (.int 1)) (fV 0) (fK (.int 40)))))
def fn_is_width : FN := fnP 1 1 ev_is_width
theorem bo_is_width (F : Fx c mg fd) : BodyOk P w c.K mg base c 1 (["value"] : List Str) ("is_width" : Str) st_is_width (c.ad 25) ev_is_width := fun cdv A outer s H E hr tk po =>
  dss_one (ds_ret (de_or (de_cmp op_isN os_isN (de_v 0) (de_non)) (de_one (de_and (de_cn (callee_def (ok_is_whole F) (hr.mono (by decide)) (kb_is_whole_1 F) (fun _ _ => .nil) tk) (dargs_cons (ks := ([] : List Str)) (da_cons (de_v 0) (da_nil)) (dk_nil)) F.m_is_whole F.d_is_whole.kp) (de_one (de_chain op_le op_le (os_cmpI fun i j => decide (i ≤ j)) (os_cmpI fun i j => decide (i ≤ j)) (de_int) (de_v 0) (de_int)))))))
theorem ok_is_width (F : Fx c mg fd) : FnOk P w c.K mg base (L2.CX P w) 2 (c.ad 25) (fd 25) (["value"] : List Str) (spF c fn_is_width) := def_okD F.d_is_width sc_is_width (bo_is_width F)

def pl_kb_is_width_1 : List Sr := [.p 0]
theorem kb_is_width_1 (F : Fx c mg fd) : KBd c.K (fd 25) (["value"] : List Str) 1 ([] : List Str) pl_kb_is_width_1 [] := kbd0 F.d_is_width fun _ _ _ _ _ _ us ws l1 l2 => match us, ws, l1, l2 with | [_], [], _, _ => ⟨_, rfl, rfl⟩

/-! check_width -/
-- not walked: row 76 (Raise)
def ev_check_width : Ss := sIf (fNot (fBt (fCn (fcArr fn_is_width 1 0 pl_kb_is_width_1 []) (fCons (fV 0) (fNil)) (fNil)))) (sNo) (sNx)
def fn_check_width : FN := fnP 1 1 ev_check_width
theorem bo_check_width (F : Fx c mg fd) : BodyOk P w c.K mg base c 2 (["width"] : List Str) ("check_width" : Str) st_check_width (c.ad 28) ev_check_width := fun cdv A outer s H E hr tk po =>
  dss_one (ds_if (dt_not (dt_val (de_cn (callee_def (ok_is_width F) (hr.mono (by decide)) (kb_is_width_1 F) (fun _ _ => .nil) tk) (dargs_cons (ks := ([] : List Str)) (da_cons (de_v 0) (da_nil)) (dk_nil)) F.m_is_width F.d_is_width.kp))) (dss_one (ds_no)) (dss_nil))
theorem ok_check_width (F : Fx c mg fd) : FnOk P w c.K mg base (L2.CX P w) 3 (c.ad 28) (fd 28) (["width"] : List Str) (spF c fn_check_width) := def_okD F.d_check_width sc_check_width (bo_check_width F)

def pl_kb_check_width_1 : List Sr := [.p 0]
theorem kb_check_width_1 (F : Fx c mg fd) : KBd c.K (fd 28) (["width"] : List Str) 1 ([] : List Str) pl_kb_check_width_1 [] := kbd0 F.d_check_width fun _ _ _ _ _ _ us ws l1 l2 => match us, ws, l1, l2 with | [_], [], _, _ => ⟨_, rfl, rfl⟩

theorem at_cleaner_59 (F : Fx c mg fd) : AtOk c [59] ("cleaner" : Str) := fun n hn => by
  rcases List.mem_cons.mp hn with e | hn
  · subst e; exact ⟨F.cl_Folder, F.at_Folder_cleaner⟩
  cases hn

theorem at_width_59 (F : Fx c mg fd) : AtOk c [59] ("width" : Str) := fun n hn => by
  rcases List.mem_cons.mp hn with e | hn
  · subst e; exact ⟨F.cl_Folder, F.at_Folder_width⟩
  cases hn

theorem at_rows_59_82 (F : Fx c mg fd) : AtOk c [59, 82] ("rows" : Str) := fun n hn => by
  rcases List.mem_cons.mp hn with e | hn
  · subst e; exact ⟨F.cl_Folder, F.at_Folder_rows⟩
  rcases List.mem_cons.mp hn with e | hn
  · subst e; exact ⟨F.cl_Trial, F.at_Trial_rows⟩
  cases hn

theorem at_past_59_82 (F : Fx c mg fd) : AtOk c [59, 82] ("past" : Str) := fun n hn => by
  rcases List.mem_cons.mp hn with e | hn
  · subst e; exact ⟨F.cl_Folder, F.at_Folder_past⟩
  rcases List.mem_cons.mp hn with e | hn
  · subst e; exact ⟨F.cl_Trial, F.at_Trial_past⟩
  cases hn

def ev_FolderU_initU_0 : Ss := sIf (fBt (fB (oIsN true) (fV 1) (fK .non))) (sEx (fCn (fcArr fn_check_cleaner 1 0 pl_kb_check_cleaner_1 []) (fCons (fV 1) (fNil)) (fNil))) (sNx)

def ev_FolderU_initU_1 : Ss := sEx (fCn (fcArr fn_check_width 1 0 pl_kb_check_width_1 []) (fCons (fV 2) (fNil)) (fNil))

def ev_FolderU_initU_2 : Ss := sFl [59] ("cleaner" : Str) (fV 0) (fIf (fBt (fB (oIsN false) (fV 1) (fK .non))) (fCn (fcMk 49 true (fcArr fn_CleanerU_initU 2 0 pl_kb_CleanerU_initU_2 [])) (fCons (fLst false (fNil)) (fNil)) (fNil)) (fV 1))

def ev_FolderU_initU_3 : Ss := sFl [59] ("width" : Str) (fV 0) (fV 2)

def ev_FolderU_initU_4 : Ss := sFl [59, 82] ("rows" : Str) (fV 0) (fLst false (fNil))

def ev_FolderU_initU_5 : Ss := sFl [59, 82] ("limit" : Str) (fV 0) (fK .non)

def ev_FolderU_initU_6 : Ss := sFl [59, 82] ("past" : Str) (fV 0) (fLst false (fNil))

/-! Folder.__init__ -/
def ev_FolderU_initU : Ss := sSeq ev_FolderU_initU_0 (sSeq ev_FolderU_initU_1 (sSeq ev_FolderU_initU_2 (sSeq ev_FolderU_initU_3 (sSeq ev_FolderU_initU_4 (sSeq ev_FolderU_initU_5 (ev_FolderU_initU_6))))))
def fn_FolderU_initU : FN := fnP 3 3 ev_FolderU_initU
theorem bo_FolderU_initU (F : Fx c mg fd) : BodyOk P w c.K mg base c 6 (["self", "cleaner", "width"] : List Str) ("Folder.__init__" : Str) st_FolderU_initU (c.ad 60) ev_FolderU_initU := fun cdv A outer s H E hr tk po =>
  dss_cons (f1 := ev_FolderU_initU_0) (ds_if (dt_cmp op_notN os_notN (de_v 1) (de_non)) (dss_one (ds_expr (de_cn (callee_def (ok_check_cleaner F) (hr.mono (by decide)) (kb_check_cleaner_1 F) (fun _ _ => .nil) tk) (dargs_cons (ks := ([] : List Str)) (da_cons (de_v 1) (da_nil)) (dk_nil)) F.m_check_cleaner F.d_check_cleaner.kp))) (dss_nil)) (dss_cons (f1 := ev_FolderU_initU_1) (ds_expr (de_cn (callee_def (ok_check_width F) (hr.mono (by decide)) (kb_check_width_1 F) (fun _ _ => .nil) tk) (dargs_cons (ks := ([] : List Str)) (da_cons (de_v 2) (da_nil)) (dk_nil)) F.m_check_width F.d_check_width.kp)) (dss_cons (f1 := ev_FolderU_initU_2) (ds_fl (at_cleaner_59 F) rfl (de_v 0) (de_if (dt_cmp op_isN os_isN (de_v 1) (de_non)) (de_cn (callee_make true F.mk_Cleaner (ok_CleanerU_initU F) (hr.mono (by decide)) (kb_CleanerU_initU_2 F) (fun _ _ => .nil) tk) (dargs_cons (ks := ([] : List Str)) (da_cons (de_lst false (da_nil)) (da_nil)) (dk_nil)) F.m_Cleaner F.mk_Cleaner.kp) (de_v 1))) (dss_cons (f1 := ev_FolderU_initU_3) (ds_fl (at_width_59 F) rfl (de_v 0) (de_v 2)) (dss_cons (f1 := ev_FolderU_initU_4) (ds_fl (at_rows_59_82 F) rfl (de_v 0) (de_lst false (da_nil))) (dss_cons (f1 := ev_FolderU_initU_5) (ds_fl (at_limit_59_82 F) rfl (de_v 0) (de_non)) (dss_one (f1 := ev_FolderU_initU_6) (ds_fl (at_past_59_82 F) rfl (de_v 0) (de_lst false (da_nil)))))))))
theorem ok_FolderU_initU (F : Fx c mg fd) : FnOk P w c.K mg base (L2.CX P w) 7 (c.ad 60) (fd 60) (["self", "cleaner", "width"] : List Str) (spF c fn_FolderU_initU) := def_okD F.d_FolderU_initU sc_FolderU_initU (bo_FolderU_initU F)

def pl_kb_FolderU_initU_1_width_cleaner : List Sr := [.p 0, .k 1, .k 0]
theorem kb_FolderU_initU_1_width_cleaner (F : Fx c mg fd) : KBd c.K (fd 60) (["self", "cleaner", "width"] : List Str) 1 (["width", "cleaner"] : List Str) pl_kb_FolderU_initU_1_width_cleaner [.non, .non] := kbd1 F.d_FolderU_initU (by simp) fun _ _ _ _ _ _ _ us ws its l1 l2 l3 => match us, ws, its, l1, l2, l3 with | [_], [_, _], [_, _], _, _, _ => ⟨_, _, rfl, rfl, rfl⟩

def pl_kb_FolderU_initU_1_width : List Sr := [.p 0, .d 0, .k 0]
theorem kb_FolderU_initU_1_width (F : Fx c mg fd) : KBd c.K (fd 60) (["self", "cleaner", "width"] : List Str) 1 (["width"] : List Str) pl_kb_FolderU_initU_1_width [.non, .non] := kbd1 F.d_FolderU_initU (by simp) fun _ _ _ _ _ _ _ us ws its l1 l2 l3 => match us, ws, its, l1, l2, l3 with | [_], [_], [_, _], _, _, _ => ⟨_, _, rfl, rfl, rfl⟩

def pl_kb_FolderU_initU_1_cleaner : List Sr := [.p 0, .k 0, .d 1]
theorem kb_FolderU_initU_1_cleaner (F : Fx c mg fd) : KBd c.K (fd 60) (["self", "cleaner", "width"] : List Str) 1 (["cleaner"] : List Str) pl_kb_FolderU_initU_1_cleaner [.non, .non] := kbd1 F.d_FolderU_initU (by simp) fun _ _ _ _ _ _ _ us ws its l1 l2 l3 => match us, ws, its, l1, l2, l3 with | [_], [_], [_, _], _, _, _ => ⟨_, _, rfl, rfl, rfl⟩

/-! is_name -/
def ev_is_name : Ss := sRt (fAndV (fA (oIsi (isiT isiL)) (fCons (fV 0) (fCons (fK (.bty "str")) (fNil)))) (fAndV (fB (oEq true) (fV 0) (fK (.str []))) (fB (oEq false) (fLc false (fI (fV 0)) (.nm 1) [1] (fBt (fB (oIn true) (fV 1) (fK (.str [45, 48, 49, 50, 51, 52, 53, 54, 55, 56, 57, 97, 98, 99, 100, 101, 102, 103, 104, 105, 106, 107, 108, 109, 110, 111, 112, 113, 114, 115, 116, 117, 118, 119, 120, 121, 122])))) (fV 1)) (fLst false (fNil)))))
def fn_is_name : FN := fnP 1 2 ev_is_name
theorem bo_is_name (F : Fx c mg fd) : BodyOk P w c.K mg base c 0 (["value", "sign"] : List Str) ("is_name" : Str) st_is_name (c.ad 23) ev_is_name := fun cdv A outer s H E hr tk po =>
  dss_one (ds_ret (de_and (de_cb call_isi (cs_isi rfl (ok_isi F)) F.b_isinstance rfl (da_cons (de_v 0) (da_cons (de_bty (n := "str") F.b_str rfl) (da_nil)))) (de_and (de_cmp (op_ne2 hr.units) (os_ne rfl) (de_v 0) (de_str (l := []))) (de_one (de_cmp (op_eq2 hr.units) (os_eq rfl) (de_lc (own := [(("sign" : Str), 1)]) (t := (.nm 1)) false rfl sc_is_name.nd (di_any rfl (de_v 0)) (fun _ _ _ _ _ => dg_nm sc_is_name.nd) (fun _ _ _ _ _ => dts_one (dt_cmp (op_ni3 (hu65 hr)) (os_ni rfl) (de_v 1) (de_gstr (l := [45, 48, 49, 50, 51, 52, 53, 54, 55, 56, 57, 97, 98, 99, 100, 101, 102, 103, 104, 105, 106, 107, 108, 109, 110, 111, 112, 113, 114, 115, 116, 117, 118, 119, 120, 121, 122]) F.g_SIGNS.choose_spec))) (fun _ _ _ _ _ => de_v 1) (ok := by kernel_rfl)) (de_lst false (da_nil)))))))
theorem ok_is_name (F : Fx c mg fd) : FnOk P w c.K mg base (L2.CX P w) 1 (c.ad 23) (fd 23) (["value"] : List Str) (spF c fn_is_name) := def_okD F.d_is_name sc_is_name (bo_is_name F)

def pl_kb_is_name_1 : List Sr := [.p 0]
theorem kb_is_name_1 (F : Fx c mg fd) : KBd c.K (fd 23) (["value"] : List Str) 1 ([] : List Str) pl_kb_is_name_1 [] := kbd0 F.d_is_name fun _ _ _ _ _ _ us ws l1 l2 => match us, ws, l1, l2 with | [_], [], _, _ => ⟨_, rfl, rfl⟩

/-! check_name -/
-- not walked: row 70 (Raise)
def ev_check_name : Ss := sIf (fNot (fBt (fCn (fcArr fn_is_name 1 0 pl_kb_is_name_1 []) (fCons (fV 0) (fNil)) (fNil)))) (sNo) (sNx)
def fn_check_name : FN := fnP 1 1 ev_check_name
theorem bo_check_name (F : Fx c mg fd) : BodyOk P w c.K mg base c 1 (["name"] : List Str) ("check_name" : Str) st_check_name (c.ad 26) ev_check_name := fun cdv A outer s H E hr tk po =>
  dss_one (ds_if (dt_not (dt_val (de_cn (callee_def (ok_is_name F) (hr.mono (by decide)) (kb_is_name_1 F) (fun _ _ => .nil) tk) (dargs_cons (ks := ([] : List Str)) (da_cons (de_v 0) (da_nil)) (dk_nil)) F.m_is_name F.d_is_name.kp))) (dss_one (ds_no)) (dss_nil))
theorem ok_check_name (F : Fx c mg fd) : FnOk P w c.K mg base (L2.CX P w) 2 (c.ad 26) (fd 26) (["name"] : List Str) (spF c fn_check_name) := def_okD F.d_check_name sc_check_name (bo_check_name F)

def pl_kb_check_name_1 : List Sr := [.p 0]
theorem kb_check_name_1 (F : Fx c mg fd) : KBd c.K (fd 26) (["name"] : List Str) 1 ([] : List Str) pl_kb_check_name_1 [] := kbd0 F.d_check_name fun _ _ _ _ _ _ us ws l1 l2 => match us, ws, l1, l2 with | [_], [], _, _ => ⟨_, rfl, rfl⟩

def ev_Folder_change_0 : Ss := sFl [59, 82] ("past" : Str) (fV 0) (fB (oAdd false) (fFld [59, 82] ("past" : Str) (fV 0)) (fLst false (fCons (fFld [59, 82] ("rows" : Str) (fV 0)) (fNil))))

def ev_Folder_change_1 : Ss := sFl [59, 82] ("rows" : Str) (fV 0) (fV 1)

/-! Folder.change -/
def ev_Folder_change : Ss := sSeq ev_Folder_change_0 (ev_Folder_change_1)
def fn_Folder_change : FN := fnP 2 2 ev_Folder_change
theorem bo_Folder_change (F : Fx c mg fd) : BodyOk P w c.K mg base c 0 (["self", "rows"] : List Str) ("Folder.change" : Str) st_Folder_change (c.ad 66) ev_Folder_change := fun cdv A outer s H E hr tk po =>
  dss_cons (f1 := ev_Folder_change_0) (ds_fl (at_past_59_82 F) rfl (de_v 0) (de_op op_add3 (os_add false) (de_fld (at_past_59_82 F) rfl (de_v 0)) (de_lst false (da_cons (de_fld (at_rows_59_82 F) rfl (de_v 0)) (da_nil))))) (dss_one (f1 := ev_Folder_change_1) (ds_fl (at_rows_59_82 F) rfl (de_v 0) (de_v 1)))
theorem ok_Folder_change (F : Fx c mg fd) : FnOk P w c.K mg base (L2.CX P w) 1 (c.ad 66) (fd 66) (["self", "rows"] : List Str) (spF c fn_Folder_change) := def_okD F.d_Folder_change sc_Folder_change (bo_Folder_change F)

def ev_squeezed_b1 : Ss := sIf (fOr (fBt (fB (oIn true) (fV 3) (fV 1))) (fNot (fBt (fBM tyStr oEndsw (fV 2) (fCons (fV 3) (fNil)))))) (sAs (.nm 2) (fB (oAdd false) (fV 2) (fV 3))) (sNx)

def ev_squeezed_0 : Ss := sAs (.nm 2) (fK (.str []))

def ev_squeezed_1 : Ss := sFor (fI (fV 0)) (.nm 3) ev_squeezed_b1

def ev_squeezed_2 : Ss := sRt (fV 2)

/-! squeezed -/
def ev_squeezed : Ss := sSeq ev_squeezed_0 (sSeq ev_squeezed_1 (ev_squeezed_2))
def fn_squeezed : FN := fnP 2 4 ev_squeezed
theorem bo_squeezed (F : Fx c mg fd) : BodyOk P w c.K mg base c 0 (["text", "signs", "found", "sign"] : List Str) ("squeezed" : Str) st_squeezed (c.ad 46) ev_squeezed := fun cdv A outer s H E hr tk po =>
  dss_cons (f1 := ev_squeezed_0) (ds_as (tg := .nm 2) (de_str (l := [])) (dg_nm sc_squeezed.nd)) (dss_cons (f1 := ev_squeezed_1) (ds_for (t := (.nm 3)) (fb := ev_squeezed_b1) po rfl (di_any rfl (de_v 0)) (dg_nm sc_squeezed.nd) (dss_one (ds_if (dt_w (dw_or (dt_cmp (op_ni3 (hu65 hr)) (os_ni rfl) (de_v 3) (de_v 1)) (dw_or1 (dt_not (dt_val (de_bm PySem.F.plainAttrs_str PySem.F.slot_str_endswith PySem.F.type_str_endswith mt_endswith ts_str ms_endsw rfl (de_v 2) (da_cons (de_v 3) (da_nil)))))))) (dss_one (ds_as (tg := .nm 2) (de_op op_add3 (os_add false) (de_v 2) (de_v 3)) (dg_nm sc_squeezed.nd))) (dss_nil)))) (dss_one (f1 := ev_squeezed_2) (ds_ret (de_v 2))))
theorem ok_squeezed (F : Fx c mg fd) : FnOk P w c.K mg base (L2.CX P w) 1 (c.ad 46) (fd 46) (["text", "signs"] : List Str) (spF c fn_squeezed) := def_okD F.d_squeezed sc_squeezed (bo_squeezed F)

def pl_kb_squeezed_2 : List Sr := [.p 0, .p 1]
theorem kb_squeezed_2 (F : Fx c mg fd) : KBd c.K (fd 46) (["text", "signs"] : List Str) 2 ([] : List Str) pl_kb_squeezed_2 [] := kbd0 F.d_squeezed fun _ _ _ _ _ _ us ws l1 l2 => match us, ws, l1, l2 with | [_, _], [], _, _ => ⟨_, rfl, rfl⟩

def ev_headless_b1 : Ss := sIf (fBt (fB (oIn true) (fV 3) (fV 1))) (sRt (fSl false (fV 0) (fSo (fV 2)) (fNo))) (sNx)

def ev_headless_0 : Ss := sFor (fIa srcEn (fCons (fV 0) (fNil))) (.tp [2, 3]) ev_headless_b1

def ev_headless_1 : Ss := sRt (fK (.str []))

/-! headless -/
def ev_headless : Ss := sSeq ev_headless_0 (ev_headless_1)
def fn_headless : FN := fnP 2 4 ev_headless
theorem bo_headless (F : Fx c mg fd) : BodyOk P w c.K mg base c 0 (["text", "signs", "at", "sign"] : List Str) ("headless" : Str) st_headless (c.ad 47) ev_headless := fun cdv A outer s H E hr tk po =>
  dss_cons (f1 := ev_headless_0) (ds_for (t := (.tp [2, 3])) (fb := ev_headless_b1) po rfl (di_enum rfl F.b_enumerate (da_cons (de_v 0) (da_nil))) (dg_tp rfl (dgs_cons sc_headless.nd (dgs_cons sc_headless.nd (dgs_nil)))) (dss_one (ds_if (dt_cmp (op_ni3 (hu65 hr)) (os_ni rfl) (de_v 3) (de_v 1)) (dss_one (ds_ret (de_sl false rfl (de_v 0) (do_so (de_v 2)) (do_no)))) (dss_nil)))) (dss_one (f1 := ev_headless_1) (ds_ret (de_str (l := []))))
theorem ok_headless (F : Fx c mg fd) : FnOk P w c.K mg base (L2.CX P w) 1 (c.ad 47) (fd 47) (["text", "signs"] : List Str) (spF c fn_headless) := def_okD F.d_headless sc_headless (bo_headless F)

def pl_kb_headless_2 : List Sr := [.p 0, .p 1]
theorem kb_headless_2 (F : Fx c mg fd) : KBd c.K (fd 47) (["text", "signs"] : List Str) 2 ([] : List Str) pl_kb_headless_2 [] := kbd0 F.d_headless fun _ _ _ _ _ _ us ws l1 l2 => match us, ws, l1, l2 with | [_, _], [], _, _ => ⟨_, rfl, rfl⟩

def ev_stepped_0 : Ss := sAs (.tp [2, 3]) (fV 0)

def ev_stepped_1 : Ss := sIf (fBt (fB (oEq false) (fV 2) (fK (.str [99, 104, 97, 110, 103, 101])))) (sSeq (sAs (.nm 4) (fDc false (fI (fV 3)) (.tp [5, 6]) [5, 6] (fYes) (fV 5) (fV 6))) (sRt (fBM tyStr oJoin (fK (.str [])) (fCons (fLc false (fI (fV 1)) (.nm 5) [5] (fYes) (fDGet (fV 4) (fV 5) (fV 5))) (fNil))))) (sNx)

def ev_stepped_2 : Ss := sIf (fBt (fB (oEq false) (fV 2) (fK (.str [115, 116, 114, 105, 107, 101])))) (sRt (fBM tyStr oJoin (fK (.str [])) (fCons (fLc false (fI (fV 1)) (.nm 5) [5] (fBt (fB (oIn true) (fV 5) (fV 3))) (fV 5)) (fNil)))) (sNx)

def ev_stepped_3 : Ss := sIf (fBt (fB (oEq false) (fV 2) (fK (.str [115, 113, 117, 101, 101, 122, 101])))) (sRt (fCn (fcArr fn_squeezed 2 0 pl_kb_squeezed_2 []) (fCons (fV 1) (fCons (fV 3) (fNil))) (fNil))) (sNx)

def ev_stepped_4 : Ss := sRt (fIf (fBt (fB (oEq false) (fV 2) (fK (.str [97, 104, 101, 97, 100])))) (fCn (fcArr fn_headless 2 0 pl_kb_headless_2 []) (fCons (fV 1) (fCons (fV 3) (fNil))) (fNil)) (fSl false (fV 1) (fNo) (fSo (fV 3))))

/-! stepped -/
def ev_stepped : Ss := sSeq ev_stepped_0 (sSeq ev_stepped_1 (sSeq ev_stepped_2 (sSeq ev_stepped_3 (ev_stepped_4))))
def fn_stepped : FN := fnP 2 7 ev_stepped
theorem bo_stepped (F : Fx c mg fd) : BodyOk P w c.K mg base c 1 (["step", "text", "word", "part", "others", "sign", "other"] : List Str) ("stepped" : Str) st_stepped (c.ad 48) ev_stepped := fun cdv A outer s H E hr tk po =>
  dss_cons (f1 := ev_stepped_0) (ds_as (tg := (.tp [2, 3])) (de_v 0) (dg_tp rfl (dgs_cons sc_stepped.nd (dgs_cons sc_stepped.nd (dgs_nil))))) (dss_cons (f1 := ev_stepped_1) (ds_if (dt_cmp (op_eq2 hr.units) (os_eq rfl) (de_v 2) (de_str (l := [99, 104, 97, 110, 103, 101]))) (dss_cons (ds_as (tg := .nm 4) (de_dc (own := [(("sign" : Str), 5), (("other" : Str), 6)]) (t := (.tp [5, 6])) false rfl sc_stepped.nd (di_any rfl (de_v 3)) (fun _ _ _ _ _ => dg_tp rfl (dgs_cons sc_stepped.nd (dgs_cons sc_stepped.nd (dgs_nil)))) (fun _ _ _ _ _ => dts_nil) (fun _ _ _ _ _ => de_v 5) (fun _ _ _ _ _ => de_v 6) (ok := by kernel_rfl)) (dg_nm sc_stepped.nd)) (dss_one (ds_ret (de_bm PySem.F.plainAttrs_str PySem.F.slot_str_join PySem.F.type_str_join mt_join ts_str (ms_join rfl) rfl (de_str (l := [])) (da_cons (de_lc (own := [(("sign" : Str), 5)]) (t := (.nm 5)) false rfl sc_stepped.nd (di_any rfl (de_v 1)) (fun _ _ _ _ _ => dg_nm sc_stepped.nd) (fun _ _ _ _ _ => dts_nil) (fun _ _ _ _ _ => de_dget (hu_of hr) (de_v 4) (de_v 5) (de_v 5)) (ok := by kernel_rfl)) (da_nil)))))) (dss_nil)) (dss_cons (f1 := ev_stepped_2) (ds_if (dt_cmp (op_eq2 hr.units) (os_eq rfl) (de_v 2) (de_str (l := [115, 116, 114, 105, 107, 101]))) (dss_one (ds_ret (de_bm PySem.F.plainAttrs_str PySem.F.slot_str_join PySem.F.type_str_join mt_join ts_str (ms_join rfl) rfl (de_str (l := [])) (da_cons (de_lc (own := [(("sign" : Str), 5)]) (t := (.nm 5)) false rfl sc_stepped.nd (di_any rfl (de_v 1)) (fun _ _ _ _ _ => dg_nm sc_stepped.nd) (fun _ _ _ _ _ => dts_one (dt_cmp (op_ni3 (hu65 hr)) (os_ni rfl) (de_v 5) (de_v 3))) (fun _ _ _ _ _ => de_v 5) (ok := by kernel_rfl)) (da_nil))))) (dss_nil)) (dss_cons (f1 := ev_stepped_3) (ds_if (dt_cmp (op_eq2 hr.units) (os_eq rfl) (de_v 2) (de_str (l := [115, 113, 117, 101, 101, 122, 101]))) (dss_one (ds_ret (de_cn (callee_def (ok_squeezed F) (hr.mono (by decide)) (kb_squeezed_2 F) (fun _ _ => .nil) tk) (dargs_cons (ks := ([] : List Str)) (da_cons (de_v 1) (da_cons (de_v 3) (da_nil))) (dk_nil)) F.m_squeezed F.d_squeezed.kp))) (dss_nil)) (dss_one (f1 := ev_stepped_4) (ds_ret (de_if (dt_cmp (op_eq2 hr.units) (os_eq rfl) (de_v 2) (de_str (l := [97, 104, 101, 97, 100]))) (de_cn (callee_def (ok_headless F) (hr.mono (by decide)) (kb_headless_2 F) (fun _ _ => .nil) tk) (dargs_cons (ks := ([] : List Str)) (da_cons (de_v 1) (da_cons (de_v 3) (da_nil))) (dk_nil)) F.m_headless F.d_headless.kp) (de_sl false rfl (de_v 1) (do_no) (do_so (de_v 3)))))))))
theorem ok_stepped (F : Fx c mg fd) : FnOk P w c.K mg base (L2.CX P w) 2 (c.ad 48) (fd 48) (["step", "text"] : List Str) (spF c fn_stepped) := def_okD F.d_stepped sc_stepped (bo_stepped F)

def pl_kb_stepped_2 : List Sr := [.p 0, .p 1]
theorem kb_stepped_2 (F : Fx c mg fd) : KBd c.K (fd 48) (["step", "text"] : List Str) 2 ([] : List Str) pl_kb_stepped_2 [] := kbd0 F.d_stepped fun _ _ _ _ _ _ us ws l1 l2 => match us, ws, l1, l2 with | [_, _], [], _, _ => ⟨_, rfl, rfl⟩

def ev_Cleaner_cleaned_b1 : Ss := sAs (.nm 1) (fCn (fcArr fn_stepped 2 0 pl_kb_stepped_2 []) (fCons (fV 2) (fCons (fV 1) (fNil))) (fNil))

def ev_Cleaner_cleaned_0 : Ss := sFor (fI (fFld [49] ("row" : Str) (fV 0))) (.nm 2) ev_Cleaner_cleaned_b1

def ev_Cleaner_cleaned_1 : Ss := sRt (fV 1)

/-! Cleaner.cleaned -/
def ev_Cleaner_cleaned : Ss := sSeq ev_Cleaner_cleaned_0 (ev_Cleaner_cleaned_1)
def fn_Cleaner_cleaned : FN := fnP 2 3 ev_Cleaner_cleaned
theorem bo_Cleaner_cleaned (F : Fx c mg fd) : BodyOk P w c.K mg base c 2 (["self", "text", "step"] : List Str) ("Cleaner.cleaned" : Str) st_Cleaner_cleaned (c.ad 52) ev_Cleaner_cleaned := fun cdv A outer s H E hr tk po =>
  dss_cons (f1 := ev_Cleaner_cleaned_0) (ds_for (t := (.nm 2)) (fb := ev_Cleaner_cleaned_b1) po rfl (di_any rfl (de_fld (at_row_49 F) rfl (de_v 0))) (dg_nm sc_Cleaner_cleaned.nd) (dss_one (ds_as (tg := .nm 1) (de_cn (callee_def (ok_stepped F) (hr.mono (by decide)) (kb_stepped_2 F) (fun _ _ => .nil) tk) (dargs_cons (ks := ([] : List Str)) (da_cons (de_v 2) (da_cons (de_v 1) (da_nil))) (dk_nil)) F.m_stepped F.d_stepped.kp) (dg_nm sc_Cleaner_cleaned.nd)))) (dss_one (f1 := ev_Cleaner_cleaned_1) (ds_ret (de_v 1)))
theorem ok_Cleaner_cleaned (F : Fx c mg fd) : FnOk P w c.K mg base (L2.CX P w) 3 (c.ad 52) (fd 52) (["self", "text"] : List Str) (spF c fn_Cleaner_cleaned) := def_okD F.d_Cleaner_cleaned sc_Cleaner_cleaned (bo_Cleaner_cleaned F)

def pl_kb_Cleaner_cleaned_2 : List Sr := [.p 0, .p 1]
theorem kb_Cleaner_cleaned_2 (F : Fx c mg fd) : KBd c.K (fd 52) (["self", "text"] : List Str) 2 ([] : List Str) pl_kb_Cleaner_cleaned_2 [] := kbd0 F.d_Cleaner_cleaned fun _ _ _ _ _ _ us ws l1 l2 => match us, ws, l1, l2 with | [_, _], [], _, _ => ⟨_, rfl, rfl⟩

def ev_wish_of_0 : Ss := sAs (.tp [2, 3]) (fV 1)

def ev_wish_of_1 : Ss := sIf (fBt (fB (oIsN false) (fV 0) (fK .non))) (sRt (fK .non)) (sNx)

def ev_wish_of_2 : Ss := sAs (.nm 4) (fMt 49 ("cleaned" : Str) (fcArr fn_Cleaner_cleaned 2 0 pl_kb_Cleaner_cleaned_2 []) (fV 2) (fCons (fV 0) (fNil)) (fNil))

def ev_wish_of_3 : Ss := sRt (fIf (fAnd (fBt (fB (oEq true) (fV 4) (fK (.str [])))) (fOr (fBt (fB (oIsN false) (fV 3) (fK .non))) (fBt (fB (oI fun i j => .bl (decide (i ≤ j))) (fA oLen (fCons (fV 4) (fNil))) (fV 3))))) (fV 4) (fK .non))

/-! wish_of -/
def ev_wish_of : Ss := sSeq ev_wish_of_0 (sSeq ev_wish_of_1 (sSeq ev_wish_of_2 (ev_wish_of_3)))
def fn_wish_of : FN := fnP 2 5 ev_wish_of
theorem bo_wish_of (F : Fx c mg fd) : BodyOk P w c.K mg base c 3 (["name", "system", "cleaner", "width", "text"] : List Str) ("wish_of" : Str) st_wish_of (c.ad 58) ev_wish_of := fun cdv A outer s H E hr tk po =>
  dss_cons (f1 := ev_wish_of_0) (ds_as (tg := (.tp [2, 3])) (de_v 1) (dg_tp rfl (dgs_cons sc_wish_of.nd (dgs_cons sc_wish_of.nd (dgs_nil))))) (dss_cons (f1 := ev_wish_of_1) (ds_if (dt_cmp op_isN os_isN (de_v 0) (de_non)) (dss_one (ds_ret (de_non))) (dss_nil)) (dss_cons (f1 := ev_wish_of_2) (ds_as (tg := .nm 4) (de_mt (callee_def (ok_Cleaner_cleaned F) (hr.mono (by decide)) (kb_Cleaner_cleaned_2 F) (fun _ _ => .nil) tk) (dargs_cons (ks := ([] : List Str)) (da_cons (de_v 0) (da_nil)) (dk_nil)) (de_v 2) F.cl_Cleaner F.me_Cleaner_cleaned) (dg_nm sc_wish_of.nd)) (dss_one (f1 := ev_wish_of_3) (ds_ret (de_if (dt_w (dw_and (dt_cmp (op_ne2 hr.units) (os_ne rfl) (de_v 4) (de_str (l := []))) (dw_and1 (dt_w (dw_or (dt_cmp op_isN os_isN (de_v 3) (de_non)) (dw_or1 (dt_cmp op_le (os_cmpI fun i j => decide (i ≤ j)) (de_cb cr_len4 (cs_len rfl) F.b_len rfl (da_cons (de_v 4) (da_nil))) (de_v 3)))))))) (de_v 4) (de_non))))))
theorem ok_wish_of (F : Fx c mg fd) : FnOk P w c.K mg base (L2.CX P w) 4 (c.ad 58) (fd 58) (["name", "system"] : List Str) (spF c fn_wish_of) := def_okD F.d_wish_of sc_wish_of (bo_wish_of F)

def pl_kb_wish_of_2 : List Sr := [.p 0, .p 1]
theorem kb_wish_of_2 (F : Fx c mg fd) : KBd c.K (fd 58) (["name", "system"] : List Str) 2 ([] : List Str) pl_kb_wish_of_2 [] := kbd0 F.d_wish_of fun _ _ _ _ _ _ us ws l1 l2 => match us, ws, l1, l2 with | [_, _], [], _, _ => ⟨_, rfl, rfl⟩

def ev_parts_b1 : Ss := sAs (.nm 1) (fB oSub (fV 1) (fK (.int 1)))

def ev_parts_b2 : Ss := sAs (.nm 1) (fB (oAdd false) (fV 1) (fK (.int 1)))

def ev_parts_0 : Ss := sAs (.nm 1) (fA oLen (fCons (fV 0) (fNil)))

def ev_parts_1 : Ss := sWh (fAnd (fBt (fB (oI fun i j => .bl (decide (j < i))) (fV 1) (fK (.int 0)))) (fBt (fB (oIn false) (fB oIx (fV 0) (fB oSub (fV 1) (fK (.int 1)))) (fK (.str [48, 49, 50, 51, 52, 53, 54, 55, 56, 57]))))) ev_parts_b1 200

def ev_parts_2 : Ss := sWh (fAnd (fBt (fB (oI fun i j => .bl (decide (i < j))) (fV 1) (fA oLen (fCons (fV 0) (fNil))))) (fBt (fB (oEq false) (fB oIx (fV 0) (fV 1)) (fK (.str [48]))))) ev_parts_b2 200

def ev_parts_3 : Ss := sRt (fTup (fCons (fSl false (fV 0) (fNo) (fSo (fV 1))) (fCons (fSl false (fV 0) (fSo (fV 1)) (fNo)) (fNil))))

/-! parts -/
def ev_parts : Ss := sSeq ev_parts_0 (sSeq ev_parts_1 (sSeq ev_parts_2 (ev_parts_3)))
def fn_parts : FN := fnP 1 2 ev_parts
theorem bo_parts (F : Fx c mg fd) : BodyOk P w c.K mg base c 0 (["name", "at"] : List Str) ("parts" : Str) st_parts (c.ad 30) ev_parts := fun cdv A outer s H E hr tk po =>
  dss_cons (f1 := ev_parts_0) (ds_as (tg := .nm 1) (de_cb cr_len4 (cs_len rfl) F.b_len rfl (da_cons (de_v 0) (da_nil))) (dg_nm sc_parts.nd)) (dss_cons (f1 := ev_parts_1) (ds_while (f1 := ev_parts_b1) (n := 200) po (dt_w (dw_and (dt_cmp op_gt (os_cmpI fun i j => decide (j < i)) (de_v 1) (de_int)) (dw_and1 (dt_cmp (op_in3 (hu65 hr)) (os_in rfl) (de_ix (ix_4 (hu_of hr)) (os_ix rfl) (de_v 0) (de_op op_sub os_sub (de_v 1) (de_int))) (de_gstr (l := [48, 49, 50, 51, 52, 53, 54, 55, 56, 57]) F.g_DIGITS.choose_spec))))) (dss_one (ds_as (tg := .nm 1) (de_op op_sub os_sub (de_v 1) (de_int)) (dg_nm sc_parts.nd)))) (dss_cons (f1 := ev_parts_2) (ds_while (f1 := ev_parts_b2) (n := 200) po (dt_w (dw_and (dt_cmp op_lt (os_cmpI fun i j => decide (i < j)) (de_v 1) (de_cb cr_len4 (cs_len rfl) F.b_len rfl (da_cons (de_v 0) (da_nil)))) (dw_and1 (dt_cmp (op_eq2 hr.units) (os_eq rfl) (de_ix (ix_4 (hu_of hr)) (os_ix rfl) (de_v 0) (de_v 1)) (de_str (l := [48])))))) (dss_one (ds_as (tg := .nm 1) (de_op op_add3 (os_add false) (de_v 1) (de_int)) (dg_nm sc_parts.nd)))) (dss_one (f1 := ev_parts_3) (ds_ret (de_tup (da_cons (de_sl false rfl (de_v 0) (do_no) (do_so (de_v 1))) (da_cons (de_sl false rfl (de_v 0) (do_so (de_v 1)) (do_no)) (da_nil))))))))
theorem ok_parts (F : Fx c mg fd) : FnOk P w c.K mg base (L2.CX P w) 1 (c.ad 30) (fd 30) (["name"] : List Str) (spF c fn_parts) := def_okD F.d_parts sc_parts (bo_parts F)

def pl_kb_parts_1 : List Sr := [.p 0]
theorem kb_parts_1 (F : Fx c mg fd) : KBd c.K (fd 30) (["name"] : List Str) 1 ([] : List Str) pl_kb_parts_1 [] := kbd0 F.d_parts fun _ _ _ _ _ _ us ws l1 l2 => match us, ws, l1, l2 with | [_], [], _, _ => ⟨_, rfl, rfl⟩

def ev_after_0 : Ss := sAs (.tp [2, 3]) (fCn (fcArr fn_parts 1 0 pl_kb_parts_1 []) (fCons (fV 0) (fNil)) (fNil))

def ev_after_1 : Ss := sAs (.nm 4) (fIf (fBt (fB (oEq false) (fV 3) (fK (.str [])))) (fK (.str [50])) (fA oStr (fCons (fB (oAdd false) (fA oInt (fCons (fV 3) (fNil))) (fK (.int 1))) (fNil))))

def ev_after_2 : Ss := sIf (fBt (fB (oIsN false) (fV 1) (fK .non))) (sRt (fB (oAdd false) (fV 2) (fV 4))) (sNx)

def ev_after_3 : Ss := sRt (fIf (fBt (fB (oI fun i j => .bl (decide (j < i))) (fA oLen (fCons (fV 4) (fNil))) (fV 1))) (fK .non) (fB (oAdd false) (fSl false (fV 2) (fNo) (fSo (fB oSub (fV 1) (fA oLen (fCons (fV 4) (fNil)))))) (fV 4)))

/-! after -/
def ev_after : Ss := sSeq ev_after_0 (sSeq ev_after_1 (sSeq ev_after_2 (ev_after_3)))
def fn_after : FN := fnP 2 5 ev_after
theorem bo_after (F : Fx c mg fd) : BodyOk P w c.K mg base c 1 (["name", "width", "base", "digits", "found"] : List Str) ("after" : Str) st_after (c.ad 31) ev_after := fun cdv A outer s H E hr tk po =>
  dss_cons (f1 := ev_after_0) (ds_as (tg := (.tp [2, 3])) (de_cn (callee_def (ok_parts F) (hr.mono (by decide)) (kb_parts_1 F) (fun _ _ => .nil) tk) (dargs_cons (ks := ([] : List Str)) (da_cons (de_v 0) (da_nil)) (dk_nil)) F.m_parts F.d_parts.kp) (dg_tp rfl (dgs_cons sc_after.nd (dgs_cons sc_after.nd (dgs_nil))))) (dss_cons (f1 := ev_after_1) (ds_as (tg := .nm 4) (de_if (dt_cmp (op_eq2 hr.units) (os_eq rfl) (de_v 3) (de_str (l := []))) (de_str (l := [50])) (de_ct call_str_int cs_str F.b_str rfl (da_cons (de_op op_add3 (os_add false) (de_ct cr_int2 cs_int F.b_int rfl (da_cons (de_v 3) (da_nil))) (de_int)) (da_nil)))) (dg_nm sc_after.nd)) (dss_cons (f1 := ev_after_2) (ds_if (dt_cmp op_isN os_isN (de_v 1) (de_non)) (dss_one (ds_ret (de_op op_add3 (os_add false) (de_v 2) (de_v 4)))) (dss_nil)) (dss_one (f1 := ev_after_3) (ds_ret (de_if (dt_cmp op_gt (os_cmpI fun i j => decide (j < i)) (de_cb cr_len4 (cs_len rfl) F.b_len rfl (da_cons (de_v 4) (da_nil))) (de_v 1)) (de_non) (de_op op_add3 (os_add false) (de_sl false rfl (de_v 2) (do_no) (do_so (de_op op_sub os_sub (de_v 1) (de_cb cr_len4 (cs_len rfl) F.b_len rfl (da_cons (de_v 4) (da_nil)))))) (de_v 4)))))))
theorem ok_after (F : Fx c mg fd) : FnOk P w c.K mg base (L2.CX P w) 2 (c.ad 31) (fd 31) (["name", "width"] : List Str) (spF c fn_after) := def_okD F.d_after sc_after (bo_after F)

def pl_kb_after_2 : List Sr := [.p 0, .p 1]
theorem kb_after_2 (F : Fx c mg fd) : KBd c.K (fd 31) (["name", "width"] : List Str) 2 ([] : List Str) pl_kb_after_2 [] := kbd0 F.d_after fun _ _ _ _ _ _ us ws l1 l2 => match us, ws, l1, l2 with | [_, _], [], _, _ => ⟨_, rfl, rfl⟩

def ev_first_free_b1_0 : Ss := sAs (.nm 0) (fCn (fcArr fn_after 2 0 pl_kb_after_2 []) (fCons (fV 0) (fCons (fV 1) (fNil))) (fNil))

def ev_first_free_b1_1 : Ss := sIf (fBt (fB (oIsN false) (fV 0) (fK .non))) (sRt (fTup (fCons (fK .non) (fCons (fV 3) (fNil))))) (sNx)

def ev_first_free_b1_2 : Ss := sAs (.nm 3) (fB (oAdd false) (fV 3) (fK (.int 1)))

def ev_first_free_b1 : Ss := sSeq ev_first_free_b1_0 (sSeq ev_first_free_b1_1 (ev_first_free_b1_2))

def ev_first_free_0 : Ss := sAs (.nm 3) (fK (.int 1))

def ev_first_free_1 : Ss := sWh (fBt (fB (oIn false) (fV 0) (fV 2))) ev_first_free_b1 200

def ev_first_free_2 : Ss := sRt (fTup (fCons (fV 0) (fCons (fV 3) (fNil))))

/-! first_free -/
def ev_first_free : Ss := sSeq ev_first_free_0 (sSeq ev_first_free_1 (ev_first_free_2))
def fn_first_free : FN := fnP 3 4 ev_first_free
theorem bo_first_free (F : Fx c mg fd) : BodyOk P w c.K mg base c 2 (["name", "width", "given", "tried"] : List Str) ("first_free" : Str) st_first_free (c.ad 32) ev_first_free := fun cdv A outer s H E hr tk po =>
  dss_cons (f1 := ev_first_free_0) (ds_as (tg := .nm 3) (de_int) (dg_nm sc_first_free.nd)) (dss_cons (f1 := ev_first_free_1) (ds_while (f1 := ev_first_free_b1) (n := 200) po (dt_cmp (op_in3 (hu65 hr)) (os_in rfl) (de_v 0) (de_v 2)) (dss_cons (f1 := ev_first_free_b1_0) (ds_as (tg := .nm 0) (de_cn (callee_def (ok_after F) (hr.mono (by decide)) (kb_after_2 F) (fun _ _ => .nil) tk) (dargs_cons (ks := ([] : List Str)) (da_cons (de_v 0) (da_cons (de_v 1) (da_nil))) (dk_nil)) F.m_after F.d_after.kp) (dg_nm sc_first_free.nd)) (dss_cons (f1 := ev_first_free_b1_1) (ds_if (dt_cmp op_isN os_isN (de_v 0) (de_non)) (dss_one (ds_ret (de_tup (da_cons (de_non) (da_cons (de_v 3) (da_nil)))))) (dss_nil)) (dss_one (f1 := ev_first_free_b1_2) (ds_as (tg := .nm 3) (de_op op_add3 (os_add false) (de_v 3) (de_int)) (dg_nm sc_first_free.nd)))))) (dss_one (f1 := ev_first_free_2) (ds_ret (de_tup (da_cons (de_v 0) (da_cons (de_v 3) (da_nil)))))))
theorem ok_first_free (F : Fx c mg fd) : FnOk P w c.K mg base (L2.CX P w) 3 (c.ad 32) (fd 32) (["name", "width", "given"] : List Str) (spF c fn_first_free) := def_okD F.d_first_free sc_first_free (bo_first_free F)

def pl_kb_first_free_3 : List Sr := [.p 0, .p 1, .p 2]
theorem kb_first_free_3 (F : Fx c mg fd) : KBd c.K (fd 32) (["name", "width", "given"] : List Str) 3 ([] : List Str) pl_kb_first_free_3 [] := kbd0 F.d_first_free fun _ _ _ _ _ _ us ws l1 l2 => match us, ws, l1, l2 with | [_, _, _], [], _, _ => ⟨_, rfl, rfl⟩

def ev_Folder_outlook_0 : Ss := sAs (.nm 3) (fCn (fcArr fn_wish_of 2 0 pl_kb_wish_of_2 []) (fCons (fV 2) (fCons (fTup (fCons (fFld [59] ("cleaner" : Str) (fV 0)) (fCons (fFld [59] ("width" : Str) (fV 0)) (fNil)))) (fNil))) (fNil))

def ev_Folder_outlook_1 : Ss := sIf (fBt (fB (oIsN false) (fV 3) (fK .non))) (sRt (fTup (fCons (fK .non) (fCons (fK .non) (fCons (fK (.int 0)) (fNil)))))) (sNx)

def ev_Folder_outlook_2 : Ss := sAs (.tp [4, 5]) (fCn (fcArr fn_first_free 3 0 pl_kb_first_free_3 []) (fCons (fV 3) (fCons (fFld [59] ("width" : Str) (fV 0)) (fCons (fLc false (fI (fV 1)) (.nm 6) [6] (fYes) (fB oIx (fV 6) (fK (.int 1)))) (fNil)))) (fNil))

def ev_Folder_outlook_3 : Ss := sRt (fTup (fCons (fV 3) (fCons (fV 4) (fCons (fV 5) (fNil)))))

/-! Folder.outlook -/
def ev_Folder_outlook : Ss := sSeq ev_Folder_outlook_0 (sSeq ev_Folder_outlook_1 (sSeq ev_Folder_outlook_2 (ev_Folder_outlook_3)))
def fn_Folder_outlook : FN := fnP 3 7 ev_Folder_outlook
theorem bo_Folder_outlook (F : Fx c mg fd) : BodyOk P w c.K mg base c 4 (["self", "rows", "name", "wish", "got", "tried", "row"] : List Str) ("Folder.outlook" : Str) st_Folder_outlook (c.ad 64) ev_Folder_outlook := fun cdv A outer s H E hr tk po =>
  dss_cons (f1 := ev_Folder_outlook_0) (ds_as (tg := .nm 3) (de_cn (callee_def (ok_wish_of F) (hr.mono (by decide)) (kb_wish_of_2 F) (fun _ _ => .nil) tk) (dargs_cons (ks := ([] : List Str)) (da_cons (de_v 2) (da_cons (de_tup (da_cons (de_fld (at_cleaner_59 F) rfl (de_v 0)) (da_cons (de_fld (at_width_59 F) rfl (de_v 0)) (da_nil)))) (da_nil))) (dk_nil)) F.m_wish_of F.d_wish_of.kp) (dg_nm sc_Folder_outlook.nd)) (dss_cons (f1 := ev_Folder_outlook_1) (ds_if (dt_cmp op_isN os_isN (de_v 3) (de_non)) (dss_one (ds_ret (de_tup (da_cons (de_non) (da_cons (de_non) (da_cons (de_int) (da_nil))))))) (dss_nil)) (dss_cons (f1 := ev_Folder_outlook_2) (ds_as (tg := (.tp [4, 5])) (de_cn (callee_def (ok_first_free F) (hr.mono (by decide)) (kb_first_free_3 F) (fun _ _ => .nil) tk) (dargs_cons (ks := ([] : List Str)) (da_cons (de_v 3) (da_cons (de_fld (at_width_59 F) rfl (de_v 0)) (da_cons (de_lc (own := [(("row" : Str), 6)]) (t := (.nm 6)) false rfl sc_Folder_outlook.nd (di_any rfl (de_v 1)) (fun _ _ _ _ _ => dg_nm sc_Folder_outlook.nd) (fun _ _ _ _ _ => dts_nil) (fun _ _ _ _ _ => de_ix (ix_4 (hu_of hr)) (os_ix rfl) (de_v 6) (de_int)) (ok := by kernel_rfl)) (da_nil)))) (dk_nil)) F.m_first_free F.d_first_free.kp) (dg_tp rfl (dgs_cons sc_Folder_outlook.nd (dgs_cons sc_Folder_outlook.nd (dgs_nil))))) (dss_one (f1 := ev_Folder_outlook_3) (ds_ret (de_tup (da_cons (de_v 3) (da_cons (de_v 4) (da_cons (de_v 5) (da_nil)))))))))
theorem ok_Folder_outlook (F : Fx c mg fd) : FnOk P w c.K mg base (L2.CX P w) 5 (c.ad 64) (fd 64) (["self", "rows", "name"] : List Str) (spF c fn_Folder_outlook) := def_okD F.d_Folder_outlook sc_Folder_outlook (bo_Folder_outlook F)

def pl_kb_Folder_outlook_3 : List Sr := [.p 0, .p 1, .p 2]
theorem kb_Folder_outlook_3 (F : Fx c mg fd) : KBd c.K (fd 64) (["self", "rows", "name"] : List Str) 3 ([] : List Str) pl_kb_Folder_outlook_3 [] := kbd0 F.d_Folder_outlook fun _ _ _ _ _ _ us ws l1 l2 => match us, ws, l1, l2 with | [_, _, _], [], _, _ => ⟨_, rfl, rfl⟩

def ev_Folder_grown_b1_0 : Ss := sAs (.nm 4) (fMt 59 ("outlook" : Str) (fcArr fn_Folder_outlook 3 0 pl_kb_Folder_outlook_3 []) (fV 0) (fCons (fV 2) (fCons (fV 3) (fNil))) (fNil))

def ev_Folder_grown_b1_1 : Ss := sIf (fBt (fB (oIsN false) (fB oIx (fV 4) (fK (.int 1))) (fK .non))) (sNo) (sNx)

def ev_Folder_grown_b1_2 : Ss := sAs (.nm 2) (fB (oAdd false) (fV 2) (fLst false (fCons (fV 4) (fNil))))

def ev_Folder_grown_b1 : Ss := sSeq ev_Folder_grown_b1_0 (sSeq ev_Folder_grown_b1_1 (ev_Folder_grown_b1_2))

def ev_Folder_grown_b2 : Ss := sIf (fAnd (fBt (fB (oIsN true) (fFld [59, 82] ("limit" : Str) (fV 0)) (fK .non))) (fBt (fB (oI fun i j => .bl (decide (j < i))) (fB oIx (fV 4) (fK (.int 2))) (fFld [59, 82] ("limit" : Str) (fV 0))))) (sNo) (sNx)

def ev_Folder_grown_0 : Ss := sAs (.nm 2) (fFld [59, 82] ("rows" : Str) (fV 0))

def ev_Folder_grown_1 : Ss := sFor (fI (fV 1)) (.nm 3) ev_Folder_grown_b1

def ev_Folder_grown_2 : Ss := sFor (fI (fSl false (fV 2) (fSo (fA oLen (fCons (fFld [59, 82] ("rows" : Str) (fV 0)) (fNil)))) (fNo))) (.nm 4) ev_Folder_grown_b2

def ev_Folder_grown_3 : Ss := sRt (fV 2)

/-! Folder.grown -/
-- not walked: row 281 (Raise)
-- not walked: row 285 (Raise)
def ev_Folder_grown : Ss := sSeq ev_Folder_grown_0 (sSeq ev_Folder_grown_1 (sSeq ev_Folder_grown_2 (ev_Folder_grown_3)))
def fn_Folder_grown : FN := fnP 2 5 ev_Folder_grown
theorem bo_Folder_grown (F : Fx c mg fd) : BodyOk P w c.K mg base c 5 (["self", "names", "rows", "name", "row"] : List Str) ("Folder.grown" : Str) st_Folder_grown (c.ad 65) ev_Folder_grown := fun cdv A outer s H E hr tk po =>
  dss_cons (f1 := ev_Folder_grown_0) (ds_as (tg := .nm 2) (de_fld (at_rows_59_82 F) rfl (de_v 0)) (dg_nm sc_Folder_grown.nd)) (dss_cons (f1 := ev_Folder_grown_1) (ds_for (t := (.nm 3)) (fb := ev_Folder_grown_b1) po rfl (di_any rfl (de_v 1)) (dg_nm sc_Folder_grown.nd) (dss_cons (f1 := ev_Folder_grown_b1_0) (ds_as (tg := .nm 4) (de_mt (callee_def (ok_Folder_outlook F) (hr.mono (by decide)) (kb_Folder_outlook_3 F) (fun _ _ => .nil) tk) (dargs_cons (ks := ([] : List Str)) (da_cons (de_v 2) (da_cons (de_v 3) (da_nil))) (dk_nil)) (de_v 0) F.cl_Folder F.me_Folder_outlook) (dg_nm sc_Folder_grown.nd)) (dss_cons (f1 := ev_Folder_grown_b1_1) (ds_if (dt_cmp op_isN os_isN (de_ix (ix_4 (hu_of hr)) (os_ix rfl) (de_v 4) (de_int)) (de_non)) (dss_one (ds_no)) (dss_nil)) (dss_one (f1 := ev_Folder_grown_b1_2) (ds_as (tg := .nm 2) (de_op op_add3 (os_add false) (de_v 2) (de_lst false (da_cons (de_v 4) (da_nil)))) (dg_nm sc_Folder_grown.nd)))))) (dss_cons (f1 := ev_Folder_grown_2) (ds_for (t := (.nm 4)) (fb := ev_Folder_grown_b2) po rfl (di_any rfl (de_sl false rfl (de_v 2) (do_so (de_cb cr_len4 (cs_len rfl) F.b_len rfl (da_cons (de_fld (at_rows_59_82 F) rfl (de_v 0)) (da_nil)))) (do_no))) (dg_nm sc_Folder_grown.nd) (dss_one (ds_if (dt_w (dw_and (dt_cmp op_notN os_notN (de_fld (at_limit_59_82 F) rfl (de_v 0)) (de_non)) (dw_and1 (dt_cmp op_gt (os_cmpI fun i j => decide (j < i)) (de_ix (ix_4 (hu_of hr)) (os_ix rfl) (de_v 4) (de_int)) (de_fld (at_limit_59_82 F) rfl (de_v 0)))))) (dss_one (ds_no)) (dss_nil)))) (dss_one (f1 := ev_Folder_grown_3) (ds_ret (de_v 2)))))
theorem ok_Folder_grown (F : Fx c mg fd) : FnOk P w c.K mg base (L2.CX P w) 6 (c.ad 65) (fd 65) (["self", "names"] : List Str) (spF c fn_Folder_grown) := def_okD F.d_Folder_grown sc_Folder_grown (bo_Folder_grown F)

def pl_kb_Folder_grown_2 : List Sr := [.p 0, .p 1]
theorem kb_Folder_grown_2 (F : Fx c mg fd) : KBd c.K (fd 65) (["self", "names"] : List Str) 2 ([] : List Str) pl_kb_Folder_grown_2 [] := kbd0 F.d_Folder_grown fun _ _ _ _ _ _ us ws l1 l2 => match us, ws, l1, l2 with | [_, _], [], _, _ => ⟨_, rfl, rfl⟩

def pl_kb_Folder_change_2 : List Sr := [.p 0, .p 1]
theorem kb_Folder_change_2 (F : Fx c mg fd) : KBd c.K (fd 66) (["self", "rows"] : List Str) 2 ([] : List Str) pl_kb_Folder_change_2 [] := kbd0 F.d_Folder_change fun _ _ _ _ _ _ us ws l1 l2 => match us, ws, l1, l2 with | [_, _], [], _, _ => ⟨_, rfl, rfl⟩

def ev_Folder_come_0 : Ss := sEx (fCn (fcArr fn_check_name 1 0 pl_kb_check_name_1 []) (fCons (fV 1) (fNil)) (fNil))

def ev_Folder_come_1 : Ss := sEx (fMt 59 ("change" : Str) (fcArr fn_Folder_change 2 0 pl_kb_Folder_change_2 []) (fV 0) (fCons (fMt 59 ("grown" : Str) (fcArr fn_Folder_grown 2 0 pl_kb_Folder_grown_2 []) (fV 0) (fCons (fLst false (fCons (fV 1) (fNil))) (fNil)) (fNil)) (fNil)) (fNil))

def ev_Folder_come_2 : Ss := sRt (fB oIx (fB oIx (fFld [59, 82] ("rows" : Str) (fV 0)) (fU oNeg (fK (.int 1)))) (fK (.int 1)))

/-! Folder.come -/
def ev_Folder_come : Ss := sSeq ev_Folder_come_0 (sSeq ev_Folder_come_1 (ev_Folder_come_2))
def fn_Folder_come : FN := fnP 2 2 ev_Folder_come
theorem bo_Folder_come (F : Fx c mg fd) : BodyOk P w c.K mg base c 6 (["self", "name"] : List Str) ("Folder.come" : Str) st_Folder_come (c.ad 67) ev_Folder_come := fun cdv A outer s H E hr tk po =>
  dss_cons (f1 := ev_Folder_come_0) (ds_expr (de_cn (callee_def (ok_check_name F) (hr.mono (by decide)) (kb_check_name_1 F) (fun _ _ => .nil) tk) (dargs_cons (ks := ([] : List Str)) (da_cons (de_v 1) (da_nil)) (dk_nil)) F.m_check_name F.d_check_name.kp)) (dss_cons (f1 := ev_Folder_come_1) (ds_expr (de_mt (callee_def (ok_Folder_change F) (hr.mono (by decide)) (kb_Folder_change_2 F) (fun _ _ => .nil) tk) (dargs_cons (ks := ([] : List Str)) (da_cons (de_mt (callee_def (ok_Folder_grown F) (hr.mono (by decide)) (kb_Folder_grown_2 F) (fun _ _ => .nil) tk) (dargs_cons (ks := ([] : List Str)) (da_cons (de_lst false (da_cons (de_v 1) (da_nil))) (da_nil)) (dk_nil)) (de_v 0) F.cl_Folder F.me_Folder_grown) (da_nil)) (dk_nil)) (de_v 0) F.cl_Folder F.me_Folder_change)) (dss_one (f1 := ev_Folder_come_2) (ds_ret (de_ix (ix_4 (hu_of hr)) (os_ix rfl) (de_ix (ix_4 (hu_of hr)) (os_ix rfl) (de_fld (at_rows_59_82 F) rfl (de_v 0)) (de_un un_neg us_neg (de_int))) (de_int)))))
theorem ok_Folder_come (F : Fx c mg fd) : FnOk P w c.K mg base (L2.CX P w) 7 (c.ad 67) (fd 67) (["self", "name"] : List Str) (spF c fn_Folder_come) := def_okD F.d_Folder_come sc_Folder_come (bo_Folder_come F)

def pl_kb_Folder_come_1_name : List Sr := [.p 0, .k 0]
theorem kb_Folder_come_1_name (F : Fx c mg fd) : KBd c.K (fd 67) (["self", "name"] : List Str) 1 (["name"] : List Str) pl_kb_Folder_come_1_name [] := kbd0 F.d_Folder_come fun _ _ _ _ _ _ us ws l1 l2 => match us, ws, l1, l2 with | [_], [_], _, _ => ⟨_, rfl, rfl⟩

def ev_FolderU_callU_0 : Ss := sEx (fCn (fcArr fn_check_name 1 0 pl_kb_check_name_1 []) (fCons (fV 1) (fNil)) (fNil))

def ev_FolderU_callU_1 : Ss := sRt (fB oIx (fMt 59 ("outlook" : Str) (fcArr fn_Folder_outlook 3 0 pl_kb_Folder_outlook_3 []) (fV 0) (fCons (fFld [59, 82] ("rows" : Str) (fV 0)) (fCons (fV 1) (fNil))) (fNil)) (fK (.int 1)))

/-! Folder.__call__ -/
def ev_FolderU_callU : Ss := sSeq ev_FolderU_callU_0 (ev_FolderU_callU_1)
def fn_FolderU_callU : FN := fnP 2 2 ev_FolderU_callU
theorem bo_FolderU_callU (F : Fx c mg fd) : BodyOk P w c.K mg base c 5 (["self", "name"] : List Str) ("Folder.__call__" : Str) st_FolderU_callU (c.ad 74) ev_FolderU_callU := fun cdv A outer s H E hr tk po =>
  dss_cons (f1 := ev_FolderU_callU_0) (ds_expr (de_cn (callee_def (ok_check_name F) (hr.mono (by decide)) (kb_check_name_1 F) (fun _ _ => .nil) tk) (dargs_cons (ks := ([] : List Str)) (da_cons (de_v 1) (da_nil)) (dk_nil)) F.m_check_name F.d_check_name.kp)) (dss_one (f1 := ev_FolderU_callU_1) (ds_ret (de_ix (ix_4 (hu_of hr)) (os_ix rfl) (de_mt (callee_def (ok_Folder_outlook F) (hr.mono (by decide)) (kb_Folder_outlook_3 F) (fun _ _ => .nil) tk) (dargs_cons (ks := ([] : List Str)) (da_cons (de_fld (at_rows_59_82 F) rfl (de_v 0)) (da_cons (de_v 1) (da_nil))) (dk_nil)) (de_v 0) F.cl_Folder F.me_Folder_outlook) (de_int))))
theorem ok_FolderU_callU (F : Fx c mg fd) : FnOk P w c.K mg base (L2.CX P w) 6 (c.ad 74) (fd 74) (["self", "name"] : List Str) (spF c fn_FolderU_callU) := def_okD F.d_FolderU_callU sc_FolderU_callU (bo_FolderU_callU F)

def pl_kb_FolderU_callU_1_name : List Sr := [.p 0, .k 0]
theorem kb_FolderU_callU_1_name (F : Fx c mg fd) : KBd c.K (fd 74) (["self", "name"] : List Str) 1 (["name"] : List Str) pl_kb_FolderU_callU_1_name [] := kbd0 F.d_FolderU_callU fun _ _ _ _ _ _ us ws l1 l2 => match us, ws, l1, l2 with | [_], [_], _, _ => ⟨_, rfl, rfl⟩

def pl_kb_FolderU_initU_1 : List Sr := [.p 0, .d 0, .d 1]
theorem kb_FolderU_initU_1 (F : Fx c mg fd) : KBd c.K (fd 60) (["self", "cleaner", "width"] : List Str) 1 ([] : List Str) pl_kb_FolderU_initU_1 [.non, .non] := kbd1 F.d_FolderU_initU (by simp) fun _ _ _ _ _ _ _ us ws its l1 l2 l3 => match us, ws, its, l1, l2, l3 with | [_], [], [_, _], _, _, _ => ⟨_, _, rfl, rfl, rfl⟩

def ev_Folder_bound_0 : Ss := sIf (fAnd (fBt (fB (oIsN true) (fV 1) (fK .non))) (fOr (fNot (fBt (fCn (fcArr fn_is_whole 1 0 pl_kb_is_whole_1 []) (fCons (fV 1) (fNil)) (fNil)))) (fBt (fB (oI fun i j => .bl (decide (i < j))) (fV 1) (fK (.int 1)))))) (sNo) (sNx)

def ev_Folder_bound_1 : Ss := sFl [59, 82] ("limit" : Str) (fV 0) (fV 1)

/-! Folder.bound -/
-- not walked: row 266 (Raise)
def ev_Folder_bound : Ss := sSeq ev_Folder_bound_0 (ev_Folder_bound_1)
def fn_Folder_bound : FN := fnP 2 2 ev_Folder_bound
theorem bo_Folder_bound (F : Fx c mg fd) : BodyOk P w c.K mg base c 1 (["self", "most"] : List Str) ("Folder.bound" : Str) st_Folder_bound (c.ad 63) ev_Folder_bound := fun cdv A outer s H E hr tk po =>
  dss_cons (f1 := ev_Folder_bound_0) (ds_if (dt_w (dw_and (dt_cmp op_notN os_notN (de_v 1) (de_non)) (dw_and1 (dt_w (dw_or (dt_not (dt_val (de_cn (callee_def (ok_is_whole F) (hr.mono (by decide)) (kb_is_whole_1 F) (fun _ _ => .nil) tk) (dargs_cons (ks := ([] : List Str)) (da_cons (de_v 1) (da_nil)) (dk_nil)) F.m_is_whole F.d_is_whole.kp))) (dw_or1 (dt_cmp op_lt (os_cmpI fun i j => decide (i < j)) (de_v 1) (de_int)))))))) (dss_one (ds_no)) (dss_nil)) (dss_one (f1 := ev_Folder_bound_1) (ds_fl (at_limit_59_82 F) rfl (de_v 0) (de_v 1)))
theorem ok_Folder_bound (F : Fx c mg fd) : FnOk P w c.K mg base (L2.CX P w) 2 (c.ad 63) (fd 63) (["self", "most"] : List Str) (spF c fn_Folder_bound) := def_okD F.d_Folder_bound sc_Folder_bound (bo_Folder_bound F)

def pl_kb_Folder_bound_1_most : List Sr := [.p 0, .k 0]
theorem kb_Folder_bound_1_most (F : Fx c mg fd) : KBd c.K (fd 63) (["self", "most"] : List Str) 1 (["most"] : List Str) pl_kb_Folder_bound_1_most [] := kbd0 F.d_Folder_bound fun _ _ _ _ _ _ us ws l1 l2 => match us, ws, l1, l2 with | [_], [_], _, _ => ⟨_, rfl, rfl⟩

/-! is_count -/
def ev_is_count : Ss := sRt (fAndV (fCn (fcArr fn_is_whole 1 0 pl_kb_is_whole_1 []) (fCons (fV 0) (fNil)) (fNil)) (fB (oI fun i j => .bl (decide (j ≤ i))) (fV 0) (fK (.int 0))))
def fn_is_count : FN := fnP 1 1 ev_is_count
theorem bo_is_count (F : Fx c mg fd) : BodyOk P w c.K mg base c 1 (["value"] : List Str) ("is_count" : Str) st_is_count (c.ad 21) ev_is_count := fun cdv A outer s H E hr tk po =>
  dss_one (ds_ret (de_and (de_cn (callee_def (ok_is_whole F) (hr.mono (by decide)) (kb_is_whole_1 F) (fun _ _ => .nil) tk) (dargs_cons (ks := ([] : List Str)) (da_cons (de_v 0) (da_nil)) (dk_nil)) F.m_is_whole F.d_is_whole.kp) (de_one (de_cmp op_ge (os_cmpI fun i j => decide (j ≤ i)) (de_v 0) (de_int)))))
theorem ok_is_count (F : Fx c mg fd) : FnOk P w c.K mg base (L2.CX P w) 2 (c.ad 21) (fd 21) (["value"] : List Str) (spF c fn_is_count) := def_okD F.d_is_count sc_is_count (bo_is_count F)

def pl_kb_is_count_1 : List Sr := [.p 0]
theorem kb_is_count_1 (F : Fx c mg fd) : KBd c.K (fd 21) (["value"] : List Str) 1 ([] : List Str) pl_kb_is_count_1 [] := kbd0 F.d_is_count fun _ _ _ _ _ _ us ws l1 l2 => match us, ws, l1, l2 with | [_], [], _, _ => ⟨_, rfl, rfl⟩

/-! check_index -/
-- not walked: row 79 (Raise)
def ev_check_index : Ss := sIf (fOr (fNot (fBt (fCn (fcArr fn_is_count 1 0 pl_kb_is_count_1 []) (fCons (fV 0) (fNil)) (fNil)))) (fBt (fB (oI fun i j => .bl (decide (j ≤ i))) (fV 0) (fV 1)))) (sNo) (sNx)
def fn_check_index : FN := fnP 2 2 ev_check_index
theorem bo_check_index (F : Fx c mg fd) : BodyOk P w c.K mg base c 2 (["index", "many"] : List Str) ("check_index" : Str) st_check_index (c.ad 29) ev_check_index := fun cdv A outer s H E hr tk po =>
  dss_one (ds_if (dt_w (dw_or (dt_not (dt_val (de_cn (callee_def (ok_is_count F) (hr.mono (by decide)) (kb_is_count_1 F) (fun _ _ => .nil) tk) (dargs_cons (ks := ([] : List Str)) (da_cons (de_v 0) (da_nil)) (dk_nil)) F.m_is_count F.d_is_count.kp))) (dw_or1 (dt_cmp op_ge (os_cmpI fun i j => decide (j ≤ i)) (de_v 0) (de_v 1))))) (dss_one (ds_no)) (dss_nil))
theorem ok_check_index (F : Fx c mg fd) : FnOk P w c.K mg base (L2.CX P w) 3 (c.ad 29) (fd 29) (["index", "many"] : List Str) (spF c fn_check_index) := def_okD F.d_check_index sc_check_index (bo_check_index F)

def pl_kb_check_index_2 : List Sr := [.p 0, .p 1]
theorem kb_check_index_2 (F : Fx c mg fd) : KBd c.K (fd 29) (["index", "many"] : List Str) 2 ([] : List Str) pl_kb_check_index_2 [] := kbd0 F.d_check_index fun _ _ _ _ _ _ us ws l1 l2 => match us, ws, l1, l2 with | [_, _], [], _, _ => ⟨_, rfl, rfl⟩

def ev_stretch_b1_0 : Ss := sAs (.nm 0) (fCn (fcArr fn_after 2 0 pl_kb_after_2 []) (fCons (fV 0) (fCons (fV 1) (fNil))) (fNil))

def ev_stretch_b1_1 : Ss := sEx (fBM tyLst oAppend (fV 3) (fCons (fV 0) (fNil)))

def ev_stretch_b1 : Ss := sSeq ev_stretch_b1_0 (ev_stretch_b1_1)

def ev_stretch_0 : Ss := sAs (.nm 3) (fLst true (fCons (fV 0) (fNil)))

def ev_stretch_1 : Ss := sWh (fBt (fB (oIn false) (fV 0) (fV 2))) ev_stretch_b1 200

def ev_stretch_2 : Ss := sRt (fV 3)

/-! stretch -/
def ev_stretch : Ss := sSeq ev_stretch_0 (sSeq ev_stretch_1 (ev_stretch_2))
def fn_stretch : FN := fnP 3 4 ev_stretch
theorem bo_stretch (F : Fx c mg fd) : BodyOk P w c.K mg base c 2 (["name", "width", "given", "found"] : List Str) ("stretch" : Str) st_stretch (c.ad 38) ev_stretch := fun cdv A outer s H E hr tk po =>
  dss_cons (f1 := ev_stretch_0) (ds_as (tg := .nm 3) (de_lst true (da_cons (de_v 0) (da_nil))) (dg_nm sc_stretch.nd)) (dss_cons (f1 := ev_stretch_1) (ds_while (f1 := ev_stretch_b1) (n := 200) po (dt_cmp (op_in3 (hu65 hr)) (os_in rfl) (de_v 0) (de_v 2)) (dss_cons (f1 := ev_stretch_b1_0) (ds_as (tg := .nm 0) (de_cn (callee_def (ok_after F) (hr.mono (by decide)) (kb_after_2 F) (fun _ _ => .nil) tk) (dargs_cons (ks := ([] : List Str)) (da_cons (de_v 0) (da_cons (de_v 1) (da_nil))) (dk_nil)) F.m_after F.d_after.kp) (dg_nm sc_stretch.nd)) (dss_one (f1 := ev_stretch_b1_1) (ds_expr (de_bm PySem.F.plainAttrs_list PySem.F.slot_list_append PySem.F.type_list_append mt_append ts_lst ms_append rfl (de_v 3) (da_cons (de_v 0) (da_nil))))))) (dss_one (f1 := ev_stretch_2) (ds_ret (de_v 3))))
theorem ok_stretch (F : Fx c mg fd) : FnOk P w c.K mg base (L2.CX P w) 3 (c.ad 38) (fd 38) (["name", "width", "given"] : List Str) (spF c fn_stretch) := def_okD F.d_stretch sc_stretch (bo_stretch F)

def ev_flowing_b1_0 : Ss := sAs (.nm 5) (fBM0 tyLst oPop (fV 4))

def ev_flowing_b1_1 : Ss := sSI (fV 2) (fV 5) (fB (oAdd false) (fDGet (fV 2) (fV 5) (fK (.int 0))) (fK (.int 1)))

def ev_flowing_b1_2 : Ss := sIf (fBt (fB (oI fun i j => .bl (decide (j < i))) (fB oIx (fV 2) (fV 5)) (fK (.int 1)))) (sSeq (sAs (.nm 6) (fCn (fcArr fn_after 2 0 pl_kb_after_2 []) (fCons (fV 5) (fCons (fV 1) (fNil))) (fNil))) (sIf (fBt (fB (oIsN false) (fV 6) (fK .non))) (sAs (.nm 3) (fB (oAdd false) (fV 3) (fK (.int 1)))) (sEx (fBM tyLst oAppend (fV 4) (fCons (fV 6) (fNil)))))) (sNx)

def ev_flowing_b1 : Ss := sSeq ev_flowing_b1_0 (sSeq ev_flowing_b1_1 (ev_flowing_b1_2))

def ev_flowing_0 : Ss := sPar [2, 3, 4] (fCons (fDn) (fCons (fK (.int 0)) (fCons (fA (oList true) (fCons (fV 0) (fNil))) (fNil))))

def ev_flowing_1 : Ss := sWh (fBt (fB (oEq true) (fV 4) (fLst false (fNil)))) ev_flowing_b1 200

def ev_flowing_2 : Ss := sRt (fTup (fCons (fV 2) (fCons (fV 3) (fNil))))

/-! flowing -/
def ev_flowing : Ss := sSeq ev_flowing_0 (sSeq ev_flowing_1 (ev_flowing_2))
def fn_flowing : FN := fnP 2 7 ev_flowing
theorem bo_flowing (F : Fx c mg fd) : BodyOk P w c.K mg base c 2 (["names", "width", "found", "lost", "work", "name", "later"] : List Str) ("flowing" : Str) st_flowing (c.ad 33) ev_flowing := fun cdv A outer s H E hr tk po =>
  dss_cons (f1 := ev_flowing_0) (ds_par3 (i := 2) (j := 3) (l := 4) rfl sc_flowing.nd (da_cons (de_dn) (da_cons (de_int) (da_cons (de_ct (cr_list2 rfl) (cs_list rfl true) F.b_list rfl (da_cons (de_v 0) (da_nil))) (da_nil))))) (dss_cons (f1 := ev_flowing_1) (ds_while (f1 := ev_flowing_b1) (n := 200) po (dt_cmp (op_ne2 hr.units) (os_ne rfl) (de_v 4) (de_lst false (da_nil))) (dss_cons (f1 := ev_flowing_b1_0) (ds_as (tg := .nm 5) (de_bm0 PySem.F.plainAttrs_list PySem.F.slot_list_pop PySem.F.type_list_pop mt_pop ts_lst ms_pop rfl (de_v 4)) (dg_nm sc_flowing.nd)) (dss_cons (f1 := ev_flowing_b1_1) (ds_si (hu_of hr) (de_v 2) (de_v 5) (de_op op_add3 (os_add false) (de_dget (hu_of hr) (de_v 2) (de_v 5) (de_int)) (de_int))) (dss_one (f1 := ev_flowing_b1_2) (ds_if (dt_cmp op_gt (os_cmpI fun i j => decide (j < i)) (de_ix (ix_4 (hu_of hr)) (os_ix rfl) (de_v 2) (de_v 5)) (de_int)) (dss_cons (ds_as (tg := .nm 6) (de_cn (callee_def (ok_after F) (hr.mono (by decide)) (kb_after_2 F) (fun _ _ => .nil) tk) (dargs_cons (ks := ([] : List Str)) (da_cons (de_v 5) (da_cons (de_v 1) (da_nil))) (dk_nil)) F.m_after F.d_after.kp) (dg_nm sc_flowing.nd)) (dss_one (ds_if (dt_cmp op_isN os_isN (de_v 6) (de_non)) (dss_one (ds_as (tg := .nm 3) (de_op op_add3 (os_add false) (de_v 3) (de_int)) (dg_nm sc_flowing.nd))) (dss_one (ds_expr (de_bm PySem.F.plainAttrs_list PySem.F.slot_list_append PySem.F.type_list_append mt_append ts_lst ms_append rfl (de_v 4) (da_cons (de_v 6) (da_nil)))))))) (dss_nil)))))) (dss_one (f1 := ev_flowing_2) (ds_ret (de_tup (da_cons (de_v 2) (da_cons (de_v 3) (da_nil)))))))
theorem ok_flowing (F : Fx c mg fd) : FnOk P w c.K mg base (L2.CX P w) 3 (c.ad 33) (fd 33) (["names", "width"] : List Str) (spF c fn_flowing) := def_okD F.d_flowing sc_flowing (bo_flowing F)

/-! without -/
def ev_without : Ss := sRt (fB (oAdd false) (fSl false (fV 0) (fNo) (fSo (fV 1))) (fSl false (fV 0) (fSo (fB (oAdd false) (fV 1) (fK (.int 1)))) (fNo)))
def fn_without : FN := fnP 2 2 ev_without
theorem bo_without (F : Fx c mg fd) : BodyOk P w c.K mg base c 0 (["names", "index"] : List Str) ("without" : Str) st_without (c.ad 39) ev_without := fun cdv A outer s H E hr tk po =>
  dss_one (ds_ret (de_op op_add3 (os_add false) (de_sl false rfl (de_v 0) (do_no) (do_so (de_v 1))) (de_sl false rfl (de_v 0) (do_so (de_op op_add3 (os_add false) (de_v 1) (de_int))) (do_no))))
theorem ok_without (F : Fx c mg fd) : FnOk P w c.K mg base (L2.CX P w) 1 (c.ad 39) (fd 39) (["names", "index"] : List Str) (spF c fn_without) := def_okD F.d_without sc_without (bo_without F)

def pl_kb_without_2 : List Sr := [.p 0, .p 1]
theorem kb_without_2 (F : Fx c mg fd) : KBd c.K (fd 39) (["names", "index"] : List Str) 2 ([] : List Str) pl_kb_without_2 [] := kbd0 F.d_without fun _ _ _ _ _ _ us ws l1 l2 => match us, ws, l1, l2 with | [_, _], [], _, _ => ⟨_, rfl, rfl⟩

def pl_kb_flowing_2 : List Sr := [.p 0, .p 1]
theorem kb_flowing_2 (F : Fx c mg fd) : KBd c.K (fd 33) (["names", "width"] : List Str) 2 ([] : List Str) pl_kb_flowing_2 [] := kbd0 F.d_flowing fun _ _ _ _ _ _ us ws l1 l2 => match us, ws, l1, l2 with | [_, _], [], _, _ => ⟨_, rfl, rfl⟩

def pl_kb_stretch_3 : List Sr := [.p 0, .p 1, .p 2]
theorem kb_stretch_3 (F : Fx c mg fd) : KBd c.K (fd 38) (["name", "width", "given"] : List Str) 3 ([] : List Str) pl_kb_stretch_3 [] := kbd0 F.d_stretch fun _ _ _ _ _ _ us ws l1 l2 => match us, ws, l1, l2 with | [_, _, _], [], _, _ => ⟨_, rfl, rfl⟩

/-! chances -/
def ev_chances : Ss := sRt (fCn (fcArr fn_stretch 3 0 pl_kb_stretch_3 []) (fCons (fB oIx (fV 0) (fV 1)) (fCons (fV 2) (fCons (fB oIx (fCn (fcArr fn_flowing 2 0 pl_kb_flowing_2 []) (fCons (fCn (fcArr fn_without 2 0 pl_kb_without_2 []) (fCons (fV 0) (fCons (fV 1) (fNil))) (fNil)) (fCons (fV 2) (fNil))) (fNil)) (fK (.int 0))) (fNil)))) (fNil))
def fn_chances : FN := fnP 3 3 ev_chances
theorem bo_chances (F : Fx c mg fd) : BodyOk P w c.K mg base c 3 (["names", "index", "width"] : List Str) ("chances" : Str) st_chances (c.ad 40) ev_chances := fun cdv A outer s H E hr tk po =>
  dss_one (ds_ret (de_cn (callee_def (ok_stretch F) (hr.mono (by decide)) (kb_stretch_3 F) (fun _ _ => .nil) tk) (dargs_cons (ks := ([] : List Str)) (da_cons (de_ix (ix_4 (hu_of hr)) (os_ix rfl) (de_v 0) (de_v 1)) (da_cons (de_v 2) (da_cons (de_ix (ix_4 (hu_of hr)) (os_ix rfl) (de_cn (callee_def (ok_flowing F) (hr.mono (by decide)) (kb_flowing_2 F) (fun _ _ => .nil) tk) (dargs_cons (ks := ([] : List Str)) (da_cons (de_cn (callee_def (ok_without F) (hr.mono (by decide)) (kb_without_2 F) (fun _ _ => .nil) tk) (dargs_cons (ks := ([] : List Str)) (da_cons (de_v 0) (da_cons (de_v 1) (da_nil))) (dk_nil)) F.m_without F.d_without.kp) (da_cons (de_v 2) (da_nil))) (dk_nil)) F.m_flowing F.d_flowing.kp) (de_int)) (da_nil)))) (dk_nil)) F.m_stretch F.d_stretch.kp))
theorem ok_chances (F : Fx c mg fd) : FnOk P w c.K mg base (L2.CX P w) 4 (c.ad 40) (fd 40) (["names", "index", "width"] : List Str) (spF c fn_chances) := def_okD F.d_chances sc_chances (bo_chances F)

/-! Folder.wants -/
def ev_Folder_wants : Ss := sRt (fLc false (fI (fFld [59, 82] ("rows" : Str) (fV 0))) (.nm 1) [1] (fYes) (fB oIx (fV 1) (fK (.int 0))))
def fn_Folder_wants : FN := fnP 1 2 ev_Folder_wants
theorem bo_Folder_wants (F : Fx c mg fd) : BodyOk P w c.K mg base c 0 (["self", "row"] : List Str) ("Folder.wants" : Str) st_Folder_wants (c.ad 75) ev_Folder_wants := fun cdv A outer s H E hr tk po =>
  dss_one (ds_ret (de_lc (own := [(("row" : Str), 1)]) (t := (.nm 1)) false rfl sc_Folder_wants.nd (di_any rfl (de_fld (at_rows_59_82 F) rfl (de_v 0))) (fun _ _ _ _ _ => dg_nm sc_Folder_wants.nd) (fun _ _ _ _ _ => dts_nil) (fun _ _ _ _ _ => de_ix (ix_4 (hu_of hr)) (os_ix rfl) (de_v 1) (de_int)) (ok := by kernel_rfl)))
theorem ok_Folder_wants (F : Fx c mg fd) : FnOk P w c.K mg base (L2.CX P w) 1 (c.ad 75) (fd 75) (["self"] : List Str) (spF c fn_Folder_wants) := def_okD F.d_Folder_wants sc_Folder_wants (bo_Folder_wants F)

def pl_kb_Folder_wants_1 : List Sr := [.p 0]
theorem kb_Folder_wants_1 (F : Fx c mg fd) : KBd c.K (fd 75) (["self"] : List Str) 1 ([] : List Str) pl_kb_Folder_wants_1 [] := kbd0 F.d_Folder_wants fun _ _ _ _ _ _ us ws l1 l2 => match us, ws, l1, l2 with | [_], [], _, _ => ⟨_, rfl, rfl⟩

def pl_kb_chances_3 : List Sr := [.p 0, .p 1, .p 2]
theorem kb_chances_3 (F : Fx c mg fd) : KBd c.K (fd 40) (["names", "index", "width"] : List Str) 3 ([] : List Str) pl_kb_chances_3 [] := kbd0 F.d_chances fun _ _ _ _ _ _ us ws l1 l2 => match us, ws, l1, l2 with | [_, _, _], [], _, _ => ⟨_, rfl, rfl⟩

def ev_Folder_could_0 : Ss := sEx (fCn (fcArr fn_check_index 2 0 pl_kb_check_index_2 []) (fCons (fV 1) (fCons (fA oLen (fCons (fFld [59, 82] ("rows" : Str) (fV 0)) (fNil))) (fNil))) (fNil))

def ev_Folder_could_1 : Ss := sRt (fCn (fcArr fn_chances 3 0 pl_kb_chances_3 []) (fCons (fMt 59 ("wants" : Str) (fcArr fn_Folder_wants 1 0 pl_kb_Folder_wants_1 []) (fV 0) (fNil) (fNil)) (fCons (fV 1) (fCons (fFld [59] ("width" : Str) (fV 0)) (fNil)))) (fNil))

/-! Folder.could -/
def ev_Folder_could : Ss := sSeq ev_Folder_could_0 (ev_Folder_could_1)
def fn_Folder_could : FN := fnP 2 2 ev_Folder_could
theorem bo_Folder_could (F : Fx c mg fd) : BodyOk P w c.K mg base c 4 (["self", "index"] : List Str) ("Folder.could" : Str) st_Folder_could (c.ad 76) ev_Folder_could := fun cdv A outer s H E hr tk po =>
  dss_cons (f1 := ev_Folder_could_0) (ds_expr (de_cn (callee_def (ok_check_index F) (hr.mono (by decide)) (kb_check_index_2 F) (fun _ _ => .nil) tk) (dargs_cons (ks := ([] : List Str)) (da_cons (de_v 1) (da_cons (de_cb cr_len4 (cs_len rfl) F.b_len rfl (da_cons (de_fld (at_rows_59_82 F) rfl (de_v 0)) (da_nil))) (da_nil))) (dk_nil)) F.m_check_index F.d_check_index.kp)) (dss_one (f1 := ev_Folder_could_1) (ds_ret (de_cn (callee_def (ok_chances F) (hr.mono (by decide)) (kb_chances_3 F) (fun _ _ => .nil) tk) (dargs_cons (ks := ([] : List Str)) (da_cons (de_mt (callee_def (ok_Folder_wants F) (hr.mono (by decide)) (kb_Folder_wants_1 F) (fun _ _ => .nil) tk) (dargs_nil (ks := ([] : List Str)) (dk_nil)) (de_v 0) F.cl_Folder F.me_Folder_wants) (da_cons (de_v 1) (da_cons (de_fld (at_width_59 F) rfl (de_v 0)) (da_nil)))) (dk_nil)) F.m_chances F.d_chances.kp)))
theorem ok_Folder_could (F : Fx c mg fd) : FnOk P w c.K mg base (L2.CX P w) 5 (c.ad 76) (fd 76) (["self", "index"] : List Str) (spF c fn_Folder_could) := def_okD F.d_Folder_could sc_Folder_could (bo_Folder_could F)

def pl_kb_Folder_could_1_index : List Sr := [.p 0, .k 0]
theorem kb_Folder_could_1_index (F : Fx c mg fd) : KBd c.K (fd 76) (["self", "index"] : List Str) 1 (["index"] : List Str) pl_kb_Folder_could_1_index [] := kbd0 F.d_Folder_could fun _ _ _ _ _ _ us ws l1 l2 => match us, ws, l1, l2 with | [_], [_], _, _ => ⟨_, rfl, rfl⟩

def ev_ahead_of_b1_0 : Ss := sIf (fBt (fB (oIn true) (fV 0) (fV 3))) (sRt (fK .non)) (sNx)

def ev_ahead_of_b1_1 : Ss := sEx (fBM tyLst oAppend (fV 4) (fCons (fB oIx (fV 3) (fV 0)) (fNil)))

def ev_ahead_of_b1_2 : Ss := sAs (.nm 0) (fCn (fcArr fn_after 2 0 pl_kb_after_2 []) (fCons (fV 0) (fCons (fV 2) (fNil))) (fNil))

def ev_ahead_of_b1 : Ss := sSeq ev_ahead_of_b1_0 (sSeq ev_ahead_of_b1_1 (ev_ahead_of_b1_2))

def ev_ahead_of_0 : Ss := sAs (.nm 4) (fLst true (fNil))

def ev_ahead_of_1 : Ss := sWh (fBt (fB (oEq true) (fV 0) (fV 1))) ev_ahead_of_b1 200

def ev_ahead_of_2 : Ss := sRt (fV 4)

/-! ahead_of -/
def ev_ahead_of : Ss := sSeq ev_ahead_of_0 (sSeq ev_ahead_of_1 (ev_ahead_of_2))
def fn_ahead_of : FN := fnP 4 5 ev_ahead_of
theorem bo_ahead_of (F : Fx c mg fd) : BodyOk P w c.K mg base c 2 (["name", "got", "width", "holders", "found"] : List Str) ("ahead_of" : Str) st_ahead_of (c.ad 34) ev_ahead_of := fun cdv A outer s H E hr tk po =>
  dss_cons (f1 := ev_ahead_of_0) (ds_as (tg := .nm 4) (de_lst true (da_nil)) (dg_nm sc_ahead_of.nd)) (dss_cons (f1 := ev_ahead_of_1) (ds_while (f1 := ev_ahead_of_b1) (n := 200) po (dt_cmp (op_ne2 hr.units) (os_ne rfl) (de_v 0) (de_v 1)) (dss_cons (f1 := ev_ahead_of_b1_0) (ds_if (dt_cmp (op_ni3 (hu65 hr)) (os_ni rfl) (de_v 0) (de_v 3)) (dss_one (ds_ret (de_non))) (dss_nil)) (dss_cons (f1 := ev_ahead_of_b1_1) (ds_expr (de_bm PySem.F.plainAttrs_list PySem.F.slot_list_append PySem.F.type_list_append mt_append ts_lst ms_append rfl (de_v 4) (da_cons (de_ix (ix_4 (hu_of hr)) (os_ix rfl) (de_v 3) (de_v 0)) (da_nil)))) (dss_one (f1 := ev_ahead_of_b1_2) (ds_as (tg := .nm 0) (de_cn (callee_def (ok_after F) (hr.mono (by decide)) (kb_after_2 F) (fun _ _ => .nil) tk) (dargs_cons (ks := ([] : List Str)) (da_cons (de_v 0) (da_cons (de_v 2) (da_nil))) (dk_nil)) F.m_after F.d_after.kp) (dg_nm sc_ahead_of.nd)))))) (dss_one (f1 := ev_ahead_of_2) (ds_ret (de_v 4))))
theorem ok_ahead_of (F : Fx c mg fd) : FnOk P w c.K mg base (L2.CX P w) 3 (c.ad 34) (fd 34) (["name", "got", "width", "holders"] : List Str) (spF c fn_ahead_of) := def_okD F.d_ahead_of sc_ahead_of (bo_ahead_of F)

def pl_kb_ahead_of_4 : List Sr := [.p 0, .p 1, .p 2, .p 3]
theorem kb_ahead_of_4 (F : Fx c mg fd) : KBd c.K (fd 34) (["name", "got", "width", "holders"] : List Str) 4 ([] : List Str) pl_kb_ahead_of_4 [] := kbd0 F.d_ahead_of fun _ _ _ _ _ _ us ws l1 l2 => match us, ws, l1, l2 with | [_, _, _, _], [], _, _ => ⟨_, rfl, rfl⟩

def ev_needs_0 : Ss := sAs (.nm 3) (fDc false (fIa srcEn (fCons (fV 1) (fNil))) (.tp [5, 6]) [5, 6] (fBt (fB (oIsN true) (fV 6) (fK .non))) (fV 6) (fV 5))

def ev_needs_1 : Ss := sIf (fBt (fB (oEq true) (fA oLen (fCons (fV 3) (fNil))) (fA oLen (fCons (fLc false (fI (fV 1)) (.nm 6) [6] (fBt (fB (oIsN true) (fV 6) (fK .non))) (fV 6)) (fNil))))) (sRt (fK .non)) (sNx)

def ev_needs_2 : Ss := sAs (.nm 4) (fLc false (fIa srcEn (fCons (fV 0) (fNil))) (.tp [5, 7]) [5, 7] (fYes) (fCn (fcArr fn_ahead_of 4 0 pl_kb_ahead_of_4 []) (fCons (fV 7) (fCons (fB oIx (fV 1) (fV 5)) (fCons (fV 2) (fCons (fV 3) (fNil))))) (fNil)))

def ev_needs_3 : Ss := sRt (fIf (fBt (fB (oIn false) (fK .non) (fV 4))) (fK .non) (fV 4))

/-! needs -/
def ev_needs : Ss := sSeq ev_needs_0 (sSeq ev_needs_1 (sSeq ev_needs_2 (ev_needs_3)))
def fn_needs : FN := fnP 3 8 ev_needs
theorem bo_needs (F : Fx c mg fd) : BodyOk P w c.K mg base c 3 (["names", "given", "width", "holders", "found", "at", "got", "name"] : List Str) ("needs" : Str) st_needs (c.ad 35) ev_needs := fun cdv A outer s H E hr tk po =>
  dss_cons (f1 := ev_needs_0) (ds_as (tg := .nm 3) (de_dc (own := [(("at" : Str), 5), (("got" : Str), 6)]) (t := (.tp [5, 6])) false rfl sc_needs.nd (di_enum rfl F.b_enumerate (da_cons (de_v 1) (da_nil))) (fun _ _ _ _ _ => dg_tp rfl (dgs_cons sc_needs.nd (dgs_cons sc_needs.nd (dgs_nil)))) (fun _ _ _ _ _ => dts_one (dt_cmp op_notN os_notN (de_v 6) (de_non))) (fun _ _ _ _ _ => de_v 6) (fun _ _ _ _ _ => de_v 5) (ok := by kernel_rfl)) (dg_nm sc_needs.nd)) (dss_cons (f1 := ev_needs_1) (ds_if (dt_cmp (op_ne2 hr.units) (os_ne rfl) (de_cb cr_len4 (cs_len rfl) F.b_len rfl (da_cons (de_v 3) (da_nil))) (de_cb cr_len4 (cs_len rfl) F.b_len rfl (da_cons (de_lc (own := [(("got" : Str), 6)]) (t := (.nm 6)) false rfl sc_needs.nd (di_any rfl (de_v 1)) (fun _ _ _ _ _ => dg_nm sc_needs.nd) (fun _ _ _ _ _ => dts_one (dt_cmp op_notN os_notN (de_v 6) (de_non))) (fun _ _ _ _ _ => de_v 6) (ok := by kernel_rfl)) (da_nil)))) (dss_one (ds_ret (de_non))) (dss_nil)) (dss_cons (f1 := ev_needs_2) (ds_setLc (i := 4) (own := [(("at" : Str), 5), (("name" : Str), 7)]) (t := (.tp [5, 7])) false rfl sc_needs.nd (di_enum rfl F.b_enumerate (da_cons (de_v 0) (da_nil))) (fun _ _ _ _ _ => dg_tp rfl (dgs_cons sc_needs.nd (dgs_cons sc_needs.nd (dgs_nil)))) (fun _ _ _ _ _ => dts_nil) (fun _ _ _ _ _ => de_cn (callee_def (ok_ahead_of F) (hr.mono (by decide)) (kb_ahead_of_4 F) (fun _ _ => .nil) takes0) (dargs_cons (ks := ([] : List Str)) (da_cons (de_v 7) (da_cons (de_ix (ix_4 (hu_of hr)) (os_ix rfl) (de_v 1) (de_v 5)) (da_cons (de_v 2) (da_cons (de_v 3) (da_nil))))) (dk_nil)) F.m_ahead_of F.d_ahead_of.kp) (ok := by kernel_rfl)) (dss_one (f1 := ev_needs_3) (ds_ret (de_if (dt_cmp (op_in3 (hu65 hr)) (os_in rfl) (de_non) (de_v 4)) (de_non) (de_v 4))))))
theorem ok_needs (F : Fx c mg fd) : FnOk P w c.K mg base (L2.CX P w) 4 (c.ad 35) (fd 35) (["names", "given", "width"] : List Str) (spF c fn_needs) := def_okD F.d_needs sc_needs (bo_needs F)

def pl_kb_needs_3 : List Sr := [.p 0, .p 1, .p 2]
theorem kb_needs_3 (F : Fx c mg fd) : KBd c.K (fd 35) (["names", "given", "width"] : List Str) 3 ([] : List Str) pl_kb_needs_3 [] := kbd0 F.d_needs fun _ _ _ _ _ _ us ws l1 l2 => match us, ws, l1, l2 with | [_, _, _], [], _, _ => ⟨_, rfl, rfl⟩

def ev_closed_b3 : Ss := sSI (fV 3) (fV 4) (fK (.bl true))

def ev_closed_b2 : Ss := sIf (fBt (fB (oIn false) (fV 2) (fV 3))) (sFor (fI (fA (oList false) (fCons (fB oIx (fV 1) (fV 2)) (fNil)))) (.nm 4) ev_closed_b3) (sNx)

def ev_closed_b1 : Ss := sFor (fI (fV 1)) (.nm 3) ev_closed_b2

def ev_closed_0 : Ss := sAs (.nm 1) (fLc false (fI (fV 0)) (.nm 3) [3] (fYes) (fDc true (fI (fV 3)) (.nm 4) [4] (fYes) (fV 4) (fK (.bl true))))

def ev_closed_1 : Ss := sFor (fIa srcR1 (fCons (fA oLen (fCons (fV 1) (fNil))) (fNil))) (.nm 2) ev_closed_b1

def ev_closed_2 : Ss := sRt (fV 1)

/-! closed -/
def ev_closed : Ss := sSeq ev_closed_0 (sSeq ev_closed_1 (ev_closed_2))
def fn_closed : FN := fnP 1 5 ev_closed
theorem bo_closed (F : Fx c mg fd) : BodyOk P w c.K mg base c 0 (["found", "full", "middle", "row", "one"] : List Str) ("closed" : Str) st_closed (c.ad 36) ev_closed := fun cdv A outer s H E hr tk po =>
  dss_cons (f1 := ev_closed_0) (ds_setLc (i := 1) (own := [(("row" : Str), 3)]) (t := (.nm 3)) false rfl sc_closed.nd (di_any rfl (de_v 0)) (fun _ _ _ _ _ => dg_nm sc_closed.nd) (fun _ _ _ _ _ => dts_nil) (fun _ _ _ _ _ => de_dc (own := [(("one" : Str), 4)]) (t := (.nm 4)) true rfl sc_closed.nd (di_any rfl (de_v 3)) (fun _ _ _ _ _ => dg_nm sc_closed.nd) (fun _ _ _ _ _ => dts_nil) (fun _ _ _ _ _ => de_v 4) (fun _ _ _ _ _ => de_bl) (ok := by kernel_rfl)) (ok := by kernel_rfl)) (dss_cons (f1 := ev_closed_1) (ds_for (t := (.nm 2)) (fb := ev_closed_b1) po rfl (di_range1 F.b_range (da_cons (de_cb cr_len4 (cs_len rfl) F.b_len rfl (da_cons (de_v 1) (da_nil))) (da_nil))) (dg_nm sc_closed.nd) (dss_one (ds_for (t := (.nm 3)) (fb := ev_closed_b2) po rfl (di_any rfl (de_v 1)) (dg_nm sc_closed.nd) (dss_one (ds_if (dt_cmp (op_in3 (hu65 hr)) (os_in rfl) (de_v 2) (de_v 3)) (dss_one (ds_for (t := (.nm 4)) (fb := ev_closed_b3) po rfl (di_any rfl (de_ct (cr_list2 rfl) (cs_list rfl false) F.b_list rfl (da_cons (de_ix (ix_4 (hu_of hr)) (os_ix rfl) (de_v 1) (de_v 2)) (da_nil)))) (dg_nm sc_closed.nd) (dss_one (ds_si (hu_of hr) (de_v 3) (de_v 4) (de_bl))))) (dss_nil)))))) (dss_one (f1 := ev_closed_2) (ds_ret (de_v 1))))
theorem ok_closed (F : Fx c mg fd) : FnOk P w c.K mg base (L2.CX P w) 1 (c.ad 36) (fd 36) (["found"] : List Str) (spF c fn_closed) := def_okD F.d_closed sc_closed (bo_closed F)

def pl_kb_closed_1 : List Sr := [.p 0]
theorem kb_closed_1 (F : Fx c mg fd) : KBd c.K (fd 36) (["found"] : List Str) 1 ([] : List Str) pl_kb_closed_1 [] := kbd0 F.d_closed fun _ _ _ _ _ _ us ws l1 l2 => match us, ws, l1, l2 with | [_], [], _, _ => ⟨_, rfl, rfl⟩

def ev_pairs_of_0 : Ss := sAs (.nm 3) (fCn (fcArr fn_needs 3 0 pl_kb_needs_3 []) (fCons (fV 0) (fCons (fV 1) (fCons (fV 2) (fNil)))) (fNil))

def ev_pairs_of_1 : Ss := sIf (fBt (fB (oIsN false) (fV 3) (fK .non))) (sRt (fK .non)) (sNx)

def ev_pairs_of_2 : Ss := sRt (fA (oSortP false) (fCons (fLc2 false (fIa srcEn (fCons (fCn (fcArr fn_closed 1 0 pl_kb_closed_1 []) (fCons (fV 3) (fNil)) (fNil)) (fNil))) (.tp [4, 5]) [4, 5, 6] (fYes) (fI (fV 5)) (.nm 6) [6] (fYes) (fTup (fCons (fV 6) (fCons (fV 4) (fNil))))) (fNil)))

/-! pairs_of -/
def ev_pairs_of : Ss := sSeq ev_pairs_of_0 (sSeq ev_pairs_of_1 (ev_pairs_of_2))
def fn_pairs_of : FN := fnP 3 7 ev_pairs_of
theorem bo_pairs_of (F : Fx c mg fd) : BodyOk P w c.K mg base c 4 (["names", "given", "width", "found", "other", "row", "one"] : List Str) ("pairs_of" : Str) st_pairs_of (c.ad 37) ev_pairs_of := fun cdv A outer s H E hr tk po =>
  dss_cons (f1 := ev_pairs_of_0) (ds_as (tg := .nm 3) (de_cn (callee_def (ok_needs F) (hr.mono (by decide)) (kb_needs_3 F) (fun _ _ => .nil) tk) (dargs_cons (ks := ([] : List Str)) (da_cons (de_v 0) (da_cons (de_v 1) (da_cons (de_v 2) (da_nil)))) (dk_nil)) F.m_needs F.d_needs.kp) (dg_nm sc_pairs_of.nd)) (dss_cons (f1 := ev_pairs_of_1) (ds_if (dt_cmp op_isN os_isN (de_v 3) (de_non)) (dss_one (ds_ret (de_non))) (dss_nil)) (dss_one (f1 := ev_pairs_of_2) (ds_ret (de_cb cr_sortedPO (cs_sortP rfl false) F.b_sorted rfl (da_cons (de_lc2 (own := [(("other" : Str), 4), (("row" : Str), 5), (("one" : Str), 6)]) (t := (.tp [4, 5])) (t1 := (.nm 6)) (vs1 := [6]) false rfl sc_pairs_of.nd (di_enum rfl F.b_enumerate (da_cons (de_cn (callee_def (ok_closed F) (hr.mono (by decide)) (kb_closed_1 F) (fun _ _ => .nil) tk) (dargs_cons (ks := ([] : List Str)) (da_cons (de_v 3) (da_nil)) (dk_nil)) F.m_closed F.d_closed.kp) (da_nil))) (fun _ _ _ _ _ => dg_tp rfl (dgs_cons sc_pairs_of.nd (dgs_cons sc_pairs_of.nd (dgs_nil)))) (fun _ _ _ _ _ => dts_nil) (fun _ _ _ _ _ => di_any rfl (de_v 5)) (fun _ _ _ _ _ => dg_nm sc_pairs_of.nd) (fun _ _ _ _ _ => dts_nil) (fun _ _ _ _ _ => de_tup (da_cons (de_v 6) (da_cons (de_v 4) (da_nil)))) (ok := by kernel_rfl)) (da_nil))))))
theorem ok_pairs_of (F : Fx c mg fd) : FnOk P w c.K mg base (L2.CX P w) 5 (c.ad 37) (fd 37) (["names", "given", "width"] : List Str) (spF c fn_pairs_of) := def_okD F.d_pairs_of sc_pairs_of (bo_pairs_of F)

/-! Folder.names -/
def ev_Folder_names : Ss := sRt (fLc false (fI (fFld [59, 82] ("rows" : Str) (fV 0))) (.nm 1) [1] (fYes) (fB oIx (fV 1) (fK (.int 1))))
def fn_Folder_names : FN := fnP 1 2 ev_Folder_names
theorem bo_Folder_names (F : Fx c mg fd) : BodyOk P w c.K mg base c 0 (["self", "row"] : List Str) ("Folder.names" : Str) st_Folder_names (c.ad 73) ev_Folder_names := fun cdv A outer s H E hr tk po =>
  dss_one (ds_ret (de_lc (own := [(("row" : Str), 1)]) (t := (.nm 1)) false rfl sc_Folder_names.nd (di_any rfl (de_fld (at_rows_59_82 F) rfl (de_v 0))) (fun _ _ _ _ _ => dg_nm sc_Folder_names.nd) (fun _ _ _ _ _ => dts_nil) (fun _ _ _ _ _ => de_ix (ix_4 (hu_of hr)) (os_ix rfl) (de_v 1) (de_int)) (ok := by kernel_rfl)))
theorem ok_Folder_names (F : Fx c mg fd) : FnOk P w c.K mg base (L2.CX P w) 1 (c.ad 73) (fd 73) (["self"] : List Str) (spF c fn_Folder_names) := def_okD F.d_Folder_names sc_Folder_names (bo_Folder_names F)

def pl_kb_Folder_names_1 : List Sr := [.p 0]
theorem kb_Folder_names_1 (F : Fx c mg fd) : KBd c.K (fd 73) (["self"] : List Str) 1 ([] : List Str) pl_kb_Folder_names_1 [] := kbd0 F.d_Folder_names fun _ _ _ _ _ _ us ws l1 l2 => match us, ws, l1, l2 with | [_], [], _, _ => ⟨_, rfl, rfl⟩

def pl_kb_pairs_of_3 : List Sr := [.p 0, .p 1, .p 2]
theorem kb_pairs_of_3 (F : Fx c mg fd) : KBd c.K (fd 37) (["names", "given", "width"] : List Str) 3 ([] : List Str) pl_kb_pairs_of_3 [] := kbd0 F.d_pairs_of fun _ _ _ _ _ _ us ws l1 l2 => match us, ws, l1, l2 with | [_, _, _], [], _, _ => ⟨_, rfl, rfl⟩

def ev_Folder_before_0 : Ss := sEx (fCn (fcArr fn_check_index 2 0 pl_kb_check_index_2 []) (fCons (fV 1) (fCons (fA oLen (fCons (fFld [59, 82] ("rows" : Str) (fV 0)) (fNil))) (fNil))) (fNil))

def ev_Folder_before_1 : Ss := sAs (.nm 2) (fCn (fcArr fn_pairs_of 3 0 pl_kb_pairs_of_3 []) (fCons (fMt 59 ("wants" : Str) (fcArr fn_Folder_wants 1 0 pl_kb_Folder_wants_1 []) (fV 0) (fNil) (fNil)) (fCons (fMt 59 ("names" : Str) (fcArr fn_Folder_names 1 0 pl_kb_Folder_names_1 []) (fV 0) (fNil) (fNil)) (fCons (fFld [59] ("width" : Str) (fV 0)) (fNil)))) (fNil))

def ev_Folder_before_2 : Ss := sRt (fLc false (fI (fV 2)) (.tp [3, 4]) [3, 4] (fBt (fB (oEq false) (fV 4) (fV 1))) (fV 3))

/-! Folder.before -/
def ev_Folder_before : Ss := sSeq ev_Folder_before_0 (sSeq ev_Folder_before_1 (ev_Folder_before_2))
def fn_Folder_before : FN := fnP 2 5 ev_Folder_before
theorem bo_Folder_before (F : Fx c mg fd) : BodyOk P w c.K mg base c 5 (["self", "index", "pairs", "one", "other"] : List Str) ("Folder.before" : Str) st_Folder_before (c.ad 77) ev_Folder_before := fun cdv A outer s H E hr tk po =>
  dss_cons (f1 := ev_Folder_before_0) (ds_expr (de_cn (callee_def (ok_check_index F) (hr.mono (by decide)) (kb_check_index_2 F) (fun _ _ => .nil) tk) (dargs_cons (ks := ([] : List Str)) (da_cons (de_v 1) (da_cons (de_cb cr_len4 (cs_len rfl) F.b_len rfl (da_cons (de_fld (at_rows_59_82 F) rfl (de_v 0)) (da_nil))) (da_nil))) (dk_nil)) F.m_check_index F.d_check_index.kp)) (dss_cons (f1 := ev_Folder_before_1) (ds_as (tg := .nm 2) (de_cn (callee_def (ok_pairs_of F) (hr.mono (by decide)) (kb_pairs_of_3 F) (fun _ _ => .nil) tk) (dargs_cons (ks := ([] : List Str)) (da_cons (de_mt (callee_def (ok_Folder_wants F) (hr.mono (by decide)) (kb_Folder_wants_1 F) (fun _ _ => .nil) tk) (dargs_nil (ks := ([] : List Str)) (dk_nil)) (de_v 0) F.cl_Folder F.me_Folder_wants) (da_cons (de_mt (callee_def (ok_Folder_names F) (hr.mono (by decide)) (kb_Folder_names_1 F) (fun _ _ => .nil) tk) (dargs_nil (ks := ([] : List Str)) (dk_nil)) (de_v 0) F.cl_Folder F.me_Folder_names) (da_cons (de_fld (at_width_59 F) rfl (de_v 0)) (da_nil)))) (dk_nil)) F.m_pairs_of F.d_pairs_of.kp) (dg_nm sc_Folder_before.nd)) (dss_one (f1 := ev_Folder_before_2) (ds_ret (de_lc (own := [(("one" : Str), 3), (("other" : Str), 4)]) (t := (.tp [3, 4])) false rfl sc_Folder_before.nd (di_any rfl (de_v 2)) (fun _ _ _ _ _ => dg_tp rfl (dgs_cons sc_Folder_before.nd (dgs_cons sc_Folder_before.nd (dgs_nil)))) (fun _ _ _ _ _ => dts_one (dt_cmp (op_eq2 hr.units) (os_eq rfl) (de_v 4) (de_v 1))) (fun _ _ _ _ _ => de_v 3) (ok := by kernel_rfl)))))
theorem ok_Folder_before (F : Fx c mg fd) : FnOk P w c.K mg base (L2.CX P w) 6 (c.ad 77) (fd 77) (["self", "index"] : List Str) (spF c fn_Folder_before) := def_okD F.d_Folder_before sc_Folder_before (bo_Folder_before F)

def pl_kb_Folder_before_1_index : List Sr := [.p 0, .k 0]
theorem kb_Folder_before_1_index (F : Fx c mg fd) : KBd c.K (fd 77) (["self", "index"] : List Str) 1 (["index"] : List Str) pl_kb_Folder_before_1_index [] := kbd0 F.d_Folder_before fun _ _ _ _ _ _ us ws l1 l2 => match us, ws, l1, l2 with | [_], [_], _, _ => ⟨_, rfl, rfl⟩

theorem at_folder_82 (F : Fx c mg fd) : AtOk c [82] ("folder" : Str) := fun n hn => by
  rcases List.mem_cons.mp hn with e | hn
  · subst e; exact ⟨F.cl_Trial, F.at_Trial_folder⟩
  cases hn

def ev_TrialU_initU_0 : Ss := sFl [82] ("folder" : Str) (fV 0) (fV 1)

def ev_TrialU_initU_1 : Ss := sFl [59, 82] ("rows" : Str) (fV 0) (fFld [59, 82] ("rows" : Str) (fV 1))

def ev_TrialU_initU_2 : Ss := sFl [59, 82] ("limit" : Str) (fV 0) (fFld [59, 82] ("limit" : Str) (fV 1))

def ev_TrialU_initU_3 : Ss := sFl [59, 82] ("past" : Str) (fV 0) (fFld [59, 82] ("past" : Str) (fV 1))

/-! Trial.__init__ -/
def ev_TrialU_initU : Ss := sSeq ev_TrialU_initU_0 (sSeq ev_TrialU_initU_1 (sSeq ev_TrialU_initU_2 (ev_TrialU_initU_3)))
def fn_TrialU_initU : FN := fnP 2 2 ev_TrialU_initU
theorem bo_TrialU_initU (F : Fx c mg fd) : BodyOk P w c.K mg base c 0 (["self", "folder"] : List Str) ("Trial.__init__" : Str) st_TrialU_initU (c.ad 83) ev_TrialU_initU := fun cdv A outer s H E hr tk po =>
  dss_cons (f1 := ev_TrialU_initU_0) (ds_fl (at_folder_82 F) rfl (de_v 0) (de_v 1)) (dss_cons (f1 := ev_TrialU_initU_1) (ds_fl (at_rows_59_82 F) rfl (de_v 0) (de_fld (at_rows_59_82 F) rfl (de_v 1))) (dss_cons (f1 := ev_TrialU_initU_2) (ds_fl (at_limit_59_82 F) rfl (de_v 0) (de_fld (at_limit_59_82 F) rfl (de_v 1))) (dss_one (f1 := ev_TrialU_initU_3) (ds_fl (at_past_59_82 F) rfl (de_v 0) (de_fld (at_past_59_82 F) rfl (de_v 1))))))
theorem ok_TrialU_initU (F : Fx c mg fd) : FnOk P w c.K mg base (L2.CX P w) 1 (c.ad 83) (fd 83) (["self", "folder"] : List Str) (spF c fn_TrialU_initU) := def_okD F.d_TrialU_initU sc_TrialU_initU (bo_TrialU_initU F)

def pl_kb_TrialU_initU_2 : List Sr := [.p 0, .p 1]
theorem kb_TrialU_initU_2 (F : Fx c mg fd) : KBd c.K (fd 83) (["self", "folder"] : List Str) 2 ([] : List Str) pl_kb_TrialU_initU_2 [] := kbd0 F.d_TrialU_initU fun _ _ _ _ _ _ us ws l1 l2 => match us, ws, l1, l2 with | [_, _], [], _, _ => ⟨_, rfl, rfl⟩

/-! Folder.trial -/
def ev_Folder_trial : Ss := sRt (fCn (fcMk 82 false (fcArr fn_TrialU_initU 2 0 pl_kb_TrialU_initU_2 [])) (fCons (fV 0) (fNil)) (fNil))
def fn_Folder_trial : FN := fnI 1 1 ev_Folder_trial
theorem bo_Folder_trial (F : Fx c mg fd) : BodyOk P w c.K mg base c 2 (["self"] : List Str) ("Folder.trial" : Str) st_Folder_trial (c.ad 80) ev_Folder_trial := fun cdv A outer s H E hr tk po =>
  dss_one (ds_ret (de_cn (callee_make false F.mk_Trial (ok_TrialU_initU F) (hr.mono (by decide)) (kb_TrialU_initU_2 F) (fun _ _ => .nil) tk) (dargs_cons (ks := ([] : List Str)) (da_cons (de_v 0) (da_nil)) (dk_nil)) F.m_Trial F.mk_Trial.kp))
theorem ok_Folder_trial (F : Fx c mg fd) : FnOk P w c.K mg base (L2.CX P w) 3 (c.ad 80) (fd 80) (["self"] : List Str) (spF c fn_Folder_trial) := def_okDI F.d_Folder_trial sc_Folder_trial (bo_Folder_trial F)

def pl_kb_Folder_trial_1 : List Sr := [.p 0]
theorem kb_Folder_trial_1 (F : Fx c mg fd) : KBd c.K (fd 80) (["self"] : List Str) 1 ([] : List Str) pl_kb_Folder_trial_1 [] := kbd0 F.d_Folder_trial fun _ _ _ _ _ _ us ws l1 l2 => match us, ws, l1, l2 with | [_], [], _, _ => ⟨_, rfl, rfl⟩

def ev_TrialU_enterU_0 : Ss := sAs (.nm 1) (fFld [82] ("folder" : Str) (fV 0))

def ev_TrialU_enterU_1 : Ss := sFl [59, 82] ("rows" : Str) (fV 0) (fFld [59, 82] ("rows" : Str) (fV 1))

def ev_TrialU_enterU_2 : Ss := sFl [59, 82] ("limit" : Str) (fV 0) (fFld [59, 82] ("limit" : Str) (fV 1))

def ev_TrialU_enterU_3 : Ss := sFl [59, 82] ("past" : Str) (fV 0) (fFld [59, 82] ("past" : Str) (fV 1))

def ev_TrialU_enterU_4 : Ss := sRt (fV 1)

/-! Trial.__enter__ -/
def ev_TrialU_enterU : Ss := sSeq ev_TrialU_enterU_0 (sSeq ev_TrialU_enterU_1 (sSeq ev_TrialU_enterU_2 (sSeq ev_TrialU_enterU_3 (ev_TrialU_enterU_4))))
def fn_TrialU_enterU : FN := fnP 1 2 ev_TrialU_enterU
theorem bo_TrialU_enterU (F : Fx c mg fd) : BodyOk P w c.K mg base c 0 (["self", "folder"] : List Str) ("Trial.__enter__" : Str) st_TrialU_enterU (c.ad 84) ev_TrialU_enterU := fun cdv A outer s H E hr tk po =>
  dss_cons (f1 := ev_TrialU_enterU_0) (ds_as (tg := .nm 1) (de_fld (at_folder_82 F) rfl (de_v 0)) (dg_nm sc_TrialU_enterU.nd)) (dss_cons (f1 := ev_TrialU_enterU_1) (ds_fl (at_rows_59_82 F) rfl (de_v 0) (de_fld (at_rows_59_82 F) rfl (de_v 1))) (dss_cons (f1 := ev_TrialU_enterU_2) (ds_fl (at_limit_59_82 F) rfl (de_v 0) (de_fld (at_limit_59_82 F) rfl (de_v 1))) (dss_cons (f1 := ev_TrialU_enterU_3) (ds_fl (at_past_59_82 F) rfl (de_v 0) (de_fld (at_past_59_82 F) rfl (de_v 1))) (dss_one (f1 := ev_TrialU_enterU_4) (ds_ret (de_v 1))))))
theorem ok_TrialU_enterU (F : Fx c mg fd) : FnOk P w c.K mg base (L2.CX P w) 1 (c.ad 84) (fd 84) (["self"] : List Str) (spF c fn_TrialU_enterU) := def_okD F.d_TrialU_enterU sc_TrialU_enterU (bo_TrialU_enterU F)

def pl_kb_TrialU_enterU_1 : List Sr := [.p 0]
theorem kb_TrialU_enterU_1 (F : Fx c mg fd) : KBd c.K (fd 84) (["self"] : List Str) 1 ([] : List Str) pl_kb_TrialU_enterU_1 [] := kbd0 F.d_TrialU_enterU fun _ _ _ _ _ _ us ws l1 l2 => match us, ws, l1, l2 with | [_], [], _, _ => ⟨_, rfl, rfl⟩

def ev_TrialU_exitU_0 : Ss := sFl [59, 82] ("rows" : Str) (fFld [82] ("folder" : Str) (fV 0)) (fFld [59, 82] ("rows" : Str) (fV 0))

def ev_TrialU_exitU_1 : Ss := sFl [59, 82] ("limit" : Str) (fFld [82] ("folder" : Str) (fV 0)) (fFld [59, 82] ("limit" : Str) (fV 0))

def ev_TrialU_exitU_2 : Ss := sFl [59, 82] ("past" : Str) (fFld [82] ("folder" : Str) (fV 0)) (fFld [59, 82] ("past" : Str) (fV 0))

/-! Trial.__exit__ -/
def ev_TrialU_exitU : Ss := sSeq ev_TrialU_exitU_0 (sSeq ev_TrialU_exitU_1 (ev_TrialU_exitU_2))
def fn_TrialU_exitU : FN := fnP 4 4 ev_TrialU_exitU
theorem bo_TrialU_exitU (F : Fx c mg fd) : BodyOk P w c.K mg base c 0 (["self", "kind", "value", "trace"] : List Str) ("Trial.__exit__" : Str) st_TrialU_exitU (c.ad 85) ev_TrialU_exitU := fun cdv A outer s H E hr tk po =>
  dss_cons (f1 := ev_TrialU_exitU_0) (ds_fl (at_rows_59_82 F) rfl (de_fld (at_folder_82 F) rfl (de_v 0)) (de_fld (at_rows_59_82 F) rfl (de_v 0))) (dss_cons (f1 := ev_TrialU_exitU_1) (ds_fl (at_limit_59_82 F) rfl (de_fld (at_folder_82 F) rfl (de_v 0)) (de_fld (at_limit_59_82 F) rfl (de_v 0))) (dss_one (f1 := ev_TrialU_exitU_2) (ds_fl (at_past_59_82 F) rfl (de_fld (at_folder_82 F) rfl (de_v 0)) (de_fld (at_past_59_82 F) rfl (de_v 0)))))
theorem ok_TrialU_exitU (F : Fx c mg fd) : FnOk P w c.K mg base (L2.CX P w) 1 (c.ad 85) (fd 85) (["self", "kind", "value", "trace"] : List Str) (spF c fn_TrialU_exitU) := def_okD F.d_TrialU_exitU sc_TrialU_exitU (bo_TrialU_exitU F)

def pl_kb_TrialU_exitU_4 : List Sr := [.p 0, .p 1, .p 2, .p 3]
theorem kb_TrialU_exitU_4 (F : Fx c mg fd) : KBd c.K (fd 85) (["self", "kind", "value", "trace"] : List Str) 4 ([] : List Str) pl_kb_TrialU_exitU_4 [] := kbd0 F.d_TrialU_exitU fun _ _ _ _ _ _ us ws l1 l2 => match us, ws, l1, l2 with | [_, _, _, _], [], _, _ => ⟨_, rfl, rfl⟩

/-! Folder.attempt -/
def ev_Folder_attempt : Ss := sWithN 82 2 (fcArr fn_TrialU_enterU 1 0 pl_kb_TrialU_enterU_1 []) (fcArr fn_TrialU_exitU 4 0 pl_kb_TrialU_exitU_4 []) (fMt 59 ("trial" : Str) (fcArr fn_Folder_trial 1 0 pl_kb_Folder_trial_1 []) (fV 0) (fNil) (fNil)) (sRt (fCv 1 fnT (fCons (fV 2) (fNil))))
def fn_Folder_attempt : FN := fnP 2 3 ev_Folder_attempt
theorem bo_Folder_attempt (F : Fx c mg fd) : BodyOk P w c.K mg base c 3 (["self", "action", "same"] : List Str) ("Folder.attempt" : Str) st_Folder_attempt (c.ad 81) ev_Folder_attempt := fun cdv A outer s H E hr tk po =>
  dss_one (ds_withN (cls := 82) (i := 2) (de_mt (callee_def (ok_Folder_trial F) (hr.mono (by decide)) (kb_Folder_trial_1 F) (fun _ _ => .nil) tk) (dargs_nil (ks := ([] : List Str)) (dk_nil)) (de_v 0) F.cl_Folder F.me_Folder_trial) (callee_def (ok_TrialU_enterU F) (hr.mono (by decide)) (kb_TrialU_enterU_1 F) (fun _ _ => .nil) tk) (callee_def (ok_TrialU_exitU F) (hr.mono (by decide)) (kb_TrialU_exitU_4 F) (fun _ _ => .nil) tk) (dss_one (ds_ret (de_cv (fun n f c' => ok_fnT F n f c') (fun n c' => ok_ncl F n c') (hr.mono (by decide)) takes0 (da_cons (de_v 2) (da_nil))))) (dg_nm sc_Folder_attempt.nd) F.wi_Trialenter F.wf_Trialenter F.wi_Trialexit F.wf_Trialexit)
theorem ok_Folder_attempt (F : Fx c mg fd) : FnOk P w c.K mg base (L2.CX P w) 4 (c.ad 81) (fd 81) (["self", "action"] : List Str) (spF c fn_Folder_attempt) := def_okD F.d_Folder_attempt sc_Folder_attempt (bo_Folder_attempt F)

def pl_kb_Folder_attempt_1_action : List Sr := [.p 0, .k 0]
theorem kb_Folder_attempt_1_action (F : Fx c mg fd) : KBd c.K (fd 81) (["self", "action"] : List Str) 1 (["action"] : List Str) pl_kb_Folder_attempt_1_action [] := kbd0 F.d_Folder_attempt fun _ _ _ _ _ _ us ws l1 l2 => match us, ws, l1, l2 with | [_], [_], _, _ => ⟨_, rfl, rfl⟩

def pl_kb_Folder_bound_2 : List Sr := [.p 0, .p 1]
theorem kb_Folder_bound_2 (F : Fx c mg fd) : KBd c.K (fd 63) (["self", "most"] : List Str) 2 ([] : List Str) pl_kb_Folder_bound_2 [] := kbd0 F.d_Folder_bound fun _ _ _ _ _ _ us ws l1 l2 => match us, ws, l1, l2 with | [_, _], [], _, _ => ⟨_, rfl, rfl⟩

def rg_law_0 : Ss := sAs (.nm 4) (fCn (fcMk 49 true (fcArr fn_CleanerU_initU 2 0 pl_kb_CleanerU_initU_2 [])) (fCons (fLst false (fCons (fTup (fCons (fK (.str [99, 117, 116])) (fCons (fV 3) (fNil)))) (fNil))) (fNil)) (fNil))

def rg_law_1 : Ss := sPar [5, 6, 7] (fCons (fCn (fcMk 59 false (fcArr fn_FolderU_initU 1 2 pl_kb_FolderU_initU_1_width_cleaner [.non, .non])) (fNil) (fCons (fV 2) (fCons (fV 4) (fNil)))) (fCons (fCn (fcMk 59 false (fcArr fn_FolderU_initU 1 1 pl_kb_FolderU_initU_1_width [.non, .non])) (fNil) (fCons (fV 2) (fNil))) (fCons (fCn (fcMk 59 false (fcArr fn_FolderU_initU 1 1 pl_kb_FolderU_initU_1_cleaner [.non, .non])) (fNil) (fCons (fV 4) (fNil))) (fNil))))

def rg_law_2 : Ss := sIf (fOr (fBt (fB (oEq true) (fMt 59 ("come" : Str) (fcArr fn_Folder_come 1 1 pl_kb_Folder_come_1_name []) (fV 5) (fNil) (fCons (fK (.str [112, 108, 97, 110, 45, 112, 108, 97, 110])) (fNil))) (fSl false (fK (.str [112, 108, 97, 110, 45, 112, 108, 97, 110])) (fNo) (fSo (fV 3))))) (fBt (fB (oEq true) (fOb 59 (fcArr fn_FolderU_callU 1 1 pl_kb_FolderU_callU_1_name []) (fV 7) (fNil) (fCons (fK (.str [110, 111, 116, 101])) (fNil))) (fSl false (fK (.str [110, 111, 116, 101])) (fNo) (fSo (fV 3)))))) (sRt (fK (.bl false))) (sNx)

def rg_law_3 : Ss := sIf (fOr (fBt (fB (oEq true) (fMt 59 ("come" : Str) (fcArr fn_Folder_come 1 1 pl_kb_Folder_come_1_name []) (fV 6) (fNil) (fCons (fB (oMul false) (fK (.str [97])) (fV 2)) (fNil))) (fB (oMul false) (fK (.str [97])) (fV 2)))) (fBt (fB (oEq true) (fOb 59 (fcArr fn_FolderU_callU 1 1 pl_kb_FolderU_callU_1_name []) (fV 6) (fNil) (fCons (fB (oMul false) (fK (.str [97])) (fV 2)) (fNil))) (fB (oAdd false) (fB (oMul false) (fK (.str [97])) (fB oSub (fV 2) (fK (.int 1)))) (fK (.str [50])))))) (sRt (fK (.bl false))) (sNx)

def rg_law_4 : Ss := sAs (.nm 8) (fCn (fcMk 59 false (fcArr fn_FolderU_initU 1 0 pl_kb_FolderU_initU_1 [.non, .non])) (fNil) (fNil))

def rg_law_5 : Ss := sEx (fMt 59 ("come" : Str) (fcArr fn_Folder_come 1 1 pl_kb_Folder_come_1_name []) (fV 8) (fNil) (fCons (fB (oMul false) (fK (.str [97])) (fK (.int 40))) (fNil)))

def rg_law_6 : Ss := sIf (fOr (fBt (fB (oEq true) (fMt 59 ("come" : Str) (fcArr fn_Folder_come 1 1 pl_kb_Folder_come_1_name []) (fV 8) (fNil) (fCons (fB (oMul false) (fK (.str [97])) (fK (.int 40))) (fNil))) (fB (oAdd false) (fB (oMul false) (fK (.str [97])) (fK (.int 40))) (fK (.str [50]))))) (fOr (fBt (fB (oIsN true) (fMt 59 ("bound" : Str) (fcArr fn_Folder_bound 1 1 pl_kb_Folder_bound_1_most []) (fV 8) (fNil) (fCons (fK (.int 7)) (fNil))) (fK .non))) (fBt (fB (oEq true) (fProp 59 fn_Folder_most (fV 8)) (fK (.int 7)))))) (sRt (fK (.bl false))) (sNx)

def rg_law_7 : Ss := sIf (fOr (fBt (fB (oEq true) (fMt 59 ("could" : Str) (fcArr fn_Folder_could 1 1 pl_kb_Folder_could_1_index []) (fV 8) (fNil) (fCons (fK (.int 1)) (fNil))) (fLst false (fCons (fB (oMul false) (fK (.str [97])) (fK (.int 40))) (fCons (fB (oAdd false) (fB (oMul false) (fK (.str [97])) (fK (.int 40))) (fK (.str [50]))) (fNil)))))) (fBt (fB (oEq true) (fMt 59 ("before" : Str) (fcArr fn_Folder_before 1 1 pl_kb_Folder_before_1_index []) (fV 8) (fNil) (fCons (fK (.int 1)) (fNil))) (fLst false (fCons (fK (.int 0)) (fNil)))))) (sRt (fK (.bl false))) (sNx)

def rg_law_8 : Ss := sNdef 9 0

def rg_law_9 : Ss := sIf (fOr (fBt (fB (oEq true) (fMt 59 ("attempt" : Str) (fcArr fn_Folder_attempt 1 1 pl_kb_Folder_attempt_1_action []) (fV 8) (fNil) (fCons (fV 9) (fNil))) (fK (.int 7)))) (fOr (fBt (fB (oIsN true) (fMt 59 ("bound" : Str) (fcArr fn_Folder_bound 2 0 pl_kb_Folder_bound_2 []) (fV 8) (fCons (fK .non) (fNil)) (fNil)) (fK .non))) (fBt (fB (oIsN true) (fProp 59 fn_Folder_most (fV 8)) (fK .non))))) (sRt (fK (.bl false))) (sNx)

def rg_law : Ss := sSeq rg_law_0 (sSeq rg_law_1 (sSeq rg_law_2 (sSeq rg_law_3 (sSeq rg_law_4 (sSeq rg_law_5 (sSeq rg_law_6 (sSeq rg_law_7 (sSeq rg_law_8 (rg_law_9)))))))))

def ev_law_b1 : Ss := sSeq (sPar [2, 3] (fCons (fB (oAdd false) (fK (.int 5)) (fCn (fcArr fn__law_draw 2 0 pl_kb__law_draw_2 []) (fCons (fV 1) (fCons (fK (.int 9)) (fNil))) (fNil))) (fCons (fB (oAdd false) (fK (.int 1)) (fCn (fcArr fn__law_draw 2 0 pl_kb__law_draw_2 []) (fCons (fV 1) (fCons (fK (.int 3)) (fNil))) (fNil))) (fNil)))) (sReg [2, 3] rg_law)

def ev_law_0 : Ss := sFor (fI (fCn (fcArr fn__law_purses 2 0 pl_kb__law_purses_2 []) (fCons (fV 0) (fCons (fK (.int 10)) (fNil))) (fNil))) (.nm 1) ev_law_b1

def ev_law_1 : Ss := sRt (fK (.bl true))

/-! law -/
def ev_law : Ss := sSeq ev_law_0 (ev_law_1)
def fn_law : FN := fnP 1 10 ev_law
theorem bo_law (F : Fx c mg fd) {cd Pt : Addr} (T : Tx c mg base cd Pt) : BodyOkC P w c.K mg base c 8 (["_law_script", "_law_purse_here", "_law_wide", "_law_part", "_law_cut", "_law_first", "_law_second", "_law_third", "_law_plain", "_law_action"] : List Str) ("law" : Str) st_law (c.ad 90) ev_law := fun cdv A outer s H E hcd hr tk po =>
  dss_cons (f1 := ev_law_0) (ds_for (t := (.nm 1)) (fb := ev_law_b1) po rfl (di_any rfl (de_cn (callee_def (ok__law_purses F) (hr.mono (by decide)) (kb__law_purses_2 F) (fun _ _ => .nil) tk) (dargs_cons (ks := ([] : List Str)) (da_cons (de_v 0) (da_cons (de_int) (da_nil))) (dk_nil)) F.m__law_purses F.d__law_purses.kp)) (dg_nm sc_law.nd) (dss_cons (ds_par (i := 2) (j := 3) rfl sc_law.nd (da_cons (de_op op_add3 (os_add false) (de_int) (de_cn (callee_def (ok__law_draw F) (hr.mono (by decide)) (kb__law_draw_2 F) (fun _ _ => .nil) tk) (dargs_cons (ks := ([] : List Str)) (da_cons (de_v 1) (da_cons (de_int) (da_nil))) (dk_nil)) F.m__law_draw F.d__law_draw.kp)) (da_cons (de_op op_add3 (os_add false) (de_int) (de_cn (callee_def (ok__law_draw F) (hr.mono (by decide)) (kb__law_draw_2 F) (fun _ _ => .nil) tk) (dargs_cons (ks := ([] : List Str)) (da_cons (de_v 1) (da_cons (de_int) (da_nil))) (dk_nil)) F.m__law_draw F.d__law_draw.kp)) (da_nil)))) (dss_reg (f := rg_law) [2, 3] (dss_cons (f1 := rg_law_0) (ds_as (tg := .nm 4) (de_cn (callee_make true F.mk_Cleaner (ok_CleanerU_initU F) (hr.mono (by decide)) (kb_CleanerU_initU_2 F) (fun _ _ => .nil) tk) (dargs_cons (ks := ([] : List Str)) (da_cons (de_lst false (da_cons (de_tup (da_cons (de_str (l := [99, 117, 116])) (da_cons (de_v 3) (da_nil)))) (da_nil))) (da_nil)) (dk_nil)) F.m_Cleaner F.mk_Cleaner.kp) (dg_nm sc_law.nd)) (dss_cons (f1 := rg_law_1) (ds_par3 (i := 5) (j := 6) (l := 7) rfl sc_law.nd (da_cons (de_cn (callee_make false F.mk_Folder (ok_FolderU_initU F) (hr.mono (by decide)) (kb_FolderU_initU_1_width_cleaner F) (fun _ _ => .cons .non (.cons .non (.nil))) tk) (dargs_nil (ks := (["width", "cleaner"] : List Str)) (dk_cons (de_v 2) (dk_cons (de_v 4) (dk_nil)))) F.m_Folder F.mk_Folder.kp) (da_cons (de_cn (callee_make false F.mk_Folder (ok_FolderU_initU F) (hr.mono (by decide)) (kb_FolderU_initU_1_width F) (fun _ _ => .cons .non (.cons .non (.nil))) tk) (dargs_nil (ks := (["width"] : List Str)) (dk_cons (de_v 2) (dk_nil))) F.m_Folder F.mk_Folder.kp) (da_cons (de_cn (callee_make false F.mk_Folder (ok_FolderU_initU F) (hr.mono (by decide)) (kb_FolderU_initU_1_cleaner F) (fun _ _ => .cons .non (.cons .non (.nil))) tk) (dargs_nil (ks := (["cleaner"] : List Str)) (dk_cons (de_v 4) (dk_nil))) F.m_Folder F.mk_Folder.kp) (da_nil))))) (dss_cons (f1 := rg_law_2) (ds_if (dt_w (dw_or (dt_cmp (op_ne2 hr.units) (os_ne rfl) (de_mt (callee_def (ok_Folder_come F) (hr.mono (by decide)) (kb_Folder_come_1_name F) (fun _ _ => .nil) tk) (dargs_nil (ks := (["name"] : List Str)) (dk_cons (de_str (l := [112, 108, 97, 110, 45, 112, 108, 97, 110])) (dk_nil))) (de_v 5) F.cl_Folder F.me_Folder_come) (de_sl false rfl (de_str (l := [112, 108, 97, 110, 45, 112, 108, 97, 110])) (do_no) (do_so (de_v 3)))) (dw_or1 (dt_cmp (op_ne2 hr.units) (os_ne rfl) (de_ob (callee_def (ok_FolderU_callU F) (hr.mono (by decide)) (kb_FolderU_callU_1_name F) (fun _ _ => .nil) tk) (dargs_nil (ks := (["name"] : List Str)) (dk_cons (de_str (l := [110, 111, 116, 101])) (dk_nil))) (de_v 7) F.co_Folder) (de_sl false rfl (de_str (l := [110, 111, 116, 101])) (do_no) (do_so (de_v 3))))))) (dss_one (ds_ret (de_bl))) (dss_nil)) (dss_cons (f1 := rg_law_3) (ds_if (dt_w (dw_or (dt_cmp (op_ne2 hr.units) (os_ne rfl) (de_mt (callee_def (ok_Folder_come F) (hr.mono (by decide)) (kb_Folder_come_1_name F) (fun _ _ => .nil) tk) (dargs_nil (ks := (["name"] : List Str)) (dk_cons (de_op op_mul2 (os_mul false) (de_str (l := [97])) (de_v 2)) (dk_nil))) (de_v 6) F.cl_Folder F.me_Folder_come) (de_op op_mul2 (os_mul false) (de_str (l := [97])) (de_v 2))) (dw_or1 (dt_cmp (op_ne2 hr.units) (os_ne rfl) (de_ob (callee_def (ok_FolderU_callU F) (hr.mono (by decide)) (kb_FolderU_callU_1_name F) (fun _ _ => .nil) tk) (dargs_nil (ks := (["name"] : List Str)) (dk_cons (de_op op_mul2 (os_mul false) (de_str (l := [97])) (de_v 2)) (dk_nil))) (de_v 6) F.co_Folder) (de_op op_add3 (os_add false) (de_op op_mul2 (os_mul false) (de_str (l := [97])) (de_op op_sub os_sub (de_v 2) (de_int))) (de_str (l := [50]))))))) (dss_one (ds_ret (de_bl))) (dss_nil)) (dss_cons (f1 := rg_law_4) (ds_as (tg := .nm 8) (de_cn (callee_make false F.mk_Folder (ok_FolderU_initU F) (hr.mono (by decide)) (kb_FolderU_initU_1 F) (fun _ _ => .cons .non (.cons .non (.nil))) tk) (dargs_nil (ks := ([] : List Str)) (dk_nil)) F.m_Folder F.mk_Folder.kp) (dg_nm sc_law.nd)) (dss_cons (f1 := rg_law_5) (ds_expr (de_mt (callee_def (ok_Folder_come F) (hr.mono (by decide)) (kb_Folder_come_1_name F) (fun _ _ => .nil) tk) (dargs_nil (ks := (["name"] : List Str)) (dk_cons (de_op op_mul2 (os_mul false) (de_str (l := [97])) (de_int)) (dk_nil))) (de_v 8) F.cl_Folder F.me_Folder_come)) (dss_cons (f1 := rg_law_6) (ds_if (dt_w (dw_or (dt_cmp (op_ne2 hr.units) (os_ne rfl) (de_mt (callee_def (ok_Folder_come F) (hr.mono (by decide)) (kb_Folder_come_1_name F) (fun _ _ => .nil) tk) (dargs_nil (ks := (["name"] : List Str)) (dk_cons (de_op op_mul2 (os_mul false) (de_str (l := [97])) (de_int)) (dk_nil))) (de_v 8) F.cl_Folder F.me_Folder_come) (de_op op_add3 (os_add false) (de_op op_mul2 (os_mul false) (de_str (l := [97])) (de_int)) (de_str (l := [50])))) (dw_or (dt_cmp op_notN os_notN (de_mt (callee_def (ok_Folder_bound F) (hr.mono (by decide)) (kb_Folder_bound_1_most F) (fun _ _ => .nil) tk) (dargs_nil (ks := (["most"] : List Str)) (dk_cons (de_int) (dk_nil))) (de_v 8) F.cl_Folder F.me_Folder_bound) (de_non)) (dw_or1 (dt_cmp (op_ne2 hr.units) (os_ne rfl) (de_prop (de_v 8) F.cl_Folder F.pr_Folder_most (ok_Folder_most F) (hr.mono (by decide)) (bi_Folder_most F)) (de_int)))))) (dss_one (ds_ret (de_bl))) (dss_nil)) (dss_cons (f1 := rg_law_7) (ds_if (dt_w (dw_or (dt_cmp (op_ne2 hr.units) (os_ne rfl) (de_mt (callee_def (ok_Folder_could F) (hr.mono (by decide)) (kb_Folder_could_1_index F) (fun _ _ => .nil) tk) (dargs_nil (ks := (["index"] : List Str)) (dk_cons (de_int) (dk_nil))) (de_v 8) F.cl_Folder F.me_Folder_could) (de_lst false (da_cons (de_op op_mul2 (os_mul false) (de_str (l := [97])) (de_int)) (da_cons (de_op op_add3 (os_add false) (de_op op_mul2 (os_mul false) (de_str (l := [97])) (de_int)) (de_str (l := [50]))) (da_nil))))) (dw_or1 (dt_cmp (op_ne2 hr.units) (os_ne rfl) (de_mt (callee_def (ok_Folder_before F) (hr.mono (by decide)) (kb_Folder_before_1_index F) (fun _ _ => .nil) tk) (dargs_nil (ks := (["index"] : List Str)) (dk_cons (de_int) (dk_nil))) (de_v 8) F.cl_Folder F.me_Folder_before) (de_lst false (da_cons (de_int) (da_nil))))))) (dss_one (ds_ret (de_bl))) (dss_nil)) (dss_cons (f1 := rg_law_8) (ds_ndef (i := 9) (n := 0) T.tb (T.code _ hcd) T.hm (by kernel_rfl) T.hu sc_law.nd (fun c' => (F.nf0 c').symm) (hfree := NdefX.ndef_free (fr := []) (by kernel_rfl))) (dss_one (ds_if (dt_w (dw_or (dt_cmp (op_ne2 hr.units) (os_ne rfl) (de_mt (callee_def (ok_Folder_attempt F) (hr.mono (by decide)) (kb_Folder_attempt_1_action F) (fun _ _ => .nil) tk) (dargs_nil (ks := (["action"] : List Str)) (dk_cons (de_v 9) (dk_nil))) (de_v 8) F.cl_Folder F.me_Folder_attempt) (de_int)) (dw_or (dt_cmp op_notN os_notN (de_mt (callee_def (ok_Folder_bound F) (hr.mono (by decide)) (kb_Folder_bound_2 F) (fun _ _ => .nil) tk) (dargs_cons (ks := ([] : List Str)) (da_cons (de_non) (da_nil)) (dk_nil)) (de_v 8) F.cl_Folder F.me_Folder_bound) (de_non)) (dw_or1 (dt_cmp op_notN os_notN (de_prop (de_v 8) F.cl_Folder F.pr_Folder_most (ok_Folder_most F) (hr.mono (by decide)) (bi_Folder_most F)) (de_non)))))) (dss_one (ds_ret (de_bl))) (dss_nil))))))))))))))) (dss_one (f1 := ev_law_1) (ds_ret (de_bl)))
theorem ok_law (F : Fx c mg fd) {cd Pt : Addr} (T : Tx c mg base cd Pt) : FnOk P w c.K mg base (L2.CX P w) 9 (c.ad 90) (fd 90) (["_law_script"] : List Str) (spF c fn_law) := def_okDC F.d_law sc_law (bo_law F T)

end
end K88
set_option Elab.async false
set_option linter.all false
set_option maxRecDepth 1000000
set_option maxHeartbeats 0
/-! k88: the plain law -/
namespace K88
open PySem L2 Zz
def okR : RS → Bool
  | .nx ts _ => ts.length == 10
  | _ => false
def sl (w p : Int) : SL := [none, none, some (.int w), some (.int p), none, none, none, none, none, none]
theorem rg_all : ((List.range 9).all fun w => (List.range 3).all fun p => okR (rg_law (sl (5 + (w : Nat)) (1 + (p : Nat))) [[]])) = true := by decide +kernel
theorem rg_ok {w p : Int} (h1 : 0 ≤ w) (h2 : w < 9) (h3 : 0 ≤ p) (h4 : p < 3) : ∃ ts g, rg_law (sl (5 + w) (1 + p)) [[]] = .nx ts g ∧ ts.length = 10 := by
  have z := rg_all
  rw [List.all_eq_true] at z
  have z1 := z w.toNat (by simp; omega)
  rw [List.all_eq_true] at z1
  have z2 := z1 p.toNat (by simp; omega)
  have e1 : ((w.toNat : Nat) : Int) = w := by omega
  have e2 : ((p.toNat : Nat) : Int) = p := by omega
  rw [e1, e2] at z2
  unfold okR at z2
  split at z2
  · rename_i ts g q
    exact ⟨ts, g, q, by simpa using z2⟩
  · cases z2

/-! ### numbers -/
theorem log2_lt {n k : Nat} (h : n < 2 ^ k) (hk : 0 < k) : n.log2 < k := by
  by_cases z : n = 0
  · subst z; simpa using hk
  · exact (Nat.log2_lt z).mpr h
theorem pMul_ok {i j : Int} (h1 : i.natAbs < 2 ^ 100) (h2 : j.natAbs < 2 ^ 100) : pMul i j = true := by
  unfold pMul
  have a := log2_lt h1 (by decide)
  have b := log2_lt h2 (by decide)
  exact decide_eq_true (by omega)
theorem mixed_ok {b t a : Int} (g : VH) (hb : 0 ≤ b) (hb2 : b < 2147483648) (ht : 0 ≤ t) (ht2 : t < 1048576) (ha : 0 ≤ a) (ha2 : a < 1048576) : ∃ r, fn__law_mixed [.int b, .int t, .int a] g = .ok (.int r) g := by
  have m1 : pMul b 69069 = true := pMul_ok (by omega) (by decide)
  have m2 : pMul 104729 t = true := pMul_ok (by decide) (by omega)
  have e2 : 0 ≤ 104729 * t := by omega
  have m3 : pMul (104729 * t) t = true := pMul_ok (by omega) (by omega)
  have m4 : pMul 7919 a = true := pMul_ok (by decide) (by omega)
  generalize hx : (b * 69069 + 104729 * t * t + 7919 * a + t) % 2147483647 = x
  have x1 : 0 ≤ x := by rw [← hx]; exact Int.emod_nonneg _ (by decide)
  have x2 : x < 2147483647 := by rw [← hx]; exact Int.emod_lt_of_pos _ (by decide)
  have m5 : pMul x x = true := pMul_ok (by omega) (by omega)
  generalize hy : (x * x + 40503) % 2147483629 = y
  have y1 : 0 ≤ y := by rw [← hy]; exact Int.emod_nonneg _ (by decide)
  have y2 : y < 2147483629 := by rw [← hy]; exact Int.emod_lt_of_pos _ (by decide)
  have m6 : pMul y 48271 = true := pMul_ok (by omega) (by decide)
  refine ⟨y * 48271 % 2147483587, ?_⟩
  simp [fn__law_mixed, fnP, rets, ev__law_mixed, ev__law_mixed_0, ev__law_mixed_1, ev__law_mixed_2, ev__law_mixed_3, sSeq, sAs, sRt, fB, fV, fK, oMul, oAdd, oMod, oIc, pMod, R.bind, R.toS, bindT, finP, fz, bkC, T.low, T.lows, m1, m2, m3, m4, m5, m6, hx, hy]
theorem bits_m {m : Int} (hm : m = 3 ∨ m = 9) : ((if m = 0 then 0 else m.natAbs.log2 + 1 : Nat) : Int) / 28 = 0 := by rcases hm with e | e <;> (subst e; decide)
theorem pDiv_m {m a : Int} (hm : m = 3 ∨ m = 9) : pDiv a m = true := by
  show (decide (0 < m) && decide (m.natAbs.log2 < 9000)) = true
  rcases hm with e | e <;> (subst e; decide)
theorem pDiv28 (z : Int) : pDiv z 28 = true := by
  show (decide ((0 : Int) < 28) && decide ((28 : Int).natAbs.log2 < 9000)) = true
  decide
theorem pMul0 : pMul 0 2147483587 = true := pMul_ok (by decide) (by decide)
theorem draw_a {i : Nat} {a b t d m : Int} {g : VH} (hg : at2 g 0 i = some (some (.lst [.int a, .int b, .int t, .int d]))) (h : 0 < a) (hm : m = 3 ∨ m = 9) :
    fn__law_draw [.ref 0 i, .int m] g = .ok (.int (a % m)) (set2 g 0 i (some (.lst [.int (a / m), .int b, .int t, .int d]))) := by
  have m0 : 0 < m := by omega
  have d1 : pDiv a m = true := pDiv_m hm
  simp [fn__law_draw, fnI, rets, ev__law_draw, ev__law_draw_0, sSeq, sIf, sAs, sRt, sSI, fBt, fB, fV, fK, oI, oIc, oIx, oMod, oFdv, pMod, R.bind, R.toS, bindT, dctOf, seqOf, vwR, hg, atI, ixN, h, d1, m0, setI]
end K88
set_option Elab.async false
set_option linter.all false
set_option maxRecDepth 1000000
set_option maxHeartbeats 0
/-! k88: the plain law, the draw -/
namespace K88
open PySem L2 Zz
theorem seq_nx {f1 f2 : Ss} {ts ts' : SL} {g g' : VH} (h : f1 ts g = .nx ts' g') : sSeq f1 f2 ts g = f2 ts' g' := by unfold sSeq; rw [h]
theorem seq_rt {f1 f2 : Ss} {ts : SL} {t : T} {g g' : VH} (h : f1 ts g = .rt t g') : sSeq f1 f2 ts g = .rt t g' := by unfold sSeq; rw [h]
/-- the one turn of the draw's loop -/
theorem draw_b {i : Nat} {b t d m r : Int} {g g2 : VH} (hg : at2 g 0 i = some (some (.lst [.int 0, .int b, .int t, .int d]))) (hm : m = 3 ∨ m = 9) (eg : g2 = set2 g 0 i (some (.lst [.int 0, .int b, .int (t + 1), .int d])))
    (hr : fn__law_mixed [.int b, .int (t + 1), .int d] g2 = .ok (.int r) g2) : fn__law_draw [.ref 0 i, .int m] g = .ok (.int (r % m)) g2 := by
  have m0 : 0 < m := by omega
  have hg2 : at2 g2 0 i = some (some (.lst [.int 0, .int b, .int (t + 1), .int d])) := by
    rw [eg, at2_set2, if_pos ⟨rfl, rfl⟩, hg]; rfl
  have e0 : ev__law_draw_0 [some (.ref 0 i), some (.int m), none, none, none] g = .nx [some (.ref 0 i), some (.int m), none, none, none] g := by
    simp [ev__law_draw_0, sIf, fBt, fB, fV, fK, oI, oIx, R.bind, R.toS, dctOf, seqOf, vwR, hg, atI, ixN, sNx]
  have e1 : ev__law_draw_1 [some (.ref 0 i), some (.int m), none, none, none] g = .nx [some (.ref 0 i), some (.int m), none, some (.int 0), none] g := rfl
  have c0 : ev__law_draw_b1_0 [some (.ref 0 i), some (.int m), none, some (.int 0), some (.int (0 + (0 : Nat)))] g = .nx [some (.ref 0 i), some (.int m), none, some (.int 0), some (.int (0 + (0 : Nat)))] g2 := by
    simp [ev__law_draw_b1_0, sSI, fB, fV, fK, oIx, oAdd, R.bind, R.toS, dctOf, seqOf, vwR, hg, atI, ixN, setI, eg]
  have c1 : ev__law_draw_b1_1 [some (.ref 0 i), some (.int m), none, some (.int 0), some (.int (0 + (0 : Nat)))] g2 = .nx [some (.ref 0 i), some (.int m), none, some (.int (0 * 2147483587 + r)), some (.int (0 + (0 : Nat)))] g2 := by
    have p0 := pMul0
    unfold ev__law_draw_b1_1
    generalize (2147483587 : Int) = big at p0 ⊢
    simp [sAs, fB, fV, fK, fCn, fArgs, fCons, fNil, fcArr, arr, pl_kb__law_mixed_3, oIx, oAdd, oMul, R.bind, R.toS, dctOf, seqOf, vwR, hg2, atI, ixN, bindT, p0, hr]
  have sr : (fIa srcR1 (fCons (fB (oAdd false) (fK (.int 1)) (fB oFdv (fU oBits (fV 1)) (fK (.int 28)))) fNil)) [some (.ref 0 i), some (.int m), none, some (.int 0), none] g = .ok (.fix [.int (0 + (0 : Nat))]) g := by
    rcases hm with e | e <;> (subst e; kernel_rfl)
  have e2 : ev__law_draw_2 [some (.ref 0 i), some (.int m), none, some (.int 0), none] g = .nx [some (.ref 0 i), some (.int m), none, some (.int (0 * 2147483587 + r)), some (.int (0 + (0 : Nat)))] g2 := by
    unfold ev__law_draw_2 sFor
    rw [sr]
    show (match ev__law_draw_b1 [some (.ref 0 i), some (.int m), none, some (.int 0), some (.int (0 + (0 : Nat)))] g with
      | .nx ts2 g2 => forL (.nm 4) ev__law_draw_b1 [] ts2 g2
      | .ct ts2 g2 => forL (.nm 4) ev__law_draw_b1 [] ts2 g2
      | .bk ts2 g2 => .nx ts2 g2
      | .rt t g2 => .rt t g2
      | .ex x ts2 g2 => .ex x ts2 g2
      | .no => .no) = _
    rw [show ev__law_draw_b1 [some (.ref 0 i), some (.int m), none, some (.int 0), some (.int (0 + (0 : Nat)))] g = .nx [some (.ref 0 i), some (.int m), none, some (.int (0 * 2147483587 + r)), some (.int (0 + (0 : Nat)))] g2 from (seq_nx c0).trans c1]
    rfl
  have e3 : ev__law_draw_3 [some (.ref 0 i), some (.int m), none, some (.int (0 * 2147483587 + r)), some (.int (0 + (0 : Nat)))] g2 = .rt (.int (r % m)) g2 := by
    rw [Int.zero_mul, Int.zero_add]
    simp [ev__law_draw_3, sRt, fB, fV, oMod, oIc, pMod, R.bind, R.toS, m0]
  have e : ev__law_draw [some (.ref 0 i), some (.int m), none, none, none] g = .rt (.int (r % m)) g2 := (seq_nx e0).trans ((seq_nx e1).trans ((seq_nx e2).trans e3))
  show (match ev__law_draw [some (.ref 0 i), some (.int m), none, none, none] g with
    | .nx _ g' => R.ok T.non g'
    | .rt t g' => .ok t g'
    | .ex x _ g' => .ex x g'
    | _ => .no) = _
  rw [e]
theorem draw_ok {i : Nat} {a b t d m : Int} {g : VH} (hg : at2 g 0 i = some (some (.lst [.int a, .int b, .int t, .int d]))) (ha : 0 ≤ a) (hb : 0 ≤ b) (hb2 : b < 2147483648) (ht : 0 ≤ t) (ht2 : t < 1000) (hd : 0 ≤ d) (hd2 : d < 1000) (hm : m = 3 ∨ m = 9) :
    ∃ r a' t', fn__law_draw [.ref 0 i, .int m] g = .ok (.int r) (set2 g 0 i (some (.lst [.int a', .int b, .int t', .int d]))) ∧ 0 ≤ r ∧ r < m ∧ 0 ≤ a' ∧ 0 ≤ t' ∧ t' ≤ t + 1 := by
  have m0 : 0 < m := by omega
  by_cases h : 0 < a
  · exact ⟨a % m, a / m, t, draw_a hg h hm, Int.emod_nonneg _ (by omega), Int.emod_lt_of_pos _ m0, Int.ediv_nonneg ha (by omega), ht, by omega⟩
  · have a0 : a = 0 := by omega
    subst a0
    obtain ⟨r, hr⟩ := mixed_ok (b := b) (t := t + 1) (a := d) (set2 g 0 i (some (.lst [.int 0, .int b, .int (t + 1), .int d]))) hb hb2 (by omega) (by omega) hd (by omega)
    exact ⟨r % m, 0, t + 1, draw_b hg hm rfl hr, Int.emod_nonneg _ (by omega), Int.emod_lt_of_pos _ m0, by omega, by omega, by omega⟩
end K88
set_option Elab.async false
set_option linter.all false
set_option maxRecDepth 1000000
set_option maxHeartbeats 0
/-! k88: the plain law, 2 -/
namespace K88
open PySem L2 Zz
/-! ### the purses -/
theorem intsOf_map : ∀ ns : List Int, intsOf (ns.map T.int) = some ns
  | [] => rfl
  | n :: ns => by simp [intsOf, intsOf_map ns]
theorem cutT_map (ns : List Int) (lo hi : Option Int) : ∃ ms : List Int, cutT (ns.map T.int) lo hi = ms.map T.int := by
  unfold cutT
  exact ⟨_, by rw [← List.map_drop, ← List.map_take]⟩
theorem cons_ok {fa : Ev} {fr : Ea} {ts : SL} {g g1 g2 : VH} {x : T} {xs : List T} (h1 : fa ts g = .ok x g1) (h2 : fr ts g1 = .ok xs g2) : fCons fa fr ts g = .ok (x :: xs) g2 := by
  unfold fCons
  rw [h1]
  show (fr ts g1).bind _ = _
  rw [h2]
  rfl
theorem b_ok {fo : T → T → VH → R T} {fa fb : Ev} {ts : SL} {g g1 g2 : VH} {x y : T} (h1 : fa ts g = .ok x g1) (h2 : fb ts g1 = .ok y g2) : fB fo fa fb ts g = fo x y g2 := by
  unfold fB
  rw [h1]
  show (fb ts g1).bind _ = _
  rw [h2]
  rfl
theorem a_ok {fo : List T → VH → R T} {fa : Ea} {ts : SL} {g g1 : VH} {xs : List T} (h1 : fa ts g = .ok xs g1) : fA fo fa ts g = fo xs g1 := by
  unfold fA
  rw [h1]
  rfl
theorem mod_ok {i j : Int} {g : VH} (h : 0 < j) : oMod (.int i) (.int j) g = .ok (.int (i % j)) g := by
  show (if pMod i j = true then _ else _) = _
  rw [if_pos (show pMod i j = true from decide_eq_true h)]
theorem pow_ok {i : Int} {n : Nat} {g : VH} (h : pPow i n = true) : oPow (.int i) (.int n) g = .ok (.int (i ^ n)) g := by
  show (if pPow i n = true then R.ok (T.int (i ^ (n : Int).toNat)) g else _) = _
  rw [if_pos h, Int.toNat_natCast]
theorem p1060 : pPow ((10 : Int) ^ 60) (8 : Nat) = true ∧ pPow 10 (60 : Nat) = true ∧ pPow 10 (18 : Nat) = true := by decide +kernel
theorem cell_ok (ns : List Int) (k : Nat) (rs : List (Option C)) : ∃ cell, ev__law_purse_0 [some (.rol (ns.map .int)), some (.int k), none] [rs] = .nx [some (.rol (ns.map .int)), some (.int k), some (.int cell)] [rs] := by
  obtain ⟨ms, hm⟩ := cutT_map ns (some (k : Int)) (some ((k : Int) + 1))
  refine ⟨ms.sum, ?_⟩
  simp only [ev__law_purse_0, sAs, fA, fCons, fNil, fSl, fV, fSo, fB, fK, oAdd, oSl, vwR, mkL, oSum, R.bind, R.toS, hm, intsOf_map, bindT, List.getElem?_cons_succ, List.getElem?_cons_zero]
  rfl
theorem purse_ok (ns : List Int) (k : Nat) (rs : List (Option C)) : ∃ a b : Int, 0 ≤ a ∧ 0 ≤ b ∧ b < 2147483629 ∧ fn__law_purse [.rol (ns.map .int), .int k] [rs] = .ok (.ref 0 rs.length) [rs ++ [some (.lst [.int a, .int b, .int 0, .int k])]] := by
  obtain ⟨h1, h2, h3⟩ := p1060
  obtain ⟨cell, e0⟩ := cell_ok ns k rs
  generalize hL : ([some (.rol (ns.map .int)), some (.int k), some (.int cell)] : SL) = L at e0
  have v2 : fV 2 L [rs] = .ok (.int cell) [rs] := by subst hL; rfl
  have v1 : fV 1 L [rs] = .ok (.int k) [rs] := by subst hL; rfl
  have hbig0 : (0 : Int) < ((10 : Int) ^ 60) ^ 8 := Int.pow_pos (Int.pow_pos (by decide))
  have x1 : (fB oPow (fB oPow (fK (.int 10)) (fK (.int 60))) (fK (.int 8))) L [rs] = .ok (.int (((10 : Int) ^ 60) ^ 8)) [rs] :=
    (b_ok (fa := fB oPow (fK (.int 10)) (fK (.int 60))) (fb := fK (.int 8)) ((b_ok (fa := fK (.int 10)) (fb := fK (.int 60)) rfl rfl).trans (pow_ok (n := 60) h2)) rfl).trans (pow_ok (n := 8) h1)
  have x00 : (fB oSub (fV 2) (fB oPow (fK (.int 10)) (fK (.int 18)))) L [rs] = .ok (.int (cell - (10 : Int) ^ 18)) [rs] :=
    (b_ok (fa := fV 2) (fb := fB oPow (fK (.int 10)) (fK (.int 18))) v2 ((b_ok (fa := fK (.int 10)) (fb := fK (.int 18)) rfl rfl).trans (pow_ok (n := 18) h3))).trans rfl
  generalize hbig : ((10 : Int) ^ 60) ^ 8 = big at x1 hbig0
  generalize hten : (10 : Int) ^ 18 = ten at x00
  have x0 : (fA oMax2 (fCons (fB oSub (fV 2) (fB oPow (fK (.int 10)) (fK (.int 18)))) (fCons (fK (.int 0)) (fNil)))) L [rs] = .ok (.int (if 0 > cell - ten then 0 else cell - ten)) [rs] :=
    (a_ok (cons_ok x00 (cons_ok (fa := fK (.int 0)) (x := .int 0) rfl (fr := fNil) (xs := []) rfl))).trans rfl
  have x2 := (b_ok x0 x1).trans (mod_ok hbig0)
  have x3 : (fB oMod (fV 2) (fK (.int 2147483629))) L [rs] = .ok (.int (cell % 2147483629)) [rs] := (b_ok v2 (fb := fK (.int 2147483629)) (y := .int 2147483629) rfl).trans (mod_ok (by decide))
  refine ⟨(if 0 > cell - ten then 0 else cell - ten) % big, cell % 2147483629, Int.emod_nonneg _ (by omega), Int.emod_nonneg _ (by decide), Int.emod_lt_of_pos _ (by decide), ?_⟩
  have x4 := cons_ok x2 (cons_ok x3 (cons_ok (fa := fK (.int 0)) (x := .int 0) rfl (cons_ok v1 (fr := fNil) (xs := []) rfl)))
  have e1 : ev__law_purse_1 L [rs] = .rt (.ref 0 rs.length) [rs ++ [some (.lst [.int ((if 0 > cell - ten then 0 else cell - ten) % big), .int (cell % 2147483629), .int 0, .int k])]] := by
    unfold ev__law_purse_1 sRt fLst
    rw [x4]
    rfl
  have e : ev__law_purse [some (.rol (ns.map .int)), some (.int k), none] [rs] = .rt (.ref 0 rs.length) [rs ++ [some (.lst [.int ((if 0 > cell - ten then 0 else cell - ten) % big), .int (cell % 2147483629), .int 0, .int k])]] := (seq_nx e0).trans e1
  show (match ev__law_purse [some (.rol (ns.map .int)), some (.int k), none] [rs] with
    | .nx _ g' => R.ok T.non g'
    | .rt t g' => .ok t g'
    | .ex x _ g' => .ex x g'
    | _ => .no) = _
  rw [e]
end K88
set_option Elab.async false
set_option linter.all false
set_option maxRecDepth 1000000
set_option maxHeartbeats 0
/-! k88: the plain law, the purses and the loop -/
namespace K88
open PySem L2 Zz
def refs (k : Nat) : List T := (List.range k).map fun j => .ref 0 j
theorem refs_succ (k : Nat) : refs (k + 1) = refs k ++ [.ref 0 k] := by unfold refs; rw [List.range_succ]; simp
/-- the j-th purse is as it was made -/
def Purse (r : Option (Option C)) (j : Nat) : Prop := ∃ a b : Int, 0 ≤ a ∧ 0 ≤ b ∧ b < 2147483629 ∧ r = some (some (.lst [.int a, .int b, .int 0, .int j]))
abbrev elP : Ev := fCn (fcArr fn__law_purse 2 0 pl_kb__law_purse_2 []) (fCons (fV 0) (fCons (fV 2) (fNil))) (fNil)
theorem el_ok (ns : List Int) (x : Option T) (k : Nat) (rs : List (Option C)) : ∃ a b : Int, 0 ≤ a ∧ 0 ≤ b ∧ b < 2147483629 ∧ elP [some (.rol (ns.map .int)), x, some (.int k)] [rs] = .ok (.ref 0 rs.length) [rs ++ [some (.lst [.int a, .int b, .int 0, .int k])]] := by
  obtain ⟨a, b, h1, h2, h3, e⟩ := purse_ok ns k rs
  refine ⟨a, b, h1, h2, h3, ?_⟩
  show fn__law_purse [.rol (ns.map .int), .int k] [rs] = _
  exact e
theorem itL_cons {β : Type} {tg : Tg} {body : SL → β → VH → R β} {ts ts' : SL} {t : T} {l : List T} {acc acc' : β} {g g' : VH} (hb : bindT tg t ts = some ts') (e : body ts' acc g = .ok acc' g') : itL tg body ts (t :: l) acc g = itL tg body ts l acc' g' := by
  simp only [itL, hb, e]
theorem it_ok (ns : List Int) (x : Option T) : ∀ (m k : Nat) (rs : List (Option C)), k + m ≤ 1000 → rs.length = k → (∀ j, j < k → Purse rs[j]? j) →
    ∃ rs', itL (.nm 2) (bTest fYes (bApp elP)) [some (.rol (ns.map .int)), x, none] ((List.range' k m).map fun i => T.int (0 + (i : Nat))) (refs k) [rs] = .ok (refs (k + m)) [rs'] ∧ rs'.length = k + m ∧ ∀ j, j < k + m → Purse rs'[j]? j
  | 0, k, rs, _, hl, hp => ⟨rs, rfl, hl, hp⟩
  | m + 1, k, rs, hm, hl, hp => by
    obtain ⟨a, b, h1, h2, h3, e⟩ := el_ok ns x k rs
    have hp' : ∀ j, j < k + 1 → Purse (rs ++ [some (.lst [.int a, .int b, .int 0, .int k])])[j]? j := fun j hj => by
      by_cases z : j < k
      · rw [List.getElem?_append_left (by omega)]; exact hp j z
      · have : j = k := by omega
        subst this
        rw [List.getElem?_append_right (by omega), hl]
        simp only [Nat.sub_self, List.getElem?_cons_zero]
        exact ⟨a, b, h1, h2, h3, rfl⟩
    obtain ⟨rs', q1, q2, q3⟩ := it_ok ns x m (k + 1) (rs ++ [some (.lst [.int a, .int b, .int 0, .int k])]) (by omega) (by simp [hl]) hp'
    refine ⟨rs', ?_, by omega, fun j hj => q3 j (by omega)⟩
    have eb : bTest fYes (bApp elP) [some (.rol (ns.map .int)), x, some (.int (0 + (k : Nat)))] (refs k) [rs] = .ok (refs (k + 1)) [rs ++ [some (.lst [.int a, .int b, .int 0, .int k])]] := by
      show bApp elP [some (.rol (ns.map .int)), x, some (.int (0 + (k : Nat)))] (refs k) [rs] = _
      rw [Int.zero_add]
      unfold bApp
      rw [e]
      show (if (refs k).length < 16777216 then R.ok (refs k ++ [T.ref 0 rs.length]) [rs ++ [some (.lst [.int a, .int b, .int 0, .int k])]] else R.no) = _
      rw [if_pos (by unfold refs; simp; omega), hl, refs_succ]
    rw [show List.range' k (m + 1) = k :: List.range' (k + 1) m from rfl, List.map_cons]
    rw [itL_cons (ts' := [some (.rol (ns.map .int)), x, some (.int (0 + (k : Nat)))]) rfl eb]
    rw [q1, show k + 1 + m = k + (m + 1) by omega]
theorem iIn_small {i : Int} (h1 : -1000 ≤ i) (h2 : i ≤ 1000) : iIn i = true := by
  unfold iIn
  rw [decide_eq_true (show -(2 ^ 62) ≤ i by omega), decide_eq_true (show i < 2 ^ 62 by omega)]
  rfl
theorem purses_ok (ns : List Int) : ∃ n rs, fn__law_purses [.rol (ns.map .int), .int 10] [[]] = .ok (.lst (refs n)) [rs] ∧ n ≤ 10 ∧ rs.length = n ∧ ∀ j, j < n → Purse rs[j]? j := by
  generalize hL : ([some (.rol (ns.map .int)), some (.int 10), none] : SL) = L
  have v0 : fV 0 L [[]] = .ok (.rol (ns.map .int)) [[]] := by subst hL; rfl
  have v1 : fV 1 L [[]] = .ok (.int 10) [[]] := by subst hL; rfl
  have l1 : (fA oLen (fCons (fV 0) (fNil))) L [[]] = .ok (.int ns.length) [[]] := by
    rw [a_ok (cons_ok v0 (fr := fNil) (xs := []) rfl)]
    show R.ok (T.int ((ns.map T.int).length : Nat)) [[]] = _
    rw [List.length_map]
  have l2 : (fA oMin2 (fCons (fV 1) (fCons (fA oLen (fCons (fV 0) (fNil))) (fNil)))) L [[]] = .ok (.int (if (ns.length : Int) < 10 then ns.length else 10)) [[]] :=
    (a_ok (cons_ok v1 (cons_ok l1 (fr := fNil) (xs := []) rfl))).trans rfl
  generalize hmin : (if (ns.length : Int) < 10 then (ns.length : Int) else 10) = mn at l2
  have l3 : (fA oMax2 (fCons (fK (.int 1)) (fCons (fA oMin2 (fCons (fV 1) (fCons (fA oLen (fCons (fV 0) (fNil))) (fNil)))) (fNil)))) L [[]] = .ok (.int (if mn > 1 then mn else 1)) [[]] :=
    (a_ok (cons_ok (fa := fK (.int 1)) (x := .int 1) rfl (cons_ok l2 (fr := fNil) (xs := []) rfl))).trans rfl
  generalize hmax : (if mn > 1 then mn else 1) = N at l3
  have n1 : 1 ≤ N := by rw [← hmax]; split <;> omega
  have n0 : mn ≤ 10 := by rw [← hmin]; split <;> omega
  have n2 : N ≤ 10 := by rw [← hmax]; split <;> omega
  have src : (fIa srcR1 (fCons (fA oMax2 (fCons (fK (.int 1)) (fCons (fA oMin2 (fCons (fV 1) (fCons (fA oLen (fCons (fV 0) (fNil))) (fNil)))) (fNil)))) (fNil))) L [[]] = .ok (.fix ((List.range N.toNat).map fun i => .int (0 + (i : Nat)))) [[]] := by
    unfold fIa
    rw [cons_ok l3 (fr := fNil) (xs := []) rfl]
    show (if iIn N = true then R.ok (Src.fix ((List.range N.toNat).map fun i => T.int (0 + (i : Nat)))) [[]] else R.no) = _
    rw [if_pos (iIn_small (by omega) (by omega))]
  obtain ⟨rs, q1, q2, q3⟩ := it_ok ns (some (.int 10)) N.toNat 0 [] (by omega) rfl (fun j hj => absurd hj (Nat.not_lt_zero _))
  refine ⟨N.toNat, rs, ?_, by omega, by omega, fun j hj => q3 j (by omega)⟩
  have e : ev__law_purses L [[]] = .rt (.lst (refs N.toNat)) [rs] := by
    unfold ev__law_purses sRt fLc
    rw [src]
    subst hL
    show ((match itL (.nm 2) (bTest fYes (bApp elP)) [some (.rol (ns.map .int)), some (.int 10), none] ((List.range N.toNat).map fun i => T.int (0 + (i : Nat))) (refs 0) [[]] with
      | .ok acc g2 => mkL false acc g2
      | _ => .no : R T).toS _ _) = _
    rw [List.range_eq_range', q1, Nat.zero_add]
    rfl
  show (match ev__law_purses [some (.rol (ns.map .int)), some (.int 10), none] [[]] with
    | .nx _ g' => R.ok T.non g'
    | .rt t g' => .ok t g'
    | .ex x _ g' => .ex x g'
    | _ => .no) = _
  rw [hL, e]
end K88
set_option Elab.async false
set_option linter.all false
set_option maxRecDepth 1000000
set_option maxHeartbeats 0
/-! k88: the plain law, whole -/
namespace K88
open PySem L2 Zz
abbrev drw (m : Int) : Ev := fCn (fcArr fn__law_draw 2 0 pl_kb__law_draw_2 []) (fCons (fV 1) (fCons (fK (.int m)) (fNil))) (fNil)
theorem drw_ok {m r : Int} {i : Nat} {ts : SL} {g g' : VH} (h1 : ts[1]? = some (some (.ref 0 i))) (h : fn__law_draw [.ref 0 i, .int m] g = .ok (.int r) g') : drw m ts g = .ok (.int r) g' := by
  have v1 : fV 1 ts g = .ok (.ref 0 i) g := by unfold fV; rw [h1]
  unfold drw fCn fArgs
  rw [cons_ok v1 (cons_ok (fa := fK (.int m)) (x := .int m) rfl (fr := fNil) (xs := []) rfl)]
  show fn__law_draw [.ref 0 i, .int m] g = _
  exact h
theorem add_ok {i j : Int} {g : VH} : oAdd false (.int i) (.int j) g = .ok (.int (i + j)) g := rfl
theorem keep_sl {w p : Int} : ∀ {ts : SL}, ts.length = 10 → keepT [2, 3] ((ts.set 2 (some (.int w))).set 3 (some (.int p))) = sl w p
  | [_, _, _, _, _, _, _, _, _, _], _ => rfl
theorem set2_one (rs : List (Option C)) (k : Nat) (x : Option C) : set2 [rs] 0 k x = [rs.set k x] := rfl
theorem body_ok {n k : Nat} {ts : SL} {rs : List (Option C)} (hl : ts.length = 10) (hr : rs.length = n) (hn : n ≤ 10) (hk : k < n) (hp : ∀ j, k ≤ j → j < n → Purse rs[j]? j) :
    ∃ ts' rs', ev_law_b1 (ts.set 1 (some (.ref 0 k))) [rs] = .nx ts' [rs'] ∧ ts'.length = 10 ∧ rs'.length = n ∧ ∀ j, k + 1 ≤ j → j < n → Purse rs'[j]? j := by
  obtain ⟨a, b, h1, h2, h3, e⟩ := hp k (Nat.le_refl _) hk
  have g0 : at2 [rs] 0 k = some (some (.lst [.int a, .int b, .int 0, .int k])) := e
  obtain ⟨w, a1, t1, d1, w1, w2, b1, b2, b3⟩ := draw_ok (m := 9) g0 h1 h2 (by omega) (by omega) (by omega) (by omega) (by omega) (.inr rfl)
  rw [set2_one] at d1
  have g1 : at2 [rs.set k (some (.lst [.int a1, .int b, .int t1, .int k]))] 0 k = some (some (.lst [.int a1, .int b, .int t1, .int k])) := by
    show (rs.set k _)[k]? = _
    rw [List.getElem?_set_self (by omega)]
  obtain ⟨p, a2, t2, d2, p1, p2, _⟩ := draw_ok (m := 3) g1 b1 h2 (by omega) b2 (by omega) (by omega) (by omega) (.inl rfl)
  rw [set2_one, List.set_set] at d2
  generalize hx : (some (.lst [.int a2, .int b, .int t2, .int k]) : Option C) = x at d2
  have s1 : (ts.set 1 (some (.ref 0 k)))[1]? = some (some (.ref 0 k)) := List.getElem?_set_self (by omega)
  have A := cons_ok ((b_ok (fa := fK (.int 5)) (x := .int 5) rfl (drw_ok s1 d1)).trans add_ok) (cons_ok ((b_ok (fa := fK (.int 1)) (x := .int 1) rfl (drw_ok s1 d2)).trans add_ok) (fr := fNil) (xs := []) rfl)
  obtain ⟨ts3, g3, q, hl3⟩ := rg_ok w1 w2 p1 p2
  have hl1 : (ts.set 1 (some (.ref 0 k))).length = 10 := by rw [List.length_set]; exact hl
  refine ⟨lowSl ts3, rs.set k x, ?_, by unfold lowSl; rw [List.length_map]; exact hl3, by rw [List.length_set]; exact hr, fun j hj hj2 => ?_⟩
  · have e0 : ∀ f, (sSeq (sPar [2, 3] (fCons (fB (oAdd false) (fK (.int 5)) (drw 9)) (fCons (fB (oAdd false) (fK (.int 1)) (drw 3)) (fNil)))) f) (ts.set 1 (some (.ref 0 k))) [rs] = f (((ts.set 1 (some (.ref 0 k))).set 2 (some (.int (5 + w)))).set 3 (some (.int (1 + p)))) [rs.set k x] := fun f => by
      refine seq_nx ?_
      unfold sPar
      rw [A]
      rfl
    show (sSeq (sPar [2, 3] (fCons (fB (oAdd false) (fK (.int 5)) (drw 9)) (fCons (fB (oAdd false) (fK (.int 1)) (drw 3)) (fNil)))) (sReg [2, 3] rg_law)) (ts.set 1 (some (.ref 0 k))) [rs] = _
    rw [e0]
    unfold sReg
    rw [keep_sl hl1, q]
  · rw [List.getElem?_set_ne (by omega)]
    exact hp j (by omega) hj2
theorem forL_nx {tg : Tg} {fb : Ss} {t : T} {l : List T} {ts ts' ts2 : SL} {g g2 : VH} (hb : bindT tg t ts = some ts') (e : fb ts' g = .nx ts2 g2) : forL tg fb (t :: l) ts g = forL tg fb l ts2 g2 := by
  simp only [forL, hb, e]
theorem loop_ok {n : Nat} (hn : n ≤ 10) : ∀ (m k : Nat) (ts : SL) (rs : List (Option C)), k + m = n → ts.length = 10 → rs.length = n → (∀ j, k ≤ j → j < n → Purse rs[j]? j) →
    ∃ ts' g', forL (.nm 1) ev_law_b1 ((List.range' k m).map fun j => .ref 0 j) ts [rs] = .nx ts' g'
  | 0, k, ts, rs, _, _, _, _ => ⟨ts, [rs], rfl⟩
  | m + 1, k, ts, rs, hm, hl, hr, hp => by
    obtain ⟨ts', rs', e, l1, l2, l3⟩ := body_ok hl hr hn (k := k) (by omega) hp
    obtain ⟨ts2, g2, q⟩ := loop_ok hn m (k + 1) ts' rs' (by omega) l1 l2 l3
    refine ⟨ts2, g2, ?_⟩
    rw [show List.range' k (m + 1) = k :: List.range' (k + 1) m from rfl, List.map_cons, forL_nx (ts' := ts.set 1 (some (.ref 0 k))) rfl e]
    exact q
theorem lows_ints : ∀ ns : List Int, T.lows 0 (ns.map T.int) = true
  | [] => rfl
  | n :: ns => by
    show (T.low 0 (.int n) && T.lows 0 (ns.map T.int)) = true
    rw [lows_ints ns]
    rfl
/-- the law holds at every script -/
theorem law_true (ns : List Int) (g : VH) : fn_law [.rol (ns.map .int)] g = .ok (.bl true) g := by
  obtain ⟨n, rs, e1, hn, hr, hp⟩ := purses_ok ns
  obtain ⟨ts2, g2, q⟩ := loop_ok hn n 0 [some (.rol (ns.map .int)), none, none, none, none, none, none, none, none, none] rs (by omega) rfl hr (fun j _ h => hp j h)
  have src : (fI (fCn (fcArr fn__law_purses 2 0 pl_kb__law_purses_2 []) (fCons (fV 0) (fCons (fK (.int 10)) (fNil))) (fNil))) [some (.rol (ns.map .int)), none, none, none, none, none, none, none, none, none] [[]] = .ok (.fix (refs n)) [rs] := by
    unfold fI fCn fArgs
    rw [cons_ok (fa := fV 0) (x := .rol (ns.map .int)) rfl (cons_ok (fa := fK (.int 10)) (x := .int 10) rfl (fr := fNil) (xs := []) rfl)]
    show (fn__law_purses [.rol (ns.map .int), .int 10] [[]]).bind srcOf = _
    rw [e1]
    rfl
  have l0 : ev_law_0 [some (.rol (ns.map .int)), none, none, none, none, none, none, none, none, none] [[]] = .nx ts2 g2 := by
    unfold ev_law_0 sFor
    rw [src]
    show forL (.nm 1) ev_law_b1 (refs n) _ [rs] = _
    unfold refs
    rw [List.range_eq_range']
    exact q
  have l1 : ev_law [some (.rol (ns.map .int)), none, none, none, none, none, none, none, none, none] [[]] = .rt (.bl true) g2 := (seq_nx l0).trans rfl
  have lr : rets 10 ev_law [.rol (ns.map .int)] [[]] = .ok (.bl true) g2 := by
    show (match ev_law [some (.rol (ns.map .int)), none, none, none, none, none, none, none, none, none] [[]] with
      | .nx _ g' => R.ok T.non g'
      | .rt t g' => .ok t g'
      | .ex x _ g' => .ex x g'
      | _ => .no) = _
    rw [l1]
  unfold fn_law fnP
  rw [if_pos (show [T.rol (ns.map T.int)].length = 1 from rfl), if_pos (show T.lows 0 [T.rol (ns.map T.int)] = true by show (T.lows 0 (ns.map T.int) && T.lows 0 []) = true; rw [lows_ints]; rfl), lr]
  rfl
end K88
set_option Elab.async false
set_option linter.all false
set_option maxRecDepth 1000000
set_option maxHeartbeats 0
namespace K88
open PySem PySem.Spec PyProof.Rows L2 Zz LamX
def cK (K : PySem.W.Frag) (tb : List NdefX.NTab) (as : List (Nat × Addr)) : Cn := ⟨K, fun n => (as.lookup n).getD 0, fun _ => Str.empty, fun _ c => nf__law_action c, tb⟩
def fdOf (l : List (Nat × FuncData)) (n : Nat) : FuncData := (l.lookup n).getD default
theorem all_mk {K : PySem.W.Frag} {h : Heap} {mg : Str → Option Value} {tb : List NdefX.NTab} (X : K.In h) (G : h.Ns mainGlobals mg)
    {A61 : Addr}
    {A59 : Addr}
    {A1061 : Addr} {rs61 : List Value}
    {od61 an61 : Option Addr} {sl61 : Array (Option Value)} {oc61 kV61 dc61 pm61 cd61 ct61 : Value}
    {A90 : Addr}
    {od90 an90 : Option Addr} {sl90 : Array (Option Value)} {oc90 kV90 dc90 pm90 cd90 ct90 : Value}
    {A89 : Addr}
    {od89 an89 : Option Addr} {sl89 : Array (Option Value)} {oc89 kV89 dc89 pm89 cd89 ct89 : Value}
    {A86 : Addr}
    {od86 an86 : Option Addr} {sl86 : Array (Option Value)} {oc86 kV86 dc86 pm86 cd86 ct86 : Value}
    {A88 : Addr}
    {od88 an88 : Option Addr} {sl88 : Array (Option Value)} {oc88 kV88 dc88 pm88 cd88 ct88 : Value}
    {A87 : Addr}
    {od87 an87 : Option Addr} {sl87 : Array (Option Value)} {oc87 kV87 dc87 pm87 cd87 ct87 : Value}
    {A50 : Addr}
    {A49 : Addr}
    {od50 an50 : Option Addr} {sl50 : Array (Option Value)} {oc50 kV50 dc50 pm50 cd50 ct50 : Value}
    {A44 : Addr}
    {od44 an44 : Option Addr} {sl44 : Array (Option Value)} {oc44 kV44 dc44 pm44 cd44 ct44 : Value}
    {A43 : Addr}
    {od43 an43 : Option Addr} {sl43 : Array (Option Value)} {oc43 kV43 dc43 pm43 cd43 ct43 : Value}
    {A41 : Addr}
    {od41 an41 : Option Addr} {sl41 : Array (Option Value)} {oc41 kV41 dc41 pm41 cd41 ct41 : Value}
    {A22 : Addr}
    {od22 an22 : Option Addr} {sl22 : Array (Option Value)} {oc22 kV22 dc22 pm22 cd22 ct22 : Value}
    {A20 : Addr}
    {od20 an20 : Option Addr} {sl20 : Array (Option Value)} {oc20 kV20 dc20 pm20 cd20 ct20 : Value}
    {A42 : Addr}
    {od42 an42 : Option Addr} {sl42 : Array (Option Value)} {oc42 kV42 dc42 pm42 cd42 ct42 : Value}
    {A45 : Addr}
    {od45 an45 : Option Addr} {sl45 : Array (Option Value)} {oc45 kV45 dc45 pm45 cd45 ct45 : Value}
    {A60 : Addr}
    {od60 an60 : Option Addr} {sl60 : Array (Option Value)} {oc60 kV60 dc60 pm60 cd60 ct60 : Value}
    {T60 : Addr} {q160 : Value} {q260 : Option Addr} {qn60 : Nat} {q360 : Array (Option Value)}
    {A57 : Addr}
    {od57 an57 : Option Addr} {sl57 : Array (Option Value)} {oc57 kV57 dc57 pm57 cd57 ct57 : Value}
    {A28 : Addr}
    {od28 an28 : Option Addr} {sl28 : Array (Option Value)} {oc28 kV28 dc28 pm28 cd28 ct28 : Value}
    {A25 : Addr}
    {od25 an25 : Option Addr} {sl25 : Array (Option Value)} {oc25 kV25 dc25 pm25 cd25 ct25 : Value}
    {A67 : Addr}
    {od67 an67 : Option Addr} {sl67 : Array (Option Value)} {oc67 kV67 dc67 pm67 cd67 ct67 : Value}
    {A26 : Addr}
    {od26 an26 : Option Addr} {sl26 : Array (Option Value)} {oc26 kV26 dc26 pm26 cd26 ct26 : Value}
    {A23 : Addr}
    {od23 an23 : Option Addr} {sl23 : Array (Option Value)} {oc23 kV23 dc23 pm23 cd23 ct23 : Value}
    {A66 : Addr}
    {od66 an66 : Option Addr} {sl66 : Array (Option Value)} {oc66 kV66 dc66 pm66 cd66 ct66 : Value}
    {A65 : Addr}
    {od65 an65 : Option Addr} {sl65 : Array (Option Value)} {oc65 kV65 dc65 pm65 cd65 ct65 : Value}
    {A64 : Addr}
    {od64 an64 : Option Addr} {sl64 : Array (Option Value)} {oc64 kV64 dc64 pm64 cd64 ct64 : Value}
    {A58 : Addr}
    {od58 an58 : Option Addr} {sl58 : Array (Option Value)} {oc58 kV58 dc58 pm58 cd58 ct58 : Value}
    {A52 : Addr}
    {od52 an52 : Option Addr} {sl52 : Array (Option Value)} {oc52 kV52 dc52 pm52 cd52 ct52 : Value}
    {A48 : Addr}
    {od48 an48 : Option Addr} {sl48 : Array (Option Value)} {oc48 kV48 dc48 pm48 cd48 ct48 : Value}
    {A46 : Addr}
    {od46 an46 : Option Addr} {sl46 : Array (Option Value)} {oc46 kV46 dc46 pm46 cd46 ct46 : Value}
    {A47 : Addr}
    {od47 an47 : Option Addr} {sl47 : Array (Option Value)} {oc47 kV47 dc47 pm47 cd47 ct47 : Value}
    {A32 : Addr}
    {od32 an32 : Option Addr} {sl32 : Array (Option Value)} {oc32 kV32 dc32 pm32 cd32 ct32 : Value}
    {A31 : Addr}
    {od31 an31 : Option Addr} {sl31 : Array (Option Value)} {oc31 kV31 dc31 pm31 cd31 ct31 : Value}
    {A30 : Addr}
    {od30 an30 : Option Addr} {sl30 : Array (Option Value)} {oc30 kV30 dc30 pm30 cd30 ct30 : Value}
    {A74 : Addr}
    {od74 an74 : Option Addr} {sl74 : Array (Option Value)} {oc74 kV74 dc74 pm74 cd74 ct74 : Value}
    {A63 : Addr}
    {od63 an63 : Option Addr} {sl63 : Array (Option Value)} {oc63 kV63 dc63 pm63 cd63 ct63 : Value}
    {A76 : Addr}
    {od76 an76 : Option Addr} {sl76 : Array (Option Value)} {oc76 kV76 dc76 pm76 cd76 ct76 : Value}
    {A29 : Addr}
    {od29 an29 : Option Addr} {sl29 : Array (Option Value)} {oc29 kV29 dc29 pm29 cd29 ct29 : Value}
    {A21 : Addr}
    {od21 an21 : Option Addr} {sl21 : Array (Option Value)} {oc21 kV21 dc21 pm21 cd21 ct21 : Value}
    {A40 : Addr}
    {od40 an40 : Option Addr} {sl40 : Array (Option Value)} {oc40 kV40 dc40 pm40 cd40 ct40 : Value}
    {A38 : Addr}
    {od38 an38 : Option Addr} {sl38 : Array (Option Value)} {oc38 kV38 dc38 pm38 cd38 ct38 : Value}
    {A33 : Addr}
    {od33 an33 : Option Addr} {sl33 : Array (Option Value)} {oc33 kV33 dc33 pm33 cd33 ct33 : Value}
    {A39 : Addr}
    {od39 an39 : Option Addr} {sl39 : Array (Option Value)} {oc39 kV39 dc39 pm39 cd39 ct39 : Value}
    {A75 : Addr}
    {od75 an75 : Option Addr} {sl75 : Array (Option Value)} {oc75 kV75 dc75 pm75 cd75 ct75 : Value}
    {A77 : Addr}
    {od77 an77 : Option Addr} {sl77 : Array (Option Value)} {oc77 kV77 dc77 pm77 cd77 ct77 : Value}
    {A37 : Addr}
    {od37 an37 : Option Addr} {sl37 : Array (Option Value)} {oc37 kV37 dc37 pm37 cd37 ct37 : Value}
    {A35 : Addr}
    {od35 an35 : Option Addr} {sl35 : Array (Option Value)} {oc35 kV35 dc35 pm35 cd35 ct35 : Value}
    {A34 : Addr}
    {od34 an34 : Option Addr} {sl34 : Array (Option Value)} {oc34 kV34 dc34 pm34 cd34 ct34 : Value}
    {A36 : Addr}
    {od36 an36 : Option Addr} {sl36 : Array (Option Value)} {oc36 kV36 dc36 pm36 cd36 ct36 : Value}
    {A73 : Addr}
    {od73 an73 : Option Addr} {sl73 : Array (Option Value)} {oc73 kV73 dc73 pm73 cd73 ct73 : Value}
    {A81 : Addr}
    {od81 an81 : Option Addr} {sl81 : Array (Option Value)} {oc81 kV81 dc81 pm81 cd81 ct81 : Value}
    {A80 : Addr}
    {od80 an80 : Option Addr} {sl80 : Array (Option Value)} {oc80 kV80 dc80 pm80 cd80 ct80 : Value}
    {A83 : Addr}
    {A82 : Addr}
    {od83 an83 : Option Addr} {sl83 : Array (Option Value)} {oc83 kV83 dc83 pm83 cd83 ct83 : Value}
    {A84 : Addr}
    {od84 an84 : Option Addr} {sl84 : Array (Option Value)} {oc84 kV84 dc84 pm84 cd84 ct84 : Value}
    {A85 : Addr}
    {od85 an85 : Option Addr} {sl85 : Array (Option Value)} {oc85 kV85 dc85 pm85 cd85 ct85 : Value}
    {tk_SIGNS : Tok}
    {tk_DIGITS : Tok}
    (a59 : PySem.W.nsIn K mainGlobals ("Folder" : Str) = some (some (.ref A59)))
    (pa61 : PySem.W.findIn K (.ref A59) ("most" : Str) = some (some (.ref A1061)))
    (pg61 : PySem.W.specialIn K (.ref A1061) "__get__" = some (some (.builtin "property.__get__")))
    (pt61 : PySem.W.takesIn K (.ref A1061) = some true)
    (pr61 : PySem.W.recIn K A1061 "property" = some (.ref A61 :: rs61))
    (l61 : K.lookup A61 = some ⟨oc61, od61, .func (PySem.W.fnOf ("most" : Str) ("Folder.most" : Str) (defArgs st_Folder_most) (defBody st_Folder_most) (defScope st_Folder_most) .none kV61 dc61 pm61 an61 cd61 ct61), sl61⟩)
    (c61 : PySem.W.codeIn K cd61 ("Folder.most" : Str) = true)
    (k61 : PySem.W.keepIn K (.ref A61) = true)
    (a90 : PySem.W.nsIn K mainGlobals ("law" : Str) = some (some (.ref A90)))
    (l90 : K.lookup A90 = some ⟨oc90, od90, .func (PySem.W.fnOf ("law" : Str) ("law" : Str) (defArgs st_law) (defBody st_law) (defScope st_law) .none kV90 dc90 pm90 an90 cd90 ct90), sl90⟩)
    (c90 : PySem.W.codeIn K cd90 ("law" : Str) = true)
    (k90 : PySem.W.keepIn K (.ref A90) = true)
    (a89 : PySem.W.nsIn K mainGlobals ("_law_purses" : Str) = some (some (.ref A89)))
    (l89 : K.lookup A89 = some ⟨oc89, od89, .func (PySem.W.fnOf ("_law_purses" : Str) ("_law_purses" : Str) (defArgs st__law_purses) (defBody st__law_purses) (defScope st__law_purses) .none kV89 dc89 pm89 an89 cd89 ct89), sl89⟩)
    (c89 : PySem.W.codeIn K cd89 ("_law_purses" : Str) = true)
    (k89 : PySem.W.keepIn K (.ref A89) = true)
    (a86 : PySem.W.nsIn K mainGlobals ("_law_purse" : Str) = some (some (.ref A86)))
    (l86 : K.lookup A86 = some ⟨oc86, od86, .func (PySem.W.fnOf ("_law_purse" : Str) ("_law_purse" : Str) (defArgs st__law_purse) (defBody st__law_purse) (defScope st__law_purse) .none kV86 dc86 pm86 an86 cd86 ct86), sl86⟩)
    (c86 : PySem.W.codeIn K cd86 ("_law_purse" : Str) = true)
    (k86 : PySem.W.keepIn K (.ref A86) = true)
    (a88 : PySem.W.nsIn K mainGlobals ("_law_draw" : Str) = some (some (.ref A88)))
    (l88 : K.lookup A88 = some ⟨oc88, od88, .func (PySem.W.fnOf ("_law_draw" : Str) ("_law_draw" : Str) (defArgs st__law_draw) (defBody st__law_draw) (defScope st__law_draw) .none kV88 dc88 pm88 an88 cd88 ct88), sl88⟩)
    (c88 : PySem.W.codeIn K cd88 ("_law_draw" : Str) = true)
    (k88 : PySem.W.keepIn K (.ref A88) = true)
    (a87 : PySem.W.nsIn K mainGlobals ("_law_mixed" : Str) = some (some (.ref A87)))
    (l87 : K.lookup A87 = some ⟨oc87, od87, .func (PySem.W.fnOf ("_law_mixed" : Str) ("_law_mixed" : Str) (defArgs st__law_mixed) (defBody st__law_mixed) (defScope st__law_mixed) .none kV87 dc87 pm87 an87 cd87 ct87), sl87⟩)
    (c87 : PySem.W.codeIn K cd87 ("_law_mixed" : Str) = true)
    (k87 : PySem.W.keepIn K (.ref A87) = true)
    (a49 : PySem.W.nsIn K mainGlobals ("Cleaner" : Str) = some (some (.ref A49)))
    (a50 : PySem.W.findIn K (.ref A49) ("__init__" : Str) = some (some (.ref A50)))
    (i50 : PySem.W.isFn K (.ref A50) = true)
    (l50 : K.lookup A50 = some ⟨oc50, od50, .func (PySem.W.fnOf ("__init__" : Str) ("Cleaner.__init__" : Str) (defArgs st_CleanerU_initU) (defBody st_CleanerU_initU) (defScope st_CleanerU_initU) .none kV50 dc50 pm50 an50 cd50 ct50), sl50⟩)
    (c50 : PySem.W.codeIn K cd50 ("Cleaner.__init__" : Str) = true)
    (k50 : PySem.W.keepIn K (.ref A50) = true)
    (a44 : PySem.W.nsIn K mainGlobals ("are_steps" : Str) = some (some (.ref A44)))
    (l44 : K.lookup A44 = some ⟨oc44, od44, .func (PySem.W.fnOf ("are_steps" : Str) ("are_steps" : Str) (defArgs st_are_steps) (defBody st_are_steps) (defScope st_are_steps) .none kV44 dc44 pm44 an44 cd44 ct44), sl44⟩)
    (c44 : PySem.W.codeIn K cd44 ("are_steps" : Str) = true)
    (k44 : PySem.W.keepIn K (.ref A44) = true)
    (a43 : PySem.W.nsIn K mainGlobals ("is_step" : Str) = some (some (.ref A43)))
    (l43 : K.lookup A43 = some ⟨oc43, od43, .func (PySem.W.fnOf ("is_step" : Str) ("is_step" : Str) (defArgs st_is_step) (defBody st_is_step) (defScope st_is_step) .none kV43 dc43 pm43 an43 cd43 ct43), sl43⟩)
    (c43 : PySem.W.codeIn K cd43 ("is_step" : Str) = true)
    (k43 : PySem.W.keepIn K (.ref A43) = true)
    (a41 : PySem.W.nsIn K mainGlobals ("are_changes" : Str) = some (some (.ref A41)))
    (l41 : K.lookup A41 = some ⟨oc41, od41, .func (PySem.W.fnOf ("are_changes" : Str) ("are_changes" : Str) (defArgs st_are_changes) (defBody st_are_changes) (defScope st_are_changes) .none kV41 dc41 pm41 an41 cd41 ct41), sl41⟩)
    (c41 : PySem.W.codeIn K cd41 ("are_changes" : Str) = true)
    (k41 : PySem.W.keepIn K (.ref A41) = true)
    (a22 : PySem.W.nsIn K mainGlobals ("is_sign" : Str) = some (some (.ref A22)))
    (l22 : K.lookup A22 = some ⟨oc22, od22, .func (PySem.W.fnOf ("is_sign" : Str) ("is_sign" : Str) (defArgs st_is_sign) (defBody st_is_sign) (defScope st_is_sign) .none kV22 dc22 pm22 an22 cd22 ct22), sl22⟩)
    (c22 : PySem.W.codeIn K cd22 ("is_sign" : Str) = true)
    (k22 : PySem.W.keepIn K (.ref A22) = true)
    (a20 : PySem.W.nsIn K mainGlobals ("is_whole" : Str) = some (some (.ref A20)))
    (l20 : K.lookup A20 = some ⟨oc20, od20, .func (PySem.W.fnOf ("is_whole" : Str) ("is_whole" : Str) (defArgs st_is_whole) (defBody st_is_whole) (defScope st_is_whole) .none kV20 dc20 pm20 an20 cd20 ct20), sl20⟩)
    (c20 : PySem.W.codeIn K cd20 ("is_whole" : Str) = true)
    (k20 : PySem.W.keepIn K (.ref A20) = true)
    (a42 : PySem.W.nsIn K mainGlobals ("are_signs" : Str) = some (some (.ref A42)))
    (l42 : K.lookup A42 = some ⟨oc42, od42, .func (PySem.W.fnOf ("are_signs" : Str) ("are_signs" : Str) (defArgs st_are_signs) (defBody st_are_signs) (defScope st_are_signs) .none kV42 dc42 pm42 an42 cd42 ct42), sl42⟩)
    (c42 : PySem.W.codeIn K cd42 ("are_signs" : Str) = true)
    (k42 : PySem.W.keepIn K (.ref A42) = true)
    (a45 : PySem.W.nsIn K mainGlobals ("copied" : Str) = some (some (.ref A45)))
    (l45 : K.lookup A45 = some ⟨oc45, od45, .func (PySem.W.fnOf ("copied" : Str) ("copied" : Str) (defArgs st_copied) (defBody st_copied) (defScope st_copied) .none kV45 dc45 pm45 an45 cd45 ct45), sl45⟩)
    (c45 : PySem.W.codeIn K cd45 ("copied" : Str) = true)
    (k45 : PySem.W.keepIn K (.ref A45) = true)
    (a60 : PySem.W.findIn K (.ref A59) ("__init__" : Str) = some (some (.ref A60)))
    (i60 : PySem.W.isFn K (.ref A60) = true)
    (l60 : K.lookup A60 = some ⟨oc60, od60, .func (PySem.W.fnOf ("__init__" : Str) ("Folder.__init__" : Str) (defArgs st_FolderU_initU) (defBody st_FolderU_initU) (defScope st_FolderU_initU) (.ref T60) kV60 dc60 pm60 an60 cd60 ct60), sl60⟩)
    (c60 : PySem.W.codeIn K cd60 ("Folder.__init__" : Str) = true)
    (k60 : PySem.W.keepIn K (.ref A60) = true)
    (q60 : K.lookup T60 = some ⟨q160, q260, .seq ([.none, .none] : List Value).toArray qn60, q360⟩)
    (a57 : PySem.W.nsIn K mainGlobals ("check_cleaner" : Str) = some (some (.ref A57)))
    (l57 : K.lookup A57 = some ⟨oc57, od57, .func (PySem.W.fnOf ("check_cleaner" : Str) ("check_cleaner" : Str) (defArgs st_check_cleaner) (defBody st_check_cleaner) (defScope st_check_cleaner) .none kV57 dc57 pm57 an57 cd57 ct57), sl57⟩)
    (c57 : PySem.W.codeIn K cd57 ("check_cleaner" : Str) = true)
    (k57 : PySem.W.keepIn K (.ref A57) = true)
    (a28 : PySem.W.nsIn K mainGlobals ("check_width" : Str) = some (some (.ref A28)))
    (l28 : K.lookup A28 = some ⟨oc28, od28, .func (PySem.W.fnOf ("check_width" : Str) ("check_width" : Str) (defArgs st_check_width) (defBody st_check_width) (defScope st_check_width) .none kV28 dc28 pm28 an28 cd28 ct28), sl28⟩)
    (c28 : PySem.W.codeIn K cd28 ("check_width" : Str) = true)
    (k28 : PySem.W.keepIn K (.ref A28) = true)
    (a25 : PySem.W.nsIn K mainGlobals ("is_width" : Str) = some (some (.ref A25)))
    (l25 : K.lookup A25 = some ⟨oc25, od25, .func (PySem.W.fnOf ("is_width" : Str) ("is_width" : Str) (defArgs st_is_width) (defBody st_is_width) (defScope st_is_width) .none kV25 dc25 pm25 an25 cd25 ct25), sl25⟩)
    (c25 : PySem.W.codeIn K cd25 ("is_width" : Str) = true)
    (k25 : PySem.W.keepIn K (.ref A25) = true)
    (a67 : PySem.W.findIn K (.ref A59) ("come" : Str) = some (some (.ref A67)))
    (i67 : PySem.W.isFn K (.ref A67) = true)
    (l67 : K.lookup A67 = some ⟨oc67, od67, .func (PySem.W.fnOf ("come" : Str) ("Folder.come" : Str) (defArgs st_Folder_come) (defBody st_Folder_come) (defScope st_Folder_come) .none kV67 dc67 pm67 an67 cd67 ct67), sl67⟩)
    (c67 : PySem.W.codeIn K cd67 ("Folder.come" : Str) = true)
    (k67 : PySem.W.keepIn K (.ref A67) = true)
    (a26 : PySem.W.nsIn K mainGlobals ("check_name" : Str) = some (some (.ref A26)))
    (l26 : K.lookup A26 = some ⟨oc26, od26, .func (PySem.W.fnOf ("check_name" : Str) ("check_name" : Str) (defArgs st_check_name) (defBody st_check_name) (defScope st_check_name) .none kV26 dc26 pm26 an26 cd26 ct26), sl26⟩)
    (c26 : PySem.W.codeIn K cd26 ("check_name" : Str) = true)
    (k26 : PySem.W.keepIn K (.ref A26) = true)
    (a23 : PySem.W.nsIn K mainGlobals ("is_name" : Str) = some (some (.ref A23)))
    (l23 : K.lookup A23 = some ⟨oc23, od23, .func (PySem.W.fnOf ("is_name" : Str) ("is_name" : Str) (defArgs st_is_name) (defBody st_is_name) (defScope st_is_name) .none kV23 dc23 pm23 an23 cd23 ct23), sl23⟩)
    (c23 : PySem.W.codeIn K cd23 ("is_name" : Str) = true)
    (k23 : PySem.W.keepIn K (.ref A23) = true)
    (a66 : PySem.W.findIn K (.ref A59) ("change" : Str) = some (some (.ref A66)))
    (i66 : PySem.W.isFn K (.ref A66) = true)
    (l66 : K.lookup A66 = some ⟨oc66, od66, .func (PySem.W.fnOf ("change" : Str) ("Folder.change" : Str) (defArgs st_Folder_change) (defBody st_Folder_change) (defScope st_Folder_change) .none kV66 dc66 pm66 an66 cd66 ct66), sl66⟩)
    (c66 : PySem.W.codeIn K cd66 ("Folder.change" : Str) = true)
    (k66 : PySem.W.keepIn K (.ref A66) = true)
    (a65 : PySem.W.findIn K (.ref A59) ("grown" : Str) = some (some (.ref A65)))
    (i65 : PySem.W.isFn K (.ref A65) = true)
    (l65 : K.lookup A65 = some ⟨oc65, od65, .func (PySem.W.fnOf ("grown" : Str) ("Folder.grown" : Str) (defArgs st_Folder_grown) (defBody st_Folder_grown) (defScope st_Folder_grown) .none kV65 dc65 pm65 an65 cd65 ct65), sl65⟩)
    (c65 : PySem.W.codeIn K cd65 ("Folder.grown" : Str) = true)
    (k65 : PySem.W.keepIn K (.ref A65) = true)
    (a64 : PySem.W.findIn K (.ref A59) ("outlook" : Str) = some (some (.ref A64)))
    (i64 : PySem.W.isFn K (.ref A64) = true)
    (l64 : K.lookup A64 = some ⟨oc64, od64, .func (PySem.W.fnOf ("outlook" : Str) ("Folder.outlook" : Str) (defArgs st_Folder_outlook) (defBody st_Folder_outlook) (defScope st_Folder_outlook) .none kV64 dc64 pm64 an64 cd64 ct64), sl64⟩)
    (c64 : PySem.W.codeIn K cd64 ("Folder.outlook" : Str) = true)
    (k64 : PySem.W.keepIn K (.ref A64) = true)
    (a58 : PySem.W.nsIn K mainGlobals ("wish_of" : Str) = some (some (.ref A58)))
    (l58 : K.lookup A58 = some ⟨oc58, od58, .func (PySem.W.fnOf ("wish_of" : Str) ("wish_of" : Str) (defArgs st_wish_of) (defBody st_wish_of) (defScope st_wish_of) .none kV58 dc58 pm58 an58 cd58 ct58), sl58⟩)
    (c58 : PySem.W.codeIn K cd58 ("wish_of" : Str) = true)
    (k58 : PySem.W.keepIn K (.ref A58) = true)
    (a52 : PySem.W.findIn K (.ref A49) ("cleaned" : Str) = some (some (.ref A52)))
    (i52 : PySem.W.isFn K (.ref A52) = true)
    (l52 : K.lookup A52 = some ⟨oc52, od52, .func (PySem.W.fnOf ("cleaned" : Str) ("Cleaner.cleaned" : Str) (defArgs st_Cleaner_cleaned) (defBody st_Cleaner_cleaned) (defScope st_Cleaner_cleaned) .none kV52 dc52 pm52 an52 cd52 ct52), sl52⟩)
    (c52 : PySem.W.codeIn K cd52 ("Cleaner.cleaned" : Str) = true)
    (k52 : PySem.W.keepIn K (.ref A52) = true)
    (a48 : PySem.W.nsIn K mainGlobals ("stepped" : Str) = some (some (.ref A48)))
    (l48 : K.lookup A48 = some ⟨oc48, od48, .func (PySem.W.fnOf ("stepped" : Str) ("stepped" : Str) (defArgs st_stepped) (defBody st_stepped) (defScope st_stepped) .none kV48 dc48 pm48 an48 cd48 ct48), sl48⟩)
    (c48 : PySem.W.codeIn K cd48 ("stepped" : Str) = true)
    (k48 : PySem.W.keepIn K (.ref A48) = true)
    (a46 : PySem.W.nsIn K mainGlobals ("squeezed" : Str) = some (some (.ref A46)))
    (l46 : K.lookup A46 = some ⟨oc46, od46, .func (PySem.W.fnOf ("squeezed" : Str) ("squeezed" : Str) (defArgs st_squeezed) (defBody st_squeezed) (defScope st_squeezed) .none kV46 dc46 pm46 an46 cd46 ct46), sl46⟩)
    (c46 : PySem.W.codeIn K cd46 ("squeezed" : Str) = true)
    (k46 : PySem.W.keepIn K (.ref A46) = true)
    (a47 : PySem.W.nsIn K mainGlobals ("headless" : Str) = some (some (.ref A47)))
    (l47 : K.lookup A47 = some ⟨oc47, od47, .func (PySem.W.fnOf ("headless" : Str) ("headless" : Str) (defArgs st_headless) (defBody st_headless) (defScope st_headless) .none kV47 dc47 pm47 an47 cd47 ct47), sl47⟩)
    (c47 : PySem.W.codeIn K cd47 ("headless" : Str) = true)
    (k47 : PySem.W.keepIn K (.ref A47) = true)
    (a32 : PySem.W.nsIn K mainGlobals ("first_free" : Str) = some (some (.ref A32)))
    (l32 : K.lookup A32 = some ⟨oc32, od32, .func (PySem.W.fnOf ("first_free" : Str) ("first_free" : Str) (defArgs st_first_free) (defBody st_first_free) (defScope st_first_free) .none kV32 dc32 pm32 an32 cd32 ct32), sl32⟩)
    (c32 : PySem.W.codeIn K cd32 ("first_free" : Str) = true)
    (k32 : PySem.W.keepIn K (.ref A32) = true)
    (a31 : PySem.W.nsIn K mainGlobals ("after" : Str) = some (some (.ref A31)))
    (l31 : K.lookup A31 = some ⟨oc31, od31, .func (PySem.W.fnOf ("after" : Str) ("after" : Str) (defArgs st_after) (defBody st_after) (defScope st_after) .none kV31 dc31 pm31 an31 cd31 ct31), sl31⟩)
    (c31 : PySem.W.codeIn K cd31 ("after" : Str) = true)
    (k31 : PySem.W.keepIn K (.ref A31) = true)
    (a30 : PySem.W.nsIn K mainGlobals ("parts" : Str) = some (some (.ref A30)))
    (l30 : K.lookup A30 = some ⟨oc30, od30, .func (PySem.W.fnOf ("parts" : Str) ("parts" : Str) (defArgs st_parts) (defBody st_parts) (defScope st_parts) .none kV30 dc30 pm30 an30 cd30 ct30), sl30⟩)
    (c30 : PySem.W.codeIn K cd30 ("parts" : Str) = true)
    (k30 : PySem.W.keepIn K (.ref A30) = true)
    (a74 : PySem.W.findIn K (.ref A59) ("__call__" : Str) = some (some (.ref A74)))
    (i74 : PySem.W.isFn K (.ref A74) = true)
    (l74 : K.lookup A74 = some ⟨oc74, od74, .func (PySem.W.fnOf ("__call__" : Str) ("Folder.__call__" : Str) (defArgs st_FolderU_callU) (defBody st_FolderU_callU) (defScope st_FolderU_callU) .none kV74 dc74 pm74 an74 cd74 ct74), sl74⟩)
    (c74 : PySem.W.codeIn K cd74 ("Folder.__call__" : Str) = true)
    (k74 : PySem.W.keepIn K (.ref A74) = true)
    (a63 : PySem.W.findIn K (.ref A59) ("bound" : Str) = some (some (.ref A63)))
    (i63 : PySem.W.isFn K (.ref A63) = true)
    (l63 : K.lookup A63 = some ⟨oc63, od63, .func (PySem.W.fnOf ("bound" : Str) ("Folder.bound" : Str) (defArgs st_Folder_bound) (defBody st_Folder_bound) (defScope st_Folder_bound) .none kV63 dc63 pm63 an63 cd63 ct63), sl63⟩)
    (c63 : PySem.W.codeIn K cd63 ("Folder.bound" : Str) = true)
    (k63 : PySem.W.keepIn K (.ref A63) = true)
    (a76 : PySem.W.findIn K (.ref A59) ("could" : Str) = some (some (.ref A76)))
    (i76 : PySem.W.isFn K (.ref A76) = true)
    (l76 : K.lookup A76 = some ⟨oc76, od76, .func (PySem.W.fnOf ("could" : Str) ("Folder.could" : Str) (defArgs st_Folder_could) (defBody st_Folder_could) (defScope st_Folder_could) .none kV76 dc76 pm76 an76 cd76 ct76), sl76⟩)
    (c76 : PySem.W.codeIn K cd76 ("Folder.could" : Str) = true)
    (k76 : PySem.W.keepIn K (.ref A76) = true)
    (a29 : PySem.W.nsIn K mainGlobals ("check_index" : Str) = some (some (.ref A29)))
    (l29 : K.lookup A29 = some ⟨oc29, od29, .func (PySem.W.fnOf ("check_index" : Str) ("check_index" : Str) (defArgs st_check_index) (defBody st_check_index) (defScope st_check_index) .none kV29 dc29 pm29 an29 cd29 ct29), sl29⟩)
    (c29 : PySem.W.codeIn K cd29 ("check_index" : Str) = true)
    (k29 : PySem.W.keepIn K (.ref A29) = true)
    (a21 : PySem.W.nsIn K mainGlobals ("is_count" : Str) = some (some (.ref A21)))
    (l21 : K.lookup A21 = some ⟨oc21, od21, .func (PySem.W.fnOf ("is_count" : Str) ("is_count" : Str) (defArgs st_is_count) (defBody st_is_count) (defScope st_is_count) .none kV21 dc21 pm21 an21 cd21 ct21), sl21⟩)
    (c21 : PySem.W.codeIn K cd21 ("is_count" : Str) = true)
    (k21 : PySem.W.keepIn K (.ref A21) = true)
    (a40 : PySem.W.nsIn K mainGlobals ("chances" : Str) = some (some (.ref A40)))
    (l40 : K.lookup A40 = some ⟨oc40, od40, .func (PySem.W.fnOf ("chances" : Str) ("chances" : Str) (defArgs st_chances) (defBody st_chances) (defScope st_chances) .none kV40 dc40 pm40 an40 cd40 ct40), sl40⟩)
    (c40 : PySem.W.codeIn K cd40 ("chances" : Str) = true)
    (k40 : PySem.W.keepIn K (.ref A40) = true)
    (a38 : PySem.W.nsIn K mainGlobals ("stretch" : Str) = some (some (.ref A38)))
    (l38 : K.lookup A38 = some ⟨oc38, od38, .func (PySem.W.fnOf ("stretch" : Str) ("stretch" : Str) (defArgs st_stretch) (defBody st_stretch) (defScope st_stretch) .none kV38 dc38 pm38 an38 cd38 ct38), sl38⟩)
    (c38 : PySem.W.codeIn K cd38 ("stretch" : Str) = true)
    (k38 : PySem.W.keepIn K (.ref A38) = true)
    (a33 : PySem.W.nsIn K mainGlobals ("flowing" : Str) = some (some (.ref A33)))
    (l33 : K.lookup A33 = some ⟨oc33, od33, .func (PySem.W.fnOf ("flowing" : Str) ("flowing" : Str) (defArgs st_flowing) (defBody st_flowing) (defScope st_flowing) .none kV33 dc33 pm33 an33 cd33 ct33), sl33⟩)
    (c33 : PySem.W.codeIn K cd33 ("flowing" : Str) = true)
    (k33 : PySem.W.keepIn K (.ref A33) = true)
    (a39 : PySem.W.nsIn K mainGlobals ("without" : Str) = some (some (.ref A39)))
    (l39 : K.lookup A39 = some ⟨oc39, od39, .func (PySem.W.fnOf ("without" : Str) ("without" : Str) (defArgs st_without) (defBody st_without) (defScope st_without) .none kV39 dc39 pm39 an39 cd39 ct39), sl39⟩)
    (c39 : PySem.W.codeIn K cd39 ("without" : Str) = true)
    (k39 : PySem.W.keepIn K (.ref A39) = true)
    (a75 : PySem.W.findIn K (.ref A59) ("wants" : Str) = some (some (.ref A75)))
    (i75 : PySem.W.isFn K (.ref A75) = true)
    (l75 : K.lookup A75 = some ⟨oc75, od75, .func (PySem.W.fnOf ("wants" : Str) ("Folder.wants" : Str) (defArgs st_Folder_wants) (defBody st_Folder_wants) (defScope st_Folder_wants) .none kV75 dc75 pm75 an75 cd75 ct75), sl75⟩)
    (c75 : PySem.W.codeIn K cd75 ("Folder.wants" : Str) = true)
    (k75 : PySem.W.keepIn K (.ref A75) = true)
    (a77 : PySem.W.findIn K (.ref A59) ("before" : Str) = some (some (.ref A77)))
    (i77 : PySem.W.isFn K (.ref A77) = true)
    (l77 : K.lookup A77 = some ⟨oc77, od77, .func (PySem.W.fnOf ("before" : Str) ("Folder.before" : Str) (defArgs st_Folder_before) (defBody st_Folder_before) (defScope st_Folder_before) .none kV77 dc77 pm77 an77 cd77 ct77), sl77⟩)
    (c77 : PySem.W.codeIn K cd77 ("Folder.before" : Str) = true)
    (k77 : PySem.W.keepIn K (.ref A77) = true)
    (a37 : PySem.W.nsIn K mainGlobals ("pairs_of" : Str) = some (some (.ref A37)))
    (l37 : K.lookup A37 = some ⟨oc37, od37, .func (PySem.W.fnOf ("pairs_of" : Str) ("pairs_of" : Str) (defArgs st_pairs_of) (defBody st_pairs_of) (defScope st_pairs_of) .none kV37 dc37 pm37 an37 cd37 ct37), sl37⟩)
    (c37 : PySem.W.codeIn K cd37 ("pairs_of" : Str) = true)
    (k37 : PySem.W.keepIn K (.ref A37) = true)
    (a35 : PySem.W.nsIn K mainGlobals ("needs" : Str) = some (some (.ref A35)))
    (l35 : K.lookup A35 = some ⟨oc35, od35, .func (PySem.W.fnOf ("needs" : Str) ("needs" : Str) (defArgs st_needs) (defBody st_needs) (defScope st_needs) .none kV35 dc35 pm35 an35 cd35 ct35), sl35⟩)
    (c35 : PySem.W.codeIn K cd35 ("needs" : Str) = true)
    (k35 : PySem.W.keepIn K (.ref A35) = true)
    (a34 : PySem.W.nsIn K mainGlobals ("ahead_of" : Str) = some (some (.ref A34)))
    (l34 : K.lookup A34 = some ⟨oc34, od34, .func (PySem.W.fnOf ("ahead_of" : Str) ("ahead_of" : Str) (defArgs st_ahead_of) (defBody st_ahead_of) (defScope st_ahead_of) .none kV34 dc34 pm34 an34 cd34 ct34), sl34⟩)
    (c34 : PySem.W.codeIn K cd34 ("ahead_of" : Str) = true)
    (k34 : PySem.W.keepIn K (.ref A34) = true)
    (a36 : PySem.W.nsIn K mainGlobals ("closed" : Str) = some (some (.ref A36)))
    (l36 : K.lookup A36 = some ⟨oc36, od36, .func (PySem.W.fnOf ("closed" : Str) ("closed" : Str) (defArgs st_closed) (defBody st_closed) (defScope st_closed) .none kV36 dc36 pm36 an36 cd36 ct36), sl36⟩)
    (c36 : PySem.W.codeIn K cd36 ("closed" : Str) = true)
    (k36 : PySem.W.keepIn K (.ref A36) = true)
    (a73 : PySem.W.findIn K (.ref A59) ("names" : Str) = some (some (.ref A73)))
    (i73 : PySem.W.isFn K (.ref A73) = true)
    (l73 : K.lookup A73 = some ⟨oc73, od73, .func (PySem.W.fnOf ("names" : Str) ("Folder.names" : Str) (defArgs st_Folder_names) (defBody st_Folder_names) (defScope st_Folder_names) .none kV73 dc73 pm73 an73 cd73 ct73), sl73⟩)
    (c73 : PySem.W.codeIn K cd73 ("Folder.names" : Str) = true)
    (k73 : PySem.W.keepIn K (.ref A73) = true)
    (a81 : PySem.W.findIn K (.ref A59) ("attempt" : Str) = some (some (.ref A81)))
    (i81 : PySem.W.isFn K (.ref A81) = true)
    (l81 : K.lookup A81 = some ⟨oc81, od81, .func (PySem.W.fnOf ("attempt" : Str) ("Folder.attempt" : Str) (defArgs st_Folder_attempt) (defBody st_Folder_attempt) (defScope st_Folder_attempt) .none kV81 dc81 pm81 an81 cd81 ct81), sl81⟩)
    (c81 : PySem.W.codeIn K cd81 ("Folder.attempt" : Str) = true)
    (k81 : PySem.W.keepIn K (.ref A81) = true)
    (a80 : PySem.W.findIn K (.ref A59) ("trial" : Str) = some (some (.ref A80)))
    (i80 : PySem.W.isFn K (.ref A80) = true)
    (l80 : K.lookup A80 = some ⟨oc80, od80, .func (PySem.W.fnOf ("trial" : Str) ("Folder.trial" : Str) (defArgs st_Folder_trial) (defBody st_Folder_trial) (defScope st_Folder_trial) .none kV80 dc80 pm80 an80 cd80 ct80), sl80⟩)
    (c80 : PySem.W.codeIn K cd80 ("Folder.trial" : Str) = true)
    (k80 : PySem.W.keepIn K (.ref A80) = true)
    (a82 : PySem.W.nsIn K mainGlobals ("Trial" : Str) = some (some (.ref A82)))
    (a83 : PySem.W.findIn K (.ref A82) ("__init__" : Str) = some (some (.ref A83)))
    (i83 : PySem.W.isFn K (.ref A83) = true)
    (l83 : K.lookup A83 = some ⟨oc83, od83, .func (PySem.W.fnOf ("__init__" : Str) ("Trial.__init__" : Str) (defArgs st_TrialU_initU) (defBody st_TrialU_initU) (defScope st_TrialU_initU) .none kV83 dc83 pm83 an83 cd83 ct83), sl83⟩)
    (c83 : PySem.W.codeIn K cd83 ("Trial.__init__" : Str) = true)
    (k83 : PySem.W.keepIn K (.ref A83) = true)
    (a84 : PySem.W.findIn K (.ref A82) ("__enter__" : Str) = some (some (.ref A84)))
    (i84 : PySem.W.isFn K (.ref A84) = true)
    (l84 : K.lookup A84 = some ⟨oc84, od84, .func (PySem.W.fnOf ("__enter__" : Str) ("Trial.__enter__" : Str) (defArgs st_TrialU_enterU) (defBody st_TrialU_enterU) (defScope st_TrialU_enterU) .none kV84 dc84 pm84 an84 cd84 ct84), sl84⟩)
    (c84 : PySem.W.codeIn K cd84 ("Trial.__enter__" : Str) = true)
    (k84 : PySem.W.keepIn K (.ref A84) = true)
    (a85 : PySem.W.findIn K (.ref A82) ("__exit__" : Str) = some (some (.ref A85)))
    (i85 : PySem.W.isFn K (.ref A85) = true)
    (l85 : K.lookup A85 = some ⟨oc85, od85, .func (PySem.W.fnOf ("__exit__" : Str) ("Trial.__exit__" : Str) (defArgs st_TrialU_exitU) (defBody st_TrialU_exitU) (defScope st_TrialU_exitU) .none kV85 dc85 pm85 an85 cd85 ct85), sl85⟩)
    (c85 : PySem.W.codeIn K cd85 ("Trial.__exit__" : Str) = true)
    (k85 : PySem.W.keepIn K (.ref A85) = true)
    (cl59p : PySem.W.plainGet K A59 Str.empty = true)
    (cl59h : PySem.W.hasDictIn K A59 = true)
    (cl59o : PySem.W.plainOver K A59 = true)
    (cl59s : PySem.W.findIn K (.ref A59) "__setattr__" = some (some (.builtin "object.__setattr__")))
    (at_Folder_limit : PySem.W.findIn K (.ref A59) ("limit" : Str) = some none)
    (cl82p : PySem.W.plainGet K A82 Str.empty = true)
    (cl82h : PySem.W.hasDictIn K A82 = true)
    (cl82o : PySem.W.plainOver K A82 = true)
    (cl82s : PySem.W.findIn K (.ref A82) "__setattr__" = some (some (.builtin "object.__setattr__")))
    (at_Trial_limit : PySem.W.findIn K (.ref A82) ("limit" : Str) = some none)
    (b_len : PySem.W.nsIn K mainGlobals ("len" : Str) = some none)
    (b_min : PySem.W.nsIn K mainGlobals ("min" : Str) = some none)
    (b_max : PySem.W.nsIn K mainGlobals ("max" : Str) = some none)
    (b_range : PySem.W.nsIn K mainGlobals ("range" : Str) = some none)
    (b_sum : PySem.W.nsIn K mainGlobals ("sum" : Str) = some none)
    (b_list : PySem.W.nsIn K mainGlobals ("list" : Str) = some none)
    (b_isinstance : PySem.W.nsIn K mainGlobals ("isinstance" : Str) = some none)
    (b_tuple : PySem.W.nsIn K mainGlobals ("tuple" : Str) = some none)
    (b_str : PySem.W.nsIn K mainGlobals ("str" : Str) = some none)
    (g_SIGNS : PySem.W.nsIn K mainGlobals ("SIGNS" : Str) = some (some (.str ("-0123456789abcdefghijklmnopqrstuvwxyz" : Str) tk_SIGNS)))
    (b_int : PySem.W.nsIn K mainGlobals ("int" : Str) = some none)
    (b_bool : PySem.W.nsIn K mainGlobals ("bool" : Str) = some none)
    (b_enumerate : PySem.W.nsIn K mainGlobals ("enumerate" : Str) = some none)
    (cl49p : PySem.W.plainGet K A49 Str.empty = true)
    (cl49h : PySem.W.hasDictIn K A49 = true)
    (cl49o : PySem.W.plainOver K A49 = true)
    (cl49s : PySem.W.findIn K (.ref A49) "__setattr__" = some (some (.builtin "object.__setattr__")))
    (at_Cleaner_row : PySem.W.findIn K (.ref A49) ("row" : Str) = some none)
    (mk49 : PySem.W.makesIn K A49 = true)
    (kp49 : PySem.W.keepIn K (.ref A49) = true)
    (at_Folder_cleaner : PySem.W.findIn K (.ref A59) ("cleaner" : Str) = some none)
    (at_Folder_width : PySem.W.findIn K (.ref A59) ("width" : Str) = some none)
    (at_Folder_rows : PySem.W.findIn K (.ref A59) ("rows" : Str) = some none)
    (at_Trial_rows : PySem.W.findIn K (.ref A82) ("rows" : Str) = some none)
    (at_Folder_past : PySem.W.findIn K (.ref A59) ("past" : Str) = some none)
    (at_Trial_past : PySem.W.findIn K (.ref A82) ("past" : Str) = some none)
    (mk59 : PySem.W.makesIn K A59 = true)
    (kp59 : PySem.W.keepIn K (.ref A59) = true)
    (g_DIGITS : PySem.W.nsIn K mainGlobals ("DIGITS" : Str) = some (some (.str ("0123456789" : Str) tk_DIGITS)))
    (fi74 : PySem.W.fnIn K A74 = true)
    (b_sorted : PySem.W.nsIn K mainGlobals ("sorted" : Str) = some none)
    (at_Trial_folder : PySem.W.findIn K (.ref A82) ("folder" : Str) = some none)
    (mk82 : PySem.W.makesIn K A82 = true)
    (kp82 : PySem.W.keepIn K (.ref A82) = true)
    (in49a : PySem.W.findIn K (.ref A49) "__class__" = some (some (.builtin "object.__class__")))
    (in49m : PySem.W.mroIn K A49 (.type "object") = some true)
    (inn : PySem.W.specialIn K (.builtin "object.__class__") "__get__" = some (some (.builtin "getset_descriptor.__get__")))
    (int_ : PySem.W.takesIn K (.builtin "object.__class__") = some true) :
    Fx (cK K tb [(61, A61), (59, A59), (1061, A1061), (90, A90), (89, A89), (86, A86), (88, A88), (87, A87), (50, A50), (49, A49), (44, A44), (43, A43), (41, A41), (22, A22), (20, A20), (42, A42), (45, A45), (60, A60), (57, A57), (28, A28), (25, A25), (67, A67), (26, A26), (23, A23), (66, A66), (65, A65), (64, A64), (58, A58), (52, A52), (48, A48), (46, A46), (47, A47), (32, A32), (31, A31), (30, A30), (74, A74), (63, A63), (76, A76), (29, A29), (21, A21), (40, A40), (38, A38), (33, A33), (39, A39), (75, A75), (77, A77), (37, A37), (35, A35), (34, A34), (36, A36), (73, A73), (81, A81), (80, A80), (83, A83), (82, A82), (84, A84), (85, A85)]) mg (fdOf [(61, (PySem.W.fnOf ("most" : Str) ("Folder.most" : Str) (defArgs st_Folder_most) (defBody st_Folder_most) (defScope st_Folder_most) .none kV61 dc61 pm61 an61 cd61 ct61)), (90, (PySem.W.fnOf ("law" : Str) ("law" : Str) (defArgs st_law) (defBody st_law) (defScope st_law) .none kV90 dc90 pm90 an90 cd90 ct90)), (89, (PySem.W.fnOf ("_law_purses" : Str) ("_law_purses" : Str) (defArgs st__law_purses) (defBody st__law_purses) (defScope st__law_purses) .none kV89 dc89 pm89 an89 cd89 ct89)), (86, (PySem.W.fnOf ("_law_purse" : Str) ("_law_purse" : Str) (defArgs st__law_purse) (defBody st__law_purse) (defScope st__law_purse) .none kV86 dc86 pm86 an86 cd86 ct86)), (88, (PySem.W.fnOf ("_law_draw" : Str) ("_law_draw" : Str) (defArgs st__law_draw) (defBody st__law_draw) (defScope st__law_draw) .none kV88 dc88 pm88 an88 cd88 ct88)), (87, (PySem.W.fnOf ("_law_mixed" : Str) ("_law_mixed" : Str) (defArgs st__law_mixed) (defBody st__law_mixed) (defScope st__law_mixed) .none kV87 dc87 pm87 an87 cd87 ct87)), (50, (PySem.W.fnOf ("__init__" : Str) ("Cleaner.__init__" : Str) (defArgs st_CleanerU_initU) (defBody st_CleanerU_initU) (defScope st_CleanerU_initU) .none kV50 dc50 pm50 an50 cd50 ct50)), (44, (PySem.W.fnOf ("are_steps" : Str) ("are_steps" : Str) (defArgs st_are_steps) (defBody st_are_steps) (defScope st_are_steps) .none kV44 dc44 pm44 an44 cd44 ct44)), (43, (PySem.W.fnOf ("is_step" : Str) ("is_step" : Str) (defArgs st_is_step) (defBody st_is_step) (defScope st_is_step) .none kV43 dc43 pm43 an43 cd43 ct43)), (41, (PySem.W.fnOf ("are_changes" : Str) ("are_changes" : Str) (defArgs st_are_changes) (defBody st_are_changes) (defScope st_are_changes) .none kV41 dc41 pm41 an41 cd41 ct41)), (22, (PySem.W.fnOf ("is_sign" : Str) ("is_sign" : Str) (defArgs st_is_sign) (defBody st_is_sign) (defScope st_is_sign) .none kV22 dc22 pm22 an22 cd22 ct22)), (20, (PySem.W.fnOf ("is_whole" : Str) ("is_whole" : Str) (defArgs st_is_whole) (defBody st_is_whole) (defScope st_is_whole) .none kV20 dc20 pm20 an20 cd20 ct20)), (42, (PySem.W.fnOf ("are_signs" : Str) ("are_signs" : Str) (defArgs st_are_signs) (defBody st_are_signs) (defScope st_are_signs) .none kV42 dc42 pm42 an42 cd42 ct42)), (45, (PySem.W.fnOf ("copied" : Str) ("copied" : Str) (defArgs st_copied) (defBody st_copied) (defScope st_copied) .none kV45 dc45 pm45 an45 cd45 ct45)), (60, (PySem.W.fnOf ("__init__" : Str) ("Folder.__init__" : Str) (defArgs st_FolderU_initU) (defBody st_FolderU_initU) (defScope st_FolderU_initU) (.ref T60) kV60 dc60 pm60 an60 cd60 ct60)), (57, (PySem.W.fnOf ("check_cleaner" : Str) ("check_cleaner" : Str) (defArgs st_check_cleaner) (defBody st_check_cleaner) (defScope st_check_cleaner) .none kV57 dc57 pm57 an57 cd57 ct57)), (28, (PySem.W.fnOf ("check_width" : Str) ("check_width" : Str) (defArgs st_check_width) (defBody st_check_width) (defScope st_check_width) .none kV28 dc28 pm28 an28 cd28 ct28)), (25, (PySem.W.fnOf ("is_width" : Str) ("is_width" : Str) (defArgs st_is_width) (defBody st_is_width) (defScope st_is_width) .none kV25 dc25 pm25 an25 cd25 ct25)), (67, (PySem.W.fnOf ("come" : Str) ("Folder.come" : Str) (defArgs st_Folder_come) (defBody st_Folder_come) (defScope st_Folder_come) .none kV67 dc67 pm67 an67 cd67 ct67)), (26, (PySem.W.fnOf ("check_name" : Str) ("check_name" : Str) (defArgs st_check_name) (defBody st_check_name) (defScope st_check_name) .none kV26 dc26 pm26 an26 cd26 ct26)), (23, (PySem.W.fnOf ("is_name" : Str) ("is_name" : Str) (defArgs st_is_name) (defBody st_is_name) (defScope st_is_name) .none kV23 dc23 pm23 an23 cd23 ct23)), (66, (PySem.W.fnOf ("change" : Str) ("Folder.change" : Str) (defArgs st_Folder_change) (defBody st_Folder_change) (defScope st_Folder_change) .none kV66 dc66 pm66 an66 cd66 ct66)), (65, (PySem.W.fnOf ("grown" : Str) ("Folder.grown" : Str) (defArgs st_Folder_grown) (defBody st_Folder_grown) (defScope st_Folder_grown) .none kV65 dc65 pm65 an65 cd65 ct65)), (64, (PySem.W.fnOf ("outlook" : Str) ("Folder.outlook" : Str) (defArgs st_Folder_outlook) (defBody st_Folder_outlook) (defScope st_Folder_outlook) .none kV64 dc64 pm64 an64 cd64 ct64)), (58, (PySem.W.fnOf ("wish_of" : Str) ("wish_of" : Str) (defArgs st_wish_of) (defBody st_wish_of) (defScope st_wish_of) .none kV58 dc58 pm58 an58 cd58 ct58)), (52, (PySem.W.fnOf ("cleaned" : Str) ("Cleaner.cleaned" : Str) (defArgs st_Cleaner_cleaned) (defBody st_Cleaner_cleaned) (defScope st_Cleaner_cleaned) .none kV52 dc52 pm52 an52 cd52 ct52)), (48, (PySem.W.fnOf ("stepped" : Str) ("stepped" : Str) (defArgs st_stepped) (defBody st_stepped) (defScope st_stepped) .none kV48 dc48 pm48 an48 cd48 ct48)), (46, (PySem.W.fnOf ("squeezed" : Str) ("squeezed" : Str) (defArgs st_squeezed) (defBody st_squeezed) (defScope st_squeezed) .none kV46 dc46 pm46 an46 cd46 ct46)), (47, (PySem.W.fnOf ("headless" : Str) ("headless" : Str) (defArgs st_headless) (defBody st_headless) (defScope st_headless) .none kV47 dc47 pm47 an47 cd47 ct47)), (32, (PySem.W.fnOf ("first_free" : Str) ("first_free" : Str) (defArgs st_first_free) (defBody st_first_free) (defScope st_first_free) .none kV32 dc32 pm32 an32 cd32 ct32)), (31, (PySem.W.fnOf ("after" : Str) ("after" : Str) (defArgs st_after) (defBody st_after) (defScope st_after) .none kV31 dc31 pm31 an31 cd31 ct31)), (30, (PySem.W.fnOf ("parts" : Str) ("parts" : Str) (defArgs st_parts) (defBody st_parts) (defScope st_parts) .none kV30 dc30 pm30 an30 cd30 ct30)), (74, (PySem.W.fnOf ("__call__" : Str) ("Folder.__call__" : Str) (defArgs st_FolderU_callU) (defBody st_FolderU_callU) (defScope st_FolderU_callU) .none kV74 dc74 pm74 an74 cd74 ct74)), (63, (PySem.W.fnOf ("bound" : Str) ("Folder.bound" : Str) (defArgs st_Folder_bound) (defBody st_Folder_bound) (defScope st_Folder_bound) .none kV63 dc63 pm63 an63 cd63 ct63)), (76, (PySem.W.fnOf ("could" : Str) ("Folder.could" : Str) (defArgs st_Folder_could) (defBody st_Folder_could) (defScope st_Folder_could) .none kV76 dc76 pm76 an76 cd76 ct76)), (29, (PySem.W.fnOf ("check_index" : Str) ("check_index" : Str) (defArgs st_check_index) (defBody st_check_index) (defScope st_check_index) .none kV29 dc29 pm29 an29 cd29 ct29)), (21, (PySem.W.fnOf ("is_count" : Str) ("is_count" : Str) (defArgs st_is_count) (defBody st_is_count) (defScope st_is_count) .none kV21 dc21 pm21 an21 cd21 ct21)), (40, (PySem.W.fnOf ("chances" : Str) ("chances" : Str) (defArgs st_chances) (defBody st_chances) (defScope st_chances) .none kV40 dc40 pm40 an40 cd40 ct40)), (38, (PySem.W.fnOf ("stretch" : Str) ("stretch" : Str) (defArgs st_stretch) (defBody st_stretch) (defScope st_stretch) .none kV38 dc38 pm38 an38 cd38 ct38)), (33, (PySem.W.fnOf ("flowing" : Str) ("flowing" : Str) (defArgs st_flowing) (defBody st_flowing) (defScope st_flowing) .none kV33 dc33 pm33 an33 cd33 ct33)), (39, (PySem.W.fnOf ("without" : Str) ("without" : Str) (defArgs st_without) (defBody st_without) (defScope st_without) .none kV39 dc39 pm39 an39 cd39 ct39)), (75, (PySem.W.fnOf ("wants" : Str) ("Folder.wants" : Str) (defArgs st_Folder_wants) (defBody st_Folder_wants) (defScope st_Folder_wants) .none kV75 dc75 pm75 an75 cd75 ct75)), (77, (PySem.W.fnOf ("before" : Str) ("Folder.before" : Str) (defArgs st_Folder_before) (defBody st_Folder_before) (defScope st_Folder_before) .none kV77 dc77 pm77 an77 cd77 ct77)), (37, (PySem.W.fnOf ("pairs_of" : Str) ("pairs_of" : Str) (defArgs st_pairs_of) (defBody st_pairs_of) (defScope st_pairs_of) .none kV37 dc37 pm37 an37 cd37 ct37)), (35, (PySem.W.fnOf ("needs" : Str) ("needs" : Str) (defArgs st_needs) (defBody st_needs) (defScope st_needs) .none kV35 dc35 pm35 an35 cd35 ct35)), (34, (PySem.W.fnOf ("ahead_of" : Str) ("ahead_of" : Str) (defArgs st_ahead_of) (defBody st_ahead_of) (defScope st_ahead_of) .none kV34 dc34 pm34 an34 cd34 ct34)), (36, (PySem.W.fnOf ("closed" : Str) ("closed" : Str) (defArgs st_closed) (defBody st_closed) (defScope st_closed) .none kV36 dc36 pm36 an36 cd36 ct36)), (73, (PySem.W.fnOf ("names" : Str) ("Folder.names" : Str) (defArgs st_Folder_names) (defBody st_Folder_names) (defScope st_Folder_names) .none kV73 dc73 pm73 an73 cd73 ct73)), (81, (PySem.W.fnOf ("attempt" : Str) ("Folder.attempt" : Str) (defArgs st_Folder_attempt) (defBody st_Folder_attempt) (defScope st_Folder_attempt) .none kV81 dc81 pm81 an81 cd81 ct81)), (80, (PySem.W.fnOf ("trial" : Str) ("Folder.trial" : Str) (defArgs st_Folder_trial) (defBody st_Folder_trial) (defScope st_Folder_trial) .none kV80 dc80 pm80 an80 cd80 ct80)), (83, (PySem.W.fnOf ("__init__" : Str) ("Trial.__init__" : Str) (defArgs st_TrialU_initU) (defBody st_TrialU_initU) (defScope st_TrialU_initU) .none kV83 dc83 pm83 an83 cd83 ct83)), (84, (PySem.W.fnOf ("__enter__" : Str) ("Trial.__enter__" : Str) (defArgs st_TrialU_enterU) (defBody st_TrialU_enterU) (defScope st_TrialU_enterU) .none kV84 dc84 pm84 an84 cd84 ct84)), (85, (PySem.W.fnOf ("__exit__" : Str) ("Trial.__exit__" : Str) (defArgs st_TrialU_exitU) (defBody st_TrialU_exitU) (defScope st_TrialU_exitU) .none kV85 dc85 pm85 an85 cd85 ct85))]) := {
  pr_Folder_most := ⟨pa61, pg61, pt61, ⟨rs61, pr61⟩⟩,
  d_Folder_most := ⟨⟨_, _, _, _, _, _, _, _, _, _, rfl, l61, c61, .inl ⟨rfl, rfl⟩, .inl rfl⟩, k61⟩,
  d_law := ⟨⟨_, _, _, _, _, _, _, _, _, _, rfl, l90, c90, .inl ⟨rfl, rfl⟩, .inl rfl⟩, k90⟩,
  d__law_purses := ⟨⟨_, _, _, _, _, _, _, _, _, _, rfl, l89, c89, .inl ⟨rfl, rfl⟩, .inl rfl⟩, k89⟩,
  d__law_purse := ⟨⟨_, _, _, _, _, _, _, _, _, _, rfl, l86, c86, .inl ⟨rfl, rfl⟩, .inl rfl⟩, k86⟩,
  d__law_draw := ⟨⟨_, _, _, _, _, _, _, _, _, _, rfl, l88, c88, .inl ⟨rfl, rfl⟩, .inl rfl⟩, k88⟩,
  d__law_mixed := ⟨⟨_, _, _, _, _, _, _, _, _, _, rfl, l87, c87, .inl ⟨rfl, rfl⟩, .inl rfl⟩, k87⟩,
  d_CleanerU_initU := ⟨⟨_, _, _, _, _, _, _, _, _, _, rfl, l50, c50, .inl ⟨rfl, rfl⟩, .inl rfl⟩, k50⟩,
  d_are_steps := ⟨⟨_, _, _, _, _, _, _, _, _, _, rfl, l44, c44, .inl ⟨rfl, rfl⟩, .inl rfl⟩, k44⟩,
  d_is_step := ⟨⟨_, _, _, _, _, _, _, _, _, _, rfl, l43, c43, .inl ⟨rfl, rfl⟩, .inl rfl⟩, k43⟩,
  d_are_changes := ⟨⟨_, _, _, _, _, _, _, _, _, _, rfl, l41, c41, .inl ⟨rfl, rfl⟩, .inl rfl⟩, k41⟩,
  d_is_sign := ⟨⟨_, _, _, _, _, _, _, _, _, _, rfl, l22, c22, .inl ⟨rfl, rfl⟩, .inl rfl⟩, k22⟩,
  d_is_whole := ⟨⟨_, _, _, _, _, _, _, _, _, _, rfl, l20, c20, .inl ⟨rfl, rfl⟩, .inl rfl⟩, k20⟩,
  d_are_signs := ⟨⟨_, _, _, _, _, _, _, _, _, _, rfl, l42, c42, .inl ⟨rfl, rfl⟩, .inl rfl⟩, k42⟩,
  d_copied := ⟨⟨_, _, _, _, _, _, _, _, _, _, rfl, l45, c45, .inl ⟨rfl, rfl⟩, .inl rfl⟩, k45⟩,
  d_FolderU_initU := ⟨⟨_, _, _, _, _, _, _, _, _, _, rfl, l60, c60, .inr ⟨by simp, T60, _, ([.none, .none] : List Value), qn60, rfl, q60, rfl, .cons rfl (.cons rfl (.nil))⟩, .inl rfl⟩, k60⟩,
  d_check_cleaner := ⟨⟨_, _, _, _, _, _, _, _, _, _, rfl, l57, c57, .inl ⟨rfl, rfl⟩, .inl rfl⟩, k57⟩,
  d_check_width := ⟨⟨_, _, _, _, _, _, _, _, _, _, rfl, l28, c28, .inl ⟨rfl, rfl⟩, .inl rfl⟩, k28⟩,
  d_is_width := ⟨⟨_, _, _, _, _, _, _, _, _, _, rfl, l25, c25, .inl ⟨rfl, rfl⟩, .inl rfl⟩, k25⟩,
  d_Folder_come := ⟨⟨_, _, _, _, _, _, _, _, _, _, rfl, l67, c67, .inl ⟨rfl, rfl⟩, .inl rfl⟩, k67⟩,
  d_check_name := ⟨⟨_, _, _, _, _, _, _, _, _, _, rfl, l26, c26, .inl ⟨rfl, rfl⟩, .inl rfl⟩, k26⟩,
  d_is_name := ⟨⟨_, _, _, _, _, _, _, _, _, _, rfl, l23, c23, .inl ⟨rfl, rfl⟩, .inl rfl⟩, k23⟩,
  d_Folder_change := ⟨⟨_, _, _, _, _, _, _, _, _, _, rfl, l66, c66, .inl ⟨rfl, rfl⟩, .inl rfl⟩, k66⟩,
  d_Folder_grown := ⟨⟨_, _, _, _, _, _, _, _, _, _, rfl, l65, c65, .inl ⟨rfl, rfl⟩, .inl rfl⟩, k65⟩,
  d_Folder_outlook := ⟨⟨_, _, _, _, _, _, _, _, _, _, rfl, l64, c64, .inl ⟨rfl, rfl⟩, .inl rfl⟩, k64⟩,
  d_wish_of := ⟨⟨_, _, _, _, _, _, _, _, _, _, rfl, l58, c58, .inl ⟨rfl, rfl⟩, .inl rfl⟩, k58⟩,
  d_Cleaner_cleaned := ⟨⟨_, _, _, _, _, _, _, _, _, _, rfl, l52, c52, .inl ⟨rfl, rfl⟩, .inl rfl⟩, k52⟩,
  d_stepped := ⟨⟨_, _, _, _, _, _, _, _, _, _, rfl, l48, c48, .inl ⟨rfl, rfl⟩, .inl rfl⟩, k48⟩,
  d_squeezed := ⟨⟨_, _, _, _, _, _, _, _, _, _, rfl, l46, c46, .inl ⟨rfl, rfl⟩, .inl rfl⟩, k46⟩,
  d_headless := ⟨⟨_, _, _, _, _, _, _, _, _, _, rfl, l47, c47, .inl ⟨rfl, rfl⟩, .inl rfl⟩, k47⟩,
  d_first_free := ⟨⟨_, _, _, _, _, _, _, _, _, _, rfl, l32, c32, .inl ⟨rfl, rfl⟩, .inl rfl⟩, k32⟩,
  d_after := ⟨⟨_, _, _, _, _, _, _, _, _, _, rfl, l31, c31, .inl ⟨rfl, rfl⟩, .inl rfl⟩, k31⟩,
  d_parts := ⟨⟨_, _, _, _, _, _, _, _, _, _, rfl, l30, c30, .inl ⟨rfl, rfl⟩, .inl rfl⟩, k30⟩,
  d_FolderU_callU := ⟨⟨_, _, _, _, _, _, _, _, _, _, rfl, l74, c74, .inl ⟨rfl, rfl⟩, .inl rfl⟩, k74⟩,
  d_Folder_bound := ⟨⟨_, _, _, _, _, _, _, _, _, _, rfl, l63, c63, .inl ⟨rfl, rfl⟩, .inl rfl⟩, k63⟩,
  d_Folder_could := ⟨⟨_, _, _, _, _, _, _, _, _, _, rfl, l76, c76, .inl ⟨rfl, rfl⟩, .inl rfl⟩, k76⟩,
  d_check_index := ⟨⟨_, _, _, _, _, _, _, _, _, _, rfl, l29, c29, .inl ⟨rfl, rfl⟩, .inl rfl⟩, k29⟩,
  d_is_count := ⟨⟨_, _, _, _, _, _, _, _, _, _, rfl, l21, c21, .inl ⟨rfl, rfl⟩, .inl rfl⟩, k21⟩,
  d_chances := ⟨⟨_, _, _, _, _, _, _, _, _, _, rfl, l40, c40, .inl ⟨rfl, rfl⟩, .inl rfl⟩, k40⟩,
  d_stretch := ⟨⟨_, _, _, _, _, _, _, _, _, _, rfl, l38, c38, .inl ⟨rfl, rfl⟩, .inl rfl⟩, k38⟩,
  d_flowing := ⟨⟨_, _, _, _, _, _, _, _, _, _, rfl, l33, c33, .inl ⟨rfl, rfl⟩, .inl rfl⟩, k33⟩,
  d_without := ⟨⟨_, _, _, _, _, _, _, _, _, _, rfl, l39, c39, .inl ⟨rfl, rfl⟩, .inl rfl⟩, k39⟩,
  d_Folder_wants := ⟨⟨_, _, _, _, _, _, _, _, _, _, rfl, l75, c75, .inl ⟨rfl, rfl⟩, .inl rfl⟩, k75⟩,
  d_Folder_before := ⟨⟨_, _, _, _, _, _, _, _, _, _, rfl, l77, c77, .inl ⟨rfl, rfl⟩, .inl rfl⟩, k77⟩,
  d_pairs_of := ⟨⟨_, _, _, _, _, _, _, _, _, _, rfl, l37, c37, .inl ⟨rfl, rfl⟩, .inl rfl⟩, k37⟩,
  d_needs := ⟨⟨_, _, _, _, _, _, _, _, _, _, rfl, l35, c35, .inl ⟨rfl, rfl⟩, .inl rfl⟩, k35⟩,
  d_ahead_of := ⟨⟨_, _, _, _, _, _, _, _, _, _, rfl, l34, c34, .inl ⟨rfl, rfl⟩, .inl rfl⟩, k34⟩,
  d_closed := ⟨⟨_, _, _, _, _, _, _, _, _, _, rfl, l36, c36, .inl ⟨rfl, rfl⟩, .inl rfl⟩, k36⟩,
  d_Folder_names := ⟨⟨_, _, _, _, _, _, _, _, _, _, rfl, l73, c73, .inl ⟨rfl, rfl⟩, .inl rfl⟩, k73⟩,
  d_Folder_attempt := ⟨⟨_, _, _, _, _, _, _, _, _, _, rfl, l81, c81, .inl ⟨rfl, rfl⟩, .inl rfl⟩, k81⟩,
  d_Folder_trial := ⟨⟨_, _, _, _, _, _, _, _, _, _, rfl, l80, c80, .inl ⟨rfl, rfl⟩, .inl rfl⟩, k80⟩,
  d_TrialU_initU := ⟨⟨_, _, _, _, _, _, _, _, _, _, rfl, l83, c83, .inl ⟨rfl, rfl⟩, .inl rfl⟩, k83⟩,
  d_TrialU_enterU := ⟨⟨_, _, _, _, _, _, _, _, _, _, rfl, l84, c84, .inl ⟨rfl, rfl⟩, .inl rfl⟩, k84⟩,
  d_TrialU_exitU := ⟨⟨_, _, _, _, _, _, _, _, _, _, rfl, l85, c85, .inl ⟨rfl, rfl⟩, .inl rfl⟩, k85⟩,
  cl_Folder := ⟨cl59p, cl59h, cl59o, cl59s⟩,
  at_Folder_limit := at_Folder_limit,
  cl_Trial := ⟨cl82p, cl82h, cl82o, cl82s⟩,
  at_Trial_limit := at_Trial_limit,
  b_len := PySem.W.mg_none_of X G b_len,
  b_min := PySem.W.mg_none_of X G b_min,
  b_max := PySem.W.mg_none_of X G b_max,
  b_range := PySem.W.mg_none_of X G b_range,
  b_sum := PySem.W.mg_none_of X G b_sum,
  m__law_purse := PySem.W.mg_of X G a86,
  m__law_purses := PySem.W.mg_of X G a89,
  m__law_mixed := PySem.W.mg_of X G a87,
  m__law_draw := PySem.W.mg_of X G a88,
  b_list := PySem.W.mg_none_of X G b_list,
  b_isinstance := PySem.W.mg_none_of X G b_isinstance,
  b_tuple := PySem.W.mg_none_of X G b_tuple,
  b_str := PySem.W.mg_none_of X G b_str,
  g_SIGNS := ⟨tk_SIGNS, PySem.W.mg_of X G g_SIGNS⟩,
  m_is_sign := PySem.W.mg_of X G a22,
  m_are_changes := PySem.W.mg_of X G a41,
  b_int := PySem.W.mg_none_of X G b_int,
  b_bool := PySem.W.mg_none_of X G b_bool,
  m_is_whole := PySem.W.mg_of X G a20,
  b_enumerate := PySem.W.mg_none_of X G b_enumerate,
  m_are_signs := PySem.W.mg_of X G a42,
  m_is_step := PySem.W.mg_of X G a43,
  m_are_steps := PySem.W.mg_of X G a44,
  cl_Cleaner := ⟨cl49p, cl49h, cl49o, cl49s⟩,
  at_Cleaner_row := at_Cleaner_row,
  m_copied := PySem.W.mg_of X G a45,
  mk_Cleaner := ⟨mk49, a50, i50, kp49⟩,
  m_Cleaner := PySem.W.mg_of X G a49,
  m_check_cleaner := PySem.W.mg_of X G a57,
  m_is_width := PySem.W.mg_of X G a25,
  m_check_width := PySem.W.mg_of X G a28,
  at_Folder_cleaner := at_Folder_cleaner,
  at_Folder_width := at_Folder_width,
  at_Folder_rows := at_Folder_rows,
  at_Trial_rows := at_Trial_rows,
  at_Folder_past := at_Folder_past,
  at_Trial_past := at_Trial_past,
  mk_Folder := ⟨mk59, a60, i60, kp59⟩,
  m_Folder := PySem.W.mg_of X G a59,
  m_is_name := PySem.W.mg_of X G a23,
  m_check_name := PySem.W.mg_of X G a26,
  m_squeezed := PySem.W.mg_of X G a46,
  m_headless := PySem.W.mg_of X G a47,
  m_stepped := PySem.W.mg_of X G a48,
  me_Cleaner_cleaned := ⟨a52, i52, k52⟩,
  m_wish_of := PySem.W.mg_of X G a58,
  g_DIGITS := ⟨tk_DIGITS, PySem.W.mg_of X G g_DIGITS⟩,
  m_parts := PySem.W.mg_of X G a30,
  m_after := PySem.W.mg_of X G a31,
  m_first_free := PySem.W.mg_of X G a32,
  me_Folder_outlook := ⟨a64, i64, k64⟩,
  me_Folder_grown := ⟨a65, i65, k65⟩,
  me_Folder_change := ⟨a66, i66, k66⟩,
  me_Folder_come := ⟨a67, i67, k67⟩,
  co_Folder := ⟨a74, i74, fi74⟩,
  me_Folder_bound := ⟨a63, i63, k63⟩,
  m_is_count := PySem.W.mg_of X G a21,
  m_check_index := PySem.W.mg_of X G a29,
  m_without := PySem.W.mg_of X G a39,
  m_flowing := PySem.W.mg_of X G a33,
  m_stretch := PySem.W.mg_of X G a38,
  me_Folder_wants := ⟨a75, i75, k75⟩,
  m_chances := PySem.W.mg_of X G a40,
  me_Folder_could := ⟨a76, i76, k76⟩,
  m_ahead_of := PySem.W.mg_of X G a34,
  m_needs := PySem.W.mg_of X G a35,
  m_closed := PySem.W.mg_of X G a36,
  b_sorted := PySem.W.mg_none_of X G b_sorted,
  me_Folder_names := ⟨a73, i73, k73⟩,
  m_pairs_of := PySem.W.mg_of X G a37,
  me_Folder_before := ⟨a77, i77, k77⟩,
  at_Trial_folder := at_Trial_folder,
  mk_Trial := ⟨mk82, a83, i83, kp82⟩,
  m_Trial := PySem.W.mg_of X G a82,
  me_Folder_trial := ⟨a80, i80, k80⟩,
  wi_Trialenter := a84,
  wf_Trialenter := i84,
  wi_Trialexit := a85,
  wf_Trialexit := i85,
  me_Folder_attempt := ⟨a81, i81, k81⟩,
  is_Cleaner := by simp [PySem.W.kitOne],
  in_Cleaner := ⟨⟨cl49p, cl49h, cl49o, cl49s⟩, in49a, inn, int_, in49m⟩,
  nf0 := fun _ => rfl,
  ncl := fun _ _ => rfl }
/-- the law, its code object and its table at the head of the law -/
def FactsAt (K : PySem.W.Frag) (mg : Str → Option Value) : Prop := ∃ (as : List (Nat × Addr)) (fd : Nat → FuncData) (cd Pt : Addr), PySem.W.nsIn K mainGlobals ("law" : Str) = some (some (.ref ((cK K [(Pt, nmT)] as).ad 90))) ∧ Fx (cK K [(Pt, nmT)] as) mg fd ∧ PySem.W.tabIn K "law" = some (cd, Pt) ∧ K.lookup Pt = none ∧
  (fd 90).code = .ref cd ∧ ∀ (s : Shared) (u : Value), BindsTo s (fd 90) ⟨[u], []⟩ [(("_law_script" : Str), u)]
theorem all_at {K : PySem.W.Frag} {h : Heap} {mg : Str → Option Value} (X : K.In h) (G : h.Ns mainGlobals mg)
    {A61 : Addr}
    {A59 : Addr}
    {A1061 : Addr} {rs61 : List Value}
    {od61 an61 : Option Addr} {sl61 : Array (Option Value)} {oc61 kV61 dc61 pm61 cd61 ct61 : Value}
    {A90 : Addr}
    {od90 an90 : Option Addr} {sl90 : Array (Option Value)} {oc90 kV90 dc90 pm90 cd90 ct90 : Value}
    {A89 : Addr}
    {od89 an89 : Option Addr} {sl89 : Array (Option Value)} {oc89 kV89 dc89 pm89 cd89 ct89 : Value}
    {A86 : Addr}
    {od86 an86 : Option Addr} {sl86 : Array (Option Value)} {oc86 kV86 dc86 pm86 cd86 ct86 : Value}
    {A88 : Addr}
    {od88 an88 : Option Addr} {sl88 : Array (Option Value)} {oc88 kV88 dc88 pm88 cd88 ct88 : Value}
    {A87 : Addr}
    {od87 an87 : Option Addr} {sl87 : Array (Option Value)} {oc87 kV87 dc87 pm87 cd87 ct87 : Value}
    {A50 : Addr}
    {A49 : Addr}
    {od50 an50 : Option Addr} {sl50 : Array (Option Value)} {oc50 kV50 dc50 pm50 cd50 ct50 : Value}
    {A44 : Addr}
    {od44 an44 : Option Addr} {sl44 : Array (Option Value)} {oc44 kV44 dc44 pm44 cd44 ct44 : Value}
    {A43 : Addr}
    {od43 an43 : Option Addr} {sl43 : Array (Option Value)} {oc43 kV43 dc43 pm43 cd43 ct43 : Value}
    {A41 : Addr}
    {od41 an41 : Option Addr} {sl41 : Array (Option Value)} {oc41 kV41 dc41 pm41 cd41 ct41 : Value}
    {A22 : Addr}
    {od22 an22 : Option Addr} {sl22 : Array (Option Value)} {oc22 kV22 dc22 pm22 cd22 ct22 : Value}
    {A20 : Addr}
    {od20 an20 : Option Addr} {sl20 : Array (Option Value)} {oc20 kV20 dc20 pm20 cd20 ct20 : Value}
    {A42 : Addr}
    {od42 an42 : Option Addr} {sl42 : Array (Option Value)} {oc42 kV42 dc42 pm42 cd42 ct42 : Value}
    {A45 : Addr}
    {od45 an45 : Option Addr} {sl45 : Array (Option Value)} {oc45 kV45 dc45 pm45 cd45 ct45 : Value}
    {A60 : Addr}
    {od60 an60 : Option Addr} {sl60 : Array (Option Value)} {oc60 kV60 dc60 pm60 cd60 ct60 : Value}
    {T60 : Addr} {q160 : Value} {q260 : Option Addr} {qn60 : Nat} {q360 : Array (Option Value)}
    {A57 : Addr}
    {od57 an57 : Option Addr} {sl57 : Array (Option Value)} {oc57 kV57 dc57 pm57 cd57 ct57 : Value}
    {A28 : Addr}
    {od28 an28 : Option Addr} {sl28 : Array (Option Value)} {oc28 kV28 dc28 pm28 cd28 ct28 : Value}
    {A25 : Addr}
    {od25 an25 : Option Addr} {sl25 : Array (Option Value)} {oc25 kV25 dc25 pm25 cd25 ct25 : Value}
    {A67 : Addr}
    {od67 an67 : Option Addr} {sl67 : Array (Option Value)} {oc67 kV67 dc67 pm67 cd67 ct67 : Value}
    {A26 : Addr}
    {od26 an26 : Option Addr} {sl26 : Array (Option Value)} {oc26 kV26 dc26 pm26 cd26 ct26 : Value}
    {A23 : Addr}
    {od23 an23 : Option Addr} {sl23 : Array (Option Value)} {oc23 kV23 dc23 pm23 cd23 ct23 : Value}
    {A66 : Addr}
    {od66 an66 : Option Addr} {sl66 : Array (Option Value)} {oc66 kV66 dc66 pm66 cd66 ct66 : Value}
    {A65 : Addr}
    {od65 an65 : Option Addr} {sl65 : Array (Option Value)} {oc65 kV65 dc65 pm65 cd65 ct65 : Value}
    {A64 : Addr}
    {od64 an64 : Option Addr} {sl64 : Array (Option Value)} {oc64 kV64 dc64 pm64 cd64 ct64 : Value}
    {A58 : Addr}
    {od58 an58 : Option Addr} {sl58 : Array (Option Value)} {oc58 kV58 dc58 pm58 cd58 ct58 : Value}
    {A52 : Addr}
    {od52 an52 : Option Addr} {sl52 : Array (Option Value)} {oc52 kV52 dc52 pm52 cd52 ct52 : Value}
    {A48 : Addr}
    {od48 an48 : Option Addr} {sl48 : Array (Option Value)} {oc48 kV48 dc48 pm48 cd48 ct48 : Value}
    {A46 : Addr}
    {od46 an46 : Option Addr} {sl46 : Array (Option Value)} {oc46 kV46 dc46 pm46 cd46 ct46 : Value}
    {A47 : Addr}
    {od47 an47 : Option Addr} {sl47 : Array (Option Value)} {oc47 kV47 dc47 pm47 cd47 ct47 : Value}
    {A32 : Addr}
    {od32 an32 : Option Addr} {sl32 : Array (Option Value)} {oc32 kV32 dc32 pm32 cd32 ct32 : Value}
    {A31 : Addr}
    {od31 an31 : Option Addr} {sl31 : Array (Option Value)} {oc31 kV31 dc31 pm31 cd31 ct31 : Value}
    {A30 : Addr}
    {od30 an30 : Option Addr} {sl30 : Array (Option Value)} {oc30 kV30 dc30 pm30 cd30 ct30 : Value}
    {A74 : Addr}
    {od74 an74 : Option Addr} {sl74 : Array (Option Value)} {oc74 kV74 dc74 pm74 cd74 ct74 : Value}
    {A63 : Addr}
    {od63 an63 : Option Addr} {sl63 : Array (Option Value)} {oc63 kV63 dc63 pm63 cd63 ct63 : Value}
    {A76 : Addr}
    {od76 an76 : Option Addr} {sl76 : Array (Option Value)} {oc76 kV76 dc76 pm76 cd76 ct76 : Value}
    {A29 : Addr}
    {od29 an29 : Option Addr} {sl29 : Array (Option Value)} {oc29 kV29 dc29 pm29 cd29 ct29 : Value}
    {A21 : Addr}
    {od21 an21 : Option Addr} {sl21 : Array (Option Value)} {oc21 kV21 dc21 pm21 cd21 ct21 : Value}
    {A40 : Addr}
    {od40 an40 : Option Addr} {sl40 : Array (Option Value)} {oc40 kV40 dc40 pm40 cd40 ct40 : Value}
    {A38 : Addr}
    {od38 an38 : Option Addr} {sl38 : Array (Option Value)} {oc38 kV38 dc38 pm38 cd38 ct38 : Value}
    {A33 : Addr}
    {od33 an33 : Option Addr} {sl33 : Array (Option Value)} {oc33 kV33 dc33 pm33 cd33 ct33 : Value}
    {A39 : Addr}
    {od39 an39 : Option Addr} {sl39 : Array (Option Value)} {oc39 kV39 dc39 pm39 cd39 ct39 : Value}
    {A75 : Addr}
    {od75 an75 : Option Addr} {sl75 : Array (Option Value)} {oc75 kV75 dc75 pm75 cd75 ct75 : Value}
    {A77 : Addr}
    {od77 an77 : Option Addr} {sl77 : Array (Option Value)} {oc77 kV77 dc77 pm77 cd77 ct77 : Value}
    {A37 : Addr}
    {od37 an37 : Option Addr} {sl37 : Array (Option Value)} {oc37 kV37 dc37 pm37 cd37 ct37 : Value}
    {A35 : Addr}
    {od35 an35 : Option Addr} {sl35 : Array (Option Value)} {oc35 kV35 dc35 pm35 cd35 ct35 : Value}
    {A34 : Addr}
    {od34 an34 : Option Addr} {sl34 : Array (Option Value)} {oc34 kV34 dc34 pm34 cd34 ct34 : Value}
    {A36 : Addr}
    {od36 an36 : Option Addr} {sl36 : Array (Option Value)} {oc36 kV36 dc36 pm36 cd36 ct36 : Value}
    {A73 : Addr}
    {od73 an73 : Option Addr} {sl73 : Array (Option Value)} {oc73 kV73 dc73 pm73 cd73 ct73 : Value}
    {A81 : Addr}
    {od81 an81 : Option Addr} {sl81 : Array (Option Value)} {oc81 kV81 dc81 pm81 cd81 ct81 : Value}
    {A80 : Addr}
    {od80 an80 : Option Addr} {sl80 : Array (Option Value)} {oc80 kV80 dc80 pm80 cd80 ct80 : Value}
    {A83 : Addr}
    {A82 : Addr}
    {od83 an83 : Option Addr} {sl83 : Array (Option Value)} {oc83 kV83 dc83 pm83 cd83 ct83 : Value}
    {A84 : Addr}
    {od84 an84 : Option Addr} {sl84 : Array (Option Value)} {oc84 kV84 dc84 pm84 cd84 ct84 : Value}
    {A85 : Addr}
    {od85 an85 : Option Addr} {sl85 : Array (Option Value)} {oc85 kV85 dc85 pm85 cd85 ct85 : Value}
    {tk_SIGNS : Tok}
    {tk_DIGITS : Tok}
    {cd Pt : Addr} {o1 : Value} {o2 : Option Addr} {vs : Array Value} {o3 : Array (Option Value)}
    (a59 : PySem.W.nsIn K mainGlobals ("Folder" : Str) = some (some (.ref A59)))
    (pa61 : PySem.W.findIn K (.ref A59) ("most" : Str) = some (some (.ref A1061)))
    (pg61 : PySem.W.specialIn K (.ref A1061) "__get__" = some (some (.builtin "property.__get__")))
    (pt61 : PySem.W.takesIn K (.ref A1061) = some true)
    (pr61 : PySem.W.recIn K A1061 "property" = some (.ref A61 :: rs61))
    (l61 : K.lookup A61 = some ⟨oc61, od61, .func (PySem.W.fnOf ("most" : Str) ("Folder.most" : Str) (defArgs st_Folder_most) (defBody st_Folder_most) (defScope st_Folder_most) .none kV61 dc61 pm61 an61 cd61 ct61), sl61⟩)
    (c61 : PySem.W.codeIn K cd61 ("Folder.most" : Str) = true)
    (k61 : PySem.W.keepIn K (.ref A61) = true)
    (a90 : PySem.W.nsIn K mainGlobals ("law" : Str) = some (some (.ref A90)))
    (l90 : K.lookup A90 = some ⟨oc90, od90, .func (PySem.W.fnOf ("law" : Str) ("law" : Str) (defArgs st_law) (defBody st_law) (defScope st_law) .none kV90 dc90 pm90 an90 cd90 ct90), sl90⟩)
    (c90 : PySem.W.codeIn K cd90 ("law" : Str) = true)
    (k90 : PySem.W.keepIn K (.ref A90) = true)
    (a89 : PySem.W.nsIn K mainGlobals ("_law_purses" : Str) = some (some (.ref A89)))
    (l89 : K.lookup A89 = some ⟨oc89, od89, .func (PySem.W.fnOf ("_law_purses" : Str) ("_law_purses" : Str) (defArgs st__law_purses) (defBody st__law_purses) (defScope st__law_purses) .none kV89 dc89 pm89 an89 cd89 ct89), sl89⟩)
    (c89 : PySem.W.codeIn K cd89 ("_law_purses" : Str) = true)
    (k89 : PySem.W.keepIn K (.ref A89) = true)
    (a86 : PySem.W.nsIn K mainGlobals ("_law_purse" : Str) = some (some (.ref A86)))
    (l86 : K.lookup A86 = some ⟨oc86, od86, .func (PySem.W.fnOf ("_law_purse" : Str) ("_law_purse" : Str) (defArgs st__law_purse) (defBody st__law_purse) (defScope st__law_purse) .none kV86 dc86 pm86 an86 cd86 ct86), sl86⟩)
    (c86 : PySem.W.codeIn K cd86 ("_law_purse" : Str) = true)
    (k86 : PySem.W.keepIn K (.ref A86) = true)
    (a88 : PySem.W.nsIn K mainGlobals ("_law_draw" : Str) = some (some (.ref A88)))
    (l88 : K.lookup A88 = some ⟨oc88, od88, .func (PySem.W.fnOf ("_law_draw" : Str) ("_law_draw" : Str) (defArgs st__law_draw) (defBody st__law_draw) (defScope st__law_draw) .none kV88 dc88 pm88 an88 cd88 ct88), sl88⟩)
    (c88 : PySem.W.codeIn K cd88 ("_law_draw" : Str) = true)
    (k88 : PySem.W.keepIn K (.ref A88) = true)
    (a87 : PySem.W.nsIn K mainGlobals ("_law_mixed" : Str) = some (some (.ref A87)))
    (l87 : K.lookup A87 = some ⟨oc87, od87, .func (PySem.W.fnOf ("_law_mixed" : Str) ("_law_mixed" : Str) (defArgs st__law_mixed) (defBody st__law_mixed) (defScope st__law_mixed) .none kV87 dc87 pm87 an87 cd87 ct87), sl87⟩)
    (c87 : PySem.W.codeIn K cd87 ("_law_mixed" : Str) = true)
    (k87 : PySem.W.keepIn K (.ref A87) = true)
    (a49 : PySem.W.nsIn K mainGlobals ("Cleaner" : Str) = some (some (.ref A49)))
    (a50 : PySem.W.findIn K (.ref A49) ("__init__" : Str) = some (some (.ref A50)))
    (i50 : PySem.W.isFn K (.ref A50) = true)
    (l50 : K.lookup A50 = some ⟨oc50, od50, .func (PySem.W.fnOf ("__init__" : Str) ("Cleaner.__init__" : Str) (defArgs st_CleanerU_initU) (defBody st_CleanerU_initU) (defScope st_CleanerU_initU) .none kV50 dc50 pm50 an50 cd50 ct50), sl50⟩)
    (c50 : PySem.W.codeIn K cd50 ("Cleaner.__init__" : Str) = true)
    (k50 : PySem.W.keepIn K (.ref A50) = true)
    (a44 : PySem.W.nsIn K mainGlobals ("are_steps" : Str) = some (some (.ref A44)))
    (l44 : K.lookup A44 = some ⟨oc44, od44, .func (PySem.W.fnOf ("are_steps" : Str) ("are_steps" : Str) (defArgs st_are_steps) (defBody st_are_steps) (defScope st_are_steps) .none kV44 dc44 pm44 an44 cd44 ct44), sl44⟩)
    (c44 : PySem.W.codeIn K cd44 ("are_steps" : Str) = true)
    (k44 : PySem.W.keepIn K (.ref A44) = true)
    (a43 : PySem.W.nsIn K mainGlobals ("is_step" : Str) = some (some (.ref A43)))
    (l43 : K.lookup A43 = some ⟨oc43, od43, .func (PySem.W.fnOf ("is_step" : Str) ("is_step" : Str) (defArgs st_is_step) (defBody st_is_step) (defScope st_is_step) .none kV43 dc43 pm43 an43 cd43 ct43), sl43⟩)
    (c43 : PySem.W.codeIn K cd43 ("is_step" : Str) = true)
    (k43 : PySem.W.keepIn K (.ref A43) = true)
    (a41 : PySem.W.nsIn K mainGlobals ("are_changes" : Str) = some (some (.ref A41)))
    (l41 : K.lookup A41 = some ⟨oc41, od41, .func (PySem.W.fnOf ("are_changes" : Str) ("are_changes" : Str) (defArgs st_are_changes) (defBody st_are_changes) (defScope st_are_changes) .none kV41 dc41 pm41 an41 cd41 ct41), sl41⟩)
    (c41 : PySem.W.codeIn K cd41 ("are_changes" : Str) = true)
    (k41 : PySem.W.keepIn K (.ref A41) = true)
    (a22 : PySem.W.nsIn K mainGlobals ("is_sign" : Str) = some (some (.ref A22)))
    (l22 : K.lookup A22 = some ⟨oc22, od22, .func (PySem.W.fnOf ("is_sign" : Str) ("is_sign" : Str) (defArgs st_is_sign) (defBody st_is_sign) (defScope st_is_sign) .none kV22 dc22 pm22 an22 cd22 ct22), sl22⟩)
    (c22 : PySem.W.codeIn K cd22 ("is_sign" : Str) = true)
    (k22 : PySem.W.keepIn K (.ref A22) = true)
    (a20 : PySem.W.nsIn K mainGlobals ("is_whole" : Str) = some (some (.ref A20)))
    (l20 : K.lookup A20 = some ⟨oc20, od20, .func (PySem.W.fnOf ("is_whole" : Str) ("is_whole" : Str) (defArgs st_is_whole) (defBody st_is_whole) (defScope st_is_whole) .none kV20 dc20 pm20 an20 cd20 ct20), sl20⟩)
    (c20 : PySem.W.codeIn K cd20 ("is_whole" : Str) = true)
    (k20 : PySem.W.keepIn K (.ref A20) = true)
    (a42 : PySem.W.nsIn K mainGlobals ("are_signs" : Str) = some (some (.ref A42)))
    (l42 : K.lookup A42 = some ⟨oc42, od42, .func (PySem.W.fnOf ("are_signs" : Str) ("are_signs" : Str) (defArgs st_are_signs) (defBody st_are_signs) (defScope st_are_signs) .none kV42 dc42 pm42 an42 cd42 ct42), sl42⟩)
    (c42 : PySem.W.codeIn K cd42 ("are_signs" : Str) = true)
    (k42 : PySem.W.keepIn K (.ref A42) = true)
    (a45 : PySem.W.nsIn K mainGlobals ("copied" : Str) = some (some (.ref A45)))
    (l45 : K.lookup A45 = some ⟨oc45, od45, .func (PySem.W.fnOf ("copied" : Str) ("copied" : Str) (defArgs st_copied) (defBody st_copied) (defScope st_copied) .none kV45 dc45 pm45 an45 cd45 ct45), sl45⟩)
    (c45 : PySem.W.codeIn K cd45 ("copied" : Str) = true)
    (k45 : PySem.W.keepIn K (.ref A45) = true)
    (a60 : PySem.W.findIn K (.ref A59) ("__init__" : Str) = some (some (.ref A60)))
    (i60 : PySem.W.isFn K (.ref A60) = true)
    (l60 : K.lookup A60 = some ⟨oc60, od60, .func (PySem.W.fnOf ("__init__" : Str) ("Folder.__init__" : Str) (defArgs st_FolderU_initU) (defBody st_FolderU_initU) (defScope st_FolderU_initU) (.ref T60) kV60 dc60 pm60 an60 cd60 ct60), sl60⟩)
    (c60 : PySem.W.codeIn K cd60 ("Folder.__init__" : Str) = true)
    (k60 : PySem.W.keepIn K (.ref A60) = true)
    (q60 : K.lookup T60 = some ⟨q160, q260, .seq ([.none, .none] : List Value).toArray qn60, q360⟩)
    (a57 : PySem.W.nsIn K mainGlobals ("check_cleaner" : Str) = some (some (.ref A57)))
    (l57 : K.lookup A57 = some ⟨oc57, od57, .func (PySem.W.fnOf ("check_cleaner" : Str) ("check_cleaner" : Str) (defArgs st_check_cleaner) (defBody st_check_cleaner) (defScope st_check_cleaner) .none kV57 dc57 pm57 an57 cd57 ct57), sl57⟩)
    (c57 : PySem.W.codeIn K cd57 ("check_cleaner" : Str) = true)
    (k57 : PySem.W.keepIn K (.ref A57) = true)
    (a28 : PySem.W.nsIn K mainGlobals ("check_width" : Str) = some (some (.ref A28)))
    (l28 : K.lookup A28 = some ⟨oc28, od28, .func (PySem.W.fnOf ("check_width" : Str) ("check_width" : Str) (defArgs st_check_width) (defBody st_check_width) (defScope st_check_width) .none kV28 dc28 pm28 an28 cd28 ct28), sl28⟩)
    (c28 : PySem.W.codeIn K cd28 ("check_width" : Str) = true)
    (k28 : PySem.W.keepIn K (.ref A28) = true)
    (a25 : PySem.W.nsIn K mainGlobals ("is_width" : Str) = some (some (.ref A25)))
    (l25 : K.lookup A25 = some ⟨oc25, od25, .func (PySem.W.fnOf ("is_width" : Str) ("is_width" : Str) (defArgs st_is_width) (defBody st_is_width) (defScope st_is_width) .none kV25 dc25 pm25 an25 cd25 ct25), sl25⟩)
    (c25 : PySem.W.codeIn K cd25 ("is_width" : Str) = true)
    (k25 : PySem.W.keepIn K (.ref A25) = true)
    (a67 : PySem.W.findIn K (.ref A59) ("come" : Str) = some (some (.ref A67)))
    (i67 : PySem.W.isFn K (.ref A67) = true)
    (l67 : K.lookup A67 = some ⟨oc67, od67, .func (PySem.W.fnOf ("come" : Str) ("Folder.come" : Str) (defArgs st_Folder_come) (defBody st_Folder_come) (defScope st_Folder_come) .none kV67 dc67 pm67 an67 cd67 ct67), sl67⟩)
    (c67 : PySem.W.codeIn K cd67 ("Folder.come" : Str) = true)
    (k67 : PySem.W.keepIn K (.ref A67) = true)
    (a26 : PySem.W.nsIn K mainGlobals ("check_name" : Str) = some (some (.ref A26)))
    (l26 : K.lookup A26 = some ⟨oc26, od26, .func (PySem.W.fnOf ("check_name" : Str) ("check_name" : Str) (defArgs st_check_name) (defBody st_check_name) (defScope st_check_name) .none kV26 dc26 pm26 an26 cd26 ct26), sl26⟩)
    (c26 : PySem.W.codeIn K cd26 ("check_name" : Str) = true)
    (k26 : PySem.W.keepIn K (.ref A26) = true)
    (a23 : PySem.W.nsIn K mainGlobals ("is_name" : Str) = some (some (.ref A23)))
    (l23 : K.lookup A23 = some ⟨oc23, od23, .func (PySem.W.fnOf ("is_name" : Str) ("is_name" : Str) (defArgs st_is_name) (defBody st_is_name) (defScope st_is_name) .none kV23 dc23 pm23 an23 cd23 ct23), sl23⟩)
    (c23 : PySem.W.codeIn K cd23 ("is_name" : Str) = true)
    (k23 : PySem.W.keepIn K (.ref A23) = true)
    (a66 : PySem.W.findIn K (.ref A59) ("change" : Str) = some (some (.ref A66)))
    (i66 : PySem.W.isFn K (.ref A66) = true)
    (l66 : K.lookup A66 = some ⟨oc66, od66, .func (PySem.W.fnOf ("change" : Str) ("Folder.change" : Str) (defArgs st_Folder_change) (defBody st_Folder_change) (defScope st_Folder_change) .none kV66 dc66 pm66 an66 cd66 ct66), sl66⟩)
    (c66 : PySem.W.codeIn K cd66 ("Folder.change" : Str) = true)
    (k66 : PySem.W.keepIn K (.ref A66) = true)
    (a65 : PySem.W.findIn K (.ref A59) ("grown" : Str) = some (some (.ref A65)))
    (i65 : PySem.W.isFn K (.ref A65) = true)
    (l65 : K.lookup A65 = some ⟨oc65, od65, .func (PySem.W.fnOf ("grown" : Str) ("Folder.grown" : Str) (defArgs st_Folder_grown) (defBody st_Folder_grown) (defScope st_Folder_grown) .none kV65 dc65 pm65 an65 cd65 ct65), sl65⟩)
    (c65 : PySem.W.codeIn K cd65 ("Folder.grown" : Str) = true)
    (k65 : PySem.W.keepIn K (.ref A65) = true)
    (a64 : PySem.W.findIn K (.ref A59) ("outlook" : Str) = some (some (.ref A64)))
    (i64 : PySem.W.isFn K (.ref A64) = true)
    (l64 : K.lookup A64 = some ⟨oc64, od64, .func (PySem.W.fnOf ("outlook" : Str) ("Folder.outlook" : Str) (defArgs st_Folder_outlook) (defBody st_Folder_outlook) (defScope st_Folder_outlook) .none kV64 dc64 pm64 an64 cd64 ct64), sl64⟩)
    (c64 : PySem.W.codeIn K cd64 ("Folder.outlook" : Str) = true)
    (k64 : PySem.W.keepIn K (.ref A64) = true)
    (a58 : PySem.W.nsIn K mainGlobals ("wish_of" : Str) = some (some (.ref A58)))
    (l58 : K.lookup A58 = some ⟨oc58, od58, .func (PySem.W.fnOf ("wish_of" : Str) ("wish_of" : Str) (defArgs st_wish_of) (defBody st_wish_of) (defScope st_wish_of) .none kV58 dc58 pm58 an58 cd58 ct58), sl58⟩)
    (c58 : PySem.W.codeIn K cd58 ("wish_of" : Str) = true)
    (k58 : PySem.W.keepIn K (.ref A58) = true)
    (a52 : PySem.W.findIn K (.ref A49) ("cleaned" : Str) = some (some (.ref A52)))
    (i52 : PySem.W.isFn K (.ref A52) = true)
    (l52 : K.lookup A52 = some ⟨oc52, od52, .func (PySem.W.fnOf ("cleaned" : Str) ("Cleaner.cleaned" : Str) (defArgs st_Cleaner_cleaned) (defBody st_Cleaner_cleaned) (defScope st_Cleaner_cleaned) .none kV52 dc52 pm52 an52 cd52 ct52), sl52⟩)
    (c52 : PySem.W.codeIn K cd52 ("Cleaner.cleaned" : Str) = true)
    (k52 : PySem.W.keepIn K (.ref A52) = true)
    (a48 : PySem.W.nsIn K mainGlobals ("stepped" : Str) = some (some (.ref A48)))
    (l48 : K.lookup A48 = some ⟨oc48, od48, .func (PySem.W.fnOf ("stepped" : Str) ("stepped" : Str) (defArgs st_stepped) (defBody st_stepped) (defScope st_stepped) .none kV48 dc48 pm48 an48 cd48 ct48), sl48⟩)
    (c48 : PySem.W.codeIn K cd48 ("stepped" : Str) = true)
    (k48 : PySem.W.keepIn K (.ref A48) = true)
    (a46 : PySem.W.nsIn K mainGlobals ("squeezed" : Str) = some (some (.ref A46)))
    (l46 : K.lookup A46 = some ⟨oc46, od46, .func (PySem.W.fnOf ("squeezed" : Str) ("squeezed" : Str) (defArgs st_squeezed) (defBody st_squeezed) (defScope st_squeezed) .none kV46 dc46 pm46 an46 cd46 ct46), sl46⟩)
    (c46 : PySem.W.codeIn K cd46 ("squeezed" : Str) = true)
    (k46 : PySem.W.keepIn K (.ref A46) = true)
    (a47 : PySem.W.nsIn K mainGlobals ("headless" : Str) = some (some (.ref A47)))
    (l47 : K.lookup A47 = some ⟨oc47, od47, .func (PySem.W.fnOf ("headless" : Str) ("headless" : Str) (defArgs st_headless) (defBody st_headless) (defScope st_headless) .none kV47 dc47 pm47 an47 cd47 ct47), sl47⟩)
    (c47 : PySem.W.codeIn K cd47 ("headless" : Str) = true)
    (k47 : PySem.W.keepIn K (.ref A47) = true)
    (a32 : PySem.W.nsIn K mainGlobals ("first_free" : Str) = some (some (.ref A32)))
    (l32 : K.lookup A32 = some ⟨oc32, od32, .func (PySem.W.fnOf ("first_free" : Str) ("first_free" : Str) (defArgs st_first_free) (defBody st_first_free) (defScope st_first_free) .none kV32 dc32 pm32 an32 cd32 ct32), sl32⟩)
    (c32 : PySem.W.codeIn K cd32 ("first_free" : Str) = true)
    (k32 : PySem.W.keepIn K (.ref A32) = true)
    (a31 : PySem.W.nsIn K mainGlobals ("after" : Str) = some (some (.ref A31)))
    (l31 : K.lookup A31 = some ⟨oc31, od31, .func (PySem.W.fnOf ("after" : Str) ("after" : Str) (defArgs st_after) (defBody st_after) (defScope st_after) .none kV31 dc31 pm31 an31 cd31 ct31), sl31⟩)
    (c31 : PySem.W.codeIn K cd31 ("after" : Str) = true)
    (k31 : PySem.W.keepIn K (.ref A31) = true)
    (a30 : PySem.W.nsIn K mainGlobals ("parts" : Str) = some (some (.ref A30)))
    (l30 : K.lookup A30 = some ⟨oc30, od30, .func (PySem.W.fnOf ("parts" : Str) ("parts" : Str) (defArgs st_parts) (defBody st_parts) (defScope st_parts) .none kV30 dc30 pm30 an30 cd30 ct30), sl30⟩)
    (c30 : PySem.W.codeIn K cd30 ("parts" : Str) = true)
    (k30 : PySem.W.keepIn K (.ref A30) = true)
    (a74 : PySem.W.findIn K (.ref A59) ("__call__" : Str) = some (some (.ref A74)))
    (i74 : PySem.W.isFn K (.ref A74) = true)
    (l74 : K.lookup A74 = some ⟨oc74, od74, .func (PySem.W.fnOf ("__call__" : Str) ("Folder.__call__" : Str) (defArgs st_FolderU_callU) (defBody st_FolderU_callU) (defScope st_FolderU_callU) .none kV74 dc74 pm74 an74 cd74 ct74), sl74⟩)
    (c74 : PySem.W.codeIn K cd74 ("Folder.__call__" : Str) = true)
    (k74 : PySem.W.keepIn K (.ref A74) = true)
    (a63 : PySem.W.findIn K (.ref A59) ("bound" : Str) = some (some (.ref A63)))
    (i63 : PySem.W.isFn K (.ref A63) = true)
    (l63 : K.lookup A63 = some ⟨oc63, od63, .func (PySem.W.fnOf ("bound" : Str) ("Folder.bound" : Str) (defArgs st_Folder_bound) (defBody st_Folder_bound) (defScope st_Folder_bound) .none kV63 dc63 pm63 an63 cd63 ct63), sl63⟩)
    (c63 : PySem.W.codeIn K cd63 ("Folder.bound" : Str) = true)
    (k63 : PySem.W.keepIn K (.ref A63) = true)
    (a76 : PySem.W.findIn K (.ref A59) ("could" : Str) = some (some (.ref A76)))
    (i76 : PySem.W.isFn K (.ref A76) = true)
    (l76 : K.lookup A76 = some ⟨oc76, od76, .func (PySem.W.fnOf ("could" : Str) ("Folder.could" : Str) (defArgs st_Folder_could) (defBody st_Folder_could) (defScope st_Folder_could) .none kV76 dc76 pm76 an76 cd76 ct76), sl76⟩)
    (c76 : PySem.W.codeIn K cd76 ("Folder.could" : Str) = true)
    (k76 : PySem.W.keepIn K (.ref A76) = true)
    (a29 : PySem.W.nsIn K mainGlobals ("check_index" : Str) = some (some (.ref A29)))
    (l29 : K.lookup A29 = some ⟨oc29, od29, .func (PySem.W.fnOf ("check_index" : Str) ("check_index" : Str) (defArgs st_check_index) (defBody st_check_index) (defScope st_check_index) .none kV29 dc29 pm29 an29 cd29 ct29), sl29⟩)
    (c29 : PySem.W.codeIn K cd29 ("check_index" : Str) = true)
    (k29 : PySem.W.keepIn K (.ref A29) = true)
    (a21 : PySem.W.nsIn K mainGlobals ("is_count" : Str) = some (some (.ref A21)))
    (l21 : K.lookup A21 = some ⟨oc21, od21, .func (PySem.W.fnOf ("is_count" : Str) ("is_count" : Str) (defArgs st_is_count) (defBody st_is_count) (defScope st_is_count) .none kV21 dc21 pm21 an21 cd21 ct21), sl21⟩)
    (c21 : PySem.W.codeIn K cd21 ("is_count" : Str) = true)
    (k21 : PySem.W.keepIn K (.ref A21) = true)
    (a40 : PySem.W.nsIn K mainGlobals ("chances" : Str) = some (some (.ref A40)))
    (l40 : K.lookup A40 = some ⟨oc40, od40, .func (PySem.W.fnOf ("chances" : Str) ("chances" : Str) (defArgs st_chances) (defBody st_chances) (defScope st_chances) .none kV40 dc40 pm40 an40 cd40 ct40), sl40⟩)
    (c40 : PySem.W.codeIn K cd40 ("chances" : Str) = true)
    (k40 : PySem.W.keepIn K (.ref A40) = true)
    (a38 : PySem.W.nsIn K mainGlobals ("stretch" : Str) = some (some (.ref A38)))
    (l38 : K.lookup A38 = some ⟨oc38, od38, .func (PySem.W.fnOf ("stretch" : Str) ("stretch" : Str) (defArgs st_stretch) (defBody st_stretch) (defScope st_stretch) .none kV38 dc38 pm38 an38 cd38 ct38), sl38⟩)
    (c38 : PySem.W.codeIn K cd38 ("stretch" : Str) = true)
    (k38 : PySem.W.keepIn K (.ref A38) = true)
    (a33 : PySem.W.nsIn K mainGlobals ("flowing" : Str) = some (some (.ref A33)))
    (l33 : K.lookup A33 = some ⟨oc33, od33, .func (PySem.W.fnOf ("flowing" : Str) ("flowing" : Str) (defArgs st_flowing) (defBody st_flowing) (defScope st_flowing) .none kV33 dc33 pm33 an33 cd33 ct33), sl33⟩)
    (c33 : PySem.W.codeIn K cd33 ("flowing" : Str) = true)
    (k33 : PySem.W.keepIn K (.ref A33) = true)
    (a39 : PySem.W.nsIn K mainGlobals ("without" : Str) = some (some (.ref A39)))
    (l39 : K.lookup A39 = some ⟨oc39, od39, .func (PySem.W.fnOf ("without" : Str) ("without" : Str) (defArgs st_without) (defBody st_without) (defScope st_without) .none kV39 dc39 pm39 an39 cd39 ct39), sl39⟩)
    (c39 : PySem.W.codeIn K cd39 ("without" : Str) = true)
    (k39 : PySem.W.keepIn K (.ref A39) = true)
    (a75 : PySem.W.findIn K (.ref A59) ("wants" : Str) = some (some (.ref A75)))
    (i75 : PySem.W.isFn K (.ref A75) = true)
    (l75 : K.lookup A75 = some ⟨oc75, od75, .func (PySem.W.fnOf ("wants" : Str) ("Folder.wants" : Str) (defArgs st_Folder_wants) (defBody st_Folder_wants) (defScope st_Folder_wants) .none kV75 dc75 pm75 an75 cd75 ct75), sl75⟩)
    (c75 : PySem.W.codeIn K cd75 ("Folder.wants" : Str) = true)
    (k75 : PySem.W.keepIn K (.ref A75) = true)
    (a77 : PySem.W.findIn K (.ref A59) ("before" : Str) = some (some (.ref A77)))
    (i77 : PySem.W.isFn K (.ref A77) = true)
    (l77 : K.lookup A77 = some ⟨oc77, od77, .func (PySem.W.fnOf ("before" : Str) ("Folder.before" : Str) (defArgs st_Folder_before) (defBody st_Folder_before) (defScope st_Folder_before) .none kV77 dc77 pm77 an77 cd77 ct77), sl77⟩)
    (c77 : PySem.W.codeIn K cd77 ("Folder.before" : Str) = true)
    (k77 : PySem.W.keepIn K (.ref A77) = true)
    (a37 : PySem.W.nsIn K mainGlobals ("pairs_of" : Str) = some (some (.ref A37)))
    (l37 : K.lookup A37 = some ⟨oc37, od37, .func (PySem.W.fnOf ("pairs_of" : Str) ("pairs_of" : Str) (defArgs st_pairs_of) (defBody st_pairs_of) (defScope st_pairs_of) .none kV37 dc37 pm37 an37 cd37 ct37), sl37⟩)
    (c37 : PySem.W.codeIn K cd37 ("pairs_of" : Str) = true)
    (k37 : PySem.W.keepIn K (.ref A37) = true)
    (a35 : PySem.W.nsIn K mainGlobals ("needs" : Str) = some (some (.ref A35)))
    (l35 : K.lookup A35 = some ⟨oc35, od35, .func (PySem.W.fnOf ("needs" : Str) ("needs" : Str) (defArgs st_needs) (defBody st_needs) (defScope st_needs) .none kV35 dc35 pm35 an35 cd35 ct35), sl35⟩)
    (c35 : PySem.W.codeIn K cd35 ("needs" : Str) = true)
    (k35 : PySem.W.keepIn K (.ref A35) = true)
    (a34 : PySem.W.nsIn K mainGlobals ("ahead_of" : Str) = some (some (.ref A34)))
    (l34 : K.lookup A34 = some ⟨oc34, od34, .func (PySem.W.fnOf ("ahead_of" : Str) ("ahead_of" : Str) (defArgs st_ahead_of) (defBody st_ahead_of) (defScope st_ahead_of) .none kV34 dc34 pm34 an34 cd34 ct34), sl34⟩)
    (c34 : PySem.W.codeIn K cd34 ("ahead_of" : Str) = true)
    (k34 : PySem.W.keepIn K (.ref A34) = true)
    (a36 : PySem.W.nsIn K mainGlobals ("closed" : Str) = some (some (.ref A36)))
    (l36 : K.lookup A36 = some ⟨oc36, od36, .func (PySem.W.fnOf ("closed" : Str) ("closed" : Str) (defArgs st_closed) (defBody st_closed) (defScope st_closed) .none kV36 dc36 pm36 an36 cd36 ct36), sl36⟩)
    (c36 : PySem.W.codeIn K cd36 ("closed" : Str) = true)
    (k36 : PySem.W.keepIn K (.ref A36) = true)
    (a73 : PySem.W.findIn K (.ref A59) ("names" : Str) = some (some (.ref A73)))
    (i73 : PySem.W.isFn K (.ref A73) = true)
    (l73 : K.lookup A73 = some ⟨oc73, od73, .func (PySem.W.fnOf ("names" : Str) ("Folder.names" : Str) (defArgs st_Folder_names) (defBody st_Folder_names) (defScope st_Folder_names) .none kV73 dc73 pm73 an73 cd73 ct73), sl73⟩)
    (c73 : PySem.W.codeIn K cd73 ("Folder.names" : Str) = true)
    (k73 : PySem.W.keepIn K (.ref A73) = true)
    (a81 : PySem.W.findIn K (.ref A59) ("attempt" : Str) = some (some (.ref A81)))
    (i81 : PySem.W.isFn K (.ref A81) = true)
    (l81 : K.lookup A81 = some ⟨oc81, od81, .func (PySem.W.fnOf ("attempt" : Str) ("Folder.attempt" : Str) (defArgs st_Folder_attempt) (defBody st_Folder_attempt) (defScope st_Folder_attempt) .none kV81 dc81 pm81 an81 cd81 ct81), sl81⟩)
    (c81 : PySem.W.codeIn K cd81 ("Folder.attempt" : Str) = true)
    (k81 : PySem.W.keepIn K (.ref A81) = true)
    (a80 : PySem.W.findIn K (.ref A59) ("trial" : Str) = some (some (.ref A80)))
    (i80 : PySem.W.isFn K (.ref A80) = true)
    (l80 : K.lookup A80 = some ⟨oc80, od80, .func (PySem.W.fnOf ("trial" : Str) ("Folder.trial" : Str) (defArgs st_Folder_trial) (defBody st_Folder_trial) (defScope st_Folder_trial) .none kV80 dc80 pm80 an80 cd80 ct80), sl80⟩)
    (c80 : PySem.W.codeIn K cd80 ("Folder.trial" : Str) = true)
    (k80 : PySem.W.keepIn K (.ref A80) = true)
    (a82 : PySem.W.nsIn K mainGlobals ("Trial" : Str) = some (some (.ref A82)))
    (a83 : PySem.W.findIn K (.ref A82) ("__init__" : Str) = some (some (.ref A83)))
    (i83 : PySem.W.isFn K (.ref A83) = true)
    (l83 : K.lookup A83 = some ⟨oc83, od83, .func (PySem.W.fnOf ("__init__" : Str) ("Trial.__init__" : Str) (defArgs st_TrialU_initU) (defBody st_TrialU_initU) (defScope st_TrialU_initU) .none kV83 dc83 pm83 an83 cd83 ct83), sl83⟩)
    (c83 : PySem.W.codeIn K cd83 ("Trial.__init__" : Str) = true)
    (k83 : PySem.W.keepIn K (.ref A83) = true)
    (a84 : PySem.W.findIn K (.ref A82) ("__enter__" : Str) = some (some (.ref A84)))
    (i84 : PySem.W.isFn K (.ref A84) = true)
    (l84 : K.lookup A84 = some ⟨oc84, od84, .func (PySem.W.fnOf ("__enter__" : Str) ("Trial.__enter__" : Str) (defArgs st_TrialU_enterU) (defBody st_TrialU_enterU) (defScope st_TrialU_enterU) .none kV84 dc84 pm84 an84 cd84 ct84), sl84⟩)
    (c84 : PySem.W.codeIn K cd84 ("Trial.__enter__" : Str) = true)
    (k84 : PySem.W.keepIn K (.ref A84) = true)
    (a85 : PySem.W.findIn K (.ref A82) ("__exit__" : Str) = some (some (.ref A85)))
    (i85 : PySem.W.isFn K (.ref A85) = true)
    (l85 : K.lookup A85 = some ⟨oc85, od85, .func (PySem.W.fnOf ("__exit__" : Str) ("Trial.__exit__" : Str) (defArgs st_TrialU_exitU) (defBody st_TrialU_exitU) (defScope st_TrialU_exitU) .none kV85 dc85 pm85 an85 cd85 ct85), sl85⟩)
    (c85 : PySem.W.codeIn K cd85 ("Trial.__exit__" : Str) = true)
    (k85 : PySem.W.keepIn K (.ref A85) = true)
    (cl59p : PySem.W.plainGet K A59 Str.empty = true)
    (cl59h : PySem.W.hasDictIn K A59 = true)
    (cl59o : PySem.W.plainOver K A59 = true)
    (cl59s : PySem.W.findIn K (.ref A59) "__setattr__" = some (some (.builtin "object.__setattr__")))
    (at_Folder_limit : PySem.W.findIn K (.ref A59) ("limit" : Str) = some none)
    (cl82p : PySem.W.plainGet K A82 Str.empty = true)
    (cl82h : PySem.W.hasDictIn K A82 = true)
    (cl82o : PySem.W.plainOver K A82 = true)
    (cl82s : PySem.W.findIn K (.ref A82) "__setattr__" = some (some (.builtin "object.__setattr__")))
    (at_Trial_limit : PySem.W.findIn K (.ref A82) ("limit" : Str) = some none)
    (b_len : PySem.W.nsIn K mainGlobals ("len" : Str) = some none)
    (b_min : PySem.W.nsIn K mainGlobals ("min" : Str) = some none)
    (b_max : PySem.W.nsIn K mainGlobals ("max" : Str) = some none)
    (b_range : PySem.W.nsIn K mainGlobals ("range" : Str) = some none)
    (b_sum : PySem.W.nsIn K mainGlobals ("sum" : Str) = some none)
    (b_list : PySem.W.nsIn K mainGlobals ("list" : Str) = some none)
    (b_isinstance : PySem.W.nsIn K mainGlobals ("isinstance" : Str) = some none)
    (b_tuple : PySem.W.nsIn K mainGlobals ("tuple" : Str) = some none)
    (b_str : PySem.W.nsIn K mainGlobals ("str" : Str) = some none)
    (g_SIGNS : PySem.W.nsIn K mainGlobals ("SIGNS" : Str) = some (some (.str ("-0123456789abcdefghijklmnopqrstuvwxyz" : Str) tk_SIGNS)))
    (b_int : PySem.W.nsIn K mainGlobals ("int" : Str) = some none)
    (b_bool : PySem.W.nsIn K mainGlobals ("bool" : Str) = some none)
    (b_enumerate : PySem.W.nsIn K mainGlobals ("enumerate" : Str) = some none)
    (cl49p : PySem.W.plainGet K A49 Str.empty = true)
    (cl49h : PySem.W.hasDictIn K A49 = true)
    (cl49o : PySem.W.plainOver K A49 = true)
    (cl49s : PySem.W.findIn K (.ref A49) "__setattr__" = some (some (.builtin "object.__setattr__")))
    (at_Cleaner_row : PySem.W.findIn K (.ref A49) ("row" : Str) = some none)
    (mk49 : PySem.W.makesIn K A49 = true)
    (kp49 : PySem.W.keepIn K (.ref A49) = true)
    (at_Folder_cleaner : PySem.W.findIn K (.ref A59) ("cleaner" : Str) = some none)
    (at_Folder_width : PySem.W.findIn K (.ref A59) ("width" : Str) = some none)
    (at_Folder_rows : PySem.W.findIn K (.ref A59) ("rows" : Str) = some none)
    (at_Trial_rows : PySem.W.findIn K (.ref A82) ("rows" : Str) = some none)
    (at_Folder_past : PySem.W.findIn K (.ref A59) ("past" : Str) = some none)
    (at_Trial_past : PySem.W.findIn K (.ref A82) ("past" : Str) = some none)
    (mk59 : PySem.W.makesIn K A59 = true)
    (kp59 : PySem.W.keepIn K (.ref A59) = true)
    (g_DIGITS : PySem.W.nsIn K mainGlobals ("DIGITS" : Str) = some (some (.str ("0123456789" : Str) tk_DIGITS)))
    (fi74 : PySem.W.fnIn K A74 = true)
    (b_sorted : PySem.W.nsIn K mainGlobals ("sorted" : Str) = some none)
    (at_Trial_folder : PySem.W.findIn K (.ref A82) ("folder" : Str) = some none)
    (mk82 : PySem.W.makesIn K A82 = true)
    (kp82 : PySem.W.keepIn K (.ref A82) = true)
    (in49a : PySem.W.findIn K (.ref A49) "__class__" = some (some (.builtin "object.__class__")))
    (in49m : PySem.W.mroIn K A49 (.type "object") = some true)
    (inn : PySem.W.specialIn K (.builtin "object.__class__") "__get__" = some (some (.builtin "getset_descriptor.__get__")))
    (int_ : PySem.W.takesIn K (.builtin "object.__class__") = some true)
    (hcd : cd90 = .ref cd) (hlc : K.lookup cd = some ⟨o1, o2, .fields vs, o3⟩) (hv : (vs[11]? : Option Value) = some (.ref Pt)) (hno : K.lookup Pt = none) : FactsAt K mg := by
  refine ⟨[(61, A61), (59, A59), (1061, A1061), (90, A90), (89, A89), (86, A86), (88, A88), (87, A87), (50, A50), (49, A49), (44, A44), (43, A43), (41, A41), (22, A22), (20, A20), (42, A42), (45, A45), (60, A60), (57, A57), (28, A28), (25, A25), (67, A67), (26, A26), (23, A23), (66, A66), (65, A65), (64, A64), (58, A58), (52, A52), (48, A48), (46, A46), (47, A47), (32, A32), (31, A31), (30, A30), (74, A74), (63, A63), (76, A76), (29, A29), (21, A21), (40, A40), (38, A38), (33, A33), (39, A39), (75, A75), (77, A77), (37, A37), (35, A35), (34, A34), (36, A36), (73, A73), (81, A81), (80, A80), (83, A83), (82, A82), (84, A84), (85, A85)], fdOf [(61, (PySem.W.fnOf ("most" : Str) ("Folder.most" : Str) (defArgs st_Folder_most) (defBody st_Folder_most) (defScope st_Folder_most) .none kV61 dc61 pm61 an61 cd61 ct61)), (90, (PySem.W.fnOf ("law" : Str) ("law" : Str) (defArgs st_law) (defBody st_law) (defScope st_law) .none kV90 dc90 pm90 an90 cd90 ct90)), (89, (PySem.W.fnOf ("_law_purses" : Str) ("_law_purses" : Str) (defArgs st__law_purses) (defBody st__law_purses) (defScope st__law_purses) .none kV89 dc89 pm89 an89 cd89 ct89)), (86, (PySem.W.fnOf ("_law_purse" : Str) ("_law_purse" : Str) (defArgs st__law_purse) (defBody st__law_purse) (defScope st__law_purse) .none kV86 dc86 pm86 an86 cd86 ct86)), (88, (PySem.W.fnOf ("_law_draw" : Str) ("_law_draw" : Str) (defArgs st__law_draw) (defBody st__law_draw) (defScope st__law_draw) .none kV88 dc88 pm88 an88 cd88 ct88)), (87, (PySem.W.fnOf ("_law_mixed" : Str) ("_law_mixed" : Str) (defArgs st__law_mixed) (defBody st__law_mixed) (defScope st__law_mixed) .none kV87 dc87 pm87 an87 cd87 ct87)), (50, (PySem.W.fnOf ("__init__" : Str) ("Cleaner.__init__" : Str) (defArgs st_CleanerU_initU) (defBody st_CleanerU_initU) (defScope st_CleanerU_initU) .none kV50 dc50 pm50 an50 cd50 ct50)), (44, (PySem.W.fnOf ("are_steps" : Str) ("are_steps" : Str) (defArgs st_are_steps) (defBody st_are_steps) (defScope st_are_steps) .none kV44 dc44 pm44 an44 cd44 ct44)), (43, (PySem.W.fnOf ("is_step" : Str) ("is_step" : Str) (defArgs st_is_step) (defBody st_is_step) (defScope st_is_step) .none kV43 dc43 pm43 an43 cd43 ct43)), (41, (PySem.W.fnOf ("are_changes" : Str) ("are_changes" : Str) (defArgs st_are_changes) (defBody st_are_changes) (defScope st_are_changes) .none kV41 dc41 pm41 an41 cd41 ct41)), (22, (PySem.W.fnOf ("is_sign" : Str) ("is_sign" : Str) (defArgs st_is_sign) (defBody st_is_sign) (defScope st_is_sign) .none kV22 dc22 pm22 an22 cd22 ct22)), (20, (PySem.W.fnOf ("is_whole" : Str) ("is_whole" : Str) (defArgs st_is_whole) (defBody st_is_whole) (defScope st_is_whole) .none kV20 dc20 pm20 an20 cd20 ct20)), (42, (PySem.W.fnOf ("are_signs" : Str) ("are_signs" : Str) (defArgs st_are_signs) (defBody st_are_signs) (defScope st_are_signs) .none kV42 dc42 pm42 an42 cd42 ct42)), (45, (PySem.W.fnOf ("copied" : Str) ("copied" : Str) (defArgs st_copied) (defBody st_copied) (defScope st_copied) .none kV45 dc45 pm45 an45 cd45 ct45)), (60, (PySem.W.fnOf ("__init__" : Str) ("Folder.__init__" : Str) (defArgs st_FolderU_initU) (defBody st_FolderU_initU) (defScope st_FolderU_initU) (.ref T60) kV60 dc60 pm60 an60 cd60 ct60)), (57, (PySem.W.fnOf ("check_cleaner" : Str) ("check_cleaner" : Str) (defArgs st_check_cleaner) (defBody st_check_cleaner) (defScope st_check_cleaner) .none kV57 dc57 pm57 an57 cd57 ct57)), (28, (PySem.W.fnOf ("check_width" : Str) ("check_width" : Str) (defArgs st_check_width) (defBody st_check_width) (defScope st_check_width) .none kV28 dc28 pm28 an28 cd28 ct28)), (25, (PySem.W.fnOf ("is_width" : Str) ("is_width" : Str) (defArgs st_is_width) (defBody st_is_width) (defScope st_is_width) .none kV25 dc25 pm25 an25 cd25 ct25)), (67, (PySem.W.fnOf ("come" : Str) ("Folder.come" : Str) (defArgs st_Folder_come) (defBody st_Folder_come) (defScope st_Folder_come) .none kV67 dc67 pm67 an67 cd67 ct67)), (26, (PySem.W.fnOf ("check_name" : Str) ("check_name" : Str) (defArgs st_check_name) (defBody st_check_name) (defScope st_check_name) .none kV26 dc26 pm26 an26 cd26 ct26)), (23, (PySem.W.fnOf ("is_name" : Str) ("is_name" : Str) (defArgs st_is_name) (defBody st_is_name) (defScope st_is_name) .none kV23 dc23 pm23 an23 cd23 ct23)), (66, (PySem.W.fnOf ("change" : Str) ("Folder.change" : Str) (defArgs st_Folder_change) (defBody st_Folder_change) (defScope st_Folder_change) .none kV66 dc66 pm66 an66 cd66 ct66)), (65, (PySem.W.fnOf ("grown" : Str) ("Folder.grown" : Str) (defArgs st_Folder_grown) (defBody st_Folder_grown) (defScope st_Folder_grown) .none kV65 dc65 pm65 an65 cd65 ct65)), (64, (PySem.W.fnOf ("outlook" : Str) ("Folder.outlook" : Str) (defArgs st_Folder_outlook) (defBody st_Folder_outlook) (defScope st_Folder_outlook) .none kV64 dc64 pm64 an64 cd64 ct64)), (58, (PySem.W.fnOf ("wish_of" : Str) ("wish_of" : Str) (defArgs st_wish_of) (defBody st_wish_of) (defScope st_wish_of) .none kV58 dc58 pm58 an58 cd58 ct58)), (52, (PySem.W.fnOf ("cleaned" : Str) ("Cleaner.cleaned" : Str) (defArgs st_Cleaner_cleaned) (defBody st_Cleaner_cleaned) (defScope st_Cleaner_cleaned) .none kV52 dc52 pm52 an52 cd52 ct52)), (48, (PySem.W.fnOf ("stepped" : Str) ("stepped" : Str) (defArgs st_stepped) (defBody st_stepped) (defScope st_stepped) .none kV48 dc48 pm48 an48 cd48 ct48)), (46, (PySem.W.fnOf ("squeezed" : Str) ("squeezed" : Str) (defArgs st_squeezed) (defBody st_squeezed) (defScope st_squeezed) .none kV46 dc46 pm46 an46 cd46 ct46)), (47, (PySem.W.fnOf ("headless" : Str) ("headless" : Str) (defArgs st_headless) (defBody st_headless) (defScope st_headless) .none kV47 dc47 pm47 an47 cd47 ct47)), (32, (PySem.W.fnOf ("first_free" : Str) ("first_free" : Str) (defArgs st_first_free) (defBody st_first_free) (defScope st_first_free) .none kV32 dc32 pm32 an32 cd32 ct32)), (31, (PySem.W.fnOf ("after" : Str) ("after" : Str) (defArgs st_after) (defBody st_after) (defScope st_after) .none kV31 dc31 pm31 an31 cd31 ct31)), (30, (PySem.W.fnOf ("parts" : Str) ("parts" : Str) (defArgs st_parts) (defBody st_parts) (defScope st_parts) .none kV30 dc30 pm30 an30 cd30 ct30)), (74, (PySem.W.fnOf ("__call__" : Str) ("Folder.__call__" : Str) (defArgs st_FolderU_callU) (defBody st_FolderU_callU) (defScope st_FolderU_callU) .none kV74 dc74 pm74 an74 cd74 ct74)), (63, (PySem.W.fnOf ("bound" : Str) ("Folder.bound" : Str) (defArgs st_Folder_bound) (defBody st_Folder_bound) (defScope st_Folder_bound) .none kV63 dc63 pm63 an63 cd63 ct63)), (76, (PySem.W.fnOf ("could" : Str) ("Folder.could" : Str) (defArgs st_Folder_could) (defBody st_Folder_could) (defScope st_Folder_could) .none kV76 dc76 pm76 an76 cd76 ct76)), (29, (PySem.W.fnOf ("check_index" : Str) ("check_index" : Str) (defArgs st_check_index) (defBody st_check_index) (defScope st_check_index) .none kV29 dc29 pm29 an29 cd29 ct29)), (21, (PySem.W.fnOf ("is_count" : Str) ("is_count" : Str) (defArgs st_is_count) (defBody st_is_count) (defScope st_is_count) .none kV21 dc21 pm21 an21 cd21 ct21)), (40, (PySem.W.fnOf ("chances" : Str) ("chances" : Str) (defArgs st_chances) (defBody st_chances) (defScope st_chances) .none kV40 dc40 pm40 an40 cd40 ct40)), (38, (PySem.W.fnOf ("stretch" : Str) ("stretch" : Str) (defArgs st_stretch) (defBody st_stretch) (defScope st_stretch) .none kV38 dc38 pm38 an38 cd38 ct38)), (33, (PySem.W.fnOf ("flowing" : Str) ("flowing" : Str) (defArgs st_flowing) (defBody st_flowing) (defScope st_flowing) .none kV33 dc33 pm33 an33 cd33 ct33)), (39, (PySem.W.fnOf ("without" : Str) ("without" : Str) (defArgs st_without) (defBody st_without) (defScope st_without) .none kV39 dc39 pm39 an39 cd39 ct39)), (75, (PySem.W.fnOf ("wants" : Str) ("Folder.wants" : Str) (defArgs st_Folder_wants) (defBody st_Folder_wants) (defScope st_Folder_wants) .none kV75 dc75 pm75 an75 cd75 ct75)), (77, (PySem.W.fnOf ("before" : Str) ("Folder.before" : Str) (defArgs st_Folder_before) (defBody st_Folder_before) (defScope st_Folder_before) .none kV77 dc77 pm77 an77 cd77 ct77)), (37, (PySem.W.fnOf ("pairs_of" : Str) ("pairs_of" : Str) (defArgs st_pairs_of) (defBody st_pairs_of) (defScope st_pairs_of) .none kV37 dc37 pm37 an37 cd37 ct37)), (35, (PySem.W.fnOf ("needs" : Str) ("needs" : Str) (defArgs st_needs) (defBody st_needs) (defScope st_needs) .none kV35 dc35 pm35 an35 cd35 ct35)), (34, (PySem.W.fnOf ("ahead_of" : Str) ("ahead_of" : Str) (defArgs st_ahead_of) (defBody st_ahead_of) (defScope st_ahead_of) .none kV34 dc34 pm34 an34 cd34 ct34)), (36, (PySem.W.fnOf ("closed" : Str) ("closed" : Str) (defArgs st_closed) (defBody st_closed) (defScope st_closed) .none kV36 dc36 pm36 an36 cd36 ct36)), (73, (PySem.W.fnOf ("names" : Str) ("Folder.names" : Str) (defArgs st_Folder_names) (defBody st_Folder_names) (defScope st_Folder_names) .none kV73 dc73 pm73 an73 cd73 ct73)), (81, (PySem.W.fnOf ("attempt" : Str) ("Folder.attempt" : Str) (defArgs st_Folder_attempt) (defBody st_Folder_attempt) (defScope st_Folder_attempt) .none kV81 dc81 pm81 an81 cd81 ct81)), (80, (PySem.W.fnOf ("trial" : Str) ("Folder.trial" : Str) (defArgs st_Folder_trial) (defBody st_Folder_trial) (defScope st_Folder_trial) .none kV80 dc80 pm80 an80 cd80 ct80)), (83, (PySem.W.fnOf ("__init__" : Str) ("Trial.__init__" : Str) (defArgs st_TrialU_initU) (defBody st_TrialU_initU) (defScope st_TrialU_initU) .none kV83 dc83 pm83 an83 cd83 ct83)), (84, (PySem.W.fnOf ("__enter__" : Str) ("Trial.__enter__" : Str) (defArgs st_TrialU_enterU) (defBody st_TrialU_enterU) (defScope st_TrialU_enterU) .none kV84 dc84 pm84 an84 cd84 ct84)), (85, (PySem.W.fnOf ("__exit__" : Str) ("Trial.__exit__" : Str) (defArgs st_TrialU_exitU) (defBody st_TrialU_exitU) (defScope st_TrialU_exitU) .none kV85 dc85 pm85 an85 cd85 ct85))], cd, Pt, a90, all_mk X G a59 pa61 pg61 pt61 pr61 l61 c61 k61 a90 l90 c90 k90 a89 l89 c89 k89 a86 l86 c86 k86 a88 l88 c88 k88 a87 l87 c87 k87 a49 a50 i50 l50 c50 k50 a44 l44 c44 k44 a43 l43 c43 k43 a41 l41 c41 k41 a22 l22 c22 k22 a20 l20 c20 k20 a42 l42 c42 k42 a45 l45 c45 k45 a60 i60 l60 c60 k60 q60 a57 l57 c57 k57 a28 l28 c28 k28 a25 l25 c25 k25 a67 i67 l67 c67 k67 a26 l26 c26 k26 a23 l23 c23 k23 a66 i66 l66 c66 k66 a65 i65 l65 c65 k65 a64 i64 l64 c64 k64 a58 l58 c58 k58 a52 i52 l52 c52 k52 a48 l48 c48 k48 a46 l46 c46 k46 a47 l47 c47 k47 a32 l32 c32 k32 a31 l31 c31 k31 a30 l30 c30 k30 a74 i74 l74 c74 k74 a63 i63 l63 c63 k63 a76 i76 l76 c76 k76 a29 l29 c29 k29 a21 l21 c21 k21 a40 l40 c40 k40 a38 l38 c38 k38 a33 l33 c33 k33 a39 l39 c39 k39 a75 i75 l75 c75 k75 a77 i77 l77 c77 k77 a37 l37 c37 k37 a35 l35 c35 k35 a34 l34 c34 k34 a36 l36 c36 k36 a73 i73 l73 c73 k73 a81 i81 l81 c81 k81 a80 i80 l80 c80 k80 a82 a83 i83 l83 c83 k83 a84 i84 l84 c84 k84 a85 i85 l85 c85 k85 cl59p cl59h cl59o cl59s at_Folder_limit cl82p cl82h cl82o cl82s at_Trial_limit b_len b_min b_max b_range b_sum b_list b_isinstance b_tuple b_str g_SIGNS b_int b_bool b_enumerate cl49p cl49h cl49o cl49s at_Cleaner_row mk49 kp49 at_Folder_cleaner at_Folder_width at_Folder_rows at_Trial_rows at_Folder_past at_Trial_past mk59 kp59 g_DIGITS fi74 b_sorted at_Trial_folder mk82 kp82 in49a in49m inn int_, ?_, hno, hcd, fun s v => .of_eq rfl⟩
  unfold PySem.W.tabIn
  rw [a90]
  simp only [l90, hcd, hlc, hv]
/-- the row: from the facts at the head of the law -/
theorem law_sp {K : PySem.W.Frag} {as : List (Nat × Addr)} {Pt : Addr} {H : Hp} {a : Addr} {ns : List Int} (hP : H Pt = some (.tbl #[])) (hS : SqL K H a (ns.map V.int)) : spF (cK K [(Pt, nmT)] as) fn_law [.ref a] H (fun v _ => v = .bl true) fun _ _ _ => False := by
  let F0 : Hp := fun b => match H b with
    | some (.tbl _) => none
    | o => o
  have sub : ∀ b o, F0 b = some o → H b = some o ∧ ∀ ps, o ≠ .tbl ps := fun b o e => by
    have e' : (match H b with | some (.tbl _) => none | o => o) = some o := e
    split at e'
    · cases e'
    · rename_i hn
      exact ⟨e', fun ps z => hn ps (by rw [e', z])⟩
  have back : ∀ b o, H b = some o → (∀ ps, o ≠ .tbl ps) → F0 b = some o := fun b o e n => by
    show (match H b with | some (.tbl _) => none | o => o) = some o
    rw [e]
    split
    · rename_i ps z
      exact absurd (Option.some.inj z) (n ps)
    · rfl
  have R : Rel (cK K [(Pt, nmT)] as) ⟨F0, [], H⟩ [] := by
    refine ⟨fun b o e => (sub b o e).1, rfl, fun r i x e => ?_, fun r i x r' i' x' a e => ?_, fun p hp => ?_, fun b o e => (sub b o e).2⟩
    · rw [at2_nil] at e; cases e
    · rw [at2_nil] at e; cases e
    · have : p = (Pt, nmT) := by simpa [cK] using hp
      subst this
      exact NdefX.TabN.nil hP
  have sq : SqL K F0 a (ns.map V.int) := by
    rcases hS with (q | ⟨o, q⟩) | q
    · exact .inl (.inl (back _ _ q fun _ z => by cases z))
    · exact .inl (.inr ⟨o, back _ _ q fun _ z => by cases z⟩)
    · exact .inr q
  have repI : ∀ l : List Int, Reps (cK K [(Pt, nmT)] as) F0 [] (l.map T.int) (l.map V.int) := fun l => by
    induction l with
    | nil => exact .nil
    | cons x l ih => exact .cons .int ih
  refine ⟨⟨F0, [], H⟩, [], [.rol (ns.map .int)], rfl, R, .cons (.rol sq (repI ns)) .nil, ?_⟩
  rw [law_true]
  intro Ω' b u R' r
  cases r
  rfl
theorem walk {l : PySem.W.OpenLaw} {q : Program} {loose : List Str} {XP : (Str → Option Value) → Heap → Prop} {YP : World → Heap → Prop} {d dl : DefRec} {K : Params → PySem.W.Frag}
    (hn : l.most = some 63) (hdf : d.params.defaults = []) (hY : ∀ (w : World) (h : Heap), YP w h → (K w.params).In h) (hfind : (recsOf q).find? (fun e => e.name == ("law" : Str)) = some dl) (hdn : d.name = "law")
    (F : ∀ (w : World) (mg : Str → Option Value) (h : Heap), (K w.params).In h → h.Ns mainGlobals mg → FactsAt (K w.params) mg) :
    PySem.W.WalkO q loose XP YP l.row.toRowW d [] (fun f vs => PySem.call f vs) := by
  refine Att.attach_callB hn hdf fun w s₀ s₁ mg mb fa o pm cd0 doc a vs ns G Y ho hd hcd hmg hobj hints hlen hbits hg => ?_
  have KX := hY w _ Y
  obtain ⟨as, fd, cd, Pt, e1, FX, ht, hnP, hcode, hb⟩ := F w mg _ KX G.T.g
  obtain ⟨tc, tp⟩ := PySem.W.tab_of G.T KX hfind ht
  rw [hdn] at hmg
  have e2 := hmg.symm.trans (PySem.W.mg_of KX G.T.g e1)
  obtain rfl : fa = (cK (K w.params) [(Pt, nmT)] as).ad 90 := by
    have z := Option.some.inj e2
    cases z
    rfl
  refine law_callTs (cs := [(cd, Pt)]) (CX := L2.CX l.prog w) (sp := spF (cK (K w.params) [(Pt, nmT)] as) fn_law) (k := 9) (fd := fd 90) (x := "_law_script") KX G.T.g G.T.b G.T.builtins G.T.nolimit hg (fun p hp => ?_) (fun p hp => ?_) (fun p hp => ?_) G.T.bmain hobj hints (Nat.le_trans hlen (by decide)) ⟨rfl, by decide, by decide⟩ (fun base hK hN TB => ?_) hb (fun H hT hS => law_sp (hT (cd, Pt) List.mem_cons_self) hS) fun H e s' z => by
      obtain ⟨_, _, _, _, _, _, _, _, _, _, _, _, z⟩ := z
      exact z.elim
  · rw [List.mem_singleton.mp hp]; exact tp
  · rw [List.mem_singleton.mp hp]; exact hnP
  · rw [List.mem_singleton.mp hp]; exact tc
  · refine ok_law FX (cd := cd) (Pt := Pt) ⟨TB (cd, Pt) List.mem_cons_self, List.mem_cons_self, fun p hp _ => ?_, fun cdv hc => ?_⟩
    · have : p = (Pt, nmT) := by simpa [cK] using hp
      rw [this]
    · obtain ⟨oc, od, fd', osl, e2, e3⟩ := hc
      obtain ⟨oc2, od2, dV, kV, doc2, pm2, an2, cdv2, ct2, osl2, e4, e5, _⟩ := FX.d_law.ex
      rw [e2] at e5
      cases e5
      rw [← e3]
      exact hcode
end K88
open PySem PySem.W PyProof.Rows
set_option maxRecDepth 100000 in
set_option maxHeartbeats 0 in
theorem PySem.Challenge.cw_takennames_k88_folders_by_name_holds : PySem.Challenge.rw_takennames_k88_folders_by_name.Holds := by
  w_on; o_law; k_head; (case hw => w_witness2)
  k_fill
  refine K88.walk (l := PySem.Challenge.rw_takennames_k88_folders_by_name) rfl rfl (fun w h Y => PySem.W.km_in_of Y) rfl rfl ?F
  case F =>
    intro w mg h KX G
    refine' K88.all_at KX G ?a59 ?pa61 ?pg61 ?pt61 ?pr61 ?l61 ?c61 ?k61 ?a90 ?l90 ?c90 ?k90 ?a89 ?l89 ?c89 ?k89 ?a86 ?l86 ?c86 ?k86 ?a88 ?l88 ?c88 ?k88 ?a87 ?l87 ?c87 ?k87 ?a49 ?a50 ?i50 ?l50 ?c50 ?k50 ?a44 ?l44 ?c44 ?k44 ?a43 ?l43 ?c43 ?k43 ?a41 ?l41 ?c41 ?k41 ?a22 ?l22 ?c22 ?k22 ?a20 ?l20 ?c20 ?k20 ?a42 ?l42 ?c42 ?k42 ?a45 ?l45 ?c45 ?k45 ?a60 ?i60 ?l60 ?c60 ?k60 ?q60 ?a57 ?l57 ?c57 ?k57 ?a28 ?l28 ?c28 ?k28 ?a25 ?l25 ?c25 ?k25 ?a67 ?i67 ?l67 ?c67 ?k67 ?a26 ?l26 ?c26 ?k26 ?a23 ?l23 ?c23 ?k23 ?a66 ?i66 ?l66 ?c66 ?k66 ?a65 ?i65 ?l65 ?c65 ?k65 ?a64 ?i64 ?l64 ?c64 ?k64 ?a58 ?l58 ?c58 ?k58 ?a52 ?i52 ?l52 ?c52 ?k52 ?a48 ?l48 ?c48 ?k48 ?a46 ?l46 ?c46 ?k46 ?a47 ?l47 ?c47 ?k47 ?a32 ?l32 ?c32 ?k32 ?a31 ?l31 ?c31 ?k31 ?a30 ?l30 ?c30 ?k30 ?a74 ?i74 ?l74 ?c74 ?k74 ?a63 ?i63 ?l63 ?c63 ?k63 ?a76 ?i76 ?l76 ?c76 ?k76 ?a29 ?l29 ?c29 ?k29 ?a21 ?l21 ?c21 ?k21 ?a40 ?l40 ?c40 ?k40 ?a38 ?l38 ?c38 ?k38 ?a33 ?l33 ?c33 ?k33 ?a39 ?l39 ?c39 ?k39 ?a75 ?i75 ?l75 ?c75 ?k75 ?a77 ?i77 ?l77 ?c77 ?k77 ?a37 ?l37 ?c37 ?k37 ?a35 ?l35 ?c35 ?k35 ?a34 ?l34 ?c34 ?k34 ?a36 ?l36 ?c36 ?k36 ?a73 ?i73 ?l73 ?c73 ?k73 ?a81 ?i81 ?l81 ?c81 ?k81 ?a80 ?i80 ?l80 ?c80 ?k80 ?a82 ?a83 ?i83 ?l83 ?c83 ?k83 ?a84 ?i84 ?l84 ?c84 ?k84 ?a85 ?i85 ?l85 ?c85 ?k85 ?cl59p ?cl59h ?cl59o ?cl59s ?at_Folder_limit ?cl82p ?cl82h ?cl82o ?cl82s ?at_Trial_limit ?b_len ?b_min ?b_max ?b_range ?b_sum ?b_list ?b_isinstance ?b_tuple ?b_str ?g_SIGNS ?b_int ?b_bool ?b_enumerate ?cl49p ?cl49h ?cl49o ?cl49s ?at_Cleaner_row ?mk49 ?kp49 ?at_Folder_cleaner ?at_Folder_width ?at_Folder_rows ?at_Trial_rows ?at_Folder_past ?at_Trial_past ?mk59 ?kp59 ?g_DIGITS ?fi74 ?b_sorted ?at_Trial_folder ?mk82 ?kp82 ?in49a ?in49m ?inn ?int_ ?hcd ?hlc ?hv ?hno
    (case a59 => k_is); (case pa61 => k_is); (case pg61 => k_is); (case pt61 => k_is); (case pr61 => k_is); (case l61 => k_is)
    (case c61 => k_is); (case k61 => k_is); (case a90 => k_is); (case l90 => k_is); (case c90 => k_is); (case k90 => k_is)
    (case a89 => k_is); (case l89 => k_is); (case c89 => k_is); (case k89 => k_is); (case a86 => k_is); (case l86 => k_is)
    (case c86 => k_is); (case k86 => k_is); (case a88 => k_is); (case l88 => k_is); (case c88 => k_is); (case k88 => k_is)
    (case a87 => k_is); (case l87 => k_is); (case c87 => k_is); (case k87 => k_is); (case a49 => k_is); (case a50 => k_is)
    (case i50 => k_is); (case l50 => k_is); (case c50 => k_is); (case k50 => k_is); (case a44 => k_is); (case l44 => k_is)
    (case c44 => k_is); (case k44 => k_is); (case a43 => k_is); (case l43 => k_is); (case c43 => k_is); (case k43 => k_is)
    (case a41 => k_is); (case l41 => k_is); (case c41 => k_is); (case k41 => k_is); (case a22 => k_is); (case l22 => k_is)
    (case c22 => k_is); (case k22 => k_is); (case a20 => k_is); (case l20 => k_is); (case c20 => k_is); (case k20 => k_is)
    (case a42 => k_is); (case l42 => k_is); (case c42 => k_is); (case k42 => k_is); (case a45 => k_is); (case l45 => k_is)
    (case c45 => k_is); (case k45 => k_is); (case a60 => k_is); (case i60 => k_is); (case l60 => k_is); (case c60 => k_is)
    (case k60 => k_is); (case q60 => k_is); (case a57 => k_is); (case l57 => k_is); (case c57 => k_is); (case k57 => k_is)
    (case a28 => k_is); (case l28 => k_is); (case c28 => k_is); (case k28 => k_is); (case a25 => k_is); (case l25 => k_is)
    (case c25 => k_is); (case k25 => k_is); (case a67 => k_is); (case i67 => k_is); (case l67 => k_is); (case c67 => k_is)
    (case k67 => k_is); (case a26 => k_is); (case l26 => k_is); (case c26 => k_is); (case k26 => k_is); (case a23 => k_is)
    (case l23 => k_is); (case c23 => k_is); (case k23 => k_is); (case a66 => k_is); (case i66 => k_is); (case l66 => k_is)
    (case c66 => k_is); (case k66 => k_is); (case a65 => k_is); (case i65 => k_is); (case l65 => k_is); (case c65 => k_is)
    (case k65 => k_is); (case a64 => k_is); (case i64 => k_is); (case l64 => k_is); (case c64 => k_is); (case k64 => k_is)
    (case a58 => k_is); (case l58 => k_is); (case c58 => k_is); (case k58 => k_is); (case a52 => k_is); (case i52 => k_is)
    (case l52 => k_is); (case c52 => k_is); (case k52 => k_is); (case a48 => k_is); (case l48 => k_is); (case c48 => k_is)
    (case k48 => k_is); (case a46 => k_is); (case l46 => k_is); (case c46 => k_is); (case k46 => k_is); (case a47 => k_is)
    (case l47 => k_is); (case c47 => k_is); (case k47 => k_is); (case a32 => k_is); (case l32 => k_is); (case c32 => k_is)
    (case k32 => k_is); (case a31 => k_is); (case l31 => k_is); (case c31 => k_is); (case k31 => k_is); (case a30 => k_is)
    (case l30 => k_is); (case c30 => k_is); (case k30 => k_is); (case a74 => k_is); (case i74 => k_is); (case l74 => k_is)
    (case c74 => k_is); (case k74 => k_is); (case a63 => k_is); (case i63 => k_is); (case l63 => k_is); (case c63 => k_is)
    (case k63 => k_is); (case a76 => k_is); (case i76 => k_is); (case l76 => k_is); (case c76 => k_is); (case k76 => k_is)
    (case a29 => k_is); (case l29 => k_is); (case c29 => k_is); (case k29 => k_is); (case a21 => k_is); (case l21 => k_is)
    (case c21 => k_is); (case k21 => k_is); (case a40 => k_is); (case l40 => k_is); (case c40 => k_is); (case k40 => k_is)
    (case a38 => k_is); (case l38 => k_is); (case c38 => k_is); (case k38 => k_is); (case a33 => k_is); (case l33 => k_is)
    (case c33 => k_is); (case k33 => k_is); (case a39 => k_is); (case l39 => k_is); (case c39 => k_is); (case k39 => k_is)
    (case a75 => k_is); (case i75 => k_is); (case l75 => k_is); (case c75 => k_is); (case k75 => k_is); (case a77 => k_is)
    (case i77 => k_is); (case l77 => k_is); (case c77 => k_is); (case k77 => k_is); (case a37 => k_is); (case l37 => k_is)
    (case c37 => k_is); (case k37 => k_is); (case a35 => k_is); (case l35 => k_is); (case c35 => k_is); (case k35 => k_is)
    (case a34 => k_is); (case l34 => k_is); (case c34 => k_is); (case k34 => k_is); (case a36 => k_is); (case l36 => k_is)
    (case c36 => k_is); (case k36 => k_is); (case a73 => k_is); (case i73 => k_is); (case l73 => k_is); (case c73 => k_is)
    (case k73 => k_is); (case a81 => k_is); (case i81 => k_is); (case l81 => k_is); (case c81 => k_is); (case k81 => k_is)
    (case a80 => k_is); (case i80 => k_is); (case l80 => k_is); (case c80 => k_is); (case k80 => k_is); (case a82 => k_is)
    (case a83 => k_is); (case i83 => k_is); (case l83 => k_is); (case c83 => k_is); (case k83 => k_is); (case a84 => k_is)
    (case i84 => k_is); (case l84 => k_is); (case c84 => k_is); (case k84 => k_is); (case a85 => k_is); (case i85 => k_is)
    (case l85 => k_is); (case c85 => k_is); (case k85 => k_is); (case cl59p => k_is); (case cl59h => k_is); (case cl59o => k_is)
    (case cl59s => k_is); (case at_Folder_limit => k_is); (case cl82p => k_is); (case cl82h => k_is); (case cl82o => k_is); (case cl82s => k_is)
    (case at_Trial_limit => k_is); (case b_len => k_is); (case b_min => k_is); (case b_max => k_is); (case b_range => k_is); (case b_sum => k_is)
    (case b_list => k_is); (case b_isinstance => k_is); (case b_tuple => k_is); (case b_str => k_is); (case g_SIGNS => k_is); (case b_int => k_is)
    (case b_bool => k_is); (case b_enumerate => k_is); (case cl49p => k_is); (case cl49h => k_is); (case cl49o => k_is); (case cl49s => k_is)
    (case at_Cleaner_row => k_is); (case mk49 => k_is); (case kp49 => k_is); (case at_Folder_cleaner => k_is); (case at_Folder_width => k_is); (case at_Folder_rows => k_is)
    (case at_Trial_rows => k_is); (case at_Folder_past => k_is); (case at_Trial_past => k_is); (case mk59 => k_is); (case kp59 => k_is); (case g_DIGITS => k_is)
    (case fi74 => k_is); (case b_sorted => k_is); (case at_Trial_folder => k_is); (case mk82 => k_is); (case kp82 => k_is); (case in49a => k_is)
    (case in49m => k_is); (case inn => k_is); (case int_ => k_is)
    (case hcd => rfl)
    (case hlc => k_is)
    (case hv => rfl)
    (case hno => kernel_rfl)
#print axioms PySem.Challenge.cw_takennames_k88_folders_by_name_holds
