import PyProof.Rows.All
import Wide.All
import OpenK.AllK
import Wide.FinOn
import HandS.ForMost
import HandS.Wide
import HandS.Gcd
import HandS.IsInst
import HandS.Style
import HandS.TupLe
import HandS.TupAny
import HandS.Flow
import PySem.Challenge.RW_driftsure_k01_stretches_cut_beside_tuple
set_option Elab.async false
set_option linter.all false
set_option maxRecDepth 100000
set_option autoImplicit false
set_option maxHeartbeats 2000000
/-! DLay: plain data over the hand layer. -/
namespace DL
open PySem PySem.Spec L2

/-! ### data -/
/-- a value as plain data: what never changes any more -/
inductive D where
  | non | bl (b : Bool) | int (i : Int) | str (s : Str)
  | tup (xs : List D) | lst (xs : List D)
  | ins (C : Addr) (fs : List (Str × D))
  | dic (ks : List D) (vs : List D)
  deriving Inhabited

mutual
/-- v stands for d, over the frozen part Z of the heap -/
inductive Rep (K : PySem.W.Frag) (Z : Hp) : V → D → Prop
  | non : Rep K Z .non .non
  | bl (b : Bool) : Rep K Z (.bl b) (.bl b)
  | int (i : Int) : Rep K Z (.int i) (.int i)
  | str (x : Str) : Rep K Z (.str x) (.str x)
  | tup {a : Addr} {vs : List V} {ds : List D} : SqT K Z a vs → RepL K Z vs ds → Rep K Z (.ref a) (.tup ds)
  | lst {a : Addr} {vs : List V} {ds : List D} : SqL K Z a vs → RepL K Z vs ds → Rep K Z (.ref a) (.lst ds)
  | ins {a C dx : Addr} {fv : List (Str × V)} {fs : List (Str × D)} : Z a = some (.ins C dx fv) → RepF K Z fv fs → Rep K Z (.ref a) (.ins C fs)
inductive RepL (K : PySem.W.Frag) (Z : Hp) : List V → List D → Prop
  | nil : RepL K Z [] []
  | cons {v : V} {vs : List V} {d : D} {ds : List D} : Rep K Z v d → RepL K Z vs ds → RepL K Z (v :: vs) (d :: ds)
inductive RepF (K : PySem.W.Frag) (Z : Hp) : List (Str × V) → List (Str × D) → Prop
  | nil : RepF K Z [] []
  | cons {f : Str} {v : V} {vs : List (Str × V)} {d : D} {ds : List (Str × D)} : Rep K Z v d → RepF K Z vs ds → RepF K Z ((f, v) :: vs) ((f, d) :: ds)
end

/-- a part of -/
def Sub (Z H : Hp) : Prop := ∀ a o, Z a = some o → H a = some o
theorem Sub.refl {Z : Hp} : Sub Z Z := fun _ _ h => h
theorem Sub.trans {A B C : Hp} (h : Sub A B) (g : Sub B C) : Sub A C := fun a o e => g a o (h a o e)
theorem Sub.upd {Z : Hp} {p : Addr} {o : HO} (h : Z p = none) : Sub Z (upd Z p o) := fun a u e => by
  rw [upd_ne (ne_of_none e h)]; exact e
theorem Sub.none {Z H : Hp} {p : Addr} (s : Sub Z H) (h : H p = none) : Z p = none := by
  cases q : Z p with
  | none => rfl
  | some o => rw [s p o q] at h; cases h

theorem SqT.sub {K : PySem.W.Frag} {Z H : Hp} {a : Addr} {xs : List V} (h : SqT K Z a xs) (e : Sub Z H) : SqT K H a xs :=
  h.elim (fun h => .inl (h.elim (fun h => .inl (e _ _ h)) fun ⟨o, h⟩ => .inr ⟨o, e _ _ h⟩)) fun h => .inr h
theorem SqL.sub {K : PySem.W.Frag} {Z H : Hp} {a : Addr} {xs : List V} (h : SqL K Z a xs) (e : Sub Z H) : SqL K H a xs :=
  h.elim (fun h => .inl (h.elim (fun h => .inl (e _ _ h)) fun ⟨o, h⟩ => .inr ⟨o, e _ _ h⟩)) fun h => .inr h

section
variable {K : PySem.W.Frag} {Z Z' : Hp}
mutual
theorem Rep.mono (e : Sub Z Z') : ∀ {v : V} {d : D}, Rep K Z v d → Rep K Z' v d
  | _, _, .non => .non
  | _, _, .bl b => .bl b
  | _, _, .int i => .int i
  | _, _, .str x => .str x
  | _, _, .tup h r => .tup (SqT.sub h e) (RepL.mono e r)
  | _, _, .lst h r => .lst (SqL.sub h e) (RepL.mono e r)
  | _, _, .ins h r => .ins (e _ _ h) (RepF.mono e r)
theorem RepL.mono (e : Sub Z Z') : ∀ {vs : List V} {ds : List D}, RepL K Z vs ds → RepL K Z' vs ds
  | _, _, .nil => .nil
  | _, _, .cons h r => .cons (Rep.mono e h) (RepL.mono e r)
theorem RepF.mono (e : Sub Z Z') : ∀ {vs : List (Str × V)} {ds : List (Str × D)}, RepF K Z vs ds → RepF K Z' vs ds
  | _, _, .nil => .nil
  | _, _, .cons h r => .cons (Rep.mono e h) (RepF.mono e r)
end
theorem RepL.length : ∀ {vs : List V} {ds : List D}, RepL K Z vs ds → vs.length = ds.length
  | _, _, .nil => rfl
  | _, _, .cons _ r => by rw [List.length_cons, List.length_cons, RepL.length r]
theorem RepL.get : ∀ {vs : List V} {ds : List D} {i : Nat} {d : D}, RepL K Z vs ds → ds[i]? = some d → ∃ v, vs[i]? = some v ∧ Rep K Z v d
  | _, _, _, _, .nil, h => by simp at h
  | _, _, 0, _, .cons r _, h => by simp at h; subst h; exact ⟨_, rfl, r⟩
  | _, _, i + 1, d, .cons _ t, h => by
    obtain ⟨v, h1, h2⟩ := RepL.get (i := i) (d := d) t (by simpa using h)
    exact ⟨v, by simpa using h1, h2⟩
theorem RepL.getV : ∀ {vs : List V} {ds : List D} {i : Nat} {v : V}, RepL K Z vs ds → vs[i]? = some v → ∃ d, ds[i]? = some d ∧ Rep K Z v d
  | _, _, _, _, .nil, h => by simp at h
  | _, _, 0, _, .cons r _, h => by simp at h; subst h; exact ⟨_, rfl, r⟩
  | _, _, i + 1, v, .cons _ t, h => by
    obtain ⟨d, h1, h2⟩ := RepL.getV (i := i) (v := v) t (by simpa using h)
    exact ⟨d, by simpa using h1, h2⟩
theorem RepL.append : ∀ {vs ws : List V} {ds es : List D}, RepL K Z vs ds → RepL K Z ws es → RepL K Z (vs ++ ws) (ds ++ es)
  | _, _, _, _, .nil, s => s
  | _, _, _, _, .cons r t, s => .cons r (RepL.append t s)
theorem RepL.take : ∀ {vs : List V} {ds : List D} (n : Nat), RepL K Z vs ds → RepL K Z (vs.take n) (ds.take n)
  | _, _, 0, _ => .nil
  | _, _, _ + 1, .nil => .nil
  | _, _, n + 1, .cons r t => .cons r (RepL.take n t)
theorem RepL.drop : ∀ {vs : List V} {ds : List D} (n : Nat), RepL K Z vs ds → RepL K Z (vs.drop n) (ds.drop n)
  | _, _, 0, r => r
  | _, _, _ + 1, .nil => .nil
  | _, _, n + 1, .cons _ t => RepL.drop n t
theorem RepL.set {v : V} {d : D} (r : Rep K Z v d) : ∀ {vs : List V} {ds : List D} (i : Nat), RepL K Z vs ds → RepL K Z (vs.set i v) (ds.set i d)
  | _, _, _, .nil => .nil
  | _, _, 0, .cons _ t => .cons r t
  | _, _, i + 1, .cons q t => .cons q (RepL.set r i t)
theorem RepL.reverse : ∀ {vs : List V} {ds : List D}, RepL K Z vs ds → RepL K Z vs.reverse ds.reverse
  | _, _, .nil => .nil
  | _, _, .cons r t => by rw [List.reverse_cons, List.reverse_cons]; exact (RepL.reverse t).append (.cons r .nil)
theorem RepL.ints : ∀ ns : List Int, RepL K Z (ns.map V.int) (ns.map D.int)
  | [] => .nil
  | n :: r => .cons (.int n) (RepL.ints r)
theorem RepF.lookup {f : Str} : ∀ {vs : List (Str × V)} {ds : List (Str × D)} {d : D}, RepF K Z vs ds → ds.lookup f = some d → ∃ v, vs.lookup f = some v ∧ Rep K Z v d
  | _, _, _, .nil, h => by simp at h
  | _, _, d, .cons (f := g) (v := v) (d := d0) r t, h => by
    by_cases e : (f == g) = true
    · simp only [List.lookup, e, Option.some.injEq] at h ⊢
      subst h
      exact ⟨_, rfl, r⟩
    · have e' : (f == g) = false := by simpa using e
      simp only [List.lookup, e'] at h ⊢
      exact RepF.lookup t h
theorem RepF.lookup_none {f : Str} : ∀ {vs : List (Str × V)} {ds : List (Str × D)}, RepF K Z vs ds → ds.lookup f = none → vs.lookup f = none
  | _, _, .nil, h => rfl
  | _, _, .cons (f := g) r t, h => by
    by_cases e : (f == g) = true
    · simp only [List.lookup, e] at h; cases h
    · have e' : (f == g) = false := by simpa using e
      simp only [List.lookup, e'] at h ⊢
      exact RepF.lookup_none t h
theorem RepF.length : ∀ {vs : List (Str × V)} {ds : List (Str × D)}, RepF K Z vs ds → vs.length = ds.length
  | _, _, .nil => rfl
  | _, _, .cons _ r => by rw [List.length_cons, List.length_cons, RepF.length r]
def putD (f : Str) (v : D) : List (Str × D) → List (Str × D)
  | [] => [(f, v)]
  | (g, x) :: r => if g = f then (g, v) :: r else (g, x) :: putD f v r
theorem RepF.put {f : Str} {v : V} {d : D} (h : Rep K Z v d) : ∀ {vs : List (Str × V)} {ds : List (Str × D)}, RepF K Z vs ds → RepF K Z (putF f v vs) (putD f d ds)
  | _, _, .nil => .cons h .nil
  | _, _, .cons (f := g) r t => by
    by_cases e : g = f
    · simp only [putF, putD, e, if_true]; exact .cons h t
    · simp only [putF, putD, if_neg e]; exact .cons r (RepF.put h t)
end

/-! ### what a slot holds -/
/-- a thing that may change -/
inductive Oc where
  | lst (ds : List D)
  | ins (C : Addr) (fs : List (Str × D))
  | dT (kvs : List (List Key × D))
  deriving Inhabited
def OcOk (K : PySem.W.Frag) (Z H : Hp) (a : Addr) : Oc → Prop
  | .lst ds => ∃ vs, H a = some (.lst vs) ∧ RepL K Z vs ds
  | .ins C fs => ∃ dx fv, H a = some (.ins C dx fv) ∧ RepF K Z fv fs
  | .dT _ => False
theorem OcOk.mono {K : PySem.W.Frag} {Z Z' H H' : Hp} {a : Addr} {o : Oc} (h : OcOk K Z H a o) (e : Sub Z Z') (k : H' a = H a) : OcOk K Z' H' a o := by
  cases o with
  | lst ds => obtain ⟨vs, h1, h2⟩ := h; exact ⟨vs, k.trans h1, h2.mono e⟩
  | ins C fs => obtain ⟨dx, fv, h1, h2⟩ := h; exact ⟨dx, fv, k.trans h1, h2.mono e⟩
  | dT kvs => exact h.elim
theorem OcOk.some {K : PySem.W.Frag} {Z H : Hp} {a : Addr} {o : Oc} (h : OcOk K Z H a o) : H a ≠ none := by
  cases o with
  | lst ds => obtain ⟨vs, h1, h2⟩ := h; rw [h1]; exact fun z => nomatch z
  | ins C fs => obtain ⟨dx, fv, h1, h2⟩ := h; rw [h1]; exact fun z => nomatch z
  | dT kvs => exact h.elim
/-- nothing known; frozen data; a thing of one's own (p: an argument's, whose slot stays) -/
inductive Sl where
  | un
  | im (d : D)
  | own (p : Bool) (o : Oc)
  deriving Inhabited
abbrev Env := List Sl
def gt : Env → Nat → Sl
  | [], _ => .un
  | s :: _, 0 => s
  | _ :: r, n + 1 => gt r n
def st : Env → Nat → Sl → Env
  | [], _, _ => []
  | _ :: r, 0, s => s :: r
  | x :: r, n + 1, s => x :: st r n s
theorem gt_st_same : ∀ {Γ : Env} {i : Nat} {s : Sl}, i < Γ.length → gt (st Γ i s) i = s
  | [], _, _, h => by simp at h
  | _ :: _, 0, _, _ => rfl
  | _ :: r, n + 1, s, h => gt_st_same (Γ := r) (by simpa using h)
theorem gt_st_ne : ∀ {Γ : Env} {i j : Nat} {s : Sl}, j ≠ i → gt (st Γ i s) j = gt Γ j
  | [], _, _, _, _ => rfl
  | _ :: _, 0, 0, _, h => absurd rfl h
  | _ :: _, 0, _ + 1, _, _ => rfl
  | _ :: _, _ + 1, 0, _, _ => rfl
  | _ :: r, n + 1, m + 1, s, h => gt_st_ne (Γ := r) (fun e => h (by rw [e]))
theorem st_length : ∀ {Γ : Env} {i : Nat} {s : Sl}, (st Γ i s).length = Γ.length
  | [], _, _ => rfl
  | _ :: _, 0, _ => rfl
  | _ :: r, n + 1, s => by show (st r n s).length + 1 = r.length + 1; rw [st_length]
theorem gt_out : ∀ {Γ : Env} {i : Nat}, Γ.length ≤ i → gt Γ i = .un
  | [], _, _ => rfl
  | _ :: _, 0, h => by simp at h
  | _ :: r, n + 1, h => gt_out (Γ := r) (by simpa using h)

/-- the frame: foreign addresses, the heap and its frozen part at the entry, the arguments -/
structure FC where
  F : Addr → Prop
  H0 : Hp
  Z0 : Hp
  vs : List V

def SlOk (K : PySem.W.Frag) (c : FC) (Z : Hp) (σ : St) (H : Hp) (i : Nat) : Sl → Prop
  | .un => True
  | .im d => ∃ v, σ[i]? = some (some v) ∧ Rep K Z v d
  | .own p o => ∃ a, σ[i]? = some (some (.ref a)) ∧ OcOk K Z H a o ∧ Z a = none ∧ ¬ c.F a ∧ (if p = true then c.vs[i]? = some (.ref a) else c.H0 a = none)

structure OkS (K : PySem.W.Frag) (c : FC) (Γ : Env) (Z : Hp) (σ : St) (H : Hp) : Prop where
  sub : Sub Z H
  fr : ∀ a, c.F a → H a = c.H0 a ∧ Z a = c.Z0 a ∧ c.H0 a ≠ none
  gz : Sub c.Z0 Z
  al : ∀ a, c.H0 a ≠ none → H a ≠ none
  sl : ∀ i, SlOk K c Z σ H i (gt Γ i)
  ne : ∀ i j a p o q u, gt Γ i = .own p o → gt Γ j = .own q u → σ[i]? = some (some (.ref a)) → σ[j]? = some (some (.ref a)) → i = j
  len : Γ.length ≤ σ.length

section
variable {K : PySem.W.Frag} {c : FC} {Γ : Env} {Z Z' : Hp} {σ : St} {H H' : Hp}
theorem OkS.fresh0 (ok : OkS K c Γ Z σ H) {p : Addr} (h : H p = none) : c.H0 p = none := by
  cases q : c.H0 p with
  | none => rfl
  | some o => exact absurd h (ok.al p (by rw [q]; exact fun z => nomatch z))
theorem OkS.notF (ok : OkS K c Γ Z σ H) {p : Addr} (h : H p = none) : ¬ c.F p := fun f => (ok.fr p f).2.2 (ok.fresh0 h)
/-- the frozen part and the heap grow, nothing that stood changes -/
theorem OkS.grow (ok : OkS K c Γ Z σ H) (sb : Sub Z' H') (gz : Sub Z Z') (kh : ∀ a, H a ≠ none → H' a = H a) (kz : ∀ a, H a ≠ none → Z' a = Z a) : OkS K c Γ Z' σ H' where
  sub := sb
  fr := fun a f => by
    obtain ⟨h1, h2, h3⟩ := ok.fr a f
    have n : H a ≠ none := by rw [h1]; exact h3
    exact ⟨(kh a n).trans h1, (kz a n).trans h2, h3⟩
  gz := ok.gz.trans gz
  al := fun a h => by rw [kh a (ok.al a h)]; exact ok.al a h
  sl := fun i => by
    have h := ok.sl i
    revert h
    cases gt Γ i with
    | un => exact fun h => h
    | im d => exact fun ⟨v, h1, h2⟩ => ⟨v, h1, h2.mono gz⟩
    | own p o => exact fun ⟨a, h1, h2, h3, h4, h5⟩ => ⟨a, h1, h2.mono gz (kh a h2.some), (kz a h2.some).trans h3, h4, h5⟩
  ne := ok.ne
  len := ok.len
theorem OkS.alloc (ok : OkS K c Γ Z σ H) {p : Addr} {o : HO} (h : H p = none) : OkS K c Γ Z σ (upd H p o) :=
  ok.grow (ok.sub.trans (Sub.upd h)) Sub.refl (fun a n => upd_ne (fun e => n (e ▸ h))) fun _ _ => rfl
theorem OkS.allocZ (ok : OkS K c Γ Z σ H) {p : Addr} {o : HO} (h : H p = none) : OkS K c Γ (upd Z p o) σ (upd H p o) :=
  ok.grow (fun a u e => by
    by_cases q : a = p
    · subst q; rw [upd_same] at e ⊢; exact e
    · rw [upd_ne q] at e ⊢; exact ok.sub a u e) (Sub.upd (Sub.none ok.sub h)) (fun a n => upd_ne (fun e => n (e ▸ h))) fun a n => upd_ne (fun e => n (e ▸ h))
/-- a slot forgotten or replaced by data -/
theorem OkS.put (ok : OkS K c Γ Z σ H) {i : Nat} {v : V} {d : D} (r : Rep K Z v d) (hi : i < σ.length) : OkS K c (st Γ i (.im d)) Z (σ.set i (some v)) H where
  sub := ok.sub
  fr := ok.fr
  gz := ok.gz
  al := ok.al
  sl := fun j => by
    by_cases e : j = i
    · subst e
      by_cases hl : j < Γ.length
      · rw [gt_st_same hl]; exact ⟨v, List.getElem?_set_self hi, r⟩
      · rw [gt_out (by rw [st_length]; omega)]; trivial
    · rw [gt_st_ne e]
      have h := ok.sl j
      revert h
      cases gt Γ j with
      | un => exact fun h => h
      | im d => exact fun ⟨v, h1, h2⟩ => ⟨v, by rw [List.getElem?_set_ne (Ne.symm e)]; exact h1, h2⟩
      | own p o => exact fun ⟨a, h1, h2⟩ => ⟨a, by rw [List.getElem?_set_ne (Ne.symm e)]; exact h1, h2⟩
  ne := fun j k a p o q u h1 h2 h3 h4 => by
    have nj : j ≠ i := fun e => by
      subst e
      by_cases hl : j < Γ.length
      · rw [gt_st_same hl] at h1; cases h1
      · rw [gt_out (by rw [st_length]; omega)] at h1; cases h1
    have nk : k ≠ i := fun e => by
      subst e
      by_cases hl : k < Γ.length
      · rw [gt_st_same hl] at h2; cases h2
      · rw [gt_out (by rw [st_length]; omega)] at h2; cases h2
    rw [gt_st_ne nj] at h1
    rw [gt_st_ne nk] at h2
    rw [List.getElem?_set_ne (Ne.symm nj)] at h3
    rw [List.getElem?_set_ne (Ne.symm nk)] at h4
    exact ok.ne j k a p o q u h1 h2 h3 h4
  len := by rw [st_length, List.length_set]; exact ok.len
/-- a slot forgotten -/
theorem OkS.drop (ok : OkS K c Γ Z σ H) {i : Nat} : OkS K c (st Γ i .un) Z σ H where
  sub := ok.sub
  fr := ok.fr
  gz := ok.gz
  al := ok.al
  sl := fun j => by
    by_cases e : j = i
    · subst e
      by_cases hl : j < Γ.length
      · rw [gt_st_same hl]; trivial
      · rw [gt_out (by rw [st_length]; omega)]; trivial
    · rw [gt_st_ne e]; exact ok.sl j
  ne := fun j k a p o q u h1 h2 h3 h4 => by
    have nj : j ≠ i := fun e => by
      subst e
      by_cases hl : j < Γ.length
      · rw [gt_st_same hl] at h1; cases h1
      · rw [gt_out (by rw [st_length]; omega)] at h1; cases h1
    have nk : k ≠ i := fun e => by
      subst e
      by_cases hl : k < Γ.length
      · rw [gt_st_same hl] at h2; cases h2
      · rw [gt_out (by rw [st_length]; omega)] at h2; cases h2
    rw [gt_st_ne nj] at h1
    rw [gt_st_ne nk] at h2
    exact ok.ne j k a p o q u h1 h2 h3 h4
  len := by rw [st_length]; exact ok.len
/-- a thing of one's own at an address of no other slot -/
def Free (Γ : Env) (σ : St) (a : Addr) : Prop := ∀ i p o, gt Γ i = .own p o → σ[i]? ≠ some (some (.ref a))
/-- a value that is a new thing of one's own -/
def OwnV (K : PySem.W.Frag) (c : FC) (Γ : Env) (Z : Hp) (σ : St) (H : Hp) (v : V) (o : Oc) : Prop :=
  ∃ a, v = .ref a ∧ OcOk K Z H a o ∧ Z a = none ∧ c.H0 a = none ∧ Free Γ σ a
theorem OkS.putOwn (ok : OkS K c Γ Z σ H) {i : Nat} {v : V} {o : Oc} (r : OwnV K c Γ Z σ H v o) (hi : i < σ.length) : OkS K c (st Γ i (.own false o)) Z (σ.set i (some v)) H := by
  obtain ⟨a, rfl, h1, h2, h3, h4⟩ := r
  refine ⟨ok.sub, ok.fr, ok.gz, ok.al, fun j => ?_, fun j k b p o q u g1 g2 g3 g4 => ?_, by rw [st_length, List.length_set]; exact ok.len⟩
  · by_cases e : j = i
    · subst e
      by_cases hl : j < Γ.length
      · rw [gt_st_same hl]; exact ⟨a, List.getElem?_set_self hi, h1, h2, fun f => (ok.fr a f).2.2 h3, by simpa using h3⟩
      · rw [gt_out (by rw [st_length]; omega)]; trivial
    · rw [gt_st_ne e]
      have h := ok.sl j
      revert h
      cases gt Γ j with
      | un => exact fun h => h
      | im d => exact fun ⟨v, h1, h2⟩ => ⟨v, by rw [List.getElem?_set_ne (Ne.symm e)]; exact h1, h2⟩
      | own p o => exact fun ⟨a, h1, h2⟩ => ⟨a, by rw [List.getElem?_set_ne (Ne.symm e)]; exact h1, h2⟩
  · by_cases ej : j = i <;> by_cases ek : k = i
    · rw [ej, ek]
    · subst ej
      rw [List.getElem?_set_self hi] at g3
      cases g3
      rw [gt_st_ne ek] at g2
      rw [List.getElem?_set_ne (Ne.symm ek)] at g4
      exact absurd g4 (h4 k q u g2)
    · subst ek
      rw [List.getElem?_set_self hi] at g4
      cases g4
      rw [gt_st_ne ej] at g1
      rw [List.getElem?_set_ne (Ne.symm ej)] at g3
      exact absurd g3 (h4 j p _ g1)
    · rw [gt_st_ne ej] at g1
      rw [gt_st_ne ek] at g2
      rw [List.getElem?_set_ne (Ne.symm ej)] at g3
      rw [List.getElem?_set_ne (Ne.symm ek)] at g4
      exact ok.ne j k b p _ q u g1 g2 g3 g4
/-- a new object that one owns -/
theorem OkS.newOwn (ok : OkS K c Γ Z σ H) {p : Addr} {ob : HO} {o : Oc} (h : H p = none) (ho : OcOk K Z (upd H p ob) p o) : OwnV K c Γ Z σ (upd H p ob) (.ref p) o :=
  ⟨p, rfl, ho, Sub.none ok.sub h, ok.fresh0 h, fun i q u e1 e2 => by
    have hs := ok.sl i
    rw [e1] at hs
    obtain ⟨a, h1, h2, _⟩ := hs
    rw [h1] at e2; cases e2
    exact h2.some h⟩
/-- what one owns is frozen: a list -/
theorem OkS.freeze (ok : OkS K c Γ Z σ H) {v : V} {ds : List D} (r : OwnV K c Γ Z σ H v (.lst ds)) : ∃ Z', OkS K c Γ Z' σ H ∧ Sub Z Z' ∧ Rep K Z' v (.lst ds) := by
  obtain ⟨a, rfl, ⟨vs, h1, h2⟩, h3, h4, h5⟩ := r
  have sz : Sub Z (upd Z a (.lst vs)) := Sub.upd h3
  refine ⟨upd Z a (.lst vs), ⟨fun b u e => ?_, fun b f => ?_, ok.gz.trans sz, ok.al, fun i => ?_, ok.ne, ok.len⟩, sz, .lst (.inl (.inl upd_same)) (h2.mono sz)⟩
  · by_cases q : b = a
    · subst q; rw [upd_same] at e; rw [h1]; exact e
    · rw [upd_ne q] at e; exact ok.sub b u e
  · obtain ⟨g1, g2, g3⟩ := ok.fr b f
    exact ⟨g1, (upd_ne (fun e : b = a => g3 (by rw [e]; exact h4))).trans g2, g3⟩
  · have h := ok.sl i
    have fr := h5 i
    revert h fr
    cases gt Γ i with
    | un => exact fun h _ => h
    | im d => exact fun ⟨v, h1, h2⟩ _ => ⟨v, h1, h2.mono sz⟩
    | own p o => exact fun ⟨b, h1, h2, h3, h4⟩ fr => ⟨b, h1, h2.mono sz rfl, (upd_ne (fun e : b = a => fr p o rfl (by rw [← e]; exact h1))).trans h3, h4⟩
theorem OkS.freezeI (ok : OkS K c Γ Z σ H) {v : V} {C : Addr} {fs : List (Str × D)} (r : OwnV K c Γ Z σ H v (.ins C fs)) : ∃ Z', OkS K c Γ Z' σ H ∧ Sub Z Z' ∧ Rep K Z' v (.ins C fs) := by
  obtain ⟨a, rfl, ⟨dx, fv, h1, h2⟩, h3, h4, h5⟩ := r
  have sz : Sub Z (upd Z a (.ins C dx fv)) := Sub.upd h3
  refine ⟨upd Z a (.ins C dx fv), ⟨fun b u e => ?_, fun b f => ?_, ok.gz.trans sz, ok.al, fun i => ?_, ok.ne, ok.len⟩, sz, .ins upd_same (h2.mono sz)⟩
  · by_cases q : b = a
    · subst q; rw [upd_same] at e; rw [h1]; exact e
    · rw [upd_ne q] at e; exact ok.sub b u e
  · obtain ⟨g1, g2, g3⟩ := ok.fr b f
    exact ⟨g1, (upd_ne (fun e : b = a => g3 (by rw [e]; exact h4))).trans g2, g3⟩
  · have h := ok.sl i
    have fr := h5 i
    revert h fr
    cases gt Γ i with
    | un => exact fun h _ => h
    | im d => exact fun ⟨v, h1, h2⟩ _ => ⟨v, h1, h2.mono sz⟩
    | own p o => exact fun ⟨b, h1, h2, h3, h4⟩ fr => ⟨b, h1, h2.mono sz rfl, (upd_ne (fun e : b = a => fr p o rfl (by rw [← e]; exact h1))).trans h3, h4⟩
/-- a slot's own thing, taken out of its slot -/
theorem OkS.take (ok : OkS K c Γ Z σ H) {i : Nat} {o : Oc} (h : gt Γ i = .own false o) : ∃ v, σ[i]? = some (some v) ∧ OwnV K c (st Γ i .un) Z σ H v o := by
  have hs := ok.sl i
  rw [h] at hs
  obtain ⟨a, h1, h2, h3, h4, h5⟩ := hs
  refine ⟨_, h1, a, rfl, h2, h3, by simpa using h5, fun j p u e1 e2 => ?_⟩
  have nj : j ≠ i := fun e => by
    subst e
    by_cases hl : j < Γ.length
    · rw [gt_st_same hl] at e1; cases e1
    · rw [gt_out (by rw [st_length]; omega)] at e1; cases e1
  rw [gt_st_ne nj] at e1
  exact nj (ok.ne j i a p u false o e1 h e2 h1)
/-- what one owns is written -/
theorem OkS.write (ok : OkS K c Γ Z σ H) {i : Nat} {p : Bool} {o o' : Oc} {a : Addr} {ob : HO} (h : gt Γ i = .own p o) (ha : σ[i]? = some (some (.ref a))) (hn : OcOk K Z (upd H a ob) a o') :
    OkS K c (st Γ i (.own p o')) Z σ (upd H a ob) := by
  have hs := ok.sl i
  rw [h] at hs
  obtain ⟨b, h1, h2, h3, h4, h5⟩ := hs
  rw [ha] at h1; cases h1
  have hl : i < Γ.length := by
    rcases Nat.lt_or_ge i Γ.length with q | q
    · exact q
    · rw [gt_out q] at h; cases h
  refine ⟨fun b u e => ?_, fun b f => ?_, ok.gz, fun b hb => ?_, fun j => ?_, fun j k b p' o1 q u g1 g2 g3 g4 => ?_, by rw [st_length]; exact ok.len⟩
  · rw [upd_ne (ne_of_none e h3)]; exact ok.sub b u e
  · obtain ⟨g1, g2, g3⟩ := ok.fr b f
    exact ⟨(upd_ne (fun e : b = a => h4 (by rw [← e]; exact f))).trans g1, g2, g3⟩
  · by_cases q : b = a
    · subst q; rw [upd_same]; exact fun z => nomatch z
    · rw [upd_ne q]; exact ok.al b hb
  · by_cases e : j = i
    · subst e
      rw [gt_st_same hl]
      exact ⟨a, ha, hn, h3, h4, h5⟩
    · rw [gt_st_ne e]
      have hj := ok.sl j
      have ne := ok.ne i j
      revert hj ne
      cases gt Γ j with
      | un => exact fun h _ => h
      | im d => exact fun h _ => h
      | own p' o1 => exact fun ⟨b, g1, g2, g3⟩ ne => ⟨b, g1, g2.mono Sub.refl (upd_ne fun q => e (ne a p o p' o1 h rfl ha (q ▸ g1)).symm), g3⟩
  · by_cases ej : j = i <;> by_cases ek : k = i
    · rw [ej, ek]
    · subst ej
      rw [gt_st_ne ek] at g2
      exact ok.ne j k b p o q u h g2 g3 g4
    · subst ek
      rw [gt_st_ne ej] at g1
      exact ok.ne j k b p' o1 p o g1 h g3 g4
    · rw [gt_st_ne ej] at g1
      rw [gt_st_ne ek] at g2
      exact ok.ne j k b p' o1 q u g1 g2 g3 g4
end
end DL

namespace DL
open PySem PySem.Spec L2

/-! ### judgements over data -/
abbrev DT := Env → (D → Env → Prop) → Prop
abbrev Pr := Env → Prop
/-- growth: what stood stands -/
structure Grow (Z H Z' H' : Hp) : Prop where
  sub : Sub Z' H'
  gz : Sub Z Z'
  kh : ∀ a, H a ≠ none → H' a = H a
  kz : ∀ a, H a ≠ none → Z' a = Z a
theorem Grow.refl {Z H : Hp} (h : Sub Z H) : Grow Z H Z H := ⟨h, Sub.refl, fun _ _ => rfl, fun _ _ => rfl⟩
theorem Grow.trans {Z H Z1 H1 Z2 H2 : Hp} (g : Grow Z H Z1 H1) (h : Grow Z1 H1 Z2 H2) : Grow Z H Z2 H2 where
  sub := h.sub
  gz := g.gz.trans h.gz
  kh := fun a n => (h.kh a (by rw [g.kh a n]; exact n)).trans (g.kh a n)
  kz := fun a n => (h.kz a (by rw [g.kh a n]; exact n)).trans (g.kz a n)
theorem Grow.alloc {Z H : Hp} {p : Addr} {o : HO} (s : Sub Z H) (h : H p = none) : Grow Z H Z (upd H p o) :=
  ⟨s.trans (Sub.upd h), Sub.refl, fun a n => upd_ne (fun e : a = p => n (by rw [e]; exact h)), fun _ _ => rfl⟩
theorem Grow.allocZ {Z H : Hp} {p : Addr} {o : HO} (s : Sub Z H) (h : H p = none) : Grow Z H (upd Z p o) (upd H p o) where
  sub := fun a u e => by
    by_cases q : a = p
    · subst q; rw [upd_same] at e ⊢; exact e
    · rw [upd_ne q] at e ⊢; exact s a u e
  gz := Sub.upd (Sub.none s h)
  kh := fun a n => upd_ne (fun e : a = p => n (by rw [e]; exact h))
  kz := fun a n => upd_ne (fun e : a = p => n (by rw [e]; exact h))
theorem OkS.grows {K : PySem.W.Frag} {c : FC} {Γ : Env} {Z Z' : Hp} {σ : St} {H H' : Hp} (ok : OkS K c Γ Z σ H) (g : Grow Z H Z' H') : OkS K c Γ Z' σ H' := ok.grow g.sub g.gz g.kh g.kz

def upE (K : PySem.W.Frag) (t : DT) : TE := fun σ H Q => ∃ c Γ Z k, OkS K c Γ Z σ H ∧ t Γ k ∧ ∀ d Γ' v Z' H', k d Γ' → OkS K c Γ' Z' σ H' → Sub Z Z' → Rep K Z' v d → Q v H'
def upP (K : PySem.W.Frag) (p : Pr) (f : Env → D) : TE := fun σ H Q => ∃ c Γ Z, OkS K c Γ Z σ H ∧ p Γ ∧ ∀ v Z' H', OkS K c Γ Z' σ H' → Sub Z Z' → Rep K Z' v (f Γ) → Q v H'
def upQ (K : PySem.W.Frag) (p : Pr) (g : Env → Bool) : TT := fun σ H Q => ∃ c Γ Z, OkS K c Γ Z σ H ∧ p Γ ∧ ∀ Z' H', OkS K c Γ Z' σ H' → Sub Z Z' → Q (g Γ) H'
abbrev DTt := Env → (Bool → Env → Prop) → Prop
def upT (K : PySem.W.Frag) (t : DTt) : TT := fun σ H Q => ∃ c Γ Z k, OkS K c Γ Z σ H ∧ t Γ k ∧ ∀ b Γ' Z' H', k b Γ' → OkS K c Γ' Z' σ H' → Sub Z Z' → Q b H'
/-- a new thing of one's own as a value -/
abbrev DTo := Env → (Oc → Env → Prop) → Prop
def upO (K : PySem.W.Frag) (t : DTo) : TE := fun σ H Q => ∃ c Γ Z k, OkS K c Γ Z σ H ∧ t Γ k ∧ ∀ o Γ' v Z' H', k o Γ' → OkS K c Γ' Z' σ H' → Sub Z Z' → OwnV K c Γ' Z' σ H' v o → Q v H'
def upL (K : PySem.W.Frag) (p : Pr) (f : Env → List D) : TE := fun σ H Q => ∃ c Γ Z, OkS K c Γ Z σ H ∧ p Γ ∧ ∀ v Z' H', OkS K c Γ Z' σ H' → Sub Z Z' → OwnV K c Γ Z' σ H' v (.lst (f Γ)) → Q v H'

theorem PE.weak {X : Cx} {e : Expr} {t t' : TE} (h : PE X e t) (w : ∀ σ H Q, t' σ H Q → t σ H Q) : PE X e t' := ⟨fun pins s σ H Q I q => h.run pins s σ H Q I (w _ _ _ q)⟩
theorem PT.weak {X : Cx} {e : Expr} {t t' : TT} (h : PT X e t) (w : ∀ σ H Q, t' σ H Q → t σ H Q) : PT X e t' := ⟨fun pins s σ H Q I q => h.run pins s σ H Q I (w _ _ _ q)⟩
theorem PW.weak {X : Cx} {e : Expr} {t t' : TT} (h : PW X e t) (w : ∀ σ H Q, t' σ H Q → t σ H Q) : PW X e t' := ⟨fun wh pins s σ H Q I q => h.run wh pins s σ H Q I (w _ _ _ q)⟩
theorem PA.weak {X : Cx} {es : List Expr} {t t' : TA} (h : PA X es t) (w : ∀ σ H Q, t' σ H Q → t σ H Q) : PA X es t' := ⟨fun pos pins s σ H Q I q => h.run pos pins s σ H Q I (w _ _ _ q)⟩
theorem PS.weak {X : Cx} {e : Stmt} {t t' : TS} (h : PS X e t) (w : ∀ E σ H, t' E σ H → t E σ H) : PS X e t' := ⟨fun pins s σ H Q I q => h.run pins s σ H Q I (w _ _ _ q)⟩
theorem PSs.weak {X : Cx} {e : List Stmt} {t t' : TS} (h : PSs X e t) (w : ∀ E σ H, t' E σ H → t E σ H) : PSs X e t' := ⟨fun pins s σ H Q I q => h.run pins s σ H Q I (w _ _ _ q)⟩
theorem PG.weak {X : Cx} {e : Expr} {t t' : TG} (h : PG X e t) (w : ∀ v σ H Q, t' v σ H Q → t v σ H Q) : PG X e t' := ⟨fun pins s σ H v u Q I r q => h.run pins s σ H v u Q I r (w _ _ _ _ q)⟩

abbrev DE (X : Cx) (e : Expr) (t : DT) : Prop := PE X e (upE X.K t)
abbrev DP (X : Cx) (e : Expr) (p : Pr) (f : Env → D) : Prop := PE X e (upP X.K p f)
abbrev DQ (X : Cx) (e : Expr) (p : Pr) (g : Env → Bool) : Prop := PT X e (upQ X.K p g)
abbrev DU (X : Cx) (e : Expr) (t : DTt) : Prop := PT X e (upT X.K t)
abbrev DO (X : Cx) (e : Expr) (t : DTo) : Prop := PE X e (upO X.K t)
abbrev DPL (X : Cx) (e : Expr) (p : Pr) (f : Env → List D) : Prop := PE X e (upL X.K p f)

def D.b : D → Bool
  | .bl b => b
  | _ => false
def D.isB : D → Prop
  | .bl _ => True
  | _ => False
def D.i : D → Int
  | .int i => i
  | _ => 0
def D.isI : D → Prop
  | .int _ => True
  | _ => False
theorem D.isB.of {d : D} (h : d.isB) : d = .bl d.b := by cases d <;> first | rfl | exact h.elim
theorem Rep.bl_of {K : PySem.W.Frag} {Z : Hp} {v : V} {b : Bool} (h : Rep K Z v (.bl b)) : v = .bl b := by cases h; rfl
theorem Rep.int_of {K : PySem.W.Frag} {Z : Hp} {v : V} {i : Int} (h : Rep K Z v (.int i)) : v = .int i := by cases h; rfl
theorem Rep.str_of {K : PySem.W.Frag} {Z : Hp} {v : V} {i : Str} (h : Rep K Z v (.str i)) : v = .str i := by cases h; rfl
theorem Rep.non_of {K : PySem.W.Frag} {Z : Hp} {v : V} (h : Rep K Z v .non) : v = .non := by cases h; rfl

section
variable {X : Cx} {a b c e : Expr} {pos : Pos} {pa pb pc p : Pr} {fa fb fc f : Env → D} {t ta tb : DT}
/-! #### lifts -/
theorem de_p (h : DP X e p f) : DE X e (fun Γ k => p Γ ∧ k (f Γ) Γ) := PE.weak h fun σ H Q ⟨c, Γ, Z, k, ok, ⟨hp, hk⟩, hq⟩ =>
  ⟨c, Γ, Z, ok, hp, fun v Z' H' ok' g r => hq _ _ v Z' H' hk ok' g r⟩
theorem du_q {g : Env → Bool} (h : DQ X e p g) : DU X e (fun Γ k => p Γ ∧ k (g Γ) Γ) := PT.weak h fun σ H Q ⟨c, Γ, Z, k, ok, ⟨hp, hk⟩, hq⟩ =>
  ⟨c, Γ, Z, ok, hp, fun Z' H' ok' g => hq _ _ Z' H' hk ok' g⟩
theorem do_l {f : Env → List D} (h : DPL X e p f) : DO X e (fun Γ k => p Γ ∧ k (.lst (f Γ)) Γ) := PE.weak h fun σ H Q ⟨c, Γ, Z, k, ok, ⟨hp, hk⟩, hq⟩ =>
  ⟨c, Γ, Z, ok, hp, fun v Z' H' ok' g r => hq _ _ v Z' H' hk ok' g r⟩
/-- a new list, frozen -/
theorem dp_l {f : Env → List D} (h : DPL X e p f) : DP X e p (fun Γ => .lst (f Γ)) := PE.weak h fun σ H Q ⟨c, Γ, Z, ok, hp, hq⟩ =>
  ⟨c, Γ, Z, ok, hp, fun v Z' H' ok' g r => by
    obtain ⟨Z2, ok2, s2, r2⟩ := ok'.freeze r
    exact hq v Z2 H' ok2 (g.trans s2) r2⟩
def frzK (k : D → Env → Prop) : Oc → Env → Prop
  | .lst ds, Γ => k (.lst ds) Γ
  | .ins C fs, Γ => k (.ins C fs) Γ
  | .dT _, _ => False
theorem de_o {t : DTo} (h : DO X e t) : DE X e (fun Γ k => t Γ (frzK k)) := PE.weak h fun σ H Q ⟨c, Γ, Z, k, ok, hk, hq⟩ =>
  ⟨c, Γ, Z, _, ok, hk, fun o Γ' v Z' H' ko ok' g r => by
    cases o with
    | lst ds =>
      obtain ⟨Z2, ok2, s2, r2⟩ := ok'.freeze r
      exact hq _ _ v Z2 H' ko ok2 (g.trans s2) r2
    | ins C fs =>
      obtain ⟨Z2, ok2, s2, r2⟩ := ok'.freezeI r
      exact hq _ _ v Z2 H' ko ok2 (g.trans s2) r2
    | dT kvs => exact False.elim ko⟩

/-! #### constants, names -/
theorem dp_of_c {v : V} {d : D} (h : PE X e (tC v)) (r : ∀ Z, Rep X.K Z v d) : DP X e (fun _ => True) (fun _ => d) := PE.weak h fun σ H Q ⟨c, Γ, Z, ok, _, hq⟩ => hq v Z H ok Sub.refl (r Z)
theorem dp_int {i : Int} {j : Nat} : DP X (.Constant (.int i) j pos) (fun _ => True) (fun _ => .int i) := dp_of_c pe_int fun _ => .int i
theorem dp_bl {i : Bool} {j : Nat} : DP X (.Constant (.bool i) j pos) (fun _ => True) (fun _ => .bl i) := dp_of_c pe_bl fun _ => .bl i
theorem dp_str {i : Str} {j : Nat} : DP X (.Constant (.str i) j pos) (fun _ => True) (fun _ => .str i) := dp_of_c pe_str fun _ => .str i
theorem dp_non {j : Nat} : DP X (.Constant .none j pos) (fun _ => True) (fun _ => .non) := dp_of_c pe_non fun _ => .non
theorem dp_glob {x : Str} {u : Value} {v : V} {d : D} (hg : Gl X x) (hm : X.mg x = some u) (r : RelV v u) (q : ∀ Z, Rep X.K Z v d) (hdb : (x == ("__debug__" : Str)) = false := by decide) : DP X (.Name x pos) (fun _ => True) (fun _ => d) := dp_of_c (pe_glob hg hm r hdb) q
def Sl.isIm : Sl → Prop
  | .im _ => True
  | _ => False
def Sl.d : Sl → D
  | .im d => d
  | _ => .non
theorem OkS.im {K : PySem.W.Frag} {c : FC} {Γ : Env} {Z : Hp} {σ : St} {H : Hp} (ok : OkS K c Γ Z σ H) {i : Nat} (h : (gt Γ i).isIm) : ∃ v, σ[i]? = some (some v) ∧ Rep K Z v (gt Γ i).d := by
  have hs := ok.sl i
  revert h hs
  cases gt Γ i with
  | un => exact fun h => h.elim
  | im d => exact fun _ h => h
  | own p o => exact fun h => h.elim
theorem dp_v {i : Nat} (h : PE X e (tVar i)) : DP X e (fun Γ => (gt Γ i).isIm) (fun Γ => (gt Γ i).d) := PE.weak h fun σ H Q ⟨c, Γ, Z, ok, hp, hq⟩ => by
  obtain ⟨v, h1, h2⟩ := ok.im hp
  exact ⟨v, h1, hq v Z H ok Sub.refl h2⟩
theorem dp_var (i : Nat) {x : Str} {pos : Pos} (hN : X.N[i]? = some x := by rfl) (hv : Vis X.env.scope x := by first | exact Or.inl rfl | exact Or.inr (Or.inl rfl) | exact Or.inr (Or.inr rfl)) (hd : (x == ("__debug__" : Str)) = false := by decide)
    (hcd : (x == ("__classdict__" : Str)) = false := by decide) : DP X (.Name x pos) (fun Γ => (gt Γ i).isIm) (fun Γ => (gt Γ i).d) := dp_v (pe_var hN hv hd hcd)

/-! #### operators -/
/-- an operation of two values, by data -/
def rD (K : PySem.W.Frag) (C : D → D → Prop) (g : D → D → D) : R2 := fun x y H Q => ∃ Z dx dy, Sub Z H ∧ Rep K Z x dx ∧ Rep K Z y dy ∧ C dx dy ∧ ∀ v Z' H', Grow Z H Z' H' → Rep K Z' v (g dx dy) → Q v H'
abbrev OpD (X : Cx) (f : Value → Value → Sem Value) (C : D → D → Prop) (g : D → D → D) : Prop := OpR X f (rD X.K C g)
theorem OpR.weak {f : Value → Value → Sem Value} {r r' : R2} (h : OpR X f r) (w : ∀ x y H Q, r' x y H Q → r x y H Q) : OpR X f r' := fun pins s σ H x y v u Q I rx ry q => h pins s σ H x y v u Q I rx ry (w _ _ _ _ q)
theorem OpR.or {f : Value → Value → Sem Value} {r r' : R2} (h : OpR X f r) (h' : OpR X f r') : OpR X f (fun x y H Q => r x y H Q ∨ r' x y H Q) := fun pins s σ H x y v u Q I rx ry q =>
  q.elim (h pins s σ H x y v u Q I rx ry) (h' pins s σ H x y v u Q I rx ry)
theorem up_op {C : D → D → Prop} {g : D → D → D} {K : PySem.W.Frag} {σ : St} {H : Hp} {Q : VK} (h : upP K (fun Γ => pa Γ ∧ pb Γ ∧ C (fa Γ) (fb Γ)) (fun Γ => g (fa Γ) (fb Γ)) σ H Q) :
    tOp (rD K C g) (upP K pa fa) (upP K pb fb) σ H Q := by
  obtain ⟨c, Γ, Z, ok, ⟨ha, hb, hc⟩, hq⟩ := h
  refine ⟨c, Γ, Z, ok, ha, fun x Z1 H1 ok1 g1 r1 => ⟨c, Γ, Z1, ok1, hb, fun y Z2 H2 ok2 g2 r2 => ⟨Z2, _, _, ok2.sub, r1.mono g2, r2, hc, fun v Z3 H3 g3 r3 => ?_⟩⟩⟩
  exact hq v Z3 H3 (ok2.grows g3) ((g1.trans g2).trans g3.gz) r3
theorem dp_op {op : Operator} {C : D → D → Prop} {g : D → D → D} (ho : OpD X (binaryOp op) C g) (ha : DP X a pa fa) (hb : DP X b pb fb) :
    DP X (.BinOp a op b pos) (fun Γ => pa Γ ∧ pb Γ ∧ C (fa Γ) (fb Γ)) (fun Γ => g (fa Γ) (fb Γ)) := PE.weak (pe_op ho ha hb) fun _ _ _ h => up_op h
theorem dp_cmp {op : CmpOp} {C : D → D → Prop} {g : D → D → D} (ho : OpD X (compareOp op) C g) (ha : DP X a pa fa) (hb : DP X b pb fb) (hm : behindInMarks op b = false := by first | exact nomark _ | rfl) :
    DP X (.Compare a [op] [b] pos) (fun Γ => pa Γ ∧ pb Γ ∧ C (fa Γ) (fb Γ)) (fun Γ => g (fa Γ) (fb Γ)) := PE.weak (pe_cmpR ho ha hb hm) fun _ _ _ h => up_op h
theorem de_op {op : Operator} {C : D → D → Prop} {g : D → D → D} (ho : OpD X (binaryOp op) C g) (ha : DE X a ta) (hb : DE X b tb) :
    DE X (.BinOp a op b pos) (fun Γ k => ta Γ fun x Γ1 => tb Γ1 fun y Γ2 => C x y ∧ k (g x y) Γ2) := PE.weak (pe_op ho ha hb) fun σ H Q h => by
  obtain ⟨c, Γ, Z, k, ok, ht, hq⟩ := h
  refine ⟨c, Γ, Z, _, ok, ht, fun x Γ1 v1 Z1 H1 h1 ok1 g1 r1 => ⟨c, Γ1, Z1, _, ok1, h1, fun y Γ2 v2 Z2 H2 h2 ok2 g2 r2 => ⟨Z2, _, _, ok2.sub, r1.mono g2, r2, h2.1, fun v Z3 H3 g3 r3 => ?_⟩⟩⟩
  exact hq _ _ v Z3 H3 h2.2 (ok2.grows g3) ((g1.trans g2).trans g3.gz) r3
theorem de_cmp {op : CmpOp} {C : D → D → Prop} {g : D → D → D} (ho : OpD X (compareOp op) C g) (ha : DE X a ta) (hb : DE X b tb) (hm : behindInMarks op b = false := by first | exact nomark _ | rfl) :
    DE X (.Compare a [op] [b] pos) (fun Γ k => ta Γ fun x Γ1 => tb Γ1 fun y Γ2 => C x y ∧ k (g x y) Γ2) := PE.weak (pe_cmpR ho ha hb hm) fun σ H Q h => by
  obtain ⟨c, Γ, Z, k, ok, ht, hq⟩ := h
  refine ⟨c, Γ, Z, _, ok, ht, fun x Γ1 v1 Z1 H1 h1 ok1 g1 r1 => ⟨c, Γ1, Z1, _, ok1, h1, fun y Γ2 v2 Z2 H2 h2 ok2 g2 r2 => ⟨Z2, _, _, ok2.sub, r1.mono g2, r2, h2.1, fun v Z3 H3 g3 r3 => ?_⟩⟩⟩
  exact hq _ _ v Z3 H3 h2.2 (ok2.grows g3) ((g1.trans g2).trans g3.gz) r3
theorem dp_chain {op op' : CmpOp} {C C' : D → D → Prop} {g g' : D → D → D} (ho : OpD X (compareOp op) C g) (ho' : OpD X (compareOp op') C' g') (ha : DP X a pa fa) (hb : DP X b pb fb) (hc : DP X c pc fc)
    (hm : lastMarks [op, op'] [b, c] = false := by with_unfolding_all rfl) :
    DP X (.Compare a [op, op'] [b, c] pos) (fun Γ => pa Γ ∧ pb Γ ∧ C (fa Γ) (fb Γ) ∧ (g (fa Γ) (fb Γ)).isB ∧ ((g (fa Γ) (fb Γ)).b = true → pc Γ ∧ C' (fb Γ) (fc Γ))) (fun Γ => if (g (fa Γ) (fb Γ)).b = true then g' (fb Γ) (fc Γ) else .bl false) := PE.weak (pe_chain ho ho' ha hb hc hm) fun σ H Q h => by
  obtain ⟨c, Γ, Z, ok, ⟨ha, hb, hc, hB, hr⟩, hq⟩ := h
  dsimp only at hq
  refine ⟨c, Γ, Z, ok, ha, fun x Z1 H1 ok1 g1 r1 => ⟨c, Γ, Z1, ok1, hb, fun y Z2 H2 ok2 g2 r2 => ⟨Z2, _, _, ok2.sub, r1.mono g2, r2, hc, fun v Z3 H3 g3 r3 => ?_⟩⟩⟩
  have ok3 := ok2.grows g3
  have g13 := (g1.trans g2).trans g3.gz
  rw [hB.of] at r3
  refine ⟨_, r3.bl_of, ?_⟩
  by_cases q : (g (fa Γ) (fb Γ)).b = true
  · rw [if_pos q]
    obtain ⟨q1, q2⟩ := hr q
    refine ⟨c, Γ, Z3, ok3, q1, fun z Z4 H4 ok4 g4 r4 => ⟨Z4, _, _, ok4.sub, r2.mono (g3.gz.trans g4), r4, q2, fun v' Z5 H5 g5 r5 => ?_⟩⟩
    exact hq v' Z5 H5 (ok4.grows g5) ((g13.trans g4).trans g5.gz) (by rw [if_pos q]; exact r5)
  · rw [if_neg q]
    exact hq _ Z3 H3 ok3 g13 (by rw [if_neg q]; exact .bl false)
def UnD (X : Cx) (f : Value → Sem Value) (C : D → Prop) (g : D → D) : Prop := UnR X f fun x H Q => ∃ Z dx, Sub Z H ∧ Rep X.K Z x dx ∧ C dx ∧ ∀ v Z' H', Grow Z H Z' H' → Rep X.K Z' v (g dx) → Q v H'
theorem dp_un {op : UnaryOp} {C : D → Prop} {g : D → D} (ho : UnD X (unaryOp op) C g) (ha : DP X a pa fa) : DP X (.UnaryOp op a pos) (fun Γ => pa Γ ∧ C (fa Γ)) (fun Γ => g (fa Γ)) := PE.weak (pe_un ho ha) fun σ H Q h => by
  obtain ⟨c, Γ, Z, ok, ⟨ha, hc⟩, hq⟩ := h
  exact ⟨c, Γ, Z, ok, ha, fun x Z1 H1 ok1 g1 r1 => ⟨Z1, _, ok1.sub, r1, hc, fun v Z2 H2 g2 r2 => hq v Z2 H2 (ok1.grows g2) (g1.trans g2.gz) r2⟩⟩
theorem de_un {op : UnaryOp} {C : D → Prop} {g : D → D} (ho : UnD X (unaryOp op) C g) (ha : DE X a ta) : DE X (.UnaryOp op a pos) (fun Γ k => ta Γ fun x Γ1 => C x ∧ k (g x) Γ1) := PE.weak (pe_un ho ha) fun σ H Q h => by
  obtain ⟨c, Γ, Z, k, ok, ht, hq⟩ := h
  exact ⟨c, Γ, Z, _, ok, ht, fun x Γ1 v Z1 H1 h1 ok1 g1 r1 => ⟨Z1, _, ok1.sub, r1, h1.1, fun v Z2 H2 g2 r2 => hq _ _ v Z2 H2 h1.2 (ok1.grows g2) (g1.trans g2.gz) r2⟩⟩

/-! #### and, or, not as values -/
def dAnd : D → D → D
  | .bl c, .bl d => .bl (c && d)
  | .bl false, _ => .bl false
  | .bl true, y => y
  | _, _ => .non
def dOr : D → D → D
  | .bl c, .bl d => .bl (c || d)
  | .bl true, _ => .bl true
  | .bl false, y => y
  | _, _ => .non
theorem dAnd_t {y : D} : dAnd (.bl true) y = y := by cases y <;> rfl
theorem dAnd_f {y : D} : dAnd (.bl false) y = .bl false := by cases y <;> rfl
theorem dOr_t {y : D} : dOr (.bl true) y = .bl true := by cases y <;> rfl
theorem dOr_f {y : D} : dOr (.bl false) y = y := by cases y <;> rfl
theorem dp_one {op : BoolOp} (h : DP X a pa fa) : DP X (.BoolOp op [a] pos) pa fa := pe_one h
theorem dp_and {rest : List Expr} (ha : DP X a pa fa) (hb : DP X (.BoolOp .And (b :: rest) pos) pb fb) : DP X (.BoolOp .And (a :: b :: rest) pos) (fun Γ => pa Γ ∧ (fa Γ).isB ∧ ((fa Γ).b = true → pb Γ)) (fun Γ => dAnd (fa Γ) (fb Γ)) := PE.weak (pe_and ha hb) fun σ H Q h => by
  obtain ⟨c, Γ, Z, ok, ⟨ha, hB, hb⟩, hq⟩ := h
  dsimp only at hq
  refine ⟨c, Γ, Z, ok, ha, fun x Z1 H1 ok1 g1 r1 => ?_⟩
  rw [hB.of] at r1 hq
  refine ⟨_, r1.bl_of, ?_⟩
  revert hb hq
  cases (fa Γ).b with
  | true => exact fun hq hb => iteT ⟨c, Γ, Z1, ok1, hb rfl, fun y Z2 H2 ok2 g2 r2 => hq y Z2 H2 ok2 (g1.trans g2) (by rw [dAnd_t]; exact r2)⟩
  | false => exact fun hq hb => iteF (hq _ Z1 H1 ok1 g1 (by rw [dAnd_f]; exact .bl false))
theorem dp_or {rest : List Expr} (ha : DP X a pa fa) (hb : DP X (.BoolOp .Or (b :: rest) pos) pb fb) : DP X (.BoolOp .Or (a :: b :: rest) pos) (fun Γ => pa Γ ∧ (fa Γ).isB ∧ ((fa Γ).b = false → pb Γ)) (fun Γ => dOr (fa Γ) (fb Γ)) := PE.weak (pe_or ha hb) fun σ H Q h => by
  obtain ⟨c, Γ, Z, ok, ⟨ha, hB, hb⟩, hq⟩ := h
  dsimp only at hq
  refine ⟨c, Γ, Z, ok, ha, fun x Z1 H1 ok1 g1 r1 => ?_⟩
  rw [hB.of] at r1 hq
  refine ⟨_, r1.bl_of, ?_⟩
  revert hb hq
  cases (fa Γ).b with
  | true => exact fun hq hb => iteT (hq _ Z1 H1 ok1 g1 (by rw [dOr_t]; exact .bl true))
  | false => exact fun hq hb => iteF ⟨c, Γ, Z1, ok1, hb rfl, fun y Z2 H2 ok2 g2 r2 => hq y Z2 H2 ok2 (g1.trans g2) (by rw [dOr_f]; exact r2)⟩
def dNot : D → D
  | .bl c => .bl (!c)
  | _ => .non
theorem dp_not (ha : DP X a pa fa) : DP X (.UnaryOp .Not a pos) (fun Γ => pa Γ ∧ (fa Γ).isB) (fun Γ => dNot (fa Γ)) := PE.weak (pe_not ha) fun σ H Q h => by
  obtain ⟨c, Γ, Z, ok, ⟨ha, hB⟩, hq⟩ := h
  dsimp only at hq
  refine ⟨c, Γ, Z, ok, ha, fun x Z1 H1 ok1 g1 r1 => ?_⟩
  rw [hB.of] at r1 hq
  exact ⟨_, r1.bl_of, hq _ Z1 H1 ok1 g1 (.bl _)⟩
theorem dp_if {pq : Pr} {gq : Env → Bool} {c : Expr} (hc : DQ X c pq gq) (ha : DP X a pa fa) (hb : DP X b pb fb) :
    DP X (.IfExp c a b pos) (fun Γ => pq Γ ∧ (gq Γ = true → pa Γ) ∧ (gq Γ = false → pb Γ)) (fun Γ => if gq Γ = true then fa Γ else fb Γ) := PE.weak (pe_ifExp hc ha hb) fun σ H Q h => by
  obtain ⟨c, Γ, Z, ok, ⟨hp, ha, hb⟩, hq⟩ := h
  dsimp only at hq
  refine ⟨c, Γ, Z, ok, hp, fun Z1 H1 ok1 g1 => ?_⟩
  revert ha hb hq
  cases gq Γ with
  | true => exact fun hq ha hb => iteT ⟨c, Γ, Z1, ok1, ha rfl, fun y Z2 H2 ok2 g2 r2 => hq y Z2 H2 ok2 (g1.trans g2) (by rw [if_pos rfl]; exact r2)⟩
  | false => exact fun hq ha hb => iteF ⟨c, Γ, Z1, ok1, hb rfl, fun y Z2 H2 ok2 g2 r2 => hq y Z2 H2 ok2 (g1.trans g2) (by rw [if_neg Bool.false_ne_true]; exact r2)⟩
theorem de_if {tq : DTt} {c : Expr} (hc : DU X c tq) (ha : DE X a ta) (hb : DE X b tb) :
    DE X (.IfExp c a b pos) (fun Γ k => tq Γ fun q Γ1 => (q = true → ta Γ1 k) ∧ (q = false → tb Γ1 k)) := PE.weak (pe_ifExp hc ha hb) fun σ H Q h => by
  obtain ⟨c, Γ, Z, k, ok, ht, hq⟩ := h
  refine ⟨c, Γ, Z, _, ok, ht, fun q Γ1 Z1 H1 h1 ok1 g1 => ?_⟩
  cases q with
  | true => exact iteT ⟨c, Γ1, Z1, k, ok1, h1.1 rfl, fun d Γ2 y Z2 H2 k2 ok2 g2 r2 => hq d Γ2 y Z2 H2 k2 ok2 (g1.trans g2) r2⟩
  | false => exact iteF ⟨c, Γ1, Z1, k, ok1, h1.2 rfl, fun d Γ2 y Z2 H2 k2 ok2 g2 r2 => hq d Γ2 y Z2 H2 k2 ok2 (g1.trans g2) r2⟩

/-! #### tests -/
theorem dq_val (h : DP X e p f) (he : ∀ whole, isTrue e X.env whole = (do let v ← whole; standAt e.pos; holding [v] (truthy v)) := by intro _; rfl) : DQ X e (fun Γ => p Γ ∧ (f Γ).isB) (fun Γ => (f Γ).b) := PT.weak (pt_val h he) fun σ H Q h => by
  obtain ⟨c, Γ, Z, ok, ⟨hp, hB⟩, hq⟩ := h
  dsimp only at hq
  refine ⟨c, Γ, Z, ok, hp, fun v Z1 H1 ok1 g1 r1 => ?_⟩
  rw [hB.of] at r1
  exact ⟨_, r1.bl_of, hq Z1 H1 ok1 g1⟩
theorem du_val (h : DE X e t) (he : ∀ whole, isTrue e X.env whole = (do let v ← whole; standAt e.pos; holding [v] (truthy v)) := by intro _; rfl) : DU X e (fun Γ k => t Γ fun d Γ1 => d.isB ∧ k d.b Γ1) := PT.weak (pt_val h he) fun σ H Q h => by
  obtain ⟨c, Γ, Z, k, ok, ht, hq⟩ := h
  refine ⟨c, Γ, Z, _, ok, ht, fun d Γ1 v Z1 H1 h1 ok1 g1 r1 => ?_⟩
  rw [h1.1.of] at r1
  exact ⟨_, r1.bl_of, hq _ _ Z1 H1 h1.2 ok1 g1⟩
theorem dq_cmp {op : CmpOp} {C : D → D → Prop} {g : D → D → D} (ho : OpD X (compareOp op) C g) (ha : DP X a pa fa) (hb : DP X b pb fb) (hm : behindInMarks op b = false := by first | exact nomark _ | rfl) :
    DQ X (.Compare a [op] [b] pos) (fun Γ => pa Γ ∧ pb Γ ∧ C (fa Γ) (fb Γ) ∧ (g (fa Γ) (fb Γ)).isB) (fun Γ => (g (fa Γ) (fb Γ)).b) := PT.weak (pt_cmpR ho ha hb hm) fun σ H Q h => by
  obtain ⟨c, Γ, Z, ok, ⟨ha, hb, hc, hB⟩, hq⟩ := h
  dsimp only at hq
  refine up_op ⟨c, Γ, Z, ok, ⟨ha, hb, hc⟩, fun v Z1 H1 ok1 g1 r1 => ?_⟩
  dsimp only at r1
  rw [hB.of] at r1
  exact ⟨_, r1.bl_of, hq Z1 H1 ok1 g1⟩
theorem du_cmp {op : CmpOp} {C : D → D → Prop} {g : D → D → D} (ho : OpD X (compareOp op) C g) (ha : DE X a ta) (hb : DE X b tb) (hm : behindInMarks op b = false := by first | exact nomark _ | rfl) :
    DU X (.Compare a [op] [b] pos) (fun Γ k => ta Γ fun x Γ1 => tb Γ1 fun y Γ2 => C x y ∧ (g x y).isB ∧ k (g x y).b Γ2) := PT.weak (pt_cmpR ho ha hb hm) fun σ H Q h => by
  obtain ⟨c, Γ, Z, k, ok, ht, hq⟩ := h
  refine ⟨c, Γ, Z, _, ok, ht, fun x Γ1 v1 Z1 H1 h1 ok1 g1 r1 => ⟨c, Γ1, Z1, _, ok1, h1, fun y Γ2 v2 Z2 H2 h2 ok2 g2 r2 => ⟨Z2, _, _, ok2.sub, r1.mono g2, r2, h2.1, fun v Z3 H3 g3 r3 => ?_⟩⟩⟩
  rw [h2.2.1.of] at r3
  exact ⟨_, r3.bl_of, hq _ _ Z3 H3 h2.2.2 (ok2.grows g3) ((g1.trans g2).trans g3.gz)⟩
abbrev DW (X : Cx) (e : Expr) (p : Pr) (g : Env → Bool) : Prop := PW X e (upQ X.K p g)
abbrev DWu (X : Cx) (e : Expr) (t : DTt) : Prop := PW X e (upT X.K t)
section
variable {p q : Pr} {g h : Env → Bool} {rest : List Expr} {t u : DTt}
theorem dq_w (h : DW X e p g) : DQ X e p g := h.pt
theorem du_w (h : DWu X e t) : DU X e t := h.pt
theorem dw_and1 (ha : DQ X a p g) : DW X (.BoolOp .And [a] pos) p g := pw_and1 ha
theorem dw_or1 (ha : DQ X a p g) : DW X (.BoolOp .Or [a] pos) p g := pw_or1 ha
theorem dwu_and1 (ha : DU X a t) : DWu X (.BoolOp .And [a] pos) t := pw_and1 ha
theorem dwu_or1 (ha : DU X a t) : DWu X (.BoolOp .Or [a] pos) t := pw_or1 ha
theorem dw_and (ha : DQ X a p g) (hb : DW X (.BoolOp .And (b :: rest) pos) q h) : DW X (.BoolOp .And (a :: b :: rest) pos) (fun Γ => p Γ ∧ (g Γ = true → q Γ)) (fun Γ => g Γ && h Γ) := PW.weak (pw_and ha hb) fun σ H Q w => by
  obtain ⟨c, Γ, Z, ok, ⟨h1, h2⟩, hq⟩ := w
  dsimp only at hq
  refine ⟨c, Γ, Z, ok, h1, fun Z1 H1 ok1 g1 => ?_⟩
  revert h2 hq
  cases g Γ with
  | true => exact fun hq h2 => iteT ⟨c, Γ, Z1, ok1, h2 rfl, fun Z2 H2 ok2 g2 => hq Z2 H2 ok2 (g1.trans g2)⟩
  | false => exact fun hq h2 => iteF (hq Z1 H1 ok1 g1)
theorem dw_or (ha : DQ X a p g) (hb : DW X (.BoolOp .Or (b :: rest) pos) q h) : DW X (.BoolOp .Or (a :: b :: rest) pos) (fun Γ => p Γ ∧ (g Γ = false → q Γ)) (fun Γ => g Γ || h Γ) := PW.weak (pw_or ha hb) fun σ H Q w => by
  obtain ⟨c, Γ, Z, ok, ⟨h1, h2⟩, hq⟩ := w
  dsimp only at hq
  refine ⟨c, Γ, Z, ok, h1, fun Z1 H1 ok1 g1 => ?_⟩
  revert h2 hq
  cases g Γ with
  | true => exact fun hq h2 => iteT (hq Z1 H1 ok1 g1)
  | false => exact fun hq h2 => iteF ⟨c, Γ, Z1, ok1, h2 rfl, fun Z2 H2 ok2 g2 => hq Z2 H2 ok2 (g1.trans g2)⟩
theorem dwu_and (ha : DU X a t) (hb : DWu X (.BoolOp .And (b :: rest) pos) u) : DWu X (.BoolOp .And (a :: b :: rest) pos) (fun Γ k => t Γ fun c Γ1 => (c = true → u Γ1 k) ∧ (c = false → k false Γ1)) := PW.weak (pw_and ha hb) fun σ H Q w => by
  obtain ⟨c, Γ, Z, k, ok, ht, hq⟩ := w
  refine ⟨c, Γ, Z, _, ok, ht, fun x Γ1 Z1 H1 h1 ok1 g1 => ?_⟩
  cases x with
  | true => exact iteT ⟨c, Γ1, Z1, k, ok1, h1.1 rfl, fun d Γ2 Z2 H2 k2 ok2 g2 => hq d Γ2 Z2 H2 k2 ok2 (g1.trans g2)⟩
  | false => exact iteF (hq _ _ Z1 H1 (h1.2 rfl) ok1 g1)
theorem dwu_or (ha : DU X a t) (hb : DWu X (.BoolOp .Or (b :: rest) pos) u) : DWu X (.BoolOp .Or (a :: b :: rest) pos) (fun Γ k => t Γ fun c Γ1 => (c = false → u Γ1 k) ∧ (c = true → k true Γ1)) := PW.weak (pw_or ha hb) fun σ H Q w => by
  obtain ⟨c, Γ, Z, k, ok, ht, hq⟩ := w
  refine ⟨c, Γ, Z, _, ok, ht, fun x Γ1 Z1 H1 h1 ok1 g1 => ?_⟩
  cases x with
  | true => exact iteT (hq _ _ Z1 H1 (h1.2 rfl) ok1 g1)
  | false => exact iteF ⟨c, Γ1, Z1, k, ok1, h1.1 rfl, fun d Γ2 Z2 H2 k2 ok2 g2 => hq d Γ2 Z2 H2 k2 ok2 (g1.trans g2)⟩
theorem dq_not (ha : DQ X a p g) : DQ X (.UnaryOp .Not a pos) p (fun Γ => !g Γ) := PT.weak (pt_not ha) fun σ H Q ⟨c, Γ, Z, ok, h1, hq⟩ => ⟨c, Γ, Z, ok, h1, fun Z1 H1 ok1 g1 => hq Z1 H1 ok1 g1⟩
theorem du_not (ha : DU X a t) : DU X (.UnaryOp .Not a pos) (fun Γ k => t Γ fun c Γ1 => k (!c) Γ1) := PT.weak (pt_not ha) fun σ H Q ⟨c, Γ, Z, k, ok, h1, hq⟩ => ⟨c, Γ, Z, _, ok, h1, fun b Γ1 Z1 H1 h1 ok1 g1 => hq _ _ Z1 H1 h1 ok1 g1⟩
end
end
end DL

namespace DL
open PySem PySem.Spec L2

/-! ### arguments -/
def upPA (K : PySem.W.Frag) (p : Pr) (f : Env → List D) : TA := fun σ H Q => ∃ c Γ Z, OkS K c Γ Z σ H ∧ p Γ ∧ ∀ vs Z' H', OkS K c Γ Z' σ H' → Sub Z Z' → RepL K Z' vs (f Γ) → Q vs H'
abbrev DPA (X : Cx) (es : List Expr) (p : Pr) (f : Env → List D) : Prop := PA X es (upPA X.K p f)
/-- an argument: data, or a slot whose own thing is handed on -/
inductive Ar where
  | d (x : D)
  | s (i : Nat)
def ArOk (K : PySem.W.Frag) (Z : Hp) (σ : St) : List V → List Ar → Prop
  | [], [] => True
  | v :: vs, a :: as => (match a with
    | .d x => Rep K Z v x
    | .s i => σ[i]? = some (some v)) ∧ ArOk K Z σ vs as
  | _, _ => False
theorem ArOk.mono {K : PySem.W.Frag} {Z Z' : Hp} {σ : St} (e : Sub Z Z') : ∀ {vs : List V} {as : List Ar}, ArOk K Z σ vs as → ArOk K Z' σ vs as
  | [], [], _ => trivial
  | _ :: _, .d _ :: _, ⟨h, r⟩ => ⟨h.mono e, ArOk.mono e r⟩
  | _ :: _, .s _ :: _, ⟨h, r⟩ => ⟨h, ArOk.mono e r⟩
  | [], _ :: _, h => h.elim
  | _ :: _, [], h => h.elim
abbrev DTa := Env → (List Ar → Env → Prop) → Prop
def upA (K : PySem.W.Frag) (t : DTa) : TA := fun σ H Q => ∃ c Γ Z k, OkS K c Γ Z σ H ∧ t Γ k ∧ ∀ as Γ' vs Z' H', k as Γ' → OkS K c Γ' Z' σ H' → Sub Z Z' → ArOk K Z' σ vs as → Q vs H'
abbrev DA (X : Cx) (es : List Expr) (t : DTa) : Prop := PA X es (upA X.K t)
section
variable {X : Cx} {e : Expr} {es : List Expr} {p q : Pr} {f : Env → D} {fs : Env → List D} {t : DT} {ta : DTa}
theorem dpa_nil : DPA X [] (fun _ => True) (fun _ => []) := PA.weak pa_nil fun σ H Q ⟨c, Γ, Z, ok, _, hq⟩ => hq [] Z H ok Sub.refl .nil
theorem dpa_cons (ha : DP X e p f) (hr : DPA X es q fs) (hs : starEach (e :: es) X.env = (false, eval e X.env) :: starEach es X.env := by rfl) : DPA X (e :: es) (fun Γ => p Γ ∧ q Γ) (fun Γ => f Γ :: fs Γ) := PA.weak (pa_cons ha hr hs) fun σ H Q h => by
  obtain ⟨c, Γ, Z, ok, ⟨h1, h2⟩, hq⟩ := h
  exact ⟨c, Γ, Z, ok, h1, fun v Z1 H1 ok1 g1 r1 => ⟨c, Γ, Z1, ok1, h2, fun vs Z2 H2 ok2 g2 r2 => hq _ Z2 H2 ok2 (g1.trans g2) (.cons (r1.mono g2) r2)⟩⟩
theorem da_nil : DA X [] (fun Γ k => k [] Γ) := PA.weak pa_nil fun σ H Q ⟨c, Γ, Z, k, ok, h, hq⟩ => hq [] Γ [] Z H h ok Sub.refl trivial
theorem da_cons (ha : DE X e t) (hr : DA X es ta) (hs : starEach (e :: es) X.env = (false, eval e X.env) :: starEach es X.env := by rfl) : DA X (e :: es) (fun Γ k => t Γ fun x Γ1 => ta Γ1 fun as Γ2 => k (.d x :: as) Γ2) := PA.weak (pa_cons ha hr hs) fun σ H Q h => by
  obtain ⟨c, Γ, Z, k, ok, h1, hq⟩ := h
  exact ⟨c, Γ, Z, _, ok, h1, fun d Γ1 v Z1 H1 k1 ok1 g1 r1 => ⟨c, Γ1, Z1, _, ok1, k1, fun as Γ2 vs Z2 H2 k2 ok2 g2 r2 => hq _ _ _ Z2 H2 k2 ok2 (g1.trans g2) ⟨r1.mono g2, r2⟩⟩⟩
def Sl.isOwn : Sl → Prop
  | .own _ _ => True
  | _ => False
/-- a slot's own thing, handed on -/
theorem da_slot {i : Nat} (ha : PE X e (tVar i)) (hr : DA X es ta) (hs : starEach (e :: es) X.env = (false, eval e X.env) :: starEach es X.env := by rfl) : DA X (e :: es) (fun Γ k => (gt Γ i).isOwn ∧ ta Γ fun as Γ2 => k (.s i :: as) Γ2) := PA.weak (pa_cons ha hr hs) fun σ H Q h => by
  obtain ⟨c, Γ, Z, k, ok, ⟨h0, h1⟩, hq⟩ := h
  have hs := ok.sl i
  revert h0 hs
  cases gt Γ i with
  | un => exact fun z => z.elim
  | im d => exact fun z => z.elim
  | own p o => exact fun _ ⟨a, e1, _⟩ => ⟨_, e1, c, Γ, Z, _, ok, h1, fun as Γ2 vs Z2 H2 k2 ok2 g2 r2 => hq _ _ _ Z2 H2 k2 ok2 g2 ⟨e1, r2⟩⟩
end

/-! ### displays -/
section
variable {X : Cx} {e : Expr} {es : List Expr} {p q : Pr} {f : Env → D} {fs : Env → List D} {ta : DTa} {pos : Pos}
theorem dp_tup {x1} (h : DPA X es p fs) : DP X (.Tuple es x1 pos) (fun Γ => p Γ ∧ (fs Γ).length ≤ sizeLine) (fun Γ => .tup (fs Γ)) := PE.weak (pe_tup h) fun σ H Q h => by
  obtain ⟨c, Γ, Z, ok, ⟨h1, h2⟩, hq⟩ := h
  exact ⟨c, Γ, Z, ok, h1, fun vs Z1 H1 ok1 g1 r1 => ⟨by rw [r1.length]; exact h2, fun a ha => hq _ _ _ (ok1.allocZ ha) (g1.trans (Sub.upd (Sub.none ok1.sub ha))) (.tup (.inl (.inl upd_same)) (r1.mono (Sub.upd (Sub.none ok1.sub ha))))⟩⟩
theorem dpl_lst (h : DPA X es p fs) : DPL X (.List es pos) (fun Γ => p Γ ∧ (fs Γ).length ≤ sizeLine) fs := PE.weak (pe_lst h) fun σ H Q h => by
  obtain ⟨c, Γ, Z, ok, ⟨h1, h2⟩, hq⟩ := h
  exact ⟨c, Γ, Z, ok, h1, fun vs Z1 H1 ok1 g1 r1 => ⟨by rw [r1.length]; exact h2, fun a ha => hq _ _ _ (ok1.alloc ha) g1 (ok1.newOwn ha ⟨vs, upd_same, r1⟩)⟩⟩
def Ar.isD : Ar → Prop
  | .d _ => True
  | _ => False
def Ar.x : Ar → D
  | .d x => x
  | _ => .non
theorem ArOk.reps {K : PySem.W.Frag} {Z : Hp} {σ : St} : ∀ {vs : List V} {as : List Ar}, ArOk K Z σ vs as → (∀ a ∈ as, a.isD) → RepL K Z vs (as.map Ar.x)
  | [], [], _, _ => .nil
  | _ :: _, .d _ :: _, ⟨h, r⟩, g => .cons h (ArOk.reps r fun a ha => g a (List.mem_cons_of_mem _ ha))
  | _ :: _, .s _ :: _, _, g => (g _ List.mem_cons_self).elim
  | [], _ :: _, h, _ => h.elim
  | _ :: _, [], h, _ => h.elim
/-- effectful items -/
abbrev DTl := Env → (List D → Env → Prop) → Prop
def upLs (K : PySem.W.Frag) (t : DTl) : TA := fun σ H Q => ∃ c Γ Z k, OkS K c Γ Z σ H ∧ t Γ k ∧ ∀ ds Γ' vs Z' H', k ds Γ' → OkS K c Γ' Z' σ H' → Sub Z Z' → RepL K Z' vs ds → Q vs H'
abbrev DLs (X : Cx) (es : List Expr) (t : DTl) : Prop := PA X es (upLs X.K t)
theorem dls_nil : DLs X [] (fun Γ k => k [] Γ) := PA.weak pa_nil fun σ H Q ⟨c, Γ, Z, k, ok, h, hq⟩ => hq [] Γ [] Z H h ok Sub.refl .nil
theorem dls_cons {t : DT} {tl : DTl} (ha : DE X e t) (hr : DLs X es tl) (hs : starEach (e :: es) X.env = (false, eval e X.env) :: starEach es X.env := by rfl) : DLs X (e :: es) (fun Γ k => t Γ fun x Γ1 => tl Γ1 fun ds Γ2 => k (x :: ds) Γ2) := PA.weak (pa_cons ha hr hs) fun σ H Q h => by
  obtain ⟨c, Γ, Z, k, ok, h1, hq⟩ := h
  exact ⟨c, Γ, Z, _, ok, h1, fun d Γ1 v Z1 H1 k1 ok1 g1 r1 => ⟨c, Γ1, Z1, _, ok1, k1, fun ds Γ2 vs Z2 H2 k2 ok2 g2 r2 => hq _ _ _ Z2 H2 k2 ok2 (g1.trans g2) (.cons (r1.mono g2) r2)⟩⟩
theorem de_tup {x1} {tl : DTl} (h : DLs X es tl) : DE X (.Tuple es x1 pos) (fun Γ k => tl Γ fun ds Γ1 => ds.length ≤ sizeLine ∧ k (.tup ds) Γ1) := PE.weak (pe_tup h) fun σ H Q h => by
  obtain ⟨c, Γ, Z, k, ok, h1, hq⟩ := h
  exact ⟨c, Γ, Z, _, ok, h1, fun ds Γ1 vs Z1 H1 k1 ok1 g1 r1 => ⟨by rw [r1.length]; exact k1.1, fun a ha => hq _ _ _ _ _ k1.2 (ok1.allocZ ha) (g1.trans (Sub.upd (Sub.none ok1.sub ha))) (.tup (.inl (.inl upd_same)) (r1.mono (Sub.upd (Sub.none ok1.sub ha))))⟩⟩
theorem do_lst {tl : DTl} (h : DLs X es tl) : DO X (.List es pos) (fun Γ k => tl Γ fun ds Γ1 => ds.length ≤ sizeLine ∧ k (.lst ds) Γ1) := PE.weak (pe_lst h) fun σ H Q h => by
  obtain ⟨c, Γ, Z, k, ok, h1, hq⟩ := h
  exact ⟨c, Γ, Z, _, ok, h1, fun ds Γ1 vs Z1 H1 k1 ok1 g1 r1 => ⟨by rw [r1.length]; exact k1.1, fun a ha => hq _ _ _ _ _ k1.2 (ok1.alloc ha) g1 (ok1.newOwn ha ⟨vs, upd_same, r1⟩)⟩⟩
end

/-! ### what is read as a sequence -/
def Sl.sq : Sl → Option (List D)
  | .im (.lst ds) => some ds
  | .im (.tup ds) => some ds
  | .own _ (.lst ds) => some ds
  | _ => none
def D.sq : D → Option (List D)
  | .lst ds => some ds
  | .tup ds => some ds
  | _ => none
section
variable {K : PySem.W.Frag} {c : FC} {Γ : Env} {Z : Hp} {σ : St} {H : Hp} {v : V} {d : D} {ds : List D}
theorem Rep.seq (h : Rep K Z v d) (s : Sub Z H) (e : d.sq = some ds) : ∃ a vs, v = .ref a ∧ (SqL K H a vs ∨ SqT K H a vs) ∧ RepL K Z vs ds := by
  cases h with
  | tup h r => cases e; exact ⟨_, _, rfl, .inr (SqT.sub h s), r⟩
  | lst h r => cases e; exact ⟨_, _, rfl, .inl (SqL.sub h s), r⟩
  | _ => cases e
theorem OkS.seq (ok : OkS K c Γ Z σ H) {i : Nat} (e : (gt Γ i).sq = some ds) : ∃ a vs, σ[i]? = some (some (.ref a)) ∧ (SqL K H a vs ∨ SqT K H a vs) ∧ RepL K Z vs ds := by
  have hs := ok.sl i
  revert e hs
  cases gt Γ i with
  | un => exact fun z => nomatch z
  | im d =>
    intro e hs
    obtain ⟨v, h1, h2⟩ := hs
    obtain ⟨a, vs, rfl, h3, h4⟩ := h2.seq ok.sub (show d.sq = some ds by cases d <;> exact e)
    exact ⟨a, vs, h1, h3, h4⟩
  | own p o =>
    cases o with
    | lst es =>
      intro e hs
      obtain ⟨a, h1, ⟨vs, h2, h3⟩, _⟩ := hs
      cases e
      exact ⟨a, vs, h1, .inl (.inl (.inl h2)), h3⟩
    | ins C fs => exact fun z => nomatch z
    | dT kvs => exact fun z => nomatch z
end

/-! ### subscripts -/
theorem atI_rep {K : PySem.W.Frag} {Z : Hp} {vs : List V} {ds : List D} {i : Int} {d : D} (r : RepL K Z vs ds) (h : atI ds i = some d) : ∃ v, atI vs i = some v ∧ Rep K Z v d := by
  unfold atI at h ⊢
  rw [r.length]
  cases q : ixN ds.length i with
  | none => rw [q] at h; cases h
  | some j =>
    rw [q] at h
    exact r.get h
/-- an item of a list, a tuple, a text -/
def dIx : D → D → D
  | .lst ds, .int i => (atI ds i).getD .non
  | .tup ds, .int i => (atI ds i).getD .non
  | .str z, .int i => match atI z.cps.toList i with
    | some c => .str ⟨#[c]⟩
    | none => .non
  | _, _ => .non
def cIx : D → D → Prop
  | .lst ds, .int i => (atI ds i).isSome = true
  | .tup ds, .int i => (atI ds i).isSome = true
  | .str z, .int i => z.length ≤ sizeLine ∧ (atI z.cps.toList i).isSome = true
  | _, _ => False
section
variable {X : Cx} {a b : Expr} {pa pb : Pr} {fa fb : Env → D} {pos : Pos} {ta tb : DT}
theorem rIx_of {K : PySem.W.Frag} {Z H : Hp} {x y : V} {dx dy : D} {Q : VK} (s : Sub Z H) (rx : Rep K Z x dx) (ry : Rep K Z y dy) (hc : cIx dx dy) (hq : ∀ v, Rep K Z v (dIx dx dy) → Q v H) : rIx K x y H Q := by
  cases ry with
  | int i =>
    cases rx with
    | lst h r =>
      obtain ⟨d, hd⟩ := Option.isSome_iff_exists.mp hc
      obtain ⟨v, h1, h2⟩ := atI_rep r hd
      exact .inl ⟨_, _, i, v, rfl, rfl, SqL.sub h s, h1, hq v (by show Rep K Z v ((atI _ i).getD .non); rw [hd]; exact h2)⟩
    | tup h r =>
      obtain ⟨d, hd⟩ := Option.isSome_iff_exists.mp hc
      obtain ⟨v, h1, h2⟩ := atI_rep r hd
      exact .inr (.inl ⟨_, _, i, v, rfl, rfl, SqT.sub h s, h1, hq v (by show Rep K Z v ((atI _ i).getD .non); rw [hd]; exact h2)⟩)
    | str z =>
      obtain ⟨d, hd⟩ := Option.isSome_iff_exists.mp hc.2
      exact .inr (.inr ⟨z, i, d, rfl, rfl, hc.1, hd, hq _ (by show Rep K Z _ (match atI z.cps.toList i with | some c => D.str ⟨#[c]⟩ | none => .non); rw [hd]; exact .str _)⟩)
    | _ => exact hc.elim
  | _ => cases dx <;> exact hc.elim
theorem dp_ix (ha : DP X a pa fa) (hb : DP X b pb fb) (hs : PlainIx b := by exact fun _ _ => rfl) : DP X (.Subscript a b pos) (fun Γ => pa Γ ∧ pb Γ ∧ cIx (fa Γ) (fb Γ)) (fun Γ => dIx (fa Γ) (fb Γ)) := PE.weak (pe_ix ix_seq ha hb hs) fun σ H Q h => by
  obtain ⟨c, Γ, Z, ok, ⟨h1, h2, h3⟩, hq⟩ := h
  exact ⟨c, Γ, Z, ok, h1, fun x Z1 H1 ok1 g1 r1 => ⟨c, Γ, Z1, ok1, h2, fun y Z2 H2 ok2 g2 r2 => rIx_of ok2.sub (r1.mono g2) r2 h3 fun v r => hq v Z2 H2 ok2 (g1.trans g2) r⟩⟩
theorem de_ix (ha : DE X a ta) (hb : DE X b tb) (hs : PlainIx b := by exact fun _ _ => rfl) : DE X (.Subscript a b pos) (fun Γ k => ta Γ fun x Γ1 => tb Γ1 fun y Γ2 => cIx x y ∧ k (dIx x y) Γ2) := PE.weak (pe_ix ix_seq ha hb hs) fun σ H Q h => by
  obtain ⟨c, Γ, Z, k, ok, h1, hq⟩ := h
  exact ⟨c, Γ, Z, _, ok, h1, fun d Γ1 x Z1 H1 k1 ok1 g1 r1 => ⟨c, Γ1, Z1, _, ok1, k1, fun e Γ2 y Z2 H2 k2 ok2 g2 r2 => rIx_of ok2.sub (r1.mono g2) r2 k2.1 fun v r => hq _ _ v Z2 H2 k2.2 ok2 (g1.trans g2) r⟩⟩
/-- x[i], x a name that may hold a list of one's own -/
def nIx (s : Sl) (y : D) : Option D := match s.sq, y with
  | some ds, .int i => atI ds i
  | _, _ => none
theorem rIx_name {K : PySem.W.Frag} {c : FC} {Γ : Env} {Z H : Hp} {σ : St} {i : Nat} {y : V} {dy d : D} {x : V} {Q : VK} (ok : OkS K c Γ Z σ H) (hx : σ[i]? = some (some x)) (ry : Rep K Z y dy) (hc : nIx (gt Γ i) dy = some d) (hq : ∀ v, Rep K Z v d → Q v H) : rIx K x y H Q := by
  unfold nIx at hc
  cases q : (gt Γ i).sq with
  | none => rw [q] at hc; cases hc
  | some ds =>
    rw [q] at hc
    obtain ⟨a, vs, h1, h2, h3⟩ := ok.seq q
    rw [hx] at h1
    cases h1
    cases ry with
    | int n =>
      obtain ⟨v, h4, h5⟩ := atI_rep h3 (show atI ds n = some d from hc)
      rcases h2 with h2 | h2
      · exact .inl ⟨_, _, n, v, rfl, rfl, h2, h4, hq v h5⟩
      · exact .inr (.inl ⟨_, _, n, v, rfl, rfl, h2, h4, hq v h5⟩)
    | _ => cases hc
theorem dp_ixN {i : Nat} (ha : PE X a (tVar i)) (hb : DP X b pb fb) (hs : PlainIx b := by exact fun _ _ => rfl) : DP X (.Subscript a b pos) (fun Γ => pb Γ ∧ (nIx (gt Γ i) (fb Γ)).isSome = true) (fun Γ => (nIx (gt Γ i) (fb Γ)).getD .non) := PE.weak (pe_ix ix_seq ha hb hs) fun σ H Q h => by
  obtain ⟨c, Γ, Z, ok, ⟨h1, h2⟩, hq⟩ := h
  dsimp only at hq
  obtain ⟨d, hd⟩ := Option.isSome_iff_exists.mp h2
  rw [hd] at hq
  have hsq : ∃ ds, (gt Γ i).sq = some ds := by
    unfold nIx at hd
    cases q : (gt Γ i).sq with
    | none => rw [q] at hd; cases hd
    | some ds => exact ⟨ds, rfl⟩
  obtain ⟨ds, hds⟩ := hsq
  obtain ⟨x, _, hx, _⟩ := ok.seq hds
  exact ⟨_, hx, c, Γ, Z, ok, h1, fun y Z2 H2 ok2 g2 r2 => rIx_name ok2 hx r2 hd fun v r => hq v Z2 H2 ok2 g2 r⟩
theorem de_ixN {i : Nat} (ha : PE X a (tVar i)) (hb : DE X b tb) (hs : PlainIx b := by exact fun _ _ => rfl) : DE X (.Subscript a b pos) (fun Γ k => (gt Γ i).sq.isSome = true ∧ tb Γ fun y Γ2 => ∃ d, nIx (gt Γ2 i) y = some d ∧ k d Γ2) := PE.weak (pe_ix ix_seq ha hb hs) fun σ H Q h => by
  obtain ⟨c, Γ, Z, k, ok, ⟨h1, h2⟩, hq⟩ := h
  obtain ⟨ds, hds⟩ := Option.isSome_iff_exists.mp h1
  obtain ⟨x, _, hx, _⟩ := ok.seq hds
  exact ⟨_, hx, c, Γ, Z, _, ok, h2, fun y Γ2 v Z2 H2 ⟨d, k1, k2⟩ ok2 g2 r2 => rIx_name ok2 hx r2 k1 fun v r => hq d Γ2 v Z2 H2 k2 ok2 g2 r⟩
end

/-! ### own defs -/
/-- a def's promise by plain data: frozen arguments in, frozen data out -/
def SpP (K : PySem.W.Frag) (n : Nat) (pre : List D → Prop) (val : List D → D) : Sp := fun vs H Q _ => ∃ Z ds, Sub Z H ∧ RepL K Z vs ds ∧ ds.length = n ∧ pre ds ∧ ∀ v Z' H', Grow Z H Z' H' → Rep K Z' v (val ds) → Q v H'
/-- .. a new list out -/
def SpL (K : PySem.W.Frag) (n : Nat) (pre : List D → Prop) (val : List D → List D) : Sp := fun vs H Q _ => ∃ Z ds, Sub Z H ∧ RepL K Z vs ds ∧ ds.length = n ∧ pre ds ∧ ∀ a us Z' H', Grow Z H Z' H' → H a = none → Z' a = none → H' a = some (.lst us) → RepL K Z' us (val ds) → Q (.ref a) H'
/-- an argument or an answer: frozen data, or a thing of one's own -/
inductive Ag where
  | im (d : D)
  | ow (o : Oc)
  deriving Inhabited
def Ag.sl : Ag → Sl
  | .im d => .im d
  | .ow o => .own true o
/-- what stands behind the call is of the same make -/
def Shape : List Ag → List Ag → Prop
  | [], [] => True
  | .im d :: as, .im e :: bs => d = e ∧ Shape as bs
  | .ow _ :: as, .ow _ :: bs => Shape as bs
  | _, _ => False
abbrev DSp := List Ag → (Ag → List Ag → Prop) → Prop
def RepA (K : PySem.W.Frag) (c : FC) (Γ : Env) (Z : Hp) (σ : St) (H : Hp) (v : V) : Ag → Prop
  | .im d => Rep K Z v d
  | .ow o => OwnV K c Γ Z σ H v o
def SpG (K : PySem.W.Frag) (n : Nat) (S : DSp) : Sp := fun vs H Q _ => ∃ c as Z k, c.vs = vs ∧ as.length = n ∧ vs.length = n ∧ OkS K c (as.map Ag.sl) Z (vs.map some) H ∧ S as k ∧
  ∀ r as' v Z' H', k r as' → Shape as as' → OkS K c (as'.map Ag.sl) Z' (vs.map some) H' → Sub Z Z' → RepA K c (as'.map Ag.sl) Z' (vs.map some) H' v r → Q v H'
/-- a def of the module, by its name -/
structure Fn (P : Program) (w : World) (K : PySem.W.Frag) (mg : Str → Option Value) (base : Heap) (x : Str) (k : Nat) (sp : Sp) : Prop where
  ex : ∃ f fd ps, FnOk P w K mg base CX0 k f fd ps sp ∧ mg x = some (.ref f) ∧ PySem.W.keepIn K (.ref f) = true ∧ Binds K fd ps []
section
variable {X : Cx} {x : Str} {k n : Nat} {e : Expr} {es : List Expr} {p : Pr} {fs : Env → List D} {pre : List D → Prop} {val : List D → D} {vall : List D → List D} {q pos : Pos}
theorem pe_fn {sp : Sp} {t : TA} (F : Fn X.prog X.w X.K X.mg X.base x k sp) (hr : Room k X.A) (ha : PA X (e :: es) t) (hg : Gl X x := by rfl) (hdb : (x == ("__debug__" : Str)) = false := by decide) (he : starEach (e :: es) X.env = (false, eval e X.env) :: starEach es X.env := by rfl) (hpl : (backTo pos (starEach es X.env)).any (·.1) = false := by rfl) :
    PE X (.Call (.Name x q) (e :: es) [] pos) (tCall sp [] E0 t) := by
  obtain ⟨f, fd, ps, F, hm, hk, hb⟩ := F.ex
  exact pe_call F hr hg hm hk hb .nil pass0 ha hdb he hpl
theorem dp_call (F : Fn X.prog X.w X.K X.mg X.base x k (SpP X.K n pre val)) (hr : Room k X.A) (ha : DPA X (e :: es) p fs) (hg : Gl X x := by rfl) (hdb : (x == ("__debug__" : Str)) = false := by decide) (he : starEach (e :: es) X.env = (false, eval e X.env) :: starEach es X.env := by rfl) (hpl : (backTo pos (starEach es X.env)).any (·.1) = false := by rfl) :
    DP X (.Call (.Name x q) (e :: es) [] pos) (fun Γ => p Γ ∧ (fs Γ).length = n ∧ pre (fs Γ)) (fun Γ => val (fs Γ)) := PE.weak (pe_fn F hr ha hg hdb he hpl) fun σ H Q h => by
  obtain ⟨c, Γ, Z, ok, ⟨h1, hl, h2⟩, hq⟩ := h
  refine ⟨c, Γ, Z, ok, h1, fun vs Z1 H1 ok1 g1 r1 => ?_⟩
  dsimp only
  rw [List.append_nil]
  exact ⟨Z1, _, ok1.sub, r1, hl, h2, fun v Z2 H2 g2 r2 => hq v Z2 H2 (ok1.grows g2) (g1.trans g2.gz) r2⟩
theorem de_call {tl : DTl} (F : Fn X.prog X.w X.K X.mg X.base x k (SpP X.K n pre val)) (hr : Room k X.A) (ha : DLs X (e :: es) tl) (hg : Gl X x := by rfl) (hdb : (x == ("__debug__" : Str)) = false := by decide) (he : starEach (e :: es) X.env = (false, eval e X.env) :: starEach es X.env := by rfl) (hpl : (backTo pos (starEach es X.env)).any (·.1) = false := by rfl) :
    DE X (.Call (.Name x q) (e :: es) [] pos) (fun Γ k => tl Γ fun ds Γ1 => ds.length = n ∧ pre ds ∧ k (val ds) Γ1) := PE.weak (pe_fn F hr ha hg hdb he hpl) fun σ H Q h => by
  obtain ⟨c, Γ, Z, k, ok, h1, hq⟩ := h
  refine ⟨c, Γ, Z, _, ok, h1, fun ds Γ1 vs Z1 H1 k1 ok1 g1 r1 => ?_⟩
  dsimp only
  rw [List.append_nil]
  exact ⟨Z1, _, ok1.sub, r1, k1.1, k1.2.1, fun v Z2 H2 g2 r2 => hq _ _ v Z2 H2 k1.2.2 (ok1.grows g2) (g1.trans g2.gz) r2⟩
theorem OkS.ownNew {K : PySem.W.Frag} {c : FC} {Γ : Env} {Z Z' : Hp} {σ : St} {H H' : Hp} (ok : OkS K c Γ Z σ H) {a : Addr} {us : List V} {ds : List D} (g : Grow Z H Z' H') (h0 : H a = none) (hz : Z' a = none) (h1 : H' a = some (.lst us)) (r : RepL K Z' us ds) : OwnV K c Γ Z' σ H' (.ref a) (.lst ds) :=
  ⟨a, rfl, ⟨us, h1, r⟩, hz, ok.fresh0 h0, fun i p o e1 e2 => by
    have hs := ok.sl i
    rw [e1] at hs
    obtain ⟨b, q1, q2, _⟩ := hs
    rw [q1] at e2; cases e2
    exact q2.some h0⟩
theorem dpl_call (F : Fn X.prog X.w X.K X.mg X.base x k (SpL X.K n pre vall)) (hr : Room k X.A) (ha : DPA X (e :: es) p fs) (hg : Gl X x := by rfl) (hdb : (x == ("__debug__" : Str)) = false := by decide) (he : starEach (e :: es) X.env = (false, eval e X.env) :: starEach es X.env := by rfl) (hpl : (backTo pos (starEach es X.env)).any (·.1) = false := by rfl) :
    DPL X (.Call (.Name x q) (e :: es) [] pos) (fun Γ => p Γ ∧ (fs Γ).length = n ∧ pre (fs Γ)) (fun Γ => vall (fs Γ)) := PE.weak (pe_fn F hr ha hg hdb he hpl) fun σ H Q h => by
  obtain ⟨c, Γ, Z, ok, ⟨h1, hl, h2⟩, hq⟩ := h
  refine ⟨c, Γ, Z, ok, h1, fun vs Z1 H1 ok1 g1 r1 => ?_⟩
  dsimp only
  rw [List.append_nil]
  exact ⟨Z1, _, ok1.sub, r1, hl, h2, fun a us Z2 H2 g2 h0 hz hu r2 => hq _ Z2 H2 (ok1.grows g2) (g1.trans g2.gz) (ok1.ownNew g2 h0 hz hu r2)⟩
end

/-! ### a call that changes what its arguments own -/
def ownAg : Sl → Ag
  | .own _ o => .ow o
  | _ => .im .non
def arAg (Γ : Env) : Ar → Ag
  | .d x => .im x
  | .s i => ownAg (gt Γ i)
/-- the slots behind a call -/
def wb : Env → List Ar → List Ag → Env
  | Γ, .s i :: as, .ow o :: bs => wb (match gt Γ i with
      | .own p _ => st Γ i (.own p o)
      | _ => Γ) as bs
  | Γ, _ :: as, _ :: bs => wb Γ as bs
  | Γ, _, _ => Γ
def slotsOf : List Ar → List Nat
  | [] => []
  | .s i :: as => i :: slotsOf as
  | .d _ :: as => slotsOf as
theorem wb_out : ∀ {as : List Ar} {bs : List Ag} {Γ : Env} {i : Nat}, i ∉ slotsOf as → gt (wb Γ as bs) i = gt Γ i
  | [], [], _, _, _ => rfl
  | [], _ :: _, _, _, _ => rfl
  | .d _ :: _, [], _, _, _ => rfl
  | .s _ :: _, [], _, _, _ => rfl
  | .d _ :: as, .im _ :: bs, Γ, i, h => wb_out (as := as) (bs := bs) h
  | .d _ :: as, .ow _ :: bs, Γ, i, h => wb_out (as := as) (bs := bs) h
  | .s j :: as, .im _ :: bs, Γ, i, h => wb_out (as := as) (bs := bs) (fun z => h (List.mem_cons_of_mem _ z))
  | .s j :: as, .ow o :: bs, Γ, i, h => by
    have hj : i ≠ j := fun e => h (by rw [e]; exact List.mem_cons_self)
    have ht : i ∉ slotsOf as := fun z => h (List.mem_cons_of_mem _ z)
    show gt (wb _ as bs) i = _
    rw [wb_out ht]
    cases gt Γ j with
    | own p o => exact gt_st_ne hj
    | un => rfl
    | im d => rfl
theorem wb_length : ∀ {as : List Ar} {bs : List Ag} {Γ : Env}, (wb Γ as bs).length = Γ.length
  | [], [], _ => rfl
  | [], _ :: _, _ => rfl
  | .d _ :: _, [], _ => rfl
  | .s _ :: _, [], _ => rfl
  | .d _ :: as, .im _ :: bs, Γ => wb_length (as := as) (bs := bs)
  | .d _ :: as, .ow _ :: bs, Γ => wb_length (as := as) (bs := bs)
  | .s j :: as, .im _ :: bs, Γ => wb_length (as := as) (bs := bs)
  | .s j :: as, .ow o :: bs, Γ => by
    show (wb _ as bs).length = _
    rw [wb_length]
    cases gt Γ j with
    | own p o => exact st_length
    | un => rfl
    | im d => rfl
theorem mem_slotsOf : ∀ {as : List Ar} {i : Nat}, i ∈ slotsOf as → ∃ j : Nat, as[j]? = some (.s i)
  | [], _, h => by cases h
  | .d _ :: as, i, h => by
    obtain ⟨j, e⟩ := mem_slotsOf (as := as) h
    exact ⟨j + 1, by simpa using e⟩
  | .s n :: as, i, h => by
    rcases List.mem_cons.mp h with e | h
    · exact ⟨0, by simp [e]⟩
    · obtain ⟨j, e⟩ := mem_slotsOf (as := as) h
      exact ⟨j + 1, by simpa using e⟩
theorem slotsOf_mem : ∀ {as : List Ar} {i j : Nat}, as[j]? = some (.s i) → i ∈ slotsOf as
  | [], _, _, h => by simp at h
  | .d _ :: as, i, 0, h => by simp at h
  | .d _ :: as, i, j + 1, h => slotsOf_mem (as := as) (j := j) (by simpa using h)
  | .s n :: as, i, 0, h => by simp at h; subst h; exact List.mem_cons_self
  | .s n :: as, i, j + 1, h => List.mem_cons_of_mem _ (slotsOf_mem (as := as) (j := j) (by simpa using h))
theorem slots_inj : ∀ {as : List Ar} {i j k : Nat}, (slotsOf as).Nodup → as[j]? = some (.s i) → as[k]? = some (.s i) → j = k
  | [], _, _, _, _, h, _ => by simp at h
  | .d _ :: as, i, 0, _, _, h, _ => by simp at h
  | .d _ :: as, i, _ + 1, 0, _, _, h => by simp at h
  | .d _ :: as, i, j + 1, k + 1, nd, h, g => by rw [slots_inj (as := as) (i := i) (j := j) (k := k) nd (by simpa using h) (by simpa using g)]
  | .s n :: as, i, 0, 0, _, _, _ => rfl
  | .s n :: as, i, 0, k + 1, nd, h, g => by
    simp at h; subst h
    exact absurd (slotsOf_mem (as := as) (j := k) (by simpa using g)) (List.nodup_cons.mp nd).1
  | .s n :: as, i, j + 1, 0, nd, h, g => by
    simp at g; subst g
    exact absurd (slotsOf_mem (as := as) (j := j) (by simpa using h)) (List.nodup_cons.mp nd).1
  | .s n :: as, i, j + 1, k + 1, nd, h, g => by rw [slots_inj (as := as) (i := i) (j := j) (k := k) (List.nodup_cons.mp nd).2 (by simpa using h) (by simpa using g)]
theorem wb_in : ∀ {as : List Ar} {bs : List Ag} {Γ : Env} {i j : Nat} {p : Bool} {o o' : Oc}, (slotsOf as).Nodup → as[j]? = some (.s i) → bs[j]? = some (.ow o') → gt Γ i = .own p o → gt (wb Γ as bs) i = .own p o'
  | [], _, _, _, _, _, _, _, _, h, _, _ => by simp at h
  | _ :: _, [], _, _, _, _, _, _, _, _, h, _ => by simp at h
  | .d _ :: as, b :: bs, Γ, i, 0, _, _, _, _, h, _, _ => by simp at h
  | .d _ :: as, .im _ :: bs, Γ, i, j + 1, p, o, o', nd, h, g, e => wb_in (as := as) (bs := bs) (j := j) nd (by simpa using h) (by simpa using g) e
  | .d _ :: as, .ow _ :: bs, Γ, i, j + 1, p, o, o', nd, h, g, e => wb_in (as := as) (bs := bs) (j := j) nd (by simpa using h) (by simpa using g) e
  | .s n :: as, .im _ :: bs, Γ, i, 0, p, o, o', nd, h, g, e => by simp at g
  | .s n :: as, .ow o2 :: bs, Γ, i, 0, p, o, o', nd, h, g, e => by
    simp at h g
    subst h; subst g
    show gt (wb _ as bs) n = _
    rw [wb_out (List.nodup_cons.mp nd).1, e]
    refine gt_st_same ?_
    rcases Nat.lt_or_ge n Γ.length with q | q
    · exact q
    · rw [gt_out q] at e; cases e
  | .s n :: as, .im _ :: bs, Γ, i, j + 1, p, o, o', nd, h, g, e => wb_in (as := as) (bs := bs) (j := j) (List.nodup_cons.mp nd).2 (by simpa using h) (by simpa using g) e
  | .s n :: as, .ow o2 :: bs, Γ, i, j + 1, p, o, o', nd, h, g, e => by
    have h' : as[j]? = some (.s i) := by simpa using h
    have ne : i ≠ n := fun z => (List.nodup_cons.mp nd).1 (by rw [← z]; exact slotsOf_mem h')
    show gt (wb _ as bs) i = _
    refine wb_in (as := as) (bs := bs) (j := j) (o := o) (List.nodup_cons.mp nd).2 h' (by simpa using g) ?_
    cases gt Γ n with
    | own p o => exact (gt_st_ne ne).trans e
    | un => exact e
    | im d => exact e
theorem ArOk.length {K : PySem.W.Frag} {Z : Hp} {σ : St} : ∀ {vs : List V} {as : List Ar}, ArOk K Z σ vs as → vs.length = as.length
  | [], [], _ => rfl
  | _ :: _, _ :: _, ⟨_, r⟩ => by rw [List.length_cons, List.length_cons, ArOk.length r]
  | [], _ :: _, h => h.elim
  | _ :: _, [], h => h.elim
theorem ArOk.at {K : PySem.W.Frag} {Z : Hp} {σ : St} : ∀ {vs : List V} {as : List Ar} {j : Nat} {a : Ar}, ArOk K Z σ vs as → as[j]? = some a → ∃ v, vs[j]? = some v ∧ (match a with | .d x => Rep K Z v x | .s i => σ[i]? = some (some v))
  | [], [], _, _, _, e => by simp at e
  | v :: _, b :: _, 0, a, ⟨h, _⟩, e => by
    simp at e; subst e
    exact ⟨v, rfl, h⟩
  | _ :: _, _ :: _, j + 1, a, ⟨_, r⟩, e => by
    obtain ⟨v, h1, h2⟩ := ArOk.at (j := j) r (by simpa using e)
    exact ⟨v, by simpa using h1, h2⟩
  | [], _ :: _, _, _, h, _ => h.elim
  | _ :: _, [], _, _, h, _ => h.elim
theorem Shape.at : ∀ {as bs : List Ag} {j : Nat} {o : Oc}, Shape as bs → as[j]? = some (.ow o) → ∃ o', bs[j]? = some (.ow o')
  | [], [], _, _, _, e => by simp at e
  | .im _ :: _, .im _ :: _, 0, _, _, e => by simp at e
  | .ow _ :: _, .ow o :: _, 0, _, _, _ => ⟨o, rfl⟩
  | .im _ :: as, .im _ :: bs, j + 1, o, ⟨_, h⟩, e => by
    obtain ⟨o', q⟩ := Shape.at (as := as) (bs := bs) (j := j) h (by simpa using e)
    exact ⟨o', by simpa using q⟩
  | .ow _ :: as, .ow _ :: bs, j + 1, o, h, e => by
    obtain ⟨o', q⟩ := Shape.at (as := as) (bs := bs) (j := j) h (by simpa using e)
    exact ⟨o', by simpa using q⟩
  | [], _ :: _, _, _, h, _ => h.elim
  | .im _ :: _, [], _, _, h, _ => h.elim
  | .ow _ :: _, [], _, _, h, _ => h.elim
  | .im _ :: _, .ow _ :: _, _, _, h, _ => h.elim
  | .ow _ :: _, .im _ :: _, _, _, h, _ => h.elim
theorem gt_map_sl : ∀ {as : List Ag} {j : Nat}, gt (as.map Ag.sl) j = match as[j]? with
    | some a => a.sl
    | none => .un
  | [], j => by cases j <;> rfl
  | a :: _, 0 => rfl
  | _ :: as, j + 1 => by
    show gt (as.map Ag.sl) j = _
    rw [gt_map_sl]
    simp
theorem some_map {vs : List V} {j : Nat} {v : V} : (vs.map some)[j]? = some (some v) ↔ vs[j]? = some v := by
  rw [List.getElem?_map]
  cases vs[j]? with
  | none => simp
  | some u => simp
/-- the callee's frame -/
def frameOf (σ : St) (H Z : Hp) (vs : List V) (as : List Ar) : FC := ⟨fun a => H a ≠ none ∧ ∀ i, i ∈ slotsOf as → σ[i]? ≠ some (some (.ref a)), H, Z, vs⟩
theorem OkS.enter {K : PySem.W.Frag} {c : FC} {Γ : Env} {Z : Hp} {σ : St} {H : Hp} (ok : OkS K c Γ Z σ H) {vs : List V} {as : List Ar} (r : ArOk K Z σ vs as) (nd : (slotsOf as).Nodup) (hown : ∀ i ∈ slotsOf as, (gt Γ i).isOwn) :
    OkS K (frameOf σ H Z vs as) ((as.map (arAg Γ)).map Ag.sl) Z (vs.map some) H where
  sub := ok.sub
  fr := fun a f => ⟨rfl, rfl, f.1⟩
  gz := Sub.refl
  al := fun _ h => h
  sl := fun j => by
    rw [gt_map_sl, List.getElem?_map]
    cases q : as[j]? with
    | none => trivial
    | some a =>
      obtain ⟨v, h1, h2⟩ := r.at q
      cases a with
      | d x => exact ⟨v, some_map.mpr h1, h2⟩
      | s i =>
        have hi := slotsOf_mem q
        have ho := hown i hi
        have hs := ok.sl i
        show SlOk K _ Z _ H j ((ownAg (gt Γ i)).sl)
        revert ho hs
        cases gt Γ i with
        | un => exact fun z => z.elim
        | im d => exact fun z => z.elim
        | own p o =>
          intro _ ⟨a, e1, e2, e3, e4, e5⟩
          have h2' : σ[i]? = some (some v) := h2
          rw [h2'] at e1
          cases e1
          exact ⟨a, some_map.mpr h1, e2, e3, fun f => f.2 i hi h2', by rw [if_pos rfl]; exact h1⟩
  ne := fun j k a p o q u e1 e2 e3 e4 => by
    rw [some_map] at e3 e4
    rw [gt_map_sl, List.getElem?_map] at e1 e2
    have key : ∀ (j : Nat) (p : Bool) (o : Oc), (match Option.map (arAg Γ) as[j]? with | some a => a.sl | none => Sl.un) = .own p o → ∃ i p' , as[j]? = some (.s i) ∧ gt Γ i = .own p' o := by
      intro j p o h
      cases q : as[j]? with
      | none => rw [q] at h; cases h
      | some b =>
        rw [q] at h
        cases b with
        | d x => cases h
        | s i =>
          refine ⟨i, ?_⟩
          have h' : (ownAg (gt Γ i)).sl = .own p o := h
          cases g : gt Γ i with
          | un => rw [g] at h'; cases h'
          | im d => rw [g] at h'; cases h'
          | own p' o' => rw [g] at h'; cases h'; exact ⟨p', rfl, rfl⟩
    obtain ⟨i1, p1, a1, g1⟩ := key j p o e1
    obtain ⟨i2, p2, a2, g2⟩ := key k q u e2
    obtain ⟨v1, x1, y1⟩ := r.at a1
    obtain ⟨v2, x2, y2⟩ := r.at a2
    have y1' : σ[i1]? = some (some v1) := y1
    have y2' : σ[i2]? = some (some v2) := y2
    rw [x1] at e3
    rw [x2] at e4
    cases e3
    cases e4
    have ei := ok.ne i1 i2 a p1 o p2 u g1 g2 y1' y2'
    subst ei
    exact slots_inj nd a1 a2
  len := by rw [List.length_map, List.length_map, List.length_map, r.length]; exact Nat.le_refl _
theorem OkS.leave {K : PySem.W.Frag} {c : FC} {Γ : Env} {Z Z' : Hp} {σ : St} {H H' : Hp} (ok : OkS K c Γ Z σ H) {vs : List V} {as : List Ar} {bs : List Ag} (r : ArOk K Z σ vs as) (nd : (slotsOf as).Nodup) (hown : ∀ i ∈ slotsOf as, (gt Γ i).isOwn)
    (sh : Shape (as.map (arAg Γ)) bs) (ok' : OkS K (frameOf σ H Z vs as) (bs.map Ag.sl) Z' (vs.map some) H') (gz : Sub Z Z') : OkS K c (wb Γ as bs) Z' σ H' := by
  have foreign : ∀ a, c.F a → (frameOf σ H Z vs as).F a := fun a f => by
    obtain ⟨h1, h2, h3⟩ := ok.fr a f
    refine ⟨by rw [h1]; exact h3, fun i hi e => ?_⟩
    have ho := hown i hi
    have hs := ok.sl i
    revert ho hs
    cases gt Γ i with
    | un => exact fun z => z.elim
    | im d => exact fun z => z.elim
    | own p o =>
      intro _ ⟨b, e1, _, _, e4, _⟩
      rw [e] at e1
      cases e1
      exact e4 f
  have slot : ∀ i ∈ slotsOf as, ∃ (j : Nat) (p : Bool) (o o' : Oc) (a : Addr), as[j]? = some (.s i) ∧ bs[j]? = some (.ow o') ∧ gt Γ i = .own p o ∧ σ[i]? = some (some (.ref a)) ∧ vs[j]? = some (.ref a) ∧ OcOk K Z' H' a o' ∧ Z' a = none := fun i hi => by
    obtain ⟨j, hj⟩ := mem_slotsOf hi
    obtain ⟨v, h1, h2⟩ := r.at hj
    have h2' : σ[i]? = some (some v) := h2
    have ho := hown i hi
    have hs := ok.sl i
    cases g : gt Γ i with
    | un => rw [g] at ho; exact ho.elim
    | im d => rw [g] at ho; exact ho.elim
    | own p o =>
      rw [g] at hs
      obtain ⟨a, e1, e2, e3, e4, e5⟩ := hs
      rw [h2'] at e1
      cases e1
      have hag : (as.map (arAg Γ))[j]? = some (.ow o) := by
        rw [List.getElem?_map, hj]
        show some (ownAg (gt Γ i)) = _
        rw [g]
        rfl
      obtain ⟨o', ho'⟩ := sh.at hag
      have hs' := ok'.sl j
      rw [gt_map_sl, ho'] at hs'
      obtain ⟨b, q1, q2, q3, _⟩ := hs'
      rw [some_map, h1] at q1
      cases q1
      exact ⟨j, p, o, o', a, hj, ho', rfl, h2', h1, q2, q3⟩
  have other : ∀ i p o, i ∉ slotsOf as → gt Γ i = .own p o → ∃ a, σ[i]? = some (some (.ref a)) ∧ OcOk K Z' H' a o ∧ Z' a = none ∧ ¬ c.F a ∧ (if p = true then c.vs[i]? = some (.ref a) else c.H0 a = none) := fun i p o hi g => by
    have hs := ok.sl i
    rw [g] at hs
    obtain ⟨a, e1, e2, e3, e4, e5⟩ := hs
    have fa : (frameOf σ H Z vs as).F a := ⟨e2.some, fun i' hi' e => by
      have ho := hown i' hi'
      cases g' : gt Γ i' with
      | un => rw [g'] at ho; exact ho.elim
      | im d => rw [g'] at ho; exact ho.elim
      | own p' o' =>
        have := ok.ne i' i a p' o' p o g' g e e1
        subst this
        exact hi hi'⟩
    obtain ⟨k1, k2, _⟩ := ok'.fr a fa
    have k1' : H' a = H a := k1
    have k2' : Z' a = Z a := k2
    exact ⟨a, e1, e2.mono gz k1', k2'.trans e3, e4, e5⟩
  refine ⟨ok'.sub, fun a f => ?_, ok.gz.trans gz, fun a h => ok'.al a (ok.al a h), fun i => ?_, fun i j a p o q u e1 e2 e3 e4 => ?_, by rw [wb_length]; exact ok.len⟩
  · obtain ⟨h1, h2, h3⟩ := ok.fr a f
    obtain ⟨k1, k2, _⟩ := ok'.fr a (foreign a f)
    exact ⟨Eq.trans k1 h1, Eq.trans k2 h2, h3⟩
  · by_cases hi : i ∈ slotsOf as
    · obtain ⟨j, p, o, o', a, hj, hb, g, hσ, hv, ho, hz⟩ := slot i hi
      rw [wb_in nd hj hb g]
      have hs := ok.sl i
      rw [g] at hs
      obtain ⟨b, e1, e2, e3, e4, e5⟩ := hs
      rw [hσ] at e1
      cases e1
      exact ⟨a, hσ, ho, hz, e4, e5⟩
    · rw [wb_out hi]
      have hs := ok.sl i
      have ot := other i
      revert hs ot
      cases gt Γ i with
      | un => exact fun _ _ => trivial
      | im d => exact fun ⟨v, h1, h2⟩ _ => ⟨v, h1, h2.mono gz⟩
      | own p o => exact fun _ ot => ot p o hi rfl
  · have back : ∀ i p o, gt (wb Γ as bs) i = .own p o → ∃ p' o', gt Γ i = .own p' o' := fun i p o h => by
      by_cases hi : i ∈ slotsOf as
      · obtain ⟨j, p', o', _, _, _, _, g, _⟩ := slot i hi
        exact ⟨p', o', g⟩
      · rw [wb_out hi] at h
        exact ⟨p, o, h⟩
    obtain ⟨p1, o1, g1⟩ := back i p o e1
    obtain ⟨p2, o2, g2⟩ := back j q u e2
    exact ok.ne i j a p1 o1 p2 o2 g1 g2 e3 e4
section
variable {X : Cx} {x : Str} {k n : Nat} {e : Expr} {es : List Expr} {S : DSp} {ta : DTa} {q pos : Pos}
/-- the reading of such a call -/
def tG (n : Nat) (S : DSp) (ta : DTa) (k : Ag → Env → Prop) : Env → Prop := fun Γ => ta Γ fun as Γ1 => as.length = n ∧ (slotsOf as).Nodup ∧ (∀ i ∈ slotsOf as, (gt Γ1 i).isOwn) ∧ S (as.map (arAg Γ1)) fun r bs => k r (wb Γ1 as bs)
theorem call_g {K : PySem.W.Frag} {σ : St} {H : Hp} {Q : VK} {c : FC} {Γ : Env} {Z : Hp} {k : Ag → Env → Prop} (ok : OkS K c Γ Z σ H) (ht : tG n S ta k Γ)
    (hq : ∀ r Γ' v Z' H', k r Γ' → OkS K c Γ' Z' σ H' → Sub Z Z' → RepA K c Γ' Z' σ H' v r → Q v H') : tCall (SpG K n S) [] E0 (upA K ta) σ H Q := by
  refine ⟨c, Γ, Z, _, ok, ht, fun as Γ1 vs Z1 H1 k1 ok1 g1 r1 => ?_⟩
  obtain ⟨hl, nd, ho, hS⟩ := k1
  rw [List.append_nil]
  refine ⟨frameOf σ H1 Z1 vs as, as.map (arAg Γ1), Z1, _, rfl, by rw [List.length_map]; exact hl, by rw [r1.length]; exact hl, ok1.enter r1 nd ho, hS, fun r bs v Z2 H2 kr sh ok2 g2 rv => ?_⟩
  have okl := ok1.leave r1 nd ho sh ok2 g2
  refine hq r _ v Z2 H2 kr okl (g1.trans g2) ?_
  cases r with
  | im d => exact rv
  | ow o =>
    obtain ⟨a, rfl, h1, h2, h3, h4⟩ := rv
    have h3' : H1 a = none := h3
    refine ⟨a, rfl, h1, h2, ok1.fresh0 h3', fun i p u e1 e2 => ?_⟩
    by_cases hi : i ∈ slotsOf as
    · have hoi := ho i hi
      have hs := ok1.sl i
      revert hoi hs
      cases gt Γ1 i with
      | un => exact fun z => z.elim
      | im d => exact fun z => z.elim
      | own p o =>
        intro _ ⟨b, q1, q2, _⟩
        rw [q1] at e2
        cases e2
        exact q2.some h3'
    · rw [wb_out hi] at e1
      have hs := ok1.sl i
      rw [e1] at hs
      obtain ⟨b, q1, q2, _⟩ := hs
      rw [q1] at e2
      cases e2
      exact q2.some h3'
def agD (k : D → Env → Prop) : Ag → Env → Prop
  | .im d, Γ => k d Γ
  | .ow o, Γ => frzK k o Γ
def agO (k : Oc → Env → Prop) : Ag → Env → Prop
  | .im _, _ => False
  | .ow o, Γ => k o Γ
theorem de_callG (F : Fn X.prog X.w X.K X.mg X.base x k (SpG X.K n S)) (hr : Room k X.A) (ha : DA X (e :: es) ta) (hg : Gl X x := by rfl) (hdb : (x == ("__debug__" : Str)) = false := by decide) (he : starEach (e :: es) X.env = (false, eval e X.env) :: starEach es X.env := by rfl) (hpl : (backTo pos (starEach es X.env)).any (·.1) = false := by rfl) :
    DE X (.Call (.Name x q) (e :: es) [] pos) (fun Γ k => tG n S ta (agD k) Γ) := PE.weak (pe_fn F hr ha hg hdb he hpl) fun σ H Q h => by
  obtain ⟨c, Γ, Z, k, ok, ht, hq⟩ := h
  refine call_g ok ht fun r Γ' v Z' H' hk ok' g rv => ?_
  cases r with
  | im d => exact hq d Γ' v Z' H' hk ok' g rv
  | ow o =>
    cases o with
    | lst ds =>
      obtain ⟨Z2, ok2, s2, r2⟩ := ok'.freeze rv
      exact hq _ _ v Z2 H' hk ok2 (g.trans s2) r2
    | ins C fs =>
      obtain ⟨Z2, ok2, s2, r2⟩ := ok'.freezeI rv
      exact hq _ _ v Z2 H' hk ok2 (g.trans s2) r2
    | dT kvs => exact False.elim hk
theorem do_callG (F : Fn X.prog X.w X.K X.mg X.base x k (SpG X.K n S)) (hr : Room k X.A) (ha : DA X (e :: es) ta) (hg : Gl X x := by rfl) (hdb : (x == ("__debug__" : Str)) = false := by decide) (he : starEach (e :: es) X.env = (false, eval e X.env) :: starEach es X.env := by rfl) (hpl : (backTo pos (starEach es X.env)).any (·.1) = false := by rfl) :
    DO X (.Call (.Name x q) (e :: es) [] pos) (fun Γ k => tG n S ta (agO k) Γ) := PE.weak (pe_fn F hr ha hg hdb he hpl) fun σ H Q h => by
  obtain ⟨c, Γ, Z, k, ok, ht, hq⟩ := h
  refine call_g ok ht fun r Γ' v Z' H' hk ok' g rv => ?_
  cases r with
  | im d => exact False.elim hk
  | ow o => exact hq o Γ' v Z' H' hk ok' g rv
end
end DL

namespace DL
open PySem PySem.Spec L2

/-! ### attributes -/
def dFld (f : Str) : D → D
  | .ins _ fs => (fs.lookup f).getD .non
  | _ => .non
def cFld (C : Addr) (f : Str) : D → Prop
  | .ins C' fs => C' = C ∧ (fs.lookup f).isSome = true
  | _ => False
section
variable {X : Cx} {e o : Expr} {f : Str} {pos : Pos} {p : Pr} {g : Env → D} {t : DT} {C : Addr}
theorem fld_of {K : PySem.W.Frag} {Z H : Hp} {x : V} {d : D} {Q : VK} (s : Sub Z H) (r : Rep K Z x d) (cl : Cls K C) (na : NoAttr K C f) (hc : cFld C f d) (hq : ∀ v, Rep K Z v (dFld f d) → Q v H) :
    ∃ a C' dx fs v, x = .ref a ∧ H a = some (.ins C' dx fs) ∧ Cls K C' ∧ NoAttr K C' f ∧ fs.lookup f = some v ∧ Q v H := by
  cases r with
  | ins h rf =>
    obtain ⟨rfl, hs⟩ := hc
    obtain ⟨y, hy⟩ := Option.isSome_iff_exists.mp hs
    obtain ⟨v, h1, h2⟩ := rf.lookup hy
    refine ⟨_, _, _, _, v, rfl, s _ _ h, cl, na, h1, hq v ?_⟩
    show Rep K Z v ((List.lookup f _).getD .non)
    rw [hy]
    exact h2
  | _ => exact hc.elim
theorem dp_fld (cl : Cls X.K C) (na : NoAttr X.K C f) (he : DP X e p g) (hb : attributeBase e f X.env (eval e X.env) = eval e X.env := by rfl) : DP X (.Attribute e f pos) (fun Γ => p Γ ∧ cFld C f (g Γ)) (fun Γ => dFld f (g Γ)) := PE.weak (pe_fld he hb) fun σ H Q h => by
  obtain ⟨c, Γ, Z, ok, ⟨h1, h2⟩, hq⟩ := h
  exact ⟨c, Γ, Z, ok, h1, fun x Z1 H1 ok1 g1 r1 => fld_of ok1.sub r1 cl na h2 fun v r => hq v Z1 H1 ok1 g1 r⟩
theorem de_fld (cl : Cls X.K C) (na : NoAttr X.K C f) (he : DE X e t) (hb : attributeBase e f X.env (eval e X.env) = eval e X.env := by rfl) : DE X (.Attribute e f pos) (fun Γ k => t Γ fun d Γ1 => cFld C f d ∧ k (dFld f d) Γ1) := PE.weak (pe_fld he hb) fun σ H Q h => by
  obtain ⟨c, Γ, Z, k, ok, h1, hq⟩ := h
  exact ⟨c, Γ, Z, _, ok, h1, fun d Γ1 x Z1 H1 k1 ok1 g1 r1 => fld_of ok1.sub r1 cl na k1.1 fun v r => hq _ _ v Z1 H1 k1.2 ok1 g1 r⟩
/-- an attribute of the slot's own instance -/
def nFld (C : Addr) (f : Str) : Sl → Option D
  | .own _ (.ins C' fs) => if C' = C then fs.lookup f else none
  | _ => none
theorem dp_fldN {i : Nat} (cl : Cls X.K C) (na : NoAttr X.K C f) (he : PE X e (tVar i)) (hb : attributeBase e f X.env (eval e X.env) = eval e X.env := by rfl) : DP X (.Attribute e f pos) (fun Γ => (nFld C f (gt Γ i)).isSome = true) (fun Γ => (nFld C f (gt Γ i)).getD .non) := PE.weak (pe_fld he hb) fun σ H Q h => by
  obtain ⟨c, Γ, Z, ok, h1, hq⟩ := h
  have hs := ok.sl i
  dsimp only at hq h1
  revert h1 hq hs
  cases q : gt Γ i with
  | un => exact fun h => absurd h (by simp [nFld])
  | im d => exact fun h => absurd h (by simp [nFld])
  | own b o =>
    cases o with
    | lst ds => exact fun h => absurd h (by simp [nFld])
    | dT kvs => exact fun h => absurd h (by simp [nFld])
    | ins C' fs =>
      intro h1 hq ⟨a, e1, ⟨dx, fv, e2, e3⟩, _⟩
      by_cases e : C' = C
      · subst e
        simp only [nFld, if_true] at h1 hq
        obtain ⟨y, hy⟩ := Option.isSome_iff_exists.mp h1
        obtain ⟨v, h3, h4⟩ := e3.lookup hy
        exact ⟨_, e1, a, _, dx, fv, v, rfl, e2, cl, na, h3, hq v Z H ok Sub.refl (by rw [hy]; exact h4)⟩
      · simp [nFld, if_neg e] at h1
end

/-! ### own methods, own classes made -/
structure Mt (P : Program) (w : World) (K : PySem.W.Frag) (mg : Str → Option Value) (base : Heap) (C : Addr) (m : Str) (k : Nat) (sp : Sp) : Prop where
  cl : Cls K C
  sf : PySem.W.selfFirst K C = true
  ex : ∃ f fd ps, FnOk P w K mg base CX0 k f fd ps sp ∧ Meth K C m f ∧ Binds K fd ps []
section
variable {X : Cx} {m x : Str} {k n : Nat} {e o : Expr} {es : List Expr} {p po : Pr} {fo : Env → D} {fs : Env → List D} {pre : List D → Prop} {val : List D → D} {q pos apos : Pos} {C : Addr}
def noAt (C : Addr) (m : Str) : D → Prop
  | .ins C' fs => C' = C ∧ fs.lookup m = none
  | _ => False
theorem dp_meth {pl : Sem Bool} (M : Mt X.prog X.w X.K X.mg X.base C m k (SpP X.K n pre val)) (hr : Room k X.A) (ho : DP X o po fo) (ha : DPA X (e :: es) p fs)
    (hst : starEach (e :: es) X.env = (false, eval e X.env) :: starEach es X.env := by rfl) (hpl : (backTo pos (starEach es X.env)).any (·.1) = false := by rfl)
    (ht : eval (.Call (.Attribute o m apos) (e :: es) [] pos) X.env = (do
      let ov ← eval o X.env
      standAt apos.atName
      let (f, first) ← holding [ov] (getMethod ov m pl)
      callWith pos f first (backTo pos (starEach (e :: es) X.env)) (backToKw pos (keywordEach [] X.env))) := by rfl) :
    DP X (.Call (.Attribute o m apos) (e :: es) [] pos) (fun Γ => po Γ ∧ p Γ ∧ noAt C m (fo Γ) ∧ (fo Γ :: fs Γ).length = n ∧ pre (fo Γ :: fs Γ)) (fun Γ => val (fo Γ :: fs Γ)) := by
  obtain ⟨f, fd, ps, F, hm, hb⟩ := M.ex
  refine PE.weak (pe_meth ho M.cl hm F hr hb .nil (pass0 (X := X)) ha hst hpl ht) fun σ H Q h => ?_
  obtain ⟨c, Γ, Z, ok, ⟨h1, h2, h3, h4, h5⟩, hq⟩ := h
  refine ⟨c, Γ, Z, ok, h1, fun v Z1 H1 ok1 g1 r1 => ?_⟩
  dsimp only at hq
  generalize fo Γ = d at r1 h3 h4 h5 hq
  cases r1 with
  | ins hz rf =>
    obtain ⟨rfl, hn⟩ := h3
    refine ⟨_, _, _, rfl, ok1.sub _ _ hz, rf.lookup_none hn, c, Γ, Z1, ok1, h2, fun vs Z2 H2 ok2 g2 r2 => ?_⟩
    dsimp only
    rw [List.append_nil]
    exact ⟨Z2, _, ok2.sub, .cons (Rep.mono g2 (.ins hz rf)) r2, h4, h5, fun v Z3 H3 g3 r3 => hq v Z3 H3 (ok2.grows g3) ((g1.trans g2).trans g3.gz) r3⟩
  | _ => exact h3.elim
theorem dp_meth0 {pl : Sem Bool} (M : Mt X.prog X.w X.K X.mg X.base C m k (SpP X.K n pre val)) (hr : Room k X.A) (ho : DP X o po fo)
    (ht : eval (.Call (.Attribute o m apos) [] [] pos) X.env = (do
      let ov ← eval o X.env
      standAt apos.atName
      let (f, first) ← holding [ov] (getMethod ov m pl)
      callWith pos f first (backTo pos (starEach [] X.env)) (backToKw pos (keywordEach [] X.env))) := by rfl) :
    DP X (.Call (.Attribute o m apos) [] [] pos) (fun Γ => po Γ ∧ noAt C m (fo Γ) ∧ 1 = n ∧ pre [fo Γ]) (fun Γ => val [fo Γ]) := by
  obtain ⟨f, fd, ps, F, hm, hb⟩ := M.ex
  refine PE.weak (pe_meth0 ho M.cl hm F hr hb .nil (pass0 (X := X)) ht) fun σ H Q h => ?_
  obtain ⟨c, Γ, Z, ok, ⟨h1, h3, h4, h5⟩, hq⟩ := h
  refine ⟨c, Γ, Z, ok, h1, fun v Z1 H1 ok1 g1 r1 => ?_⟩
  dsimp only at hq
  generalize fo Γ = d at r1 h3 h5 hq
  cases r1 with
  | ins hz rf =>
    obtain ⟨rfl, hn⟩ := h3
    refine ⟨_, _, _, rfl, ok1.sub _ _ hz, rf.lookup_none hn, ?_⟩
    exact ⟨Z1, _, ok1.sub, .cons (.ins hz rf) .nil, h4, h5, fun v Z3 H3 g3 r3 => hq v Z3 H3 (ok1.grows g3) (g1.trans g3.gz) r3⟩
  | _ => exact h3.elim
/-- __init__ as a promise over data: the attributes behind it -/
def SInit (C : Addr) (pre : List D → Prop) (val : List D → List (Str × D)) : DSp := fun as k => ∃ ds, as = .ow (.ins C []) :: ds.map Ag.im ∧ pre ds ∧ k (.im .non) (.ow (.ins C (val ds)) :: ds.map Ag.im)
structure Mke (P : Program) (w : World) (K : PySem.W.Frag) (mg : Str → Option Value) (base : Heap) (x : Str) (C : Addr) (k : Nat) (sp : Sp) : Prop where
  ex : ∃ f fd ps, FnOk P w K mg base CX0 k f fd ps sp ∧ Mk K C f ∧ Binds K fd ps []
  g : mg x = some (.ref C)
theorem shape_ims : ∀ ds : List D, Shape (ds.map Ag.im) (ds.map Ag.im)
  | [] => trivial
  | _ :: r => ⟨rfl, shape_ims r⟩
theorem sl_ims {ds : List D} {j : Nat} : gt ((ds.map Ag.im).map Ag.sl) j = match ds[j]? with
    | some d => .im d
    | none => .un := by
  rw [gt_map_sl, List.getElem?_map]
  cases ds[j]? <;> rfl
theorem make_of {K : PySem.W.Frag} {Z H : Hp} {c : FC} {Γ : Env} {σ : St} {vs : List V} {ds : List D} {vali : List D → List (Str × D)} {prei : List D → Prop} {Q : VK} {a dx : Addr} (ok : OkS K c Γ Z σ H) (r : RepL K Z vs ds) (hn : ds.length + 1 = n) (hp : prei ds)
    (h0 : H a = none) (h1 : H dx = none) (hne : dx ≠ a) (hq : ∀ v Z' H', OkS K c Γ Z' σ H' → Sub Z Z' → Rep K Z' v (.ins C (vali ds)) → Q v H') :
    SpG K n (SInit C prei vali) (.ref a :: vs) (upd (upd H dx (.own a)) a (.ins C dx [])) (fun v H2 => v = .non ∧ Q (.ref a) H2) E0 := by
  have z0 : Z a = none := Sub.none ok.sub h0
  have z1 : Z dx = none := Sub.none ok.sub h1
  have s2 : Sub Z (upd (upd H dx (.own a)) a (.ins C dx [])) := fun b o e => by
    rw [upd_ne (ne_of_none e z0), upd_ne (ne_of_none e z1)]
    exact ok.sub b o e
  let cc : FC := ⟨fun b => (upd (upd H dx (.own a)) a (.ins C dx [])) b ≠ none ∧ b ≠ a, upd (upd H dx (.own a)) a (.ins C dx []), Z, .ref a :: vs⟩
  have e0 : OkS K cc ((.ow (.ins C []) :: ds.map Ag.im).map Ag.sl) Z ((.ref a :: vs).map some) (upd (upd H dx (.own a)) a (.ins C dx [])) := by
    refine ⟨s2, fun b f => ⟨rfl, rfl, f.1⟩, Sub.refl, fun _ h => h, fun j => ?_, fun i j b p o q u g1 g2 g3 g4 => ?_, ?_⟩
    · cases j with
      | zero => exact ⟨a, rfl, ⟨dx, [], upd_same, .nil⟩, z0, fun f => f.2 rfl, by rw [if_pos rfl]; rfl⟩
      | succ j =>
        show SlOk K cc Z _ _ (j + 1) (gt ((ds.map Ag.im).map Ag.sl) j)
        rw [sl_ims]
        cases q : ds[j]? with
        | none => trivial
        | some d =>
          obtain ⟨v, k1, k2⟩ := r.get q
          exact ⟨v, by simpa using k1, k2⟩
    · have key : ∀ i p o, gt ((Ag.ow (.ins C []) :: ds.map Ag.im).map Ag.sl) i = .own p o → i = 0 := fun i p o g => by
        cases i with
        | zero => rfl
        | succ i =>
          have g' : gt ((ds.map Ag.im).map Ag.sl) i = .own p o := g
          rw [sl_ims] at g'
          cases q : ds[i]? with
          | none => rw [q] at g'; cases g'
          | some d => rw [q] at g'; cases g'
      rw [key i p o g1, key j q u g2]
    · simp [r.length]
  refine ⟨cc, _, Z, fun r' as' => ∀ v Z' H', Shape (.ow (.ins C []) :: ds.map Ag.im) as' → OkS K cc (as'.map Ag.sl) Z' ((V.ref a :: vs).map some) H' → Sub Z Z' → RepA K cc (as'.map Ag.sl) Z' ((V.ref a :: vs).map some) H' v r' → v = V.non ∧ Q (.ref a) H', rfl, by rw [List.length_cons, List.length_map]; exact hn, by rw [List.length_cons, r.length]; exact hn, e0, ⟨ds, rfl, hp, ?_⟩, fun r' as' v Z' H' h => h v Z' H'⟩
  intro v Z' H' sh ok' gz rv
  refine ⟨rv.non_of, ?_⟩
  have s0 := ok'.sl 0
  obtain ⟨b, q1, ⟨dx', fv, q2, q3⟩, q4, _⟩ := (show ∃ b, _ ∧ OcOk K Z' H' b (.ins C (vali ds)) ∧ _ from s0)
  cases q1
  have sz : Sub Z' (upd Z' a (.ins C dx' fv)) := Sub.upd q4
  refine hq (.ref a) (upd Z' a (.ins C dx' fv)) H' (ok.grow (fun b u e => ?_) (gz.trans sz) (fun b hb => ?_) fun b hb => ?_) (gz.trans sz) (.ins upd_same (q3.mono sz))
  · by_cases q : b = a
    · subst q; rw [upd_same] at e; rw [q2]; exact e
    · rw [upd_ne q] at e; exact ok'.sub b u e
  · have n1 : b ≠ a := fun e => hb (by rw [e]; exact h0)
    have n2 : b ≠ dx := fun e => hb (by rw [e]; exact h1)
    have k : (upd (upd H dx (.own a)) a (.ins C dx [])) b = H b := by rw [upd_ne n1, upd_ne n2]
    obtain ⟨k1, _, _⟩ := ok'.fr b ⟨by rw [k]; exact hb, n1⟩
    exact Eq.trans k1 k
  · have n1 : b ≠ a := fun e => hb (by rw [e]; exact h0)
    have n2 : b ≠ dx := fun e => hb (by rw [e]; exact h1)
    have k : (upd (upd H dx (.own a)) a (.ins C dx [])) b = H b := by rw [upd_ne n1, upd_ne n2]
    obtain ⟨_, k2, _⟩ := ok'.fr b ⟨by rw [k]; exact hb, n1⟩
    rw [upd_ne n1]
    exact k2
theorem dp_make {prei : List D → Prop} {vali : List D → List (Str × D)} (M : Mke X.prog X.w X.K X.mg X.base x C k (SpG X.K n (SInit C prei vali))) (hr : Room (k + 1) X.A) (ha : DPA X (e :: es) p fs) (hg : Gl X x := by rfl) (hdb : (x == ("__debug__" : Str)) = false := by decide) (he : starEach (e :: es) X.env = (false, eval e X.env) :: starEach es X.env := by rfl) (hpl : (backTo pos (starEach es X.env)).any (·.1) = false := by rfl) :
    DP X (.Call (.Name x q) (e :: es) [] pos) (fun Γ => p Γ ∧ (fs Γ).length + 1 = n ∧ prei (fs Γ)) (fun Γ => .ins C (vali (fs Γ))) := by
  obtain ⟨f, fd, ps, F, hm, hb⟩ := M.ex
  refine PE.weak (pe_make hm F hr hg M.g hb .nil (pass0 (X := X)) ha hdb he hpl) fun σ H Q h => ?_
  obtain ⟨c, Γ, Z, ok, ⟨h1, h2, h3⟩, hq⟩ := h
  refine ⟨c, Γ, Z, ok, h1, fun vs Z1 H1 ok1 g1 r1 a dx ha hd hne => ?_⟩
  rw [List.append_nil]
  exact make_of ok1 r1 h2 h3 ha hd hne fun v Z2 H2 ok2 g2 r2 => hq v Z2 H2 ok2 (g1.trans g2) r2
theorem de_make {prei : List D → Prop} {vali : List D → List (Str × D)} {tl : DTl} (M : Mke X.prog X.w X.K X.mg X.base x C k (SpG X.K n (SInit C prei vali))) (hr : Room (k + 1) X.A) (ha : DLs X (e :: es) tl) (hg : Gl X x := by rfl) (hdb : (x == ("__debug__" : Str)) = false := by decide) (he : starEach (e :: es) X.env = (false, eval e X.env) :: starEach es X.env := by rfl) (hpl : (backTo pos (starEach es X.env)).any (·.1) = false := by rfl) :
    DE X (.Call (.Name x q) (e :: es) [] pos) (fun Γ k => tl Γ fun ds Γ1 => ds.length + 1 = n ∧ prei ds ∧ k (.ins C (vali ds)) Γ1) := by
  obtain ⟨f, fd, ps, F, hm, hb⟩ := M.ex
  refine PE.weak (pe_make hm F hr hg M.g hb .nil (pass0 (X := X)) ha hdb he hpl) fun σ H Q h => ?_
  obtain ⟨c, Γ, Z, k, ok, h1, hq⟩ := h
  refine ⟨c, Γ, Z, _, ok, h1, fun ds Γ1 vs Z1 H1 k1 ok1 g1 r1 a dx ha hd hne => ?_⟩
  rw [List.append_nil]
  exact make_of ok1 r1 k1.1 k1.2.1 ha hd hne fun v Z2 H2 ok2 g2 r2 => hq _ _ v Z2 H2 k1.2.2 ok2 (g1.trans g2) r2
end

/-! ### own operators -/
section
variable {X : Cx} {k n : Nat} {pre : List D → Prop} {val : List D → D} {C : Addr}
def insOf (C : Addr) : D → Prop
  | .ins C' _ => C' = C
  | _ => False
theorem Rep.ins_of {K : PySem.W.Frag} {Z : Hp} {v : V} {d : D} (r : Rep K Z v d) (h : insOf C d) : ∃ a dx fv fs, v = .ref a ∧ d = .ins C fs ∧ Z a = some (.ins C dx fv) ∧ RepF K Z fv fs := by
  cases r with
  | ins hz rf =>
    obtain rfl : _ = C := h
    exact ⟨_, _, _, _, rfl, rfl, hz, rf⟩
  | _ => exact h.elim
theorem op_ownBin {op : Operator} {nm : Str} (M : Mt X.prog X.w X.K X.mg X.base C nm k (SpP X.K n pre val)) (hr : Room k X.A) (hnm : PySem.dunder op.info.2 = nm := by rfl) :
    OpD X (binaryOp op) (fun x y => insOf C x ∧ insOf C y ∧ 2 = n ∧ pre [x, y]) (fun x y => val [x, y]) := by
  intro pins s σ H x y v u Q I rx ry h
  obtain ⟨Z, dx, dy, sb, r1, r2, ⟨c1, c2, hn, hp⟩, hq⟩ := h
  obtain ⟨a, ax, av, af, rfl, rfl, za, fa⟩ := r1.ins_of c1
  obtain ⟨b, bx, bv, bf, rfl, rfl, zb, fb⟩ := r2.ins_of c2
  obtain ⟨f, fd, ps, F, hm, hb⟩ := M.ex
  cases rx
  cases ry
  obtain ⟨mA, J, _⟩ := ins_get I.hok (sb _ _ za)
  obtain ⟨mB, J', _⟩ := ins_get I.hok (sb _ _ zb)
  obtain ⟨od, J, _⟩ := J.look
  obtain ⟨od', J', _⟩ := J'.look
  obtain ⟨m, hF⟩ := I.fr
  subst hnm
  refine PySem.W.binop_K hF I.ok.mod.kin J J'.type M.sf hm.at_ hm.fn ?_
  refine thn (run_fn (us := [.ref a, .ref b]) (vs := [.ref a, .ref b]) F hr hb .nil (pass0 (X := X)) I (.cons rfl (.cons rfl .nil)) (Q := Q) ?_) fun v s' hv => ?_
  · exact ⟨Z, _, sb, .cons r1 (.cons r2 .nil), hn, hp, fun v Z' H' g r => hq v Z' H' g r⟩
  · obtain ⟨v', H', I', rv, q⟩ := hv
    cases v <;> first | exact ⟨v', H', I', rv, q⟩ | (cases v' <;> first | (exact nomatch rv) | (obtain ⟨_, e⟩ := rv; exact nomatch e))
theorem op_ownIn {nm : Str} (M : Mt X.prog X.w X.K X.mg X.base C nm k (SpP X.K n pre val)) (hr : Room k X.A) (hnm : ("__contains__" : Str) = nm := by rfl) :
    OpD X (compareOp .In) (fun x y => insOf C y ∧ 2 = n ∧ pre [y, x] ∧ (val [y, x]).isB) (fun x y => val [y, x]) := by
  intro pins s σ H x y v u Q I rx ry h
  obtain ⟨Z, dx, dy, sb, r1, r2, ⟨c2, hn, hp, hB⟩, hq⟩ := h
  obtain ⟨b, bx, bv, bf, rfl, rfl, zb, fb⟩ := r2.ins_of c2
  obtain ⟨f, fd, ps, F, hm, hb⟩ := M.ex
  cases ry
  obtain ⟨mB, J', _⟩ := ins_get I.hok (sb _ _ zb)
  obtain ⟨od', J', _⟩ := J'.look
  obtain ⟨m, hF⟩ := I.fr
  subst hnm
  refine PySem.W.in_K hF I.ok.mod.kin J' hm.at_ hm.fn ?_
  refine thn (run_fn (us := [.ref b, v]) (vs := [.ref b, x]) F hr hb .nil (pass0 (X := X)) I (.cons rfl (.cons rx .nil)) (Q := fun v H' => ∃ k, v = .bl k ∧ Q (.bl k) H') ?_) fun v s' hv => ?_
  · refine ⟨Z, _, sb, .cons r2 (.cons r1 .nil), hn, hp, fun v Z' H' g r => ?_⟩
    rw [hB.of] at r
    have e := r.bl_of
    subst e
    exact ⟨_, rfl, hq _ Z' H' g (by dsimp only; rw [hB.of]; exact .bl _)⟩
  · obtain ⟨v', H', I', rv, k, rfl, q⟩ := hv
    cases rv
    exact wpAny_truthy_bool ⟨.bl k, H', I', rfl, q⟩
theorem op_ownEq {nm : Str} (M : Mt X.prog X.w X.K X.mg X.base C nm k (SpP X.K n pre val)) (hr : Room k X.A) (hnm : ("__eq__" : Str) = nm := by rfl) :
    OpD X (compareOp .Eq) (fun x y => insOf C x ∧ insOf C y ∧ 2 = n ∧ pre [x, y]) (fun x y => val [x, y]) := by
  intro pins s σ H x y v u Q I rx ry h
  obtain ⟨Z, dx, dy, sb, r1, r2, ⟨c1, c2, hn, hp⟩, hq⟩ := h
  obtain ⟨a, ax, av, af, rfl, rfl, za, fa⟩ := r1.ins_of c1
  obtain ⟨b, bx, bv, bf, rfl, rfl, zb, fb⟩ := r2.ins_of c2
  obtain ⟨f, fd, ps, F, hm, hb⟩ := M.ex
  cases rx
  cases ry
  obtain ⟨mA, J, _⟩ := ins_get I.hok (sb _ _ za)
  obtain ⟨mB, J', _⟩ := ins_get I.hok (sb _ _ zb)
  obtain ⟨od, J, _⟩ := J.look
  obtain ⟨od', J', _⟩ := J'.look
  obtain ⟨m, hF⟩ := I.fr
  subst hnm
  show wpAny (model X.prog X.w) X.A (richCompare .Eq (.ref a) (.ref b)) (EP X pins σ Q) X.xe s
  refine PySem.W.cmp_K (op := .Eq) (tb := .ref C) hr.units0 hF I.ok.mod.kin J J'.type (by simp [PySem.W.notFirst]) hm.at_ hm.fn ?_
  refine thn (run_fn (us := [.ref a, .ref b]) (vs := [.ref a, .ref b]) F hr hb .nil (pass0 (X := X)) I (.cons rfl (.cons rfl .nil)) (Q := Q) ?_) fun v s' hv => ?_
  · exact ⟨Z, _, sb, .cons r1 (.cons r2 .nil), hn, hp, fun v Z' H' g r => hq v Z' H' g r⟩
  · obtain ⟨v', H', I', rv, q⟩ := hv
    cases v <;> first | exact ⟨v', H', I', rv, q⟩ | (cases v' <;> first | (exact nomatch rv) | (obtain ⟨_, e⟩ := rv; exact nomatch e))
end

/-! ### operators of data -/
def cI2 : D → D → Prop
  | .int _, .int _ => True
  | _, _ => False
def gI2 (g : Int → Int → D) : D → D → D
  | .int i, .int j => g i j
  | _, _ => .non
def cI2C (C : Int → Int → Prop) : D → D → Prop
  | .int i, .int j => C i j
  | _, _ => False
section
variable {X : Cx}
theorem opd_I0 {f : Value → Value → Sem Value} {g : Int → Int → V} {gd : Int → Int → D} (h : OpR X f (rI0 g)) (r : ∀ i j Z, Rep X.K Z (g i j) (gd i j)) : OpD X f cI2 (gI2 gd) := OpR.weak h fun x y H Q w => by
  obtain ⟨Z, dx, dy, sb, r1, r2, hc, hq⟩ := w
  cases r1 with
  | int i =>
    cases r2 with
    | int j => exact ⟨i, j, rfl, rfl, hq _ Z H (Grow.refl sb) (r i j Z)⟩
    | _ => exact hc.elim
  | _ => exact hc.elim
theorem opd_IC {f : Value → Value → Sem Value} {C : Int → Int → Prop} {g : Int → Int → V} {gd : Int → Int → D} (h : OpR X f (rI C g)) (r : ∀ i j Z, Rep X.K Z (g i j) (gd i j)) : OpD X f (cI2C C) (gI2 gd) := OpR.weak h fun x y H Q w => by
  obtain ⟨Z, dx, dy, sb, r1, r2, hc, hq⟩ := w
  cases r1 with
  | int i =>
    cases r2 with
    | int j => exact ⟨i, j, rfl, rfl, hc, hq _ Z H (Grow.refl sb) (r i j Z)⟩
    | _ => exact hc.elim
  | _ => exact hc.elim
abbrev dSub := gI2 fun i j => .int (i - j)
abbrev dMul := gI2 fun i j => .int (i * j)
abbrev dDiv := gI2 fun i j => .int (i / j)
abbrev dMod := gI2 fun i j => .int (i % j)
abbrev dPow := gI2 fun i j => .int (i ^ j.toNat)
theorem o_sub : OpD X (binaryOp .Sub) cI2 dSub := opd_I0 op_sub fun _ _ _ => .int _
theorem o_mul : OpD X (binaryOp .Mult) (cI2C CMulW) dMul := opd_IC op_mulW fun _ _ _ => .int _
theorem o_div : OpD X (binaryOp .FloorDiv) (cI2C CDivW) dDiv := opd_IC op_fdivW fun _ _ _ => .int _
theorem o_mod : OpD X (binaryOp .Mod) (cI2C fun _ j => 0 < j) dMod := opd_IC op_mod fun _ _ _ => .int _
theorem o_pow : OpD X (binaryOp .Pow) (cI2C CPow) dPow := opd_IC op_pow fun _ _ _ => .int _
/-- + of ints, texts, tuples -/
def dAdd : D → D → D
  | .int i, .int j => .int (i + j)
  | .str a, .str b => .str (a ++ b)
  | .tup a, .tup b => .tup (a ++ b)
  | _, _ => .non
def cAdd : D → D → Prop
  | .int _, .int _ => True
  | .str a, .str b => a.length + b.length ≤ sizeLine
  | .tup a, .tup b => a ≠ [] ∧ a.length + b.length ≤ sizeLine
  | _, _ => False
theorem o_add : OpD X (binaryOp .Add) cAdd dAdd := OpR.weak (OpR.or (OpR.or op_add op_add_str) op_catT) fun x y H Q w => by
  obtain ⟨Z, dx, dy, sb, r1, r2, hc, hq⟩ := w
  cases r1 with
  | int i =>
    cases r2 with
    | int j => exact .inl (.inl ⟨i, j, rfl, rfl, hq _ Z H (Grow.refl sb) (.int _)⟩)
    | _ => exact hc.elim
  | str i =>
    cases r2 with
    | str j => exact .inl (.inr ⟨i, j, rfl, rfl, hc, hq _ Z H (Grow.refl sb) (.str _)⟩)
    | _ => exact hc.elim
  | tup h1 l1 =>
    cases r2 with
    | tup h2 l2 =>
      refine .inr ⟨_, _, _, _, rfl, rfl, SqT.sub h1 sb, SqT.sub h2 sb, fun e => hc.1 ?_, by rw [l1.length, l2.length]; exact hc.2, ?_, ?_⟩
      · subst e
        cases l1
        rfl
      · intro e
        subst e
        cases l2
        exact hq _ Z H (Grow.refl sb) (by show Rep _ _ _ (.tup (_ ++ [])); rw [List.append_nil]; exact .tup h1 l1)
      · intro _ p hp
        exact hq _ _ _ (Grow.allocZ sb hp) (.tup (.inl (.inl upd_same)) ((l1.append l2).mono (Sub.upd (Sub.none sb hp))))
    | _ => exact hc.elim
  | _ => exact hc.elim
abbrev dLt := gI2 fun i j => .bl (decide (i < j))
abbrev dLe := gI2 fun i j => .bl (decide (i ≤ j))
abbrev dGt := gI2 fun i j => .bl (decide (i > j))
abbrev dGe := gI2 fun i j => .bl (decide (i ≥ j))
theorem o_lt : OpD X (compareOp .Lt) cI2 dLt := opd_I0 op_lt fun _ _ _ => .bl _
theorem o_le : OpD X (compareOp .LtE) cI2 dLe := opd_I0 op_le fun _ _ _ => .bl _
theorem o_gt : OpD X (compareOp .Gt) cI2 dGt := opd_I0 op_gt fun _ _ _ => .bl _
theorem o_ge : OpD X (compareOp .GtE) cI2 dGe := opd_I0 op_ge fun _ _ _ => .bl _
end
end DL

namespace DL
open PySem PySem.Spec L2

/-! ### == of data -/
mutual
def D.py : D → PyData
  | .non => .none
  | .bl b => .bool b
  | .int i => .int i
  | .str s => .str s
  | .tup xs => .tuple (D.pyL xs)
  | .lst xs => .list (D.pyL xs)
  | .ins _ _ => .none
  | .dic _ _ => .none
def D.pyL : List D → List PyData
  | [] => []
  | d :: r => d.py :: D.pyL r
end
mutual
/-- data of depth n at most, without instances -/
def D.ok : Nat → D → Bool
  | _, .non => true
  | _, .bl _ => true
  | _, .int _ => true
  | _, .str s => PyData.canLay0 (.str s)
  | 0, .tup _ => false
  | 0, .lst _ => false
  | n + 1, .tup xs => D.okL n xs
  | n + 1, .lst xs => D.okL n xs
  | _, .ins _ _ => false
  | _, .dic _ _ => false
def D.okL : Nat → List D → Bool
  | _, [] => true
  | n, d :: r => D.ok n d && D.okL n r
end
mutual
theorem D.ok_py {K : PySem.W.Frag} {Z H : Hp} (s : Sub Z H) : ∀ (n : Nat) (d : D) {v : V}, D.ok n d = true → Rep K Z v d → Dp K H v d.py ∧ d.py.canLay0 = true ∧ d.py.depth ≤ n
  | n, .non, _, _, h => by cases h; exact ⟨.non, rfl, by simp [D.py, PyData.depth]⟩
  | n, .bl b, _, _, h => by cases h; exact ⟨.bl b, rfl, by simp [D.py, PyData.depth]⟩
  | n, .int b, _, _, h => by cases h; exact ⟨.int b, rfl, by simp [D.py, PyData.depth]⟩
  | n, .str b, _, e, h => by
    cases h
    cases n <;> exact ⟨.str b, e, by simp [D.py, PyData.depth]⟩
  | 0, .tup _, _, e, _ => by cases e
  | 0, .lst _, _, e, _ => by cases e
  | n + 1, .tup xs, _, e, h => by
    cases h with
    | tup h r =>
      obtain ⟨h1, h2, h3⟩ := D.okL_py s n xs e r
      exact ⟨.tup (SqT.sub h s) h1, by simp only [D.py, PyData.canLay0]; exact h2, by simp only [D.py, PyData.depth]; omega⟩
  | n + 1, .lst xs, _, e, h => by
    cases h with
    | lst h r =>
      obtain ⟨h1, h2, h3⟩ := D.okL_py s n xs e r
      exact ⟨.lst (SqL.sub h s) h1, by simp only [D.py, PyData.canLay0]; exact h2, by simp only [D.py, PyData.depth]; omega⟩
  | n, .ins _ _, _, e, _ => by cases n <;> cases e
  | n, .dic _ _, _, e, _ => by cases n <;> cases e
theorem D.okL_py {K : PySem.W.Frag} {Z H : Hp} (s : Sub Z H) : ∀ (n : Nat) (ds : List D) {vs : List V}, D.okL n ds = true → RepL K Z vs ds → DpAll K H vs (D.pyL ds) ∧ PyData.canLayAll0 (D.pyL ds) = true ∧ PyData.depthAll (D.pyL ds) ≤ n
  | n, [], _, _, h => by cases h; exact ⟨.nil, rfl, by simp [D.pyL, PyData.depthAll]⟩
  | n, d :: r, _, e, h => by
    cases h with
    | cons h1 h2 =>
      have e' : (D.ok n d && D.okL n r) = true := e
      rw [Bool.and_eq_true] at e'
      obtain ⟨a1, a2, a3⟩ := D.ok_py s n d e'.1 h1
      obtain ⟨b1, b2, b3⟩ := D.okL_py s n r e'.2 h2
      exact ⟨.cons a1 b1, by simp only [D.pyL, PyData.canLayAll0, a2, b2]; rfl, by simp only [D.pyL, PyData.depthAll]; omega⟩
end
def cEq (x y : D) : Prop := D.ok 16 x = true ∧ D.ok 16 y = true
def dEqB (x y : D) : Bool := PyData.eqv x.py y.py
def dEq (x y : D) : D := .bl (dEqB x y)
def dNe (x y : D) : D := .bl (!dEqB x y)
section
variable {X : Cx}
theorem eq_args {K : PySem.W.Frag} {Z H : Hp} {x y : V} {dx dy : D} (s : Sub Z H) (r1 : Rep K Z x dx) (r2 : Rep K Z y dy) (hc : cEq dx dy) : Dp K H x dx.py ∧ Dp K H y dy.py ∧ SeqAt.shaped dx.py = true ∧ SeqAt.shaped dy.py = true := by
  obtain ⟨a1, a2, a3⟩ := D.ok_py s 16 dx hc.1 r1
  obtain ⟨b1, b2, b3⟩ := D.ok_py s 16 dy hc.2 r2
  refine ⟨a1, b1, ?_, ?_⟩ <;> unfold SeqAt.shaped
  · rw [a2, Bool.true_and, decide_eq_true_eq]; omega
  · rw [b2, Bool.true_and, decide_eq_true_eq]; omega
theorem o_eq {k : Nat} (hr : Room k X.A) : OpD X (compareOp .Eq) cEq dEq := OpR.weak (op_eqD hr.units) fun x y H Q ⟨Z, dx, dy, sb, r1, r2, hc, hq⟩ => by
  obtain ⟨h1, h2, h3, h4⟩ := eq_args sb r1 r2 hc
  exact ⟨_, _, h1, h2, h3, h4, hq _ Z H (Grow.refl sb) (.bl _)⟩
theorem o_ne {k : Nat} (hr : Room k X.A) : OpD X (compareOp .NotEq) cEq dNe := OpR.weak (op_neD hr.units) fun x y H Q ⟨Z, dx, dy, sb, r1, r2, hc, hq⟩ => by
  obtain ⟨h1, h2, h3, h4⟩ := eq_args sb r1 r2 hc
  exact ⟨_, _, h1, h2, h3, h4, hq _ Z H (Grow.refl sb) (.bl _)⟩
def D.isN : D → Bool
  | .non => true
  | _ => false
theorem Rep.isN {K : PySem.W.Frag} {Z : Hp} {v : V} {d : D} (r : Rep K Z v d) : decide (v = .non) = d.isN := by cases r <;> simp [D.isN]
def cN (_ y : D) : Prop := y = .non
theorem o_isN : OpD X (compareOp .Is) cN (fun x _ => .bl x.isN) := OpR.weak op_isN fun x y H Q ⟨Z, dx, dy, sb, r1, r2, hc, hq⟩ => by
  obtain rfl : dy = .non := hc
  exact ⟨r2.non_of, hq _ Z H (Grow.refl sb) (by rw [r1.isN]; exact .bl _)⟩
theorem o_notN : OpD X (compareOp .IsNot) cN (fun x _ => .bl (!x.isN)) := OpR.weak op_notN fun x y H Q ⟨Z, dx, dy, sb, r1, r2, hc, hq⟩ => by
  obtain rfl : dy = .non := hc
  exact ⟨r2.non_of, hq _ Z H (Grow.refl sb) (by rw [r1.isN]; exact .bl _)⟩
def cB2 (x y : D) : Prop := x.isB ∧ y.isB
theorem o_isB : OpD X (compareOp .Is) cB2 (fun x y => .bl (x.b == y.b)) := OpR.weak op_is_bl fun x y H Q ⟨Z, dx, dy, sb, r1, r2, hc, hq⟩ => by
  rw [hc.1.of] at r1
  rw [hc.2.of] at r2
  exact ⟨_, _, r1.bl_of, r2.bl_of, hq _ Z H (Grow.refl sb) (by rw [← Bool.beq_eq_decide_eq]; exact .bl _)⟩
theorem o_notB : OpD X (compareOp .IsNot) cB2 (fun x y => .bl (x.b != y.b)) := OpR.weak op_isnot_bl fun x y H Q ⟨Z, dx, dy, sb, r1, r2, hc, hq⟩ => by
  rw [hc.1.of] at r1
  rw [hc.2.of] at r2
  exact ⟨_, _, r1.bl_of, r2.bl_of, hq _ Z H (Grow.refl sb) (by rw [← Bool.beq_eq_decide_eq]; exact .bl _)⟩
theorem u_neg : UnD X (unaryOp .USub) D.isI (fun x => .int (-x.i)) := by
  intro pins s σ H x v Q I rx h
  obtain ⟨Z, dx, sb, r, hc, hq⟩ := h
  cases r with
  | int i => exact un_neg pins s σ H (.int i) v Q I rx ⟨i, rfl, hq _ Z H (Grow.refl sb) (.int _)⟩
  | _ => exact hc.elim
end

/-! ### built-in functions -/
def rCD (K : PySem.W.Frag) (C : List D → Prop) (g : List D → D) : List V → Hp → VK → Prop := fun vs H Q => ∃ Z ds, Sub Z H ∧ RepL K Z vs ds ∧ C ds ∧ ∀ v Z' H', Grow Z H Z' H' → Rep K Z' v (g ds) → Q v H'
abbrev CallD (X : Cx) (f : Value) (C : List D → Prop) (g : List D → D) : Prop := CallR X f (rCD X.K C g)
section
variable {X : Cx} {x id T : String} {e : Expr} {es : List Expr} {p : Pr} {fs : Env → List D} {q pos : Pos} {C : List D → Prop} {g : List D → D} {nm : Str} {r r' : List V → Hp → VK → Prop}
theorem CallR.weak {f : Value} (h : CallR X f r) (w : ∀ vs H Q, r' vs H Q → r vs H Q) : CallR X f r' := fun pins s σ H xs us Q I rv hq => h pins s σ H xs us Q I rv (w _ _ _ hq)
theorem CallR.or {f : Value} (h : CallR X f r) (h' : CallR X f r') : CallR X f (fun vs H Q => r vs H Q ∨ r' vs H Q) := fun pins s σ H xs us Q I rv hq => hq.elim (h pins s σ H xs us Q I rv) (h' pins s σ H xs us Q I rv)
theorem cb_of {K : PySem.W.Frag} {σ : St} {H : Hp} {Q : VK} (h : upP K (fun Γ => p Γ ∧ C (fs Γ)) (fun Γ => g (fs Γ)) σ H Q) : tCB (rCD K C g) (upPA K p fs) σ H Q := by
  obtain ⟨c, Γ, Z, ok, ⟨h1, h2⟩, hq⟩ := h
  exact ⟨c, Γ, Z, ok, h1, fun vs Z1 H1 ok1 g1 r1 => ⟨Z1, _, ok1.sub, r1, h2, fun v Z2 H2 g2 r2 => hq v Z2 H2 (ok1.grows g2) (g1.trans g2.gz) r2⟩⟩
theorem dp_b (hc : CallD X (.builtin id) C g) (hm : X.mg nm = none) (hv : bootBuiltins nm = some (.builtin id)) (ha : DPA X (e :: es) p fs) (hg : Gl X nm := by rfl) (hn : nm ≠ "__name__" := by decide) (hdb : (nm == ("__debug__" : Str)) = false := by decide)
    (he : starEach (e :: es) X.env = (false, eval e X.env) :: starEach es X.env := by rfl) (hpl : (backTo pos (starEach es X.env)).any (·.1) = false := by rfl) :
    DP X (.Call (.Name nm q) (e :: es) [] pos) (fun Γ => p Γ ∧ C (fs Γ)) (fun Γ => g (fs Γ)) := PE.weak (pe_callB hc hg hm hv ha hn hdb he hpl) fun _ _ _ h => cb_of h
theorem dp_ty (hc : CallD X (.type T) C g) (hm : X.mg nm = none) (hv : bootBuiltins nm = some (.type T)) (ha : DPA X (e :: es) p fs) (hg : Gl X nm := by rfl) (hn : nm ≠ "__name__" := by decide) (hdb : (nm == ("__debug__" : Str)) = false := by decide)
    (he : starEach (e :: es) X.env = (false, eval e X.env) :: starEach es X.env := by rfl) (hpl : (backTo pos (starEach es X.env)).any (·.1) = false := by rfl) :
    DP X (.Call (.Name nm q) (e :: es) [] pos) (fun Γ => p Γ ∧ C (fs Γ)) (fun Γ => g (fs Γ)) := PE.weak (pe_callTy hc hg hm hv ha hn hdb he hpl) fun _ _ _ h => cb_of h
theorem cbl_of {K : PySem.W.Frag} {tl : DTl} {σ : St} {H : Hp} {Q : VK} (h : upE K (fun Γ k => tl Γ fun ds Γ1 => C ds ∧ k (g ds) Γ1) σ H Q) : tCB (rCD K C g) (upLs K tl) σ H Q := by
  obtain ⟨c, Γ, Z, k, ok, h1, hq⟩ := h
  exact ⟨c, Γ, Z, _, ok, h1, fun ds Γ1 vs Z1 H1 k1 ok1 g1 r1 => ⟨Z1, _, ok1.sub, r1, k1.1, fun v Z2 H2 g2 r2 => hq _ _ v Z2 H2 k1.2 (ok1.grows g2) (g1.trans g2.gz) r2⟩⟩
theorem de_b {tl : DTl} (hc : CallD X (.builtin id) C g) (hm : X.mg nm = none) (hv : bootBuiltins nm = some (.builtin id)) (ha : DLs X (e :: es) tl) (hg : Gl X nm := by rfl) (hn : nm ≠ "__name__" := by decide) (hdb : (nm == ("__debug__" : Str)) = false := by decide)
    (he : starEach (e :: es) X.env = (false, eval e X.env) :: starEach es X.env := by rfl) (hpl : (backTo pos (starEach es X.env)).any (·.1) = false := by rfl) :
    DE X (.Call (.Name nm q) (e :: es) [] pos) (fun Γ k => tl Γ fun ds Γ1 => C ds ∧ k (g ds) Γ1) := PE.weak (pe_callB hc hg hm hv ha hn hdb he hpl) fun _ _ _ h => cbl_of h
theorem de_ty {tl : DTl} (hc : CallD X (.type T) C g) (hm : X.mg nm = none) (hv : bootBuiltins nm = some (.type T)) (ha : DLs X (e :: es) tl) (hg : Gl X nm := by rfl) (hn : nm ≠ "__name__" := by decide) (hdb : (nm == ("__debug__" : Str)) = false := by decide)
    (he : starEach (e :: es) X.env = (false, eval e X.env) :: starEach es X.env := by rfl) (hpl : (backTo pos (starEach es X.env)).any (·.1) = false := by rfl) :
    DE X (.Call (.Name nm q) (e :: es) [] pos) (fun Γ k => tl Γ fun ds Γ1 => C ds ∧ k (g ds) Γ1) := PE.weak (pe_callTy hc hg hm hv ha hn hdb he hpl) fun _ _ _ h => cbl_of h
/-- a built-in function that the module has under a name -/
theorem dp_bf (hc : CallD X (.builtin id) C g) (hm : X.mg nm = some (.builtin id)) (ha : DPA X (e :: es) p fs) (hg : Gl X nm := by rfl) (hdb : (nm == ("__debug__" : Str)) = false := by decide)
    (he : starEach (e :: es) X.env = (false, eval e X.env) :: starEach es X.env := by rfl) (hpl : (backTo pos (starEach es X.env)).any (·.1) = false := by rfl) :
    DP X (.Call (.Name nm q) (e :: es) [] pos) (fun Γ => p Γ ∧ C (fs Γ)) (fun Γ => g (fs Γ)) := PE.weak (pe_callBfun hc hg hm ha hdb he hpl) fun _ _ _ h => cb_of h
end
def cLen : List D → Prop
  | [.lst _] => True
  | [.tup _] => True
  | [.str z] => z.length ≤ sizeLine
  | _ => False
def gLen : List D → D
  | [.lst ds] => .int ds.length
  | [.tup ds] => .int ds.length
  | [.str z] => .int z.length
  | _ => .non
def cI1 : List D → Prop
  | [.int _] => True
  | _ => False
def cII : List D → Prop
  | [.int _, .int _] => True
  | _ => False
def gAbs : List D → D
  | [.int i] => .int (if i < 0 then -i else i)
  | _ => .non
def gMax : List D → D
  | [.int i, .int j] => .int (if j > i then j else i)
  | _ => .non
def gMin : List D → D
  | [.int i, .int j] => .int (if j < i then j else i)
  | _ => .non
def cInt : List D → Prop
  | [.int _] => True
  | [.bl _] => True
  | _ => False
def gInt : List D → D
  | [.int i] => .int i
  | [.bl k] => .int (if k = true then 1 else 0)
  | _ => .non
def gGcd : List D → D
  | [.int i, .int j] => .int (Nat.gcd i.natAbs j.natAbs : Nat)
  | _ => .non
section
variable {X : Cx}
theorem RepL.one {K : PySem.W.Frag} {Z : Hp} {vs : List V} {d : D} (h : RepL K Z vs [d]) : ∃ v, vs = [v] ∧ Rep K Z v d := by
  cases h with
  | cons h r => cases r; exact ⟨_, rfl, h⟩
theorem RepL.two {K : PySem.W.Frag} {Z : Hp} {vs : List V} {d e : D} (h : RepL K Z vs [d, e]) : ∃ v u, vs = [v, u] ∧ Rep K Z v d ∧ Rep K Z u e := by
  cases h with
  | cons h r => cases r with | cons h' r => cases r; exact ⟨_, _, rfl, h, h'⟩
theorem c_len : CallD X (.builtin "len") cLen gLen := CallR.weak call_len fun vs H Q ⟨Z, ds, sb, r, hc, hq⟩ => by
  match ds, r, hc, hq with
  | [.lst ds], r, hc, hq =>
    obtain ⟨v, rfl, h⟩ := r.one
    cases h with
    | lst h l => exact ⟨_, _, rfl, .inl ⟨_, SqL.sub h sb, rfl⟩, by rw [l.length]; exact hq _ Z H (Grow.refl sb) (.int _)⟩
  | [.tup ds], r, hc, hq =>
    obtain ⟨v, rfl, h⟩ := r.one
    cases h with
    | tup h l => exact ⟨_, _, rfl, .inr ⟨_, SqT.sub h sb, rfl⟩, by rw [l.length]; exact hq _ Z H (Grow.refl sb) (.int _)⟩
  | [.str z], r, hc, hq =>
    obtain ⟨v, rfl, h⟩ := r.one
    cases h with
    | str z => exact ⟨_, _, rfl, ⟨hc, rfl⟩, hq _ Z H (Grow.refl sb) (.int _)⟩
theorem c_abs : CallD X (.builtin "abs") cI1 gAbs := CallR.weak call_abs fun vs H Q ⟨Z, ds, sb, r, hc, hq⟩ => by
  match ds, r, hc, hq with
  | [.int i], r, hc, hq =>
    obtain ⟨v, rfl, h⟩ := r.one
    cases h
    exact ⟨i, rfl, hq _ Z H (Grow.refl sb) (.int _)⟩
theorem c_max (hc : X.calm = true) : CallD X (.builtin "max") cII gMax := CallR.weak (call_max2 hc) fun vs H Q ⟨Z, ds, sb, r, hc, hq⟩ => by
  match ds, r, hc, hq with
  | [.int i, .int j], r, hc, hq =>
    obtain ⟨v, u, rfl, h, h'⟩ := r.two
    cases h
    cases h'
    exact ⟨i, j, rfl, hq _ Z H (Grow.refl sb) (.int _)⟩
theorem c_min (hc : X.calm = true) : CallD X (.builtin "min") cII gMin := CallR.weak (call_min2 hc) fun vs H Q ⟨Z, ds, sb, r, hc, hq⟩ => by
  match ds, r, hc, hq with
  | [.int i, .int j], r, hc, hq =>
    obtain ⟨v, u, rfl, h, h'⟩ := r.two
    cases h
    cases h'
    exact ⟨i, j, rfl, hq _ Z H (Grow.refl sb) (.int _)⟩
theorem c_int : CallD X (.type "int") cInt gInt := CallR.weak call_int1 fun vs H Q ⟨Z, ds, sb, r, hc, hq⟩ => by
  match ds, r, hc, hq with
  | [.int i], r, hc, hq =>
    obtain ⟨v, rfl, h⟩ := r.one
    cases h
    exact .inl ⟨i, rfl, hq _ Z H (Grow.refl sb) (.int _)⟩
  | [.bl i], r, hc, hq =>
    obtain ⟨v, rfl, h⟩ := r.one
    cases h
    exact .inr ⟨i, rfl, hq _ Z H (Grow.refl sb) (.int _)⟩
theorem c_gcd : CallD X (.builtin "math.gcd") cII gGcd := CallR.weak cr_gcd fun vs H Q ⟨Z, ds, sb, r, hc, hq⟩ => by
  match ds, r, hc, hq with
  | [.int i, .int j], r, hc, hq =>
    obtain ⟨v, u, rfl, h, h'⟩ := r.two
    cases h
    cases h'
    exact ⟨i, j, rfl, hq _ Z H (Grow.refl sb) (.int _)⟩
def gSeq : List D → List D
  | [d] => d.sq.getD []
  | _ => []
/-- list(x): a new list -/
theorem dpl_list {e : Expr} {p : Pr} {fs : Env → List D} {q pos : Pos} (hm : X.mg "list" = none) (ha : DPA X [e] p fs) (hg : Gl X "list" := by rfl) (he : starEach [e] X.env = (false, eval e X.env) :: starEach [] X.env := by rfl) (hpl : (backTo pos (starEach [] X.env)).any (·.1) = false := by rfl) :
    DPL X (.Call (.Name "list" q) [e] [] pos) (fun Γ => p Γ ∧ ∃ d ds, fs Γ = [d] ∧ d.sq = some ds) (fun Γ => gSeq (fs Γ)) := PE.weak (pe_callTy call_list_of hg hm PyProof.Rows.boot_list ha (by decide) (by decide) he hpl) fun σ H Q h => by
  obtain ⟨c, Γ, Z, ok, ⟨h1, d, ds, e1, e2⟩, hq⟩ := h
  refine ⟨c, Γ, Z, ok, h1, fun vs Z1 H1 ok1 g1 r1 => ?_⟩
  rw [e1] at r1
  obtain ⟨v, rfl, h⟩ := r1.one
  obtain ⟨a, us, rfl, h2, h3⟩ := h.seq ok1.sub e2
  exact ⟨a, us, rfl, h2, fun l hl => hq _ _ _ (ok1.alloc hl) g1 (ok1.newOwn hl (by dsimp only; rw [e1]; show OcOk _ _ _ _ (.lst (d.sq.getD [])); rw [e2]; exact ⟨us, upd_same, h3⟩))⟩
/-- len(x), x a name -/
theorem dp_lenN {i : Nat} {e : Expr} {q pos : Pos} (hm : X.mg "len" = none) (ha : PE X e (tVar i)) (hg : Gl X "len" := by rfl) (hs : starEach [e] X.env = (false, eval e X.env) :: starEach [] X.env := by rfl) (hpl : (backTo pos (starEach [] X.env)).any (·.1) = false := by rfl) :
    DP X (.Call (.Name "len" q) [e] [] pos) (fun Γ => (gt Γ i).sq.isSome = true) (fun Γ => .int ((gt Γ i).sq.getD []).length) := PE.weak (pe_callB call_len_seq hg hm PySem.boot_len (pa_cons ha pa_nil hs) (by decide) (by decide) hs hpl) fun σ H Q h => by
  obtain ⟨c, Γ, Z, ok, h1, hq⟩ := h
  obtain ⟨ds, hd⟩ := Option.isSome_iff_exists.mp h1
  dsimp only at hq
  rw [hd] at hq
  obtain ⟨a, vs, h2, h3, h4⟩ := ok.seq hd
  exact ⟨_, h2, a, vs, rfl, h3, hq _ Z H ok Sub.refl (by rw [h4.length]; exact .int _)⟩
end
/-! ### isinstance -/
def tyN : D → Option String
  | .non => some "NoneType"
  | .bl _ => some "bool"
  | .int _ => some "int"
  | .str _ => some "str"
  | .tup _ => some "tuple"
  | .lst _ => some "list"
  | _ => none
/-- what of an own class isinstance asks -/
structure KCls (K : PySem.W.Frag) (C : Addr) : Prop where
  cl : Cls K C
  ha : PySem.W.findIn K (.ref C) "__class__" = some (some (.builtin "object.__class__"))
  hn : PySem.W.specialIn K (.builtin "object.__class__") "__get__" = some (some (.builtin "getset_descriptor.__get__"))
  ht : PySem.W.takesIn K (.builtin "object.__class__") = some true
  hm : PySem.W.mroIn K C (.type "object") = some true
  own : PySem.W.kitOne K (.ref C) (.ref C) = some true
  nb : ∀ T ∈ ["NoneType", "bool", "int", "str", "tuple", "list"], PySem.W.kitOne K (.type T) (.ref C) = some false
  bn : ∀ T ∈ ["NoneType", "bool", "int", "str", "tuple", "list", "dict"], PySem.W.kitOne K (.ref C) (.type T) = some false
theorem Rep.ty {K : PySem.W.Frag} {Z H : Hp} {v : V} {d : D} {T : String} (r : Rep K Z v d) (s : Sub Z H) (h : tyN d = some T) : TyX K H v (.type T) := by
  cases r with
  | non => cases h; exact .base .non
  | bl b => cases h; exact .base (.bl b)
  | int b => cases h; exact .base (.int b)
  | str b => cases h; exact .base (.str b)
  | tup q l =>
    cases h
    rcases SqT.sub q s with (q | ⟨o, q⟩) | ⟨o, its, n, q, c, _⟩
    · exact .base (.tup q)
    · exact .fTuple q
    · exact .kTuple q c
  | lst q l =>
    cases h
    rcases SqL.sub q s with (q | ⟨o, q⟩) | ⟨o, its, n, q, c, _⟩
    · exact .base (.lst q)
    · exact .base (.frz q)
    · exact .kList q c
  | ins _ _ => cases h
theorem Rep.tyI {K : PySem.W.Frag} {Z H : Hp} {v : V} {d : D} {C : Addr} (r : Rep K Z v d) (s : Sub Z H) (k : KCls K C) (h : insOf C d) : TyX K H v (.ref C) := by
  obtain ⟨a, dx, fv, fs, rfl, rfl, hz, _⟩ := r.ins_of h
  exact .base (.ins (s _ _ hz) k.cl k.ha k.hn k.ht k.hm)
section
variable {X : Cx} {e : Expr} {p : Pr} {f : Env → D} {q q2 pos : Pos} {T : String} {nm : Str}
/-- isinstance(e, T), T a built-in class -/
def isT (T : String) (d : D) : Bool := match tyN d with
  | some t => (kitB t T).getD false
  | none => false
def cT (K : PySem.W.Frag) (T : String) (d : D) : Prop := (∃ t, tyN d = some t ∧ (kitB t T).isSome = true) ∨ ∃ C, insOf C d ∧ KCls K C ∧ T ∈ ["NoneType", "bool", "int", "str", "tuple", "list", "dict"]
theorem dp_isiT (hm : X.mg "isinstance" = none) (hm2 : X.mg nm = none) (hv2 : bootBuiltins nm = some (.type T)) (ha : DP X e p f) (hg : Gl X "isinstance" := by rfl) (hg2 : Gl X nm := by rfl) (hn : nm ≠ "__name__" := by decide) (hdb : (nm == ("__debug__" : Str)) = false := by decide)
    (hs : starEach [e, .Name nm q2] X.env = (false, eval e X.env) :: starEach [.Name nm q2] X.env := by rfl) (hs2 : starEach [.Name nm q2] X.env = (false, eval (.Name nm q2) X.env) :: starEach [] X.env := by rfl) (hpl : (backTo pos (starEach [.Name nm q2] X.env)).any (·.1) = false := by rfl) :
    DP X (.Call (.Name "isinstance" q) [e, .Name nm q2] [] pos) (fun Γ => p Γ ∧ cT X.K T (f Γ)) (fun Γ => .bl (isT T (f Γ))) :=
  PE.weak (pe_callB call_isi hg hm PyProof.Rows.boot_isinstance (pa_cons ha (pa_cons (pe_bltn (v := .ty T) hg2 hm2 hv2 rfl hn hdb) pa_nil hs2) hs) (by decide) (by decide) hs hpl) fun σ H Q h => by
  obtain ⟨c, Γ, Z, ok, ⟨h1, h2⟩, hq⟩ := h
  refine ⟨c, Γ, Z, ok, h1, fun v Z1 H1 ok1 g1 r1 => ?_⟩
  dsimp only at hq
  have hq' := hq (.bl (isT T (f Γ))) Z1 H1 ok1 g1 (.bl _)
  rcases h2 with ⟨t, h3, h4⟩ | ⟨C, h3, k, hT⟩
  · obtain ⟨b, hb⟩ := Option.isSome_iff_exists.mp h4
    have eb : isT T (f Γ) = b := by unfold isT; rw [h3]; dsimp only; rw [hb]; rfl
    rw [eb] at hq'
    exact ⟨v, .ty T, .type t, .type T, b, rfl, .ty T, r1.ty ok1.sub h3, kit_ty hb, hq'⟩
  · have eb : isT T (f Γ) = false := by
      unfold isT
      cases hf : f Γ <;> rw [hf] at h3 <;> first | exact h3.elim | rfl
    rw [eb] at hq'
    exact ⟨v, .ty T, .ref C, .type T, false, rfl, .ty T, r1.tyI ok1.sub k h3, k.bn T hT, hq'⟩
/-- isinstance(e, C), C an own class -/
def isC (C : Addr) (d : D) : Bool := match d with
  | .ins C' _ => C' == C
  | _ => false
theorem dp_isiC {C : Addr} (k : KCls X.K C) (hm : X.mg "isinstance" = none) (hm2 : X.mg nm = some (.ref C)) (ha : DP X e p f) (hg : Gl X "isinstance" := by rfl) (hg2 : Gl X nm := by rfl) (hdb : (nm == ("__debug__" : Str)) = false := by decide)
    (hs : starEach [e, .Name nm q2] X.env = (false, eval e X.env) :: starEach [.Name nm q2] X.env := by rfl) (hs2 : starEach [.Name nm q2] X.env = (false, eval (.Name nm q2) X.env) :: starEach [] X.env := by rfl) (hpl : (backTo pos (starEach [.Name nm q2] X.env)).any (·.1) = false := by rfl) :
    DP X (.Call (.Name "isinstance" q) [e, .Name nm q2] [] pos) (fun Γ => p Γ ∧ ((tyN (f Γ)).isSome = true ∨ insOf C (f Γ))) (fun Γ => .bl (isC C (f Γ))) :=
  PE.weak (pe_callB call_isi hg hm PyProof.Rows.boot_isinstance (pa_cons ha (pa_cons (pe_glob (v := .ref C) hg2 hm2 rfl hdb) pa_nil hs2) hs) (by decide) (by decide) hs hpl) fun σ H Q h => by
  obtain ⟨c, Γ, Z, ok, ⟨h1, h2⟩, hq⟩ := h
  refine ⟨c, Γ, Z, ok, h1, fun v Z1 H1 ok1 g1 r1 => ?_⟩
  dsimp only at hq
  have hq' := hq (.bl (isC C (f Γ))) Z1 H1 ok1 g1 (.bl _)
  rcases h2 with h3 | h3
  · obtain ⟨t, ht⟩ := Option.isSome_iff_exists.mp h3
    have eb : isC C (f Γ) = false := by cases hf : f Γ <;> rw [hf] at ht <;> first | rfl | cases ht
    rw [eb] at hq'
    refine ⟨v, .ref C, .type t, .ref C, false, rfl, .own C, r1.ty ok1.sub ht, k.nb t ?_, hq'⟩
    revert ht
    cases f Γ <;> intro ht <;> cases ht <;> simp
  · have eb : isC C (f Γ) = true := by cases hf : f Γ <;> rw [hf] at h3 <;> first | exact h3.elim | (cases h3; simp [isC])
    rw [eb] at hq'
    exact ⟨v, .ref C, .ref C, .ref C, true, rfl, .own C, r1.tyI ok1.sub k h3, k.own, hq'⟩
end
end DL

namespace DL
open PySem PySem.Spec L2

/-! ### statements -/
theorem D.isI.of {d : D} (h : d.isI) : d = .int d.i := by cases d <;> first | rfl | exact h.elim
structure DEn where
  nx : Env → Prop
  rt : Ag → Env → Prop
  bk : Env → Prop
  ct : Env → Prop
structure EndsOk (K : PySem.W.Frag) (c : FC) (E : Ends) (D : DEn) : Prop where
  nx : ∀ Γ Z σ H, D.nx Γ → OkS K c Γ Z σ H → E.nx σ H
  bk : ∀ Γ Z σ H, D.bk Γ → OkS K c Γ Z σ H → E.bk σ H
  ct : ∀ Γ Z σ H, D.ct Γ → OkS K c Γ Z σ H → E.ct σ H
  rt : ∀ r Γ v Z σ H, D.rt r Γ → OkS K c Γ Z σ H → RepA K c Γ Z σ H v r → E.rt v H
abbrev DTs := DEn → Env → Prop
def upS (K : PySem.W.Frag) (t : DTs) : TS := fun E σ H => ∃ c Γ Z D, OkS K c Γ Z σ H ∧ t D Γ ∧ EndsOk K c E D
abbrev DS (X : Cx) (s : Stmt) (t : DTs) : Prop := PS X s (upS X.K t)
abbrev DSs (X : Cx) (s : List Stmt) (t : DTs) : Prop := PSs X s (upS X.K t)
/-- a target, given data -/
abbrev DTg := D → Env → (Env → Prop) → Prop
def upG (K : PySem.W.Frag) (g : DTg) : TG := fun v σ H Q => ∃ c Γ Z d k, OkS K c Γ Z σ H ∧ Rep K Z v d ∧ g d Γ k ∧ ∀ Γ' Z' σ' H', k Γ' → OkS K c Γ' Z' σ' H' → Sub Z Z' → Q σ' H'
abbrev DG (X : Cx) (tg : Expr) (g : DTg) : Prop := PG X tg (upG X.K g)
abbrev DTgs := List D → Env → (Env → Prop) → Prop
def upGs (K : PySem.W.Frag) (g : DTgs) : TGs := fun vs σ H Q => ∃ c Γ Z ds k, OkS K c Γ Z σ H ∧ RepL K Z vs ds ∧ g ds Γ k ∧ ∀ Γ' Z' σ' H', k Γ' → OkS K c Γ' Z' σ' H' → Sub Z Z' → Q σ' H'
abbrev DGs (X : Cx) (tg : List Expr) (g : DTgs) : Prop := PGs X tg (upGs X.K g)
theorem PGs.weak {X : Cx} {e : List Expr} {t t' : TGs} (h : PGs X e t) (w : ∀ v σ H Q, t' v σ H Q → t v σ H Q) : PGs X e t' := ⟨fun pins s σ H v u Q I r q => h.run pins s σ H v u Q I r (w _ _ _ _ q)⟩
def gPut (i : Nat) : DTg := fun d Γ k => k (st Γ i (.im d))
section
variable {X : Cx} {e : Expr} {es : List Expr} {p : Pr} {f : Env → D} {t : DT} {pos : Pos} {g : DTg} {gs : DTgs}
theorem dg_n {i : Nat} (h : PG X e (gName i)) (hi : i < X.N.length) : DG X e (gPut i) := ⟨fun pins s σ H v u Q I r hq => by
  obtain ⟨c, Γ, Z, d, k, ok, rd, hk, hq⟩ := hq
  exact h.run pins s σ H v u Q I r (hq _ Z _ H hk (ok.put rd (by rw [I.len]; exact hi)) Sub.refl)⟩
theorem dg_name (i : Nat) {x : Str} (nd : X.N.Nodup) (hi : X.N[i]? = some x := by rfl) (hx : Loc X.env.scope x := by first | exact Or.inl rfl | exact Or.inr rfl) (hf : X.fn x = true ∨ X.env.scope.names.lookup x = some .local := by first | exact .inl rfl | exact .inr rfl) :
    DG X (.Name x pos) (gPut i) := dg_n (pg_name nd hi hx hf) (List.getElem?_eq_some_iff.mp hi).1
theorem dgs_nil : DGs X [] (fun ds Γ k => ds = [] ∧ k Γ) := PGs.weak pgs_nil fun vs σ H Q ⟨c, Γ, Z, ds, k, ok, rd, ⟨h1, h2⟩, hq⟩ => by
  subst h1
  cases rd
  exact ⟨rfl, hq Γ Z σ H h2 ok Sub.refl⟩
def gsCons (g : DTg) (gs : DTgs) : DTgs
  | d :: r, Γ, k => g d Γ fun Γ1 => gs r Γ1 k
  | [], _, _ => False
theorem dgs_cons (h : DG X e g) (hr : DGs X es gs) (hs : (assignEach (e :: es) X.env).map (·.2) = assign e X.env :: (assignEach es X.env).map (·.2) := by rfl) : DGs X (e :: es) (gsCons g gs) := PGs.weak (pgs_cons h hr hs) fun vs σ H Q ⟨c, Γ, Z, ds, k, ok, rd, hk, hq⟩ => by
  cases rd with
  | nil => exact hk.elim
  | cons r1 r2 => exact ⟨_, _, rfl, c, Γ, Z, _, _, ok, r1, hk, fun Γ1 Z1 σ1 H1 k1 ok1 g1 => ⟨c, Γ1, Z1, _, k, ok1, r2.mono g1, k1, fun Γ2 Z2 σ2 H2 k2 ok2 g2 => hq Γ2 Z2 σ2 H2 k2 ok2 (g1.trans g2)⟩⟩
def gTupD (n : Nat) (gs : DTgs) : DTg
  | .tup ds, Γ, k => ds.length = n ∧ gs ds Γ k
  | _, _, _ => False
theorem dg_tup {k n : Nat} (hc : X.calm = true) (h : DGs X es gs) (hn : (assignEach es X.env).length = n := by rfl) (hst : (assignEach es X.env).findIdx? (·.1) = none := by rfl) : DG X (.Tuple es k pos) (gTupD n gs) := PG.weak (pg_tup hc h hn hst) fun v σ H Q ⟨c, Γ, Z, d, k, ok, rd, hk, hq⟩ => by
  cases rd with
  | tup q l => exact ⟨_, _, rfl, SqT.sub q ok.sub, by rw [l.length]; exact hk.1, c, Γ, Z, _, k, ok, l, hk.2, hq⟩
  | _ => exact hk.elim

/-! #### small statements -/
theorem dss_nil : DSs X [] (fun D Γ => D.nx Γ) := PSs.weak pss_nil fun E σ H ⟨c, Γ, Z, D, ok, h, he⟩ => he.nx Γ Z σ H h ok
theorem dss_cons {s : Stmt} {r : List Stmt} {t u : DTs} (h1 : DS X s t) (h2 : DSs X r u) : DSs X (s :: r) (fun D Γ => t { D with nx := u D } Γ) := PSs.weak (pss_cons h1 h2) fun E σ H ⟨c, Γ, Z, D, ok, h, he⟩ =>
  ⟨c, Γ, Z, _, ok, h, fun Γ1 Z1 σ1 H1 k1 ok1 => ⟨c, Γ1, Z1, D, ok1, k1, he⟩, he.bk, he.ct, he.rt⟩
theorem dss_one {s : Stmt} {t : DTs} (h1 : DS X s t) : DSs X [s] t := pss_one h1
theorem ds_pass : DS X (.Pass pos) (fun D Γ => D.nx Γ) := PS.weak ps_pass fun E σ H ⟨c, Γ, Z, D, ok, h, he⟩ => he.nx Γ Z σ H h ok
theorem ds_break : DS X (.Break pos) (fun D Γ => D.bk Γ) := PS.weak ps_break fun E σ H ⟨c, Γ, Z, D, ok, h, he⟩ => he.bk Γ Z σ H h ok
theorem ds_cont : DS X (.Continue pos) (fun D Γ => D.ct Γ) := PS.weak ps_continue fun E σ H ⟨c, Γ, Z, D, ok, h, he⟩ => he.ct Γ Z σ H h ok
theorem ds_never {s : Stmt} : DS X s (fun _ _ => False) := PS.weak ps_never fun E σ H ⟨_, _, _, _, _, h, _⟩ => h
theorem dss_never {s : List Stmt} : DSs X s (fun _ _ => False) := PSs.weak pss_never fun E σ H ⟨_, _, _, _, _, h, _⟩ => h
theorem ds_ret (h : DP X e p f) : DS X (.Return (some e) pos) (fun D Γ => p Γ ∧ D.rt (.im (f Γ)) Γ) := PS.weak (ps_ret h) fun E σ H ⟨c, Γ, Z, D, ok, ⟨h1, h2⟩, he⟩ =>
  ⟨c, Γ, Z, ok, h1, fun v Z1 H1 ok1 g1 r1 => he.rt _ Γ v Z1 σ H1 h2 ok1 r1⟩
theorem ds_retE (h : DE X e t) : DS X (.Return (some e) pos) (fun D Γ => t Γ fun d Γ1 => D.rt (.im d) Γ1) := PS.weak (ps_ret h) fun E σ H ⟨c, Γ, Z, D, ok, h1, he⟩ =>
  ⟨c, Γ, Z, _, ok, h1, fun d Γ1 v Z1 H1 k1 ok1 g1 r1 => he.rt _ Γ1 v Z1 σ H1 k1 ok1 r1⟩
theorem ds_retO {t : DTo} (h : DO X e t) : DS X (.Return (some e) pos) (fun D Γ => t Γ fun o Γ1 => D.rt (.ow o) Γ1) := PS.weak (ps_ret h) fun E σ H ⟨c, Γ, Z, D, ok, h1, he⟩ =>
  ⟨c, Γ, Z, _, ok, h1, fun o Γ1 v Z1 H1 k1 ok1 g1 r1 => he.rt _ Γ1 v Z1 σ H1 k1 ok1 r1⟩
theorem ds_retN : DS X (.Return none pos) (fun D Γ => D.rt (.im .non) Γ) := PS.weak ps_retN fun E σ H ⟨c, Γ, Z, D, ok, h1, he⟩ => he.rt _ Γ .non Z σ H h1 ok .non
/-- return x, x a name of a thing of one's own -/
def rtOwn (D : DEn) (i : Nat) (Γ : Env) : Prop := match gt Γ i with
  | .own false o => D.rt (.ow o) (st Γ i .un)
  | .im d => D.rt (.im d) Γ
  | _ => False
theorem ds_retV {i : Nat} (h : PE X e (tVar i)) : DS X (.Return (some e) pos) (fun D Γ => rtOwn D i Γ) := PS.weak (ps_ret h) fun E σ H ⟨c, Γ, Z, D, ok, h1, he⟩ => by
  dsimp only [rtOwn] at h1
  cases q : gt Γ i with
  | un => rw [q] at h1; exact h1.elim
  | im d =>
    rw [q] at h1
    have hs := ok.sl i
    rw [q] at hs
    obtain ⟨v, e1, e2⟩ := hs
    exact ⟨v, e1, he.rt _ Γ v Z σ H h1 ok e2⟩
  | own b o =>
    rw [q] at h1
    cases b with
    | true => exact h1.elim
    | false =>
      obtain ⟨v, e1, e2⟩ := ok.take q
      exact ⟨v, e1, he.rt _ _ v Z σ H h1 ok.drop e2⟩
theorem ds_expr (h : DE X e t) (hs : swapsWith e none pos.line X.env = pure false := by rfl) : DS X (.Expr e pos) (fun D Γ => t Γ fun _ Γ1 => D.nx Γ1) := PS.weak (ps_expr h hs) fun E σ H ⟨c, Γ, Z, D, ok, h1, he⟩ =>
  ⟨c, Γ, Z, _, ok, h1, fun d Γ1 v Z1 H1 k1 ok1 g1 r1 => he.nx Γ1 Z1 σ H1 k1 ok1⟩
theorem ds_asg {tg : Expr} (h : DE X e t) (hg : DG X tg g) (hs : swapsWithSole [tg] e pos.line X.env = pure false := by rfl) (hw : swappedStores [tg] e X.env = pure none := by rfl) (h1 : (assignEach [tg] X.env).map (·.2) = [assign tg X.env] := by rfl) :
    DS X (.Assign [tg] e pos) (fun D Γ => t Γ fun d Γ1 => g d Γ1 D.nx) := PS.weak (ps_asg h hg hs hw h1) fun E σ H ⟨c, Γ, Z, D, ok, h1, he⟩ =>
  ⟨c, Γ, Z, _, ok, h1, fun d Γ1 v Z1 H1 k1 ok1 g1 r1 => ⟨c, Γ1, Z1, d, _, ok1, r1, k1, fun Γ2 Z2 σ2 H2 k2 ok2 g2 => he.nx Γ2 Z2 σ2 H2 k2 ok2⟩⟩
theorem ds_set (i : Nat) {x : Str} {pos' : Pos} (nd : X.N.Nodup) (h : DE X e t) (hi : X.N[i]? = some x := by rfl) (hx : Loc X.env.scope x := by first | exact Or.inl rfl | exact Or.inr rfl) (hs : swapsWith e (some (.Name x pos')) pos.line X.env = pure false := by rfl) (hf : X.fn x = true ∨ X.env.scope.names.lookup x = some .local := by first | exact .inl rfl | exact .inr rfl) :
    DS X (.Assign [.Name x pos'] e pos) (fun D Γ => t Γ fun d Γ1 => D.nx (st Γ1 i (.im d))) := ⟨fun pins s σ H E I hh => by
  obtain ⟨c, Γ, Z, D, ok, h1, he⟩ := hh
  have hl : i < σ.length := by rw [I.len]; exact (List.getElem?_eq_some_iff.mp hi).1
  exact (ps_set nd hi hx h hs hf).run pins s σ H E I ⟨c, Γ, Z, _, ok, h1, fun d Γ1 v Z1 H1 k1 ok1 g1 r1 => he.nx _ Z1 _ H1 k1 (ok1.put r1 hl)⟩⟩
theorem ds_setO (i : Nat) {x : Str} {pos' : Pos} {t : DTo} (nd : X.N.Nodup) (h : DO X e t) (hi : X.N[i]? = some x := by rfl) (hx : Loc X.env.scope x := by first | exact Or.inl rfl | exact Or.inr rfl) (hs : swapsWith e (some (.Name x pos')) pos.line X.env = pure false := by rfl) (hf : X.fn x = true ∨ X.env.scope.names.lookup x = some .local := by first | exact .inl rfl | exact .inr rfl) :
    DS X (.Assign [.Name x pos'] e pos) (fun D Γ => t Γ fun o Γ1 => D.nx (st Γ1 i (.own false o))) := ⟨fun pins s σ H E I hh => by
  obtain ⟨c, Γ, Z, D, ok, h1, he⟩ := hh
  have hl : i < σ.length := by rw [I.len]; exact (List.getElem?_eq_some_iff.mp hi).1
  exact (ps_set nd hi hx h hs hf).run pins s σ H E I ⟨c, Γ, Z, _, ok, h1, fun o Γ1 v Z1 H1 k1 ok1 g1 r1 => he.nx _ Z1 _ H1 k1 (ok1.putOwn r1 hl)⟩⟩
theorem ds_if {cnd : Expr} {a b : List Stmt} {tq : DTt} {ta tb : DTs} (hc : DU X cnd tq) (ha : DSs X a ta) (hb : DSs X b tb) : DS X (.If cnd a b pos) (fun D Γ => tq Γ fun q Γ1 => (q = true → ta D Γ1) ∧ (q = false → tb D Γ1)) := PS.weak (ps_if hc ha hb) fun E σ H ⟨c, Γ, Z, D, ok, h1, he⟩ =>
  ⟨c, Γ, Z, _, ok, h1, fun q Γ1 Z1 H1 k1 ok1 g1 => by
    cases q with
    | true => exact iteT ⟨c, Γ1, Z1, D, ok1, k1.1 rfl, he⟩
    | false => exact iteF ⟨c, Γ1, Z1, D, ok1, k1.2 rfl, he⟩⟩
/-- a, b = x, y -/
theorem ds_par {i j : Nat} {x y : Str} {a b : Expr} {px py pt : Pos} {kt k2 : Nat} {pt2 : Pos} {tl : DTl} (hc : X.calm = true) (nd : X.N.Nodup) (ha : DLs X [a, b] tl) (hij : i ≠ j := by decide)
    (hw : swappedStores [.Tuple [.Name x px, .Name y py] kt pt] (.Tuple [a, b] k2 pt2) X.env = pure (some [x, y]) := by rfl) (hi : X.N[i]? = some x := by rfl) (hj : X.N[j]? = some y := by rfl)
    (hx : X.env.scope.names.lookup x = some .local := by rfl) (hy : X.env.scope.names.lookup y = some .local := by rfl)
    (hs : swapsWithSole [.Tuple [.Name x px, .Name y py] kt pt] (.Tuple [a, b] k2 pt2) pos.line X.env = pure false := by rfl) :
    DS X (.Assign [.Tuple [.Name x px, .Name y py] kt pt] (.Tuple [a, b] k2 pt2) pos) (fun D Γ => tl Γ fun ds Γ1 => match ds with
      | [d, e] => D.nx (st (st Γ1 i (.im d)) j (.im e))
      | _ => False) := ⟨fun pins s σ H E I hh => by
  obtain ⟨c, Γ, Z, D, ok, h1, he⟩ := hh
  have hli : i < σ.length := by rw [I.len]; exact (List.getElem?_eq_some_iff.mp hi).1
  have hlj : j < (σ.set i none).length := by rw [List.length_set, I.len]; exact (List.getElem?_eq_some_iff.mp hj).1
  refine (ps_par hc nd hi hj hij hx hy ha hw hs).run pins s σ H E I ⟨c, Γ, Z, _, ok, h1, fun ds Γ1 vs Z1 H1 k1 ok1 g1 r1 => ?_⟩
  match ds, r1, k1 with
  | [d, e], r1, k1 =>
    obtain ⟨v, u, rfl, r, r'⟩ := r1.two
    exact ⟨v, u, rfl, he.nx _ Z1 _ H1 k1 ((ok1.put r hli).put r' (by rw [List.length_set] at hlj ⊢; exact hlj))⟩⟩
/-- x op= e, x a name that holds an int -/
theorem ds_aug (i : Nat) {x : Str} {pos' : Pos} {op : Operator} {fi : Int → Int → Int} (nd : X.N.Nodup) (ho : PIp X op (ipI fi)) (h : DP X e p f) (hi : X.N[i]? = some x := by rfl) (hx : Loc X.env.scope x := by first | exact Or.inl rfl | exact Or.inr rfl) (hf : X.fn x = true ∨ X.env.scope.names.lookup x = some .local := by first | exact .inl rfl | exact .inr rfl) :
    DS X (.AugAssign (.Name x pos') op e pos) (fun D Γ => p Γ ∧ (gt Γ i).isIm ∧ (gt Γ i).d.isI ∧ (f Γ).isI ∧ D.nx (st Γ i (.im (.int (fi (gt Γ i).d.i (f Γ).i))))) := ⟨fun pins s σ H E I hh => by
  obtain ⟨c, Γ, Z, D, ok, ⟨h1, h2, h3, h4, h5⟩, he⟩ := hh
  have hl : i < σ.length := by rw [I.len]; exact (List.getElem?_eq_some_iff.mp hi).1
  obtain ⟨v, e1, e2⟩ := ok.im h2
  refine (ps_aug nd hi hx h ho hf).run pins s σ H E I ⟨v, e1, c, Γ, Z, ok, h1, fun u Z1 H1 ok1 g1 r1 => ?_⟩
  rw [h3.of] at e2
  rw [h4.of] at r1
  exact ⟨_, _, e2.int_of, r1.int_of, he.nx _ Z1 _ H1 h5 (ok1.put (.int _) hl)⟩⟩

/-! #### what one owns is changed -/
def lstOf : Sl → Option (List D)
  | .own _ (.lst ds) => some ds
  | _ => none
def reOwn (Γ : Env) (i : Nat) (o : Oc) : Env := match gt Γ i with
  | .own p _ => st Γ i (.own p o)
  | _ => Γ
theorem OkS.lst {K : PySem.W.Frag} {c : FC} {Γ : Env} {Z : Hp} {σ : St} {H : Hp} {i : Nat} {ds : List D} (ok : OkS K c Γ Z σ H) (h : lstOf (gt Γ i) = some ds) : ∃ a vs, σ[i]? = some (some (.ref a)) ∧ H a = some (.lst vs) ∧ RepL K Z vs ds ∧
    ∀ vs' ds', RepL K Z vs' ds' → OkS K c (reOwn Γ i (.lst ds')) Z σ (upd H a (.lst vs')) := by
  have hs := ok.sl i
  cases q : gt Γ i with
  | un => rw [q] at h; cases h
  | im d => rw [q] at h; cases h
  | own p o =>
    rw [q] at h hs
    cases o with
    | lst es =>
      cases h
      obtain ⟨a, e1, ⟨vs, e2, e3⟩, _⟩ := hs
      refine ⟨a, vs, e1, e2, e3, fun vs' ds' r => ?_⟩
      have := ok.write (o' := .lst ds') q e1 (ob := .lst vs') ⟨vs', upd_same, r⟩
      unfold reOwn
      rw [q]
      exact this
    | ins C fs => cases h
    | dT kvs => cases h
/-- x.append(e) -/
theorem ds_append {i : Nat} {x : Expr} {apos pos2 : Pos} (hx : PE X x (tVar i)) (h : DE X e t) (hs : starEach [e] X.env = (false, eval e X.env) :: starEach [] X.env := by rfl)
    (ht : PE X (.Call (.Attribute x "append" apos) [e] [] pos2) (tBM X.K "list" rAppend (tVar i) (tCons (upE X.K t) tNil))) (hw : swapsWith (.Call (.Attribute x "append" apos) [e] [] pos2) none pos.line X.env = pure false := by rfl) :
    DS X (.Expr (.Call (.Attribute x "append" apos) [e] [] pos2) pos) (fun D Γ => (lstOf (gt Γ i)).isSome = true ∧ t Γ fun d Γ1 => ∃ ds, lstOf (gt Γ1 i) = some ds ∧ ds.length < sizeLine ∧ D.nx (reOwn Γ1 i (.lst (ds ++ [d])))) :=
  PS.weak (ps_expr ht hw) fun E σ H ⟨c, Γ, Z, D, ok, ⟨h0, h1⟩, he⟩ => by
  obtain ⟨ds0, hd0⟩ := Option.isSome_iff_exists.mp h0
  obtain ⟨a, vs, e1, e2, _⟩ := ok.lst hd0
  refine ⟨_, e1, .inl ⟨rfl, _, .inl (.inl e2)⟩, c, Γ, Z, _, ok, h1, fun d Γ1 v Z1 H1 ⟨ds, k1, k2, k3⟩ ok1 g1 r1 => ?_⟩
  obtain ⟨b, us, f1, f2, f3, f4⟩ := ok1.lst k1
  rw [e1] at f1
  cases f1
  exact ⟨a, us, v, rfl, rfl, f2, by rw [f3.length]; exact k2, he.nx _ Z1 σ _ k3 (f4 _ _ (f3.append (.cons r1 .nil)))⟩
/-- x[i] = e, x a list of one's own -/
def setAt (ds : List D) (n : Int) (d : D) : Option (List D) := (ixN ds.length n).map fun j => ds.set j d
theorem ds_setItem {i : Nat} {x ix : Expr} {tpos : Pos} {ti : DT} (hx : PE X x (tVar i)) (hix : DE X ix ti) (h : DE X e t)
    (ha : ∀ v, assign (.Subscript x ix tpos) X.env v = (do
      let ov ← holding [v] (eval x X.env)
      let iv ← holding [v, ov] (eval ix X.env)
      standAt tpos
      holding [v, ov, iv] (setItem ov iv v)
      release [v, ov, iv] []) := by intro _; rfl)
    (hs : swapsWithSole [.Subscript x ix tpos] e pos.line X.env = pure false := by rfl) (hw : swappedStores [.Subscript x ix tpos] e X.env = pure none := by rfl) (h1 : (assignEach [.Subscript x ix tpos] X.env).map (·.2) = [assign (.Subscript x ix tpos) X.env] := by rfl) :
    DS X (.Assign [.Subscript x ix tpos] e pos) (fun D Γ => t Γ fun d Γ1 => (lstOf (gt Γ1 i)).isSome = true ∧ ti Γ1 fun n Γ2 => n.isI ∧ ∃ ds ds', lstOf (gt Γ2 i) = some ds ∧ setAt ds n.i d = some ds' ∧ D.nx (reOwn Γ2 i (.lst ds'))) :=
  PS.weak (ps_asg h (pg_sub hx hix set_list ha) hs hw h1) fun E σ H ⟨c, Γ, Z, D, ok, h1, he⟩ => by
  refine ⟨c, Γ, Z, _, ok, h1, fun d Γ1 v Z1 H1 ⟨k0, k1⟩ ok1 g1 r1 => ?_⟩
  obtain ⟨ds0, hd0⟩ := Option.isSome_iff_exists.mp k0
  obtain ⟨a, vs, e1, e2, _⟩ := ok1.lst hd0
  refine ⟨_, e1, c, Γ1, Z1, _, ok1, k1, fun n Γ2 u Z2 H2 ⟨hn, ds, ds', k2, k3, k4⟩ ok2 g2 r2 => ?_⟩
  rw [hn.of] at r2
  obtain ⟨b, us, f1, f2, f3, f4⟩ := ok2.lst k2
  rw [e1] at f1
  cases f1
  unfold setAt at k3
  cases q : ixN ds.length n.i with
  | none => rw [q] at k3; cases k3
  | some j =>
    rw [q] at k3
    cases k3
    exact ⟨a, us, n.i, j, rfl, r2.int_of, f2, by rw [f3.length]; exact q, he.nx _ Z2 σ _ k4 (f4 _ _ (RepL.set (r1.mono g2) j f3))⟩
/-- self.f = e, self the slot's own instance -/
def insFs (C : Addr) : Sl → Option (List (Str × D))
  | .own _ (.ins C' fs) => if C' = C then some fs else none
  | _ => none
theorem ds_fld {i : Nat} {x : Expr} {f : Str} {C : Addr} {pos' : Pos} (cl : Cls X.K C) (na : NoAttr X.K C f) (hx : PE X x (tVar i)) (h : DE X e t) (hs : swapsWith e (some (.Attribute x f pos')) pos.line X.env = pure false := by rfl) :
    DS X (.Assign [.Attribute x f pos'] e pos) (fun D Γ => t Γ fun d Γ1 => ∃ fs, insFs C (gt Γ1 i) = some fs ∧ fs.length < 1000 ∧ D.nx (reOwn Γ1 i (.ins C (putD f d fs)))) :=
  PS.weak (ps_fld hx h hs) fun E σ H ⟨c, Γ, Z, D, ok, h1, he⟩ => by
  refine ⟨c, Γ, Z, _, ok, h1, fun d Γ1 v Z1 H1 ⟨fs, k1, k2, k3⟩ ok1 g1 r1 => ?_⟩
  have hs := ok1.sl i
  cases q : gt Γ1 i with
  | un => rw [q] at k1; cases k1
  | im d => rw [q] at k1; cases k1
  | own p o =>
    rw [q] at k1 hs
    cases o with
    | lst ds => cases k1
    | dT ds => cases k1
    | ins C' fs' =>
      by_cases e : C' = C
      · subst e
        simp only [insFs, if_true, Option.some.injEq] at k1
        subst k1
        obtain ⟨a, e1, ⟨dx, fv, e2, e3⟩, _⟩ := hs
        refine ⟨_, e1, a, _, dx, fv, rfl, e2, cl, na, by rw [e3.length]; exact k2, he.nx _ Z1 σ _ k3 ?_⟩
        have := ok1.write (o' := .ins C' (putD f d fs')) q e1 (ob := .ins C' dx (putF f v fv)) ⟨dx, _, upd_same, e3.put r1⟩
        unfold reOwn
        rw [q]
        exact this
      · simp only [insFs, if_neg e] at k1
        cases k1
end

/-! ### loops -/
theorem OkS.rebase {K : PySem.W.Frag} {c : FC} {Γ : Env} {Z : Hp} {σ : St} {H : Hp} (ok : OkS K c Γ Z σ H) : OkS K { c with Z0 := Z } Γ Z σ H :=
  ⟨ok.sub, fun a f => ⟨(ok.fr a f).1, rfl, (ok.fr a f).2.2⟩, Sub.refl, ok.al, ok.sl, ok.ne, ok.len⟩
theorem OkS.unbase {K : PySem.W.Frag} {c : FC} {Γ Γ' : Env} {Z Z' : Hp} {σ σ' : St} {H H' : Hp} (ok : OkS K c Γ Z σ H) (ok' : OkS K { c with Z0 := Z } Γ' Z' σ' H') : OkS K c Γ' Z' σ' H' :=
  ⟨ok'.sub, fun a f => ⟨(ok'.fr a f).1, (Eq.trans (ok'.fr a f).2.1 (ok.fr a f).2.1), (ok'.fr a f).2.2⟩, ok.gz.trans ok'.gz, ok'.al, ok'.sl, ok'.ne, ok'.len⟩
theorem EndsOk.rebase {K : PySem.W.Frag} {c : FC} {Γ : Env} {Z : Hp} {σ : St} {H : Hp} {E : Ends} {D : DEn} (he : EndsOk K c E D) (ok : OkS K c Γ Z σ H) : EndsOk K { c with Z0 := Z } E D :=
  ⟨fun Γ1 Z1 σ1 H1 h o => he.nx Γ1 Z1 σ1 H1 h (ok.unbase o), fun Γ1 Z1 σ1 H1 h o => he.bk Γ1 Z1 σ1 H1 h (ok.unbase o), fun Γ1 Z1 σ1 H1 h o => he.ct Γ1 Z1 σ1 H1 h (ok.unbase o), fun r Γ1 v Z1 σ1 H1 h o rv => he.rt r Γ1 v Z1 σ1 H1 h (ok.unbase o) (by cases r <;> exact rv)⟩
/-- J walks ds -/
def ItD (Z : Hp) (K : PySem.W.Frag) (ds : List D) (J : It) : Prop := ∀ (i : Nat) Z2 H2, Sub Z Z2 → Sub Z2 H2 → (i < ds.length → J.go i H2 ∧ ∀ x H3, J.yld i H2 x H3 → ∃ d Z3, ds[i]? = some d ∧ Grow Z2 H2 Z3 H3 ∧ Rep K Z3 x d) ∧ (i = ds.length → J.stop i H2)
abbrev DTi := Env → (List D → Env → Prop) → Prop
def upI (K : PySem.W.Frag) (t : DTi) : TI := fun σ H R => ∃ c Γ Z k, OkS K c Γ Z σ H ∧ t Γ k ∧ ∀ ds Γ' Z' H' J, k ds Γ' → OkS K c Γ' Z' σ H' → Sub Z Z' → ItD Z' K ds J → R J H'
abbrev DI (X : Cx) (tg iter : Expr) (t : DTi) : Prop := PI X tg iter (upI X.K t)
theorem PI.weak {X : Cx} {tg e : Expr} {t t' : TI} (h : PI X tg e t) (w : ∀ σ H R, t' σ H R → t σ H R) : PI X tg e t' := ⟨fun pins s σ H R I q => h.run pins s σ H R I (w _ _ _ q)⟩
theorem itd_list {K : PySem.W.Frag} {Z H : Hp} {a : Addr} {vs : List V} {ds : List D} (h : SqL K Z a vs) (r : RepL K Z vs ds) : ItD Z K ds (Itl K a) := fun i Z2 H2 s1 s2 => by
  have hl := SqL.sub h (s1.trans s2)
  refine ⟨fun hi => ?_, fun hi => ⟨vs, hl, by rw [r.length, hi]; exact Nat.le_refl _⟩⟩
  obtain ⟨v, e1, e2⟩ := r.get (List.getElem?_eq_getElem hi)
  refine ⟨⟨vs, v, hl, e1⟩, fun x H3 hy => ?_⟩
  obtain ⟨rfl, hy⟩ := hy
  have := hy vs hl
  rw [e1] at this
  cases this
  exact ⟨_, Z2, List.getElem?_eq_getElem hi, Grow.refl s2, e2.mono s1⟩
theorem itd_tup {K : PySem.W.Frag} {Z H : Hp} {a : Addr} {vs : List V} {ds : List D} (h : SqT K Z a vs) (r : RepL K Z vs ds) : ItD Z K ds (Itt K a) := fun i Z2 H2 s1 s2 => by
  have hl := SqT.sub h (s1.trans s2)
  refine ⟨fun hi => ?_, fun hi => ⟨vs, hl, by rw [r.length, hi]; exact Nat.le_refl _⟩⟩
  obtain ⟨v, e1, e2⟩ := r.get (List.getElem?_eq_getElem hi)
  refine ⟨⟨vs, v, hl, e1⟩, fun x H3 hy => ?_⟩
  obtain ⟨rfl, hy⟩ := hy
  have := hy vs hl
  rw [e1] at this
  cases this
  exact ⟨_, Z2, List.getElem?_eq_getElem hi, Grow.refl s2, e2.mono s1⟩
section
variable {X : Cx} {e tg : Expr} {t : DT} {pos q : Pos} {a b : Expr}
theorem di_list (h : DE X e t) : DI X tg e (fun Γ k => t Γ fun d Γ1 => ∃ ds, d = .lst ds ∧ k ds Γ1) := PI.weak (pi_list h) fun σ H R ⟨c, Γ, Z, k, ok, h1, hq⟩ => by
  refine ⟨c, Γ, Z, _, ok, h1, fun d Γ1 v Z1 H1 ⟨ds, hd, k1⟩ ok1 g1 r1 => ?_⟩
  subst hd
  cases r1 with
  | lst h r => exact ⟨_, rfl, ⟨_, SqL.sub h ok1.sub⟩, hq ds Γ1 Z1 H1 _ k1 ok1 g1 (itd_list (H := H1) h r)⟩
theorem di_tup (h : DE X e t) : DI X tg e (fun Γ k => t Γ fun d Γ1 => ∃ ds, d = .tup ds ∧ k ds Γ1) := PI.weak (pi_tup h) fun σ H R ⟨c, Γ, Z, k, ok, h1, hq⟩ => by
  refine ⟨c, Γ, Z, _, ok, h1, fun d Γ1 v Z1 H1 ⟨ds, hd, k1⟩ ok1 g1 r1 => ?_⟩
  subst hd
  cases r1 with
  | tup h r => exact ⟨_, rfl, ⟨_, SqT.sub h ok1.sub⟩, hq ds Γ1 Z1 H1 _ k1 ok1 g1 (itd_tup (H := H1) h r)⟩
def rngD (lo : Int) (n : Nat) : List D := (List.range n).map fun i => .int (lo + (i : Nat))
theorem itd_rng {K : PySem.W.Frag} {Z : Hp} {lo : Int} {n : Nat} : ItD Z K (rngD lo n) (Itr lo n) := fun i Z2 H2 s1 s2 => by
  have el : (rngD lo n).length = n := by unfold rngD; rw [List.length_map, List.length_range]
  rw [el]
  refine ⟨fun hi => ⟨hi, fun x H3 hy => ?_⟩, fun hi => by show n ≤ i; omega⟩
  obtain ⟨rfl, rfl⟩ := hy
  refine ⟨.int (lo + (i : Nat)), Z2, ?_, Grow.refl s2, .int _⟩
  unfold rngD
  rw [List.getElem?_map, List.getElem?_range hi]
  rfl
theorem di_range1 {tl : DTl} (hm : X.mg "range" = none) (ha : DLs X [a] tl) (hg : Gl X "range" := by rfl) (hs : starEach [a] X.env = [(false, eval a X.env)] := by rfl) :
    DI X tg (.Call (.Name "range" q) [a] [] pos) (fun Γ k => tl Γ fun ds Γ1 => ∃ j : Int, ds = [.int j] ∧ -(2 ^ 62) ≤ j ∧ j < 2 ^ 62 ∧ k (rngD 0 j.toNat) Γ1) := PI.weak (pi_range1 hg hm ha hs) fun σ H R ⟨c, Γ, Z, k, ok, h1, hq⟩ => by
  refine ⟨c, Γ, Z, _, ok, h1, fun ds Γ1 vs Z1 H1 ⟨j, hd, k1, k2, k3⟩ ok1 g1 r1 => ?_⟩
  subst hd
  obtain ⟨v, rfl, r⟩ := r1.one
  exact ⟨j, by rw [r.int_of], k1, k2, hq _ Γ1 Z1 H1 _ k3 ok1 g1 itd_rng⟩
theorem di_range2 {tl : DTl} (hm : X.mg "range" = none) (ha : DLs X [a, b] tl) (hg : Gl X "range" := by rfl) (hs : starEach [a, b] X.env = [(false, eval a X.env), (false, eval b X.env)] := by rfl) (hs2 : starEach [b] X.env = [(false, eval b X.env)] := by rfl) :
    DI X tg (.Call (.Name "range" q) [a, b] [] pos) (fun Γ k => tl Γ fun ds Γ1 => ∃ i j : Int, ds = [.int i, .int j] ∧ (-(2 ^ 62) ≤ i ∧ i < 2 ^ 62 ∧ -(2 ^ 62) ≤ j ∧ j < 2 ^ 62) ∧ k (rngD i (j - i).toNat) Γ1) := PI.weak (pi_range2 hg hm ha hs hs2) fun σ H R ⟨c, Γ, Z, k, ok, h1, hq⟩ => by
  refine ⟨c, Γ, Z, _, ok, h1, fun ds Γ1 vs Z1 H1 ⟨i, j, hd, k1, k3⟩ ok1 g1 r1 => ?_⟩
  subst hd
  obtain ⟨v, u, rfl, r, r'⟩ := r1.two
  exact ⟨i, j, by rw [r.int_of, r'.int_of], k1, hq _ Γ1 Z1 H1 _ k3 ok1 g1 itd_rng⟩
/-- for tg in iter: body -/
def dFor (its : DTi) (g : DTg) (tb : DTs) : DTs := fun D Γ => its Γ fun ds Γ1 => ∃ W : Nat → Env → Prop, W 0 Γ1 ∧
  (∀ (i : Nat) d Γ, ds[i]? = some d → W i Γ → g d Γ fun Γ2 => tb { D with nx := W (i + 1), ct := W (i + 1), bk := D.nx } Γ2) ∧ (∀ Γ, W ds.length Γ → D.nx Γ)
theorem ds_for {its : DTi} {g : DTg} {tb : DTs} {body : List Stmt} (hc : X.calm = true) (hi : DI X tg e its) (hg : DG X tg g) (hb : DSs X body tb) (hp : PassesOwn (model X.prog X.w) X.A X.env X.xe := by exact PassesOwn.never) (hs : ∀ x, foldedSetIterable e X.env x = pure x := by intro _; rfl) :
    DS X (.For tg e body [] pos) (dFor its g tb) := PS.weak (ps_for hp hc hi hg hb hs) fun E σ H ⟨c, Γ, Z, D, ok, h1, he⟩ => by
  refine ⟨c, Γ, Z, _, ok, h1, fun ds Γ1 Z1 H1 J ⟨W, w0, ws, wd⟩ ok1 g1 hJ => ?_⟩
  have he1 := he.rebase ok1
  refine ⟨fun i m σ H => m = ds.length - i ∧ i ≤ ds.length ∧ ∃ Γ Z, OkS X.K { c with Z0 := Z1 } Γ Z σ H ∧ W i Γ, ⟨_, rfl, Nat.zero_le _, Γ1, Z1, ok1.rebase, w0⟩, ?_⟩
  rintro i m σ2 H2 ⟨rfl, hle, Γ2, Z2, ok2, w2⟩
  obtain ⟨j1, j2⟩ := hJ i Z2 H2 ok2.gz ok2.sub
  rcases Nat.lt_or_ge i ds.length with hlt | hge
  · obtain ⟨jg, jy⟩ := j1 hlt
    refine .inr ⟨jg, fun σ H => ∃ Γ Z, OkS X.K { c with Z0 := Z1 } Γ Z σ H ∧ W (i + 1) Γ, fun σ' H' hN => ⟨ds.length - (i + 1), by omega, rfl, hlt, hN⟩, fun x H3 hy => ?_⟩
    obtain ⟨d, Z3, hd, g3, r3⟩ := jy x H3 hy
    refine ⟨{ c with Z0 := Z1 }, Γ2, Z3, d, _, ok2.grows g3, r3, ws i d Γ2 hd w2, fun Γ4 Z4 σ4 H4 k4 ok4 g4 => ⟨{ c with Z0 := Z1 }, Γ4, Z4, _, ok4, k4, ?_⟩⟩
    exact ⟨fun Γ5 Z5 σ5 H5 h o => ⟨Γ5, Z5, o, h⟩, fun Γ5 Z5 σ5 H5 h o => he1.nx Γ5 Z5 σ5 H5 h o, fun Γ5 Z5 σ5 H5 h o => ⟨Γ5, Z5, o, h⟩, fun r Γ5 v Z5 σ5 H5 h o rv => he1.rt r Γ5 v Z5 σ5 H5 h o rv⟩
  · have ei : i = ds.length := by omega
    subst ei
    exact .inl ⟨j2 rfl, he1.nx Γ2 Z2 σ2 H2 (wd Γ2 w2) ok2⟩
/-- while test: body -/
def dWhile (c : DTt) (tb : DTs) : DTs := fun D Γ => ∃ W : Nat → Env → Prop, (∃ m, W m Γ) ∧ ∀ m Γ, W m Γ → c Γ fun b Γ1 =>
  (b = true → tb { D with nx := fun Γ2 => ∃ m', m' < m ∧ W m' Γ2, ct := fun Γ2 => ∃ m', m' < m ∧ W m' Γ2, bk := D.nx } Γ1) ∧ (b = false → D.nx Γ1)
theorem ds_while {cnd : Expr} {body : List Stmt} {tq : DTt} {tb : DTs} (hc : DU X cnd tq) (hb : DSs X body tb) (hp : PassesOwn (model X.prog X.w) X.A X.env X.xe := by exact PassesOwn.never) : DS X (.While cnd body [] pos) (dWhile tq tb) := PS.weak (ps_while hp hc hb) fun E σ H ⟨c, Γ, Z, D, ok, h1, he⟩ => by
  obtain ⟨W, ⟨m, w0⟩, ws⟩ := h1
  refine ⟨fun m σ H => ∃ Γ Z, OkS X.K c Γ Z σ H ∧ W m Γ, ⟨m, Γ, Z, ok, w0⟩, ?_⟩
  rintro m σ2 H2 ⟨Γ2, Z2, ok2, w2⟩
  refine ⟨c, Γ2, Z2, _, ok2, ws m Γ2 w2, fun b Γ3 Z3 H3 k3 ok3 g3 => ?_⟩
  cases b with
  | true =>
    refine iteT ⟨fun σ H => ∃ m', m' < m ∧ ∃ Γ Z, OkS X.K c Γ Z σ H ∧ W m' Γ, fun σ' H' h => h, c, Γ3, Z3, _, ok3, k3.1 rfl, ?_⟩
    exact ⟨fun Γ5 Z5 σ5 H5 ⟨m', hm, h⟩ o => ⟨m', hm, Γ5, Z5, o, h⟩, fun Γ5 Z5 σ5 H5 h o => he.nx Γ5 Z5 σ5 H5 h o, fun Γ5 Z5 σ5 H5 ⟨m', hm, h⟩ o => ⟨m', hm, Γ5, Z5, o, h⟩, fun r Γ5 v Z5 σ5 H5 h o rv => he.rt r Γ5 v Z5 σ5 H5 h o rv⟩
  | false => exact iteF (he.nx Γ3 Z3 σ2 H3 (k3.2 rfl) ok3)
end

/-! ### defs -/
def uns : Nat → Env
  | 0 => []
  | n + 1 => .un :: uns n
theorem uns_eq : ∀ n : Nat, List.replicate n Sl.un = uns n
  | 0 => rfl
  | n + 1 => by rw [List.replicate_succ, uns_eq n]; rfl
def posts : List Ag → Env → List Ag
  | .im d :: as, _ :: Γ => .im d :: posts as Γ
  | .ow _ :: as, .own _ o :: Γ => .ow o :: posts as Γ
  | .ow _ :: as, _ :: Γ => .im .non :: posts as Γ
  | _, _ => []
/-- the slots of what came as one's own still hold it -/
def pinned : List Ag → Env → Prop
  | .im _ :: as, _ :: Γ => pinned as Γ
  | .ow _ :: as, .own true _ :: Γ => pinned as Γ
  | [], _ => True
  | _, _ => False
theorem gt_append_left : ∀ {Γ Δ : Env} {i : Nat}, i < Γ.length → gt (Γ ++ Δ) i = gt Γ i
  | [], _, _, h => by simp at h
  | _ :: _, _, 0, _ => rfl
  | _ :: r, Δ, n + 1, h => gt_append_left (Γ := r) (by simpa using h)
theorem gt_append_right : ∀ {Γ Δ : Env} {i : Nat}, Γ.length ≤ i → gt (Γ ++ Δ) i = gt Δ (i - Γ.length)
  | [], _, _, _ => rfl
  | _ :: _, _, 0, h => by simp at h
  | _ :: r, Δ, n + 1, h => by
    show gt (r ++ Δ) n = gt Δ (n + 1 - (r.length + 1))
    rw [gt_append_right (by simpa using h), Nat.add_sub_add_right]
theorem gt_un : ∀ {n i : Nat}, gt (List.replicate n .un) i = .un
  | 0, _ => rfl
  | _ + 1, 0 => rfl
  | n + 1, i + 1 => gt_un (n := n)
theorem OkS.start {K : PySem.W.Frag} {c : FC} {as : List Ag} {Z H : Hp} {vs : List V} {N : List Str} (ok : OkS K c (as.map Ag.sl) Z (vs.map some) H) (hl : as.length = vs.length) : OkS K c (as.map Ag.sl ++ List.replicate (N.length - vs.length) .un) Z (L2.start N vs) H := by
  have sl : ∀ i s, gt (as.map Ag.sl ++ List.replicate (N.length - vs.length) .un) i = s → s ≠ .un → gt (as.map Ag.sl) i = s ∧ i < vs.length := fun i s h ns => by
    rcases Nat.lt_or_ge i (as.map Ag.sl).length with q | q
    · rw [gt_append_left q] at h
      exact ⟨h, by rw [List.length_map, hl] at q; exact q⟩
    · rw [gt_append_right q, gt_un] at h
      exact absurd h.symm ns
  have at_ : ∀ i, i < vs.length → (L2.start N vs)[i]? = (vs.map some)[i]? := fun i hi => by
    unfold L2.start
    rw [List.getElem?_append_left (by rw [List.length_map]; exact hi)]
  refine ⟨ok.sub, ok.fr, ok.gz, ok.al, fun i => ?_, fun i j a p o q u g1 g2 g3 g4 => ?_, ?_⟩
  · by_cases h : gt (as.map Ag.sl ++ List.replicate (N.length - vs.length) .un) i = .un
    · rw [h]; trivial
    · obtain ⟨e1, e2⟩ := sl i _ rfl h
      have hs := ok.sl i
      rw [e1] at hs
      generalize gt (as.map Ag.sl ++ List.replicate (N.length - vs.length) .un) i = s at hs
      cases s with
      | un => trivial
      | im d => obtain ⟨v, k1, k2⟩ := hs; exact ⟨v, by rw [at_ i e2]; exact k1, k2⟩
      | own p o => obtain ⟨a, k1, k2⟩ := hs; exact ⟨a, by rw [at_ i e2]; exact k1, k2⟩
  · obtain ⟨e1, e2⟩ := sl i _ g1 (fun z => nomatch z)
    obtain ⟨e3, e4⟩ := sl j _ g2 (fun z => nomatch z)
    rw [at_ i e2] at g3
    rw [at_ j e4] at g4
    exact ok.ne i j a p o q u e1 e3 g3 g4
  · unfold L2.start
    simp only [List.length_append, List.length_map, List.length_replicate, hl]
    exact Nat.le_refl _
theorem posts_shape : ∀ {as : List Ag} {Γ : Env}, pinned as Γ → Shape as (posts as Γ)
  | [], _, _ => by cases ‹Env› <;> trivial
  | .im d :: as, [], h => h.elim
  | .ow o :: as, [], h => h.elim
  | .im d :: as, _ :: Γ, h => ⟨rfl, posts_shape (as := as) h⟩
  | .ow o :: as, .un :: Γ, h => h.elim
  | .ow o :: as, .im _ :: Γ, h => h.elim
  | .ow o :: as, .own true _ :: Γ, h => posts_shape (as := as) h
  | .ow o :: as, .own false _ :: Γ, h => h.elim
theorem posts_len : ∀ {as : List Ag} {Γ : Env}, pinned as Γ → (posts as Γ).length = as.length
  | [], _, _ => by cases ‹Env› <;> rfl
  | .im d :: as, [], h => h.elim
  | .ow o :: as, [], h => h.elim
  | .im d :: as, _ :: Γ, h => by show (posts as Γ).length + 1 = as.length + 1; rw [posts_len (as := as) h]
  | .ow o :: as, .un :: Γ, h => h.elim
  | .ow o :: as, .im _ :: Γ, h => h.elim
  | .ow o :: as, .own true _ :: Γ, h => by show (posts as Γ).length + 1 = as.length + 1; rw [posts_len (as := as) h]
  | .ow o :: as, .own false _ :: Γ, h => h.elim
theorem posts_at : ∀ {as : List Ag} {Γ : Env} {j : Nat}, pinned as Γ → gt ((posts as Γ).map Ag.sl) j = match as[j]? with
    | some (.im d) => .im d
    | some (.ow _) => gt Γ j
    | none => .un
  | [], _, j, _ => by cases ‹Env› <;> rfl
  | .im d :: as, [], j, h => h.elim
  | .ow o :: as, [], j, h => h.elim
  | .im d :: as, _ :: Γ, 0, h => rfl
  | .im d :: as, _ :: Γ, j + 1, h => by
    show gt ((posts as Γ).map Ag.sl) j = _
    rw [posts_at (as := as) h]
    simp
    rfl
  | .ow o :: as, .un :: Γ, j, h => h.elim
  | .ow o :: as, .im _ :: Γ, j, h => h.elim
  | .ow o :: as, .own true _ :: Γ, 0, h => rfl
  | .ow o :: as, .own true _ :: Γ, j + 1, h => by
    show gt ((posts as Γ).map Ag.sl) j = _
    rw [posts_at (as := as) h]
    simp
    rfl
  | .ow o :: as, .own false _ :: Γ, j, h => h.elim
theorem pinned_at : ∀ {as : List Ag} {Γ : Env} {j : Nat} {o : Oc}, pinned as Γ → as[j]? = some (.ow o) → ∃ o', gt Γ j = .own true o'
  | [], _, _, _, _, e => by simp at e
  | .im d :: as, [], _, _, h, _ => h.elim
  | .ow o :: as, [], _, _, h, _ => h.elim
  | .im d :: as, _ :: Γ, 0, _, h, e => by simp at e
  | .im d :: as, _ :: Γ, j + 1, o, h, e => pinned_at (as := as) (Γ := Γ) (j := j) h (by simpa using e)
  | .ow o :: as, .un :: Γ, _, _, h, _ => h.elim
  | .ow o :: as, .im _ :: Γ, _, _, h, _ => h.elim
  | .ow o :: as, .own true u :: Γ, 0, _, h, e => ⟨u, rfl⟩
  | .ow o :: as, .own true _ :: Γ, j + 1, o', h, e => pinned_at (as := as) (Γ := Γ) (j := j) h (by simpa using e)
  | .ow o :: as, .own false _ :: Γ, _, _, h, _ => h.elim
theorem OkS.finish {K : PySem.W.Frag} {c : FC} {as : List Ag} {Γ : Env} {Z Z' H H' : Hp} {vs : List V} {σ : St} (ok0 : OkS K c (as.map Ag.sl) Z (vs.map some) H) (gz : Sub Z Z') (hl : as.length = vs.length) (hv : c.vs = vs) (ok : OkS K c Γ Z' σ H') (hp : pinned as Γ) :
    OkS K c ((posts as Γ).map Ag.sl) Z' (vs.map some) H' := by
  have own : ∀ (j : Nat) o, as[j]? = some (.ow o) → ∃ a o', gt Γ j = .own true o' ∧ vs[j]? = some (.ref a) ∧ σ[j]? = some (some (.ref a)) ∧ OcOk K Z' H' a o' ∧ Z' a = none ∧ ¬ c.F a := fun j o e => by
    obtain ⟨o', e1⟩ := pinned_at hp e
    have hs := ok.sl j
    rw [e1] at hs
    obtain ⟨a, k1, k2, k3, k4, k5⟩ := hs
    rw [if_pos rfl, hv] at k5
    exact ⟨a, o', e1, k5, k1, k2, k3, k4⟩
  refine ⟨ok.sub, ok.fr, ok.gz, ok.al, fun j => ?_, fun i j a p o q u g1 g2 g3 g4 => ?_, ?_⟩
  · rw [posts_at hp]
    cases q : as[j]? with
    | none => trivial
    | some a =>
      cases a with
      | im d =>
        have hs := ok0.sl j
        rw [gt_map_sl, q] at hs
        obtain ⟨v, k1, k2⟩ := hs
        exact ⟨v, k1, k2.mono gz⟩
      | ow o =>
        obtain ⟨a, o', e1, e2, _, e3, e4, e5⟩ := own j o q
        show SlOk K c Z' _ H' j (gt Γ j)
        rw [e1]
        exact ⟨a, some_map.mpr e2, e3, e4, e5, by rw [if_pos rfl, hv]; exact e2⟩
  · rw [posts_at hp] at g1 g2
    have key : ∀ (i : Nat) p o, (match as[i]? with | some (.im d) => Sl.im d | some (.ow _) => gt Γ i | none => .un) = .own p o → gt Γ i = .own p o ∧ σ[i]? = (vs.map some)[i]? := fun i p o h => by
      cases q : as[i]? with
      | none => rw [q] at h; cases h
      | some b =>
        cases b with
        | im d => rw [q] at h; cases h
        | ow o1 =>
          rw [q] at h
          obtain ⟨a, o', e1, e2, e3, _⟩ := own i o1 q
          exact ⟨h, by rw [e3]; exact (some_map.mpr e2).symm⟩
    obtain ⟨a1, b1⟩ := key i p o g1
    obtain ⟨a2, b2⟩ := key j q u g2
    rw [← b1] at g3
    rw [← b2] at g4
    exact ok.ne i j a p o q u a1 a2 g3 g4
  · rw [List.length_map, List.length_map, posts_len hp, hl]
    exact Nat.le_refl _
section
variable {P : Program} {w : World} {K : PySem.W.Frag} {mg : Str → Option Value} {base : Heap}
/-- the body of a def keeps a promise over data -/
theorem fok_g {x qual : Str} {stm : Stmt} {f : Addr} {fd : FuncData} {N ps : List Str} {k n : Nat} {S : DSp} (F : Fun K x qual stm f fd) (Sc : FnScope N ps (defScope stm)) (hn : ps.length = n) (m : Nat) (hm : N.length - n = m)
    (hb : ∀ (cdv : Value) (A : Around) (outer : List PySem.Env) (s : Shared) (H : Hp) (E : XK), Room k (A.deeper (PyProof.Rows.envOfC qual (defScope stm) s.heap.objs.size f cdv)) →
      ∃ t, DSs (cxOf CX0 P w K mg base N qual (defScope stm) f cdv A outer s H E).nox (defBody stm) t ∧ ∀ as kk, S as kk → as.length = n → t ⟨fun Γ => pinned as Γ ∧ kk (.im .non) (posts as Γ), fun r Γ => pinned as Γ ∧ kk r (posts as Γ), fun _ => False, fun _ => False⟩ (as.map Ag.sl ++ uns m)) :
    FnOk P w K mg base CX0 (k + 1) f fd ps (SpG K n S) := by
  refine F.ok Sc (fun vs H Q E h => ?_) (fun cdv A outer s H vs Q E hr h => ?_)
  · obtain ⟨c, as, Z, kk, _, _, h3, _⟩ := h
    rw [hn, h3]
  · obtain ⟨c, as, Z, kk, hv, h2, h3, ok, hS, hq⟩ := h
    obtain ⟨t, ht, hd⟩ := hb cdv A outer s H E hr
    have h23 : as.length = vs.length := by rw [h2, h3]
    have ok1 := ok.rebase
    have ok2 := OkS.start (N := N) ok1 h23
    rw [h3, hm, uns_eq] at ok2
    refine ⟨_, ht, _, _, Z, _, ok2, hd as kk hS h2, ?_, ?_, ?_, ?_⟩
    · intro Γ Z1 σ1 H1 ⟨hp, hk⟩ ok3
      have fin := OkS.finish ok1 ok3.gz h23 hv ok3 hp
      exact hq _ _ .non Z1 H1 hk (posts_shape hp) (ok.unbase fin) ok3.gz .non
    · intro _ _ _ _ h; exact h.elim
    · intro _ _ _ _ h; exact h.elim
    · intro r Γ v Z1 σ1 H1 ⟨hp, hk⟩ ok3 rv
      have fin := OkS.finish ok1 ok3.gz h23 hv ok3 hp
      refine hq r _ v Z1 H1 hk (posts_shape hp) (ok.unbase fin) ok3.gz ?_
      cases r with
      | im d => exact rv
      | ow o =>
        obtain ⟨a, rfl, k1, k2, k3, k4⟩ := rv
        have k3' : c.H0 a = none := k3
        refine ⟨a, rfl, k1, k2, k3', fun i p o' e1 e2 => ?_⟩
        have hs := fin.sl i
        rw [e1] at hs
        obtain ⟨b, q1, q2, q3, q4, q5⟩ := hs
        rw [e2] at q1
        cases q1
        rw [posts_at hp] at e1
        cases q : as[i]? with
        | none => rw [q] at e1; cases e1
        | some a1 =>
          cases a1 with
          | im d => rw [q] at e1; cases e1
          | ow o1 =>
            have hs0 := ok.sl i
            rw [gt_map_sl, q] at hs0
            obtain ⟨b0, r1, r2, r3, r4, r5⟩ := hs0
            rw [e2] at r1
            cases r1
            rw [if_pos rfl] at r5
            rw [q] at e1
            have e1' : gt Γ i = .own p o' := e1
            obtain ⟨o2, e3⟩ := pinned_at hp q
            have hs3 := ok3.sl i
            rw [e1'] at hs3
            obtain ⟨b3, t1, t2, t3, t4, t5⟩ := hs3
            rw [e1'] at e3
            cases e3
            rw [if_pos rfl] at t5
            have t5' : c.vs[i]? = some (.ref b3) := t5
            rw [r5] at t5'
            cases t5'
            exact k4 i true o' e1' t1
/-- an answer as data -/
def agIs (x : D) : Ag → Prop
  | .im d => d = x
  | .ow (.lst es) => .lst es = x
  | _ => False
/-- .. frozen data in, frozen data out -/
theorem fok_p {x qual : Str} {stm : Stmt} {f : Addr} {fd : FuncData} {N ps : List Str} {k n : Nat} {pre : List D → Prop} {val : List D → D} (F : Fun K x qual stm f fd) (Sc : FnScope N ps (defScope stm)) (hn : ps.length = n) (m : Nat) (hm : N.length - n = m)
    (hb : ∀ (cdv : Value) (A : Around) (outer : List PySem.Env) (s : Shared) (H : Hp) (E : XK), Room k (A.deeper (PyProof.Rows.envOfC qual (defScope stm) s.heap.objs.size f cdv)) →
      ∃ t, DSs (cxOf CX0 P w K mg base N qual (defScope stm) f cdv A outer s H E).nox (defBody stm) t ∧ ∀ ds, ds.length = n → pre ds → t ⟨fun _ => val ds = .non, fun r _ => agIs (val ds) r, fun _ => False, fun _ => False⟩ (ds.map Sl.im ++ uns m)) :
    FnOk P w K mg base CX0 (k + 1) f fd ps (SpP K n pre val) := by
  refine F.ok Sc (fun vs H Q E h => ?_) (fun cdv A outer s H vs Q E hr h => ?_)
  · obtain ⟨Z, ds, _, h2, h3, _⟩ := h
    rw [h2.length, h3, hn]
  · obtain ⟨Z, ds, h1, h2, h3, h4, hq⟩ := h
    obtain ⟨t, ht, hd⟩ := hb cdv A outer s H E hr
    have hvl : ds.length = vs.length := h2.length.symm
    let c : FC := ⟨fun a => H a ≠ none, H, Z, vs⟩
    have ok0 : OkS K c ((ds.map Ag.im).map Ag.sl) Z (vs.map some) H := by
      refine ⟨h1, fun a f => ⟨rfl, rfl, f⟩, Sub.refl, fun _ h => h, fun j => ?_, fun i j a p o q u g1 g2 g3 g4 => ?_, by rw [List.length_map, List.length_map, List.length_map, hvl]; exact Nat.le_refl _⟩
      · rw [sl_ims]
        cases q : ds[j]? with
        | none => trivial
        | some d =>
          obtain ⟨v, k1, k2⟩ := h2.get q
          exact ⟨v, some_map.mpr k1, k2⟩
      · rw [sl_ims] at g1
        cases q : ds[i]? with
        | none => rw [q] at g1; cases g1
        | some d => rw [q] at g1; cases g1
    have ok2 := OkS.start (N := N) ok0 (by rw [List.length_map]; exact hvl)
    have em : (ds.map Ag.im).map Ag.sl = ds.map Sl.im := by rw [List.map_map]; rfl
    rw [em, ← hvl, h3, hm, uns_eq] at ok2
    have gr : ∀ {Γ : Env} {Z1 H1 : Hp} {σ1 : St}, OkS K c Γ Z1 σ1 H1 → Grow Z H Z1 H1 := fun {Γ Z1 H1 σ1} ok3 => ⟨ok3.sub, ok3.gz, fun a n => (ok3.fr a n).1, fun a n => (ok3.fr a n).2.1⟩
    refine ⟨_, ht, c, _, Z, _, ok2, hd ds h3 h4, ?_, ?_, ?_, ?_⟩
    · intro Γ Z1 σ1 H1 e ok3
      exact hq .non Z1 H1 (gr ok3) (by rw [e]; exact .non)
    · intro _ _ _ _ h; exact h.elim
    · intro _ _ _ _ h; exact h.elim
    · intro r Γ v Z1 σ1 H1 e ok3 rv
      cases r with
      | im d =>
        obtain rfl : d = val ds := e
        exact hq v Z1 H1 (gr ok3) rv
      | ow o =>
        cases o with
        | lst es =>
          have e' : D.lst es = val ds := e
          obtain ⟨Z2, ok4, s2, r2⟩ := ok3.freeze rv
          exact hq v Z2 H1 (gr ok4) (by rw [← e']; exact r2)
        | ins C fs => exact False.elim e
        | dT kvs => exact False.elim e
/-- .. a new list out -/
theorem fok_l {x qual : Str} {stm : Stmt} {f : Addr} {fd : FuncData} {N ps : List Str} {k n : Nat} {pre : List D → Prop} {val : List D → List D} (F : Fun K x qual stm f fd) (Sc : FnScope N ps (defScope stm)) (hn : ps.length = n) (m : Nat) (hm : N.length - n = m)
    (hb : ∀ (cdv : Value) (A : Around) (outer : List PySem.Env) (s : Shared) (H : Hp) (E : XK), Room k (A.deeper (PyProof.Rows.envOfC qual (defScope stm) s.heap.objs.size f cdv)) →
      ∃ t, DSs (cxOf CX0 P w K mg base N qual (defScope stm) f cdv A outer s H E).nox (defBody stm) t ∧ ∀ ds, ds.length = n → pre ds → t ⟨fun _ => False, fun r _ => r = .ow (.lst (val ds)), fun _ => False, fun _ => False⟩ (ds.map Sl.im ++ uns m)) :
    FnOk P w K mg base CX0 (k + 1) f fd ps (SpL K n pre val) := by
  refine F.ok Sc (fun vs H Q E h => ?_) (fun cdv A outer s H vs Q E hr h => ?_)
  · obtain ⟨Z, ds, _, h2, h3, _⟩ := h
    rw [h2.length, h3, hn]
  · obtain ⟨Z, ds, h1, h2, h3, h4, hq⟩ := h
    obtain ⟨t, ht, hd⟩ := hb cdv A outer s H E hr
    have hvl : ds.length = vs.length := h2.length.symm
    let c : FC := ⟨fun a => H a ≠ none, H, Z, vs⟩
    have ok0 : OkS K c ((ds.map Ag.im).map Ag.sl) Z (vs.map some) H := by
      refine ⟨h1, fun a f => ⟨rfl, rfl, f⟩, Sub.refl, fun _ h => h, fun j => ?_, fun i j a p o q u g1 g2 g3 g4 => ?_, by rw [List.length_map, List.length_map, List.length_map, hvl]; exact Nat.le_refl _⟩
      · rw [sl_ims]
        cases q : ds[j]? with
        | none => trivial
        | some d =>
          obtain ⟨v, k1, k2⟩ := h2.get q
          exact ⟨v, some_map.mpr k1, k2⟩
      · rw [sl_ims] at g1
        cases q : ds[i]? with
        | none => rw [q] at g1; cases g1
        | some d => rw [q] at g1; cases g1
    have ok2 := OkS.start (N := N) ok0 (by rw [List.length_map]; exact hvl)
    have em : (ds.map Ag.im).map Ag.sl = ds.map Sl.im := by rw [List.map_map]; rfl
    rw [em, ← hvl, h3, hm, uns_eq] at ok2
    have gr : ∀ {Γ : Env} {Z1 H1 : Hp} {σ1 : St}, OkS K c Γ Z1 σ1 H1 → Grow Z H Z1 H1 := fun {Γ Z1 H1 σ1} ok3 => ⟨ok3.sub, ok3.gz, fun a n => (ok3.fr a n).1, fun a n => (ok3.fr a n).2.1⟩
    refine ⟨_, ht, c, _, Z, _, ok2, hd ds h3 h4, ?_, ?_, ?_, ?_⟩
    · intro _ _ _ _ h; exact h.elim
    · intro _ _ _ _ h; exact h.elim
    · intro _ _ _ _ h; exact h.elim
    · intro r Γ v Z1 σ1 H1 e ok3 rv
      subst e
      obtain ⟨a, rfl, ⟨us, k1, k2⟩, k3, k4, _⟩ := rv
      have k4' : H a = none := k4
      exact hq a us Z1 H1 (gr ok3) k4' k3 k1 k2
end
end DL

namespace DL
open PySem PySem.Spec L2

/-! ### more rules -/
section
variable {X : Cx} {e a b c : Expr} {p pa pb pc : Pr} {f fa fb fc : Env → D} {pos : Pos}
/-- a name's list, tuple, as a test -/
theorem dq_truN {i : Nat} (h : PE X e (tVar i)) (he : ∀ whole, isTrue e X.env whole = (do let v ← whole; standAt e.pos; holding [v] (truthy v)) := by intro _; rfl) : DQ X e (fun Γ => (gt Γ i).sq.isSome = true) (fun Γ => !((gt Γ i).sq.getD []).isEmpty) := PT.weak (pt_truth h he) fun σ H Q h => by
  obtain ⟨c, Γ, Z, ok, h1, hq⟩ := h
  obtain ⟨ds, hd⟩ := Option.isSome_iff_exists.mp h1
  dsimp only at hq
  rw [hd] at hq
  obtain ⟨a, vs, h2, h3, h4⟩ := ok.seq hd
  have em : (!ds.isEmpty) = !vs.isEmpty := by cases h4 <;> rfl
  refine ⟨_, h2, _, ?_, hq Z H ok Sub.refl⟩
  show TruV X.K (.ref a) H (!ds.isEmpty)
  rw [em]
  rcases h3 with h3 | h3
  · exact .inl ⟨vs, h3, rfl⟩
  · exact .inr (.inl ⟨vs, h3, rfl⟩)
theorem dq_chain {op op' : CmpOp} {C C' : D → D → Prop} {g g' : D → D → D} (ho : OpD X (compareOp op) C g) (ho' : OpD X (compareOp op') C' g') (ha : DP X a pa fa) (hb : DP X b pb fb) (hc : DP X c pc fc)
    (hm : lastMarks [op, op'] [b, c] = false := by with_unfolding_all rfl) :
    DQ X (.Compare a [op, op'] [b, c] pos) (fun Γ => pa Γ ∧ pb Γ ∧ C (fa Γ) (fb Γ) ∧ (g (fa Γ) (fb Γ)).isB ∧ ((g (fa Γ) (fb Γ)).b = true → pc Γ ∧ C' (fb Γ) (fc Γ) ∧ (g' (fb Γ) (fc Γ)).isB)) (fun Γ => (g (fa Γ) (fb Γ)).b && (g' (fb Γ) (fc Γ)).b) := PT.weak (pt_chain ho ho' ha hb hc hm) fun σ H Q h => by
  obtain ⟨c, Γ, Z, ok, ⟨ha, hb, hc, hB, hr⟩, hq⟩ := h
  dsimp only at hq
  refine ⟨c, Γ, Z, ok, ha, fun x Z1 H1 ok1 g1 r1 => ⟨c, Γ, Z1, ok1, hb, fun y Z2 H2 ok2 g2 r2 => ⟨Z2, _, _, ok2.sub, r1.mono g2, r2, hc, fun v Z3 H3 g3 r3 => ?_⟩⟩⟩
  have ok3 := ok2.grows g3
  have g13 := (g1.trans g2).trans g3.gz
  rw [hB.of] at r3
  refine ⟨_, r3.bl_of, ?_⟩
  by_cases q : (g (fa Γ) (fb Γ)).b = true
  · rw [if_pos q]
    obtain ⟨q1, q2, q3⟩ := hr q
    refine ⟨c, Γ, Z3, ok3, q1, fun z Z4 H4 ok4 g4 r4 => ⟨Z4, _, _, ok4.sub, r2.mono (g3.gz.trans g4), r4, q2, fun v' Z5 H5 g5 r5 => ?_⟩⟩
    rw [q3.of] at r5
    refine ⟨_, r5.bl_of, ?_⟩
    have := hq Z5 H5 (ok4.grows g5) ((g13.trans g4).trans g5.gz)
    rw [q] at this
    exact this
  · rw [if_neg q]
    have qf : (g (fa Γ) (fb Γ)).b = false := by simpa using q
    have := hq Z3 H3 ok3 g13
    rw [qf] at this
    exact ⟨false, rfl, this⟩
/-- a name's own list, frozen -/
def frzV (k : D → Env → Prop) (i : Nat) (Γ : Env) : Prop := match gt Γ i with
  | .im d => k d Γ
  | .own false (.lst ds) => k (.lst ds) (st Γ i (.im (.lst ds)))
  | _ => False
theorem st_same_set {σ : St} {i : Nat} {v : V} (h : σ[i]? = some (some v)) : σ.set i (some v) = σ := by
  obtain ⟨hi, e⟩ := List.getElem?_eq_some_iff.mp h
  rw [← e]
  exact List.set_getElem_self hi
theorem st_st : ∀ {Γ : Env} {i : Nat} {s u : Sl}, st (st Γ i s) i u = st Γ i u
  | [], _, _, _ => rfl
  | _ :: _, 0, _, _ => rfl
  | _ :: r, n + 1, s, u => by show _ :: st (st r n s) n u = _ :: st r n u; rw [st_st]
theorem de_frzV {i : Nat} (h : PE X e (tVar i)) : DE X e (fun Γ k => frzV k i Γ) := PE.weak h fun σ H Q ⟨c, Γ, Z, k, ok, h1, hq⟩ => by
  dsimp only [frzV] at h1
  cases q : gt Γ i with
  | un => rw [q] at h1; exact h1.elim
  | im d =>
    rw [q] at h1
    have hs := ok.sl i
    rw [q] at hs
    obtain ⟨v, e1, e2⟩ := hs
    exact ⟨v, e1, hq d Γ v Z H h1 ok Sub.refl e2⟩
  | own b o =>
    rw [q] at h1
    cases b with
    | true => exact h1.elim
    | false =>
      cases o with
      | lst ds =>
        obtain ⟨v, e1, e2⟩ := ok.take q
        obtain ⟨Z2, ok2, s2, r2⟩ := ok.drop.freeze e2
        have ok3 := ok2.put r2 (List.getElem?_eq_some_iff.mp e1).1
        rw [st_same_set e1, st_st] at ok3
        exact ⟨v, e1, hq _ _ v Z2 H h1 ok3 s2 r2⟩
      | ins C fs => exact h1.elim
      | dT kvs => exact h1.elim
/-- a, b, c = x, y, z -/
theorem ds_par3 {i j l : Nat} {x y z : Str} {a b c : Expr} {px py pz pt : Pos} {kt k2 : Nat} {pt2 : Pos} {tl : DTl} (hc : X.calm = true) (nd : X.N.Nodup) (ha : DLs X [a, b, c] tl) (hij : i ≠ j := by decide) (hil : i ≠ l := by decide) (hjl : j ≠ l := by decide)
    (hw : swappedStores [.Tuple [.Name x px, .Name y py, .Name z pz] kt pt] (.Tuple [a, b, c] k2 pt2) X.env = pure (some [x, y, z]) := by rfl) (hi : X.N[i]? = some x := by rfl) (hj : X.N[j]? = some y := by rfl) (hl : X.N[l]? = some z := by rfl)
    (hx : X.env.scope.names.lookup x = some .local := by rfl) (hy : X.env.scope.names.lookup y = some .local := by rfl) (hz : X.env.scope.names.lookup z = some .local := by rfl)
    (hs : swapsWithSole [.Tuple [.Name x px, .Name y py, .Name z pz] kt pt] (.Tuple [a, b, c] k2 pt2) pos.line X.env = pure false := by rfl) :
    DS X (.Assign [.Tuple [.Name x px, .Name y py, .Name z pz] kt pt] (.Tuple [a, b, c] k2 pt2) pos) (fun D Γ => tl Γ fun ds Γ1 => match ds with
      | [d, e, f] => D.nx (st (st (st Γ1 i (.im d)) j (.im e)) l (.im f))
      | _ => False) := ⟨fun pins s σ H E I hh => by
  obtain ⟨c, Γ, Z, D, ok, h1, he⟩ := hh
  have hli : i < σ.length := by rw [I.len]; exact (List.getElem?_eq_some_iff.mp hi).1
  have hlj : j < σ.length := by rw [I.len]; exact (List.getElem?_eq_some_iff.mp hj).1
  have hll : l < σ.length := by rw [I.len]; exact (List.getElem?_eq_some_iff.mp hl).1
  refine (ps_par3 hc nd hi hj hl hij hil hjl hx hy hz ha hw hs).run pins s σ H E I ⟨c, Γ, Z, _, ok, h1, fun ds Γ1 vs Z1 H1 k1 ok1 g1 r1 => ?_⟩
  match ds, r1, k1 with
  | [d, e, f], r1, k1 =>
    cases r1 with
    | cons r r1 =>
      obtain ⟨v, u, rfl, r', r''⟩ := r1.two
      exact ⟨_, v, u, rfl, he.nx _ Z1 _ H1 k1 (((ok1.put r hli).put r' (by rw [List.length_set]; exact hlj)).put r'' (by rw [List.length_set, List.length_set]; exact hll))⟩⟩
/-! #### o.m(k = v) -/
def g2 : List Value → List Value → List Value
  | [a], [b] => [a, b]
  | _, _ => []
def g2V : List V → List V → List V
  | [a], [b] => [a, b]
  | _, _ => []
theorem g2_rel {vs : List V} {us : List Value} {zs : List V} {ws : List Value} (h : Vals vs us) (h' : Vals zs ws) : Vals (g2V vs zs) (g2 us ws) := by
  cases h with
  | nil => exact .nil
  | cons r t =>
    cases t with
    | cons _ _ => exact .nil
    | nil =>
      cases h' with
      | nil => exact .nil
      | cons r' t' =>
        cases t' with
        | cons _ _ => exact .nil
        | nil => exact .cons r (.cons r' .nil)
theorem kb2 {K : PySem.W.Frag} {fd : FuncData} {p q : Str} (h : ∀ a b : Value, bindArgs fd ⟨[a], [(q, b)]⟩ = pure [(p, a), (q, b)]) : KBinds K fd [p, q] [q] g2 g2V := by
  refine ⟨fun s us ws _ hl => ?_, fun h h' => g2_rel h h'⟩
  match us, ws, hl with
  | [a], [b], _ => exact .of_eq (h a b)
  | [], _, hl => cases hl
  | _ :: _ :: _, _, hl => cases hl
  | [_], [], hl => cases hl
  | [_], _ :: _ :: _, hl => cases hl
structure MtK (P : Program) (w : World) (K : PySem.W.Frag) (mg : Str → Option Value) (base : Heap) (C : Addr) (m : Str) (ks : List Str) (k : Nat) (sp : Sp) : Prop where
  cl : Cls K C
  ex : ∃ f fd ps, FnOk P w K mg base CX0 k f fd ps sp ∧ Meth K C m f ∧ KBinds K fd ps ks g2 g2V
theorem dp_methK {pl : Sem Bool} {k n : Nat} {m q : Str} {o e : Expr} {C : Addr} {po p : Pr} {fo f : Env → D} {pre : List D → Prop} {val : List D → D} {apos kpos : Pos} (M : MtK X.prog X.w X.K X.mg X.base C m [q] k (SpP X.K n pre val)) (hr : Room k X.A) (ho : DP X o po fo) (ha : DP X e p f)
    (hall : (backToKw pos (keywordEach [⟨some q, e, kpos⟩] X.env)).all (·.1.isSome) = true := by rfl) (hks : (backToKw pos (keywordEach [⟨some q, e, kpos⟩] X.env)).filterMap (·.1) = [q] := by rfl)
    (hpl : ((backTo pos (starEach [] X.env)).any (·.1) || (backToKw pos (keywordEach [⟨some q, e, kpos⟩] X.env)).any (·.1.isNone)) = false := by rfl)
    (ht : eval (.Call (.Attribute o m apos) [] [⟨some q, e, kpos⟩] pos) X.env = (do
      let ov ← eval o X.env
      standAt apos.atName
      let (f, first) ← holding [ov] (getMethod ov m pl)
      callWith pos f first (backTo pos (starEach [] X.env)) (backToKw pos (keywordEach [⟨some q, e, kpos⟩] X.env))) := by rfl) :
    DP X (.Call (.Attribute o m apos) [] [⟨some q, e, kpos⟩] pos) (fun Γ => po Γ ∧ p Γ ∧ noAt C m (fo Γ) ∧ 2 = n ∧ pre [fo Γ, f Γ]) (fun Γ => val [fo Γ, f Γ]) := by
  obtain ⟨fn, fd, ps, F, hm, hb⟩ := M.ex
  refine ⟨fun pins s σ H Q I h => ?_⟩
  obtain ⟨c, Γ, Z, ok, ⟨h1, h2, h3, h4, h5⟩, hq⟩ := h
  dsimp only at hq
  refine PySem.W.methodCall_KW (pl := pl) (thn (ho.run pins s σ H (fun x H1 => ∃ Z1, OkS X.K c Γ Z1 σ H1 ∧ Sub Z Z1 ∧ Rep X.K Z1 x (fo Γ)) I ⟨c, Γ, Z, ok, h1, fun x Z1 H1 ok1 g1 r1 => ⟨Z1, ok1, g1, r1⟩⟩) fun u s1 ⟨x, H1, I1, rx, Z1, ok1, g1, r1⟩ => ?_) ht
  generalize fo Γ = d at r1 h3 h5 hq
  cases r1 with
  | ins hz rf =>
    obtain ⟨rfl, hn⟩ := h3
    obtain rfl : u = _ := rx
    refine getmeth_ok I1 (ok1.sub _ _ hz) M.cl hm (rf.lookup_none hn) ?_
    refine PySem.W.callWith_KW0 (h₀ := X.base) I1.ok.mod.kin hm.kp hall (thn ((pk_cons (nm := some q) (kpos := kpos) ha pk_nil).run pos pins s1 σ H1 (fun zs H2 => ∃ z Z2, zs = [z] ∧ OkS X.K c Γ Z2 σ H2 ∧ Sub Z1 Z2 ∧ Rep X.K Z2 z (f Γ)) I1 ⟨c, Γ, Z1, ok1, h2, fun z Z2 H2 ok2 g2 r2 => ⟨z, Z2, rfl, ok2, g2, r2⟩⟩) fun ws s2 hh => ?_) hpl
    obtain ⟨zs, H2, I2, rz, z, Z2, rfl, ok2, g2', r2⟩ := hh
    refine ⟨I2.kIn, ?_⟩
    rw [hks]
    refine run_fnk F hr hb (pass0 (X := X)) I2 (vs := [.ref _]) (.cons rfl .nil) rz ?_
    exact ⟨Z2, _, ok2.sub, .cons (Rep.mono g2' (.ins hz rf)) (.cons r2 .nil), h4, h5, fun v Z3 H3 g3 r3 => hq v Z3 H3 (ok2.grows g3) ((g1.trans g2').trans g3.gz) r3⟩
  | _ => exact h3.elim
end
theorem Fn.of {P : Program} {w : World} {K : PySem.W.Frag} {mg : Str → Option Value} {base : Heap} {x qual : Str} {stm : Stmt} {f : Addr} {fd : FuncData} {ps : List Str} {k : Nat} {sp : Sp} (F : Fun K x qual stm f fd) (G : FnOk P w K mg base CX0 k f fd ps sp) (g : mg x = some (.ref f)) (b : Binds K fd ps []) : Fn P w K mg base x k sp := ⟨f, fd, ps, G, g, F.kp, b⟩
end DL

namespace DL
open PySem PySem.Spec L2
theorem atI_0 {α : Type} {a : α} {r : List α} : atI (a :: r) 0 = some a := by
  unfold atI ixN
  rw [if_pos (by decide), if_pos (by rw [List.length_cons]; omega)]
  rfl
theorem atI_nat' {α : Type} {l : List α} {i : Int} (h : 0 ≤ i) : atI l i = l[i.toNat]? := by
  unfold atI ixN
  rw [if_pos h]
  by_cases q : i < l.length
  · rw [if_pos q]; rfl
  · rw [if_neg q, List.getElem?_eq_none (by omega)]; rfl
theorem atI_1 {α : Type} {a b : α} {r : List α} : atI (a :: b :: r) 1 = some b := by rw [atI_nat' (by decide)]; rfl
theorem atI_2 {α : Type} {a b c : α} {r : List α} : atI (a :: b :: c :: r) 2 = some c := by rw [atI_nat' (by decide)]; rfl
theorem atI_3 {α : Type} {a b c d : α} {r : List α} : atI (a :: b :: c :: d :: r) 3 = some d := by rw [atI_nat' (by decide)]; rfl
theorem atI_4 {α : Type} {a b c d e : α} {r : List α} : atI (a :: b :: c :: d :: e :: r) 4 = some e := by rw [atI_nat' (by decide)]; rfl
theorem atI_5 {α : Type} {a b c d e f : α} {r : List α} : atI (a :: b :: c :: d :: e :: f :: r) 5 = some f := by rw [atI_nat' (by decide)]; rfl
theorem ixN_lit {n k : Nat} (h : k < n) : ixN n (k : Int) = some k := by
  unfold ixN
  rw [if_pos (by omega), if_pos (by omega), Int.toNat_natCast]
theorem setAt_0 {a d : D} {r : List D} : setAt (a :: r) 0 d = some (d :: r) := by
  unfold setAt; rw [show (0 : Int) = ((0 : Nat) : Int) from rfl, ixN_lit (by rw [List.length_cons]; omega)]; rfl
theorem setAt_1 {a b d : D} {r : List D} : setAt (a :: b :: r) 1 d = some (a :: d :: r) := by
  unfold setAt; rw [show (1 : Int) = ((1 : Nat) : Int) from rfl, ixN_lit (by simp only [List.length_cons]; omega)]; rfl
theorem setAt_2 {a b c d : D} {r : List D} : setAt (a :: b :: c :: r) 2 d = some (a :: b :: d :: r) := by
  unfold setAt; rw [show (2 : Int) = ((2 : Nat) : Int) from rfl, ixN_lit (by simp only [List.length_cons]; omega)]; rfl
theorem setAt_3 {a b c e d : D} {r : List D} : setAt (a :: b :: c :: e :: r) 3 d = some (a :: b :: c :: d :: r) := by
  unfold setAt; rw [show (3 : Int) = ((3 : Nat) : Int) from rfl, ixN_lit (by simp only [List.length_cons]; omega)]; rfl
theorem setAt_4 {a b c e f d : D} {r : List D} : setAt (a :: b :: c :: e :: f :: r) 4 d = some (a :: b :: c :: e :: d :: r) := by
  unfold setAt; rw [show (4 : Int) = ((4 : Nat) : Int) from rfl, ixN_lit (by simp only [List.length_cons]; omega)]; rfl
theorem setAt_5 {a b c e f g d : D} {r : List D} : setAt (a :: b :: c :: e :: f :: g :: r) 5 d = some (a :: b :: c :: e :: f :: d :: r) := by
  unfold setAt; rw [show (5 : Int) = ((5 : Nat) : Int) from rfl, ixN_lit (by simp only [List.length_cons]; omega)]; rfl
theorem dEqB_int {a b : Int} : dEqB (.int a) (.int b) = decide (a = b) := by
  show (a == b) = decide (a = b)
  rfl
theorem dEqB_bl {a b : Bool} : dEqB (.bl a) (.bl b) = (a == b) := rfl
theorem dEqB_str {a b : Str} : dEqB (.str a) (.str b) = decide (a = b) := by
  show (a == b) = decide (a = b)
  rw [Bool.beq_eq_decide_eq]
theorem ok_int {a : Int} {n : Nat} : D.ok n (.int a) = true := by cases n <;> rfl
theorem ok_bl {a : Bool} {n : Nat} : D.ok n (.bl a) = true := by cases n <;> rfl
theorem ok_non {n : Nat} : D.ok n .non = true := by cases n <;> rfl
/-- a number as data -/
abbrev Q2 := Int × Int
def nm (q : Q2) : D := .tup [.int q.1, .int q.2]
theorem ok_nm {q : Q2} : D.ok 16 (nm q) = true := rfl
theorem dEqB_nm {a b : Q2} : dEqB (nm a) (nm b) = decide (a = b) := by
  show ((a.1 == b.1) && ((a.2 == b.2) && true)) = decide (a = b)
  rw [Bool.and_true, Bool.eq_iff_iff, Bool.and_eq_true, decide_eq_true_eq, beq_iff_eq, beq_iff_eq]
  exact ⟨fun h => Prod.ext h.1 h.2, fun h => h ▸ ⟨rfl, rfl⟩⟩
theorem dIx_nm0 {q : Q2} : dIx (nm q) (.int 0) = .int q.1 := by show (atI [D.int q.1, D.int q.2] 0).getD .non = _; rw [atI_0]; rfl
theorem dIx_nm1 {q : Q2} : dIx (nm q) (.int 1) = .int q.2 := by show (atI [D.int q.1, D.int q.2] 1).getD .non = _; rw [atI_1]; rfl
theorem cIx_nm0 {q : Q2} : cIx (nm q) (.int 0) = True := eq_true (by show (atI [D.int q.1, D.int q.2] 0).isSome = true; rw [atI_0]; rfl)
theorem cIx_nm1 {q : Q2} : cIx (nm q) (.int 1) = True := eq_true (by show (atI [D.int q.1, D.int q.2] 1).isSome = true; rw [atI_1]; rfl)
theorem imp_T {p : Prop} : (true = true → p) = p := propext ⟨fun h => h rfl, fun h _ => h⟩
theorem imp_F {p : Prop} : (false = true → p) = True := eq_true (fun h => nomatch h)
theorem imp_T' {p : Prop} : (true = false → p) = True := eq_true (fun h => nomatch h)
theorem imp_F' {p : Prop} : (false = false → p) = p := propext ⟨fun h => h rfl, fun h _ => h⟩
end DL

namespace DL
open PySem PySem.Spec L2
section
variable {X : Cx} {e a b : Expr} {p pa pb : Pr} {f fa fb : Env → D} {t ta tb : DT} {pos p2 : Pos}
/-! #### slices -/
def upPO (K : PySem.W.Frag) (p : Pr) (f : Env → Option Int) : TO := fun σ H Q => ∃ c Γ Z, OkS K c Γ Z σ H ∧ p Γ ∧ ∀ Z' H', OkS K c Γ Z' σ H' → Sub Z Z' → Q (f Γ) H'
abbrev DPO (X : Cx) (e : Option Expr) (p : Pr) (f : Env → Option Int) : Prop := PO X e (upPO X.K p f)
theorem PO.weak {e : Option Expr} {t t' : TO} (h : PO X e t) (w : ∀ σ H Q, t' σ H Q → t σ H Q) : PO X e t' := ⟨fun pins s σ H Q I q => h.run pins s σ H Q I (w _ _ _ q)⟩
theorem dpo_none : DPO X none (fun _ => True) (fun _ => none) := PO.weak po_none fun σ H Q ⟨c, Γ, Z, ok, _, hq⟩ => hq Z H ok Sub.refl
theorem dpo_some (h : DP X e p f) : DPO X (some e) (fun Γ => p Γ ∧ (f Γ).isI) (fun Γ => some (f Γ).i) := PO.weak (po_some h) fun σ H Q h => by
  obtain ⟨c, Γ, Z, ok, ⟨h1, h2⟩, hq⟩ := h
  refine ⟨c, Γ, Z, ok, h1, fun x Z1 H1 ok1 g1 r1 => ?_⟩
  rw [h2.of] at r1
  exact ⟨_, r1.int_of, hq Z1 H1 ok1 g1⟩
def cutD (xs : List D) (lo hi : Option Int) : List D := (xs.drop (HT.sIx xs.length 0 lo)).take (HT.sIx xs.length xs.length hi - HT.sIx xs.length 0 lo)
theorem cut_rep {K : PySem.W.Frag} {Z : Hp} {vs : List V} {ds : List D} (r : RepL K Z vs ds) (lo hi : Option Int) : RepL K Z (cutV vs lo hi) (cutD ds lo hi) := by
  unfold cutV cutD
  rw [r.length]
  exact (r.drop _).take _
def D.l : D → List D
  | .lst ds => ds
  | _ => []
def D.isL : D → Prop
  | .lst _ => True
  | _ => False
theorem dpl_slice {lo hi : Option Expr} {pl ph : Pr} {fl fh : Env → Option Int} (ha : DP X a pa fa) (hl : DPO X lo pl fl) (hh : DPO X hi ph fh) : DPL X (.Subscript a (.Slice lo hi none p2) pos) (fun Γ => pa Γ ∧ pl Γ ∧ ph Γ ∧ (fa Γ).isL) (fun Γ => cutD (fa Γ).l (fl Γ) (fh Γ)) := PE.weak (pe_slice sl_list ha hl hh) fun σ H Q h => by
  obtain ⟨c, Γ, Z, ok, ⟨h1, h2, h3, h4⟩, hq⟩ := h
  refine ⟨c, Γ, Z, ok, h1, fun x Z1 H1 ok1 g1 r1 => ⟨c, Γ, Z1, ok1, h2, fun Z2 H2 ok2 g2 => ⟨c, Γ, Z2, ok2, h3, fun Z3 H3 ok3 g3 => ?_⟩⟩⟩
  dsimp only at hq
  generalize fa Γ = d at r1 h4 hq
  cases r1 with
  | lst q r => exact ⟨_, _, rfl, SqL.sub q ((g2.trans g3).trans ok3.sub), fun l hl => hq _ _ _ (ok3.alloc hl) ((g1.trans g2).trans g3) (ok3.newOwn hl ⟨_, upd_same, cut_rep (r.mono (g2.trans g3)) _ _⟩)⟩
  | _ => exact h4.elim
/-- x[lo:hi], x a name -/
theorem dpl_sliceN {i : Nat} {lo hi : Option Expr} {pl ph : Pr} {fl fh : Env → Option Int} (ha : PE X a (tVar i)) (hl : DPO X lo pl fl) (hh : DPO X hi ph fh) : DPL X (.Subscript a (.Slice lo hi none p2) pos) (fun Γ => pl Γ ∧ ph Γ ∧ (lstOf (gt Γ i)).isSome = true) (fun Γ => cutD ((lstOf (gt Γ i)).getD []) (fl Γ) (fh Γ)) := PE.weak (pe_slice sl_list ha hl hh) fun σ H Q h => by
  obtain ⟨c, Γ, Z, ok, ⟨h2, h3, h4⟩, hq⟩ := h
  obtain ⟨ds, hd⟩ := Option.isSome_iff_exists.mp h4
  dsimp only at hq
  rw [hd] at hq
  obtain ⟨a, vs, e1, _⟩ := ok.lst hd
  refine ⟨_, e1, c, Γ, Z, ok, h2, fun Z2 H2 ok2 g2 => ⟨c, Γ, Z2, ok2, h3, fun Z3 H3 ok3 g3 => ?_⟩⟩
  obtain ⟨b, us, f1, f2, f3, _⟩ := ok3.lst hd
  rw [e1] at f1
  cases f1
  exact ⟨_, _, rfl, .inl (.inl f2), fun l hl => hq _ _ _ (ok3.alloc hl) (g2.trans g3) (ok3.newOwn hl ⟨_, upd_same, cut_rep f3 _ _⟩)⟩
/-! #### and, or as values, with effects -/
theorem de_one {op : BoolOp} (h : DE X a ta) : DE X (.BoolOp op [a] pos) ta := pe_one h
theorem de_and {rest : List Expr} (ha : DE X a ta) (hb : DE X (.BoolOp .And (b :: rest) pos) tb) : DE X (.BoolOp .And (a :: b :: rest) pos) (fun Γ k => ta Γ fun x Γ1 => x.isB ∧ (x.b = true → tb Γ1 k) ∧ (x.b = false → k (.bl false) Γ1)) := PE.weak (pe_and ha hb) fun σ H Q h => by
  obtain ⟨c, Γ, Z, k, ok, h1, hq⟩ := h
  refine ⟨c, Γ, Z, _, ok, h1, fun x Γ1 v Z1 H1 ⟨hB, kt, kf⟩ ok1 g1 r1 => ?_⟩
  rw [hB.of] at r1
  refine ⟨_, r1.bl_of, ?_⟩
  revert kt kf
  cases x.b with
  | true => exact fun kt _ => iteT ⟨c, Γ1, Z1, k, ok1, kt rfl, fun y Γ2 u Z2 H2 k2 ok2 g2 r2 => hq y Γ2 u Z2 H2 k2 ok2 (g1.trans g2) r2⟩
  | false => exact fun _ kf => iteF (hq _ Γ1 _ Z1 H1 (kf rfl) ok1 g1 (.bl false))
theorem de_or {rest : List Expr} (ha : DE X a ta) (hb : DE X (.BoolOp .Or (b :: rest) pos) tb) : DE X (.BoolOp .Or (a :: b :: rest) pos) (fun Γ k => ta Γ fun x Γ1 => x.isB ∧ (x.b = false → tb Γ1 k) ∧ (x.b = true → k (.bl true) Γ1)) := PE.weak (pe_or ha hb) fun σ H Q h => by
  obtain ⟨c, Γ, Z, k, ok, h1, hq⟩ := h
  refine ⟨c, Γ, Z, _, ok, h1, fun x Γ1 v Z1 H1 ⟨hB, kt, kf⟩ ok1 g1 r1 => ?_⟩
  rw [hB.of] at r1
  refine ⟨_, r1.bl_of, ?_⟩
  revert kt kf
  cases x.b with
  | true => exact fun _ kf => iteT (hq _ Γ1 _ Z1 H1 (kf rfl) ok1 g1 (.bl true))
  | false => exact fun kt _ => iteF ⟨c, Γ1, Z1, k, ok1, kt rfl, fun y Γ2 u Z2 H2 k2 ok2 g2 r2 => hq y Γ2 u Z2 H2 k2 ok2 (g1.trans g2) r2⟩
theorem de_not (ha : DE X a ta) : DE X (.UnaryOp .Not a pos) (fun Γ k => ta Γ fun x Γ1 => x.isB ∧ k (dNot x) Γ1) := PE.weak (pe_not ha) fun σ H Q h => by
  obtain ⟨c, Γ, Z, k, ok, h1, hq⟩ := h
  refine ⟨c, Γ, Z, _, ok, h1, fun x Γ1 v Z1 H1 ⟨hB, hk⟩ ok1 g1 r1 => ?_⟩
  rw [hB.of] at r1 hk
  exact ⟨_, r1.bl_of, hq _ Γ1 _ Z1 H1 hk ok1 g1 (.bl _)⟩
end
/-- a def that is never called -/
theorem fok_never {P : Program} {w : World} {K : PySem.W.Frag} {mg : Str → Option Value} {base : Heap} {k n : Nat} {f : Addr} {fd : FuncData} {ps : List Str} {val : List D → D} : FnOk P w K mg base CX0 k f fd ps (SpP K n (fun _ => False) val) :=
  ⟨fun _ _ _ _ ⟨_, _, _, _, _, h, _⟩ => h.elim, fun _ _ _ _ _ _ _ _ _ _ _ _ _ ⟨_, _, _, _, _, h, _⟩ => h.elim⟩
/-! ### sizes -/
theorem mulW {i j : Int} {a b : Nat} (ha : i.natAbs < 2 ^ a) (hb : j.natAbs < 2 ^ b) (h : a + b ≤ 900000) : CMulW i j :=
  wide_mul (a := a + 1) (b := b + 1) (Nat.lt_of_lt_of_le ha (Nat.pow_le_pow_right (by decide) (Nat.le_succ a))) (Nat.lt_of_lt_of_le hb (Nat.pow_le_pow_right (by decide) (Nat.le_succ b))) (Nat.succ_pos _) (Nat.succ_pos _) (by omega)
theorem divW {j : Int} {b : Nat} (h : 0 < j) (hb : j.natAbs < 2 ^ b) (h9 : b ≤ 8999) (i : Int) : CDivW i j :=
  wide_div (b := b + 1) h (Nat.lt_of_lt_of_le hb (Nat.pow_le_pow_right (by decide) (Nat.le_succ b))) (Nat.succ_pos _) (by omega)
theorem pow_mono {n a b : Nat} (h : n < 2 ^ a) (hab : a ≤ b) : n < 2 ^ b := Nat.lt_of_lt_of_le h (Nat.pow_le_pow_right (by decide) hab)
theorem small_pow {n : Int} {k a : Nat} (h0 : -(k : Int) ≤ n) (h1 : n ≤ k) (hk : k < 2 ^ a) : n.natAbs < 2 ^ a := Nat.lt_of_le_of_lt (by omega) hk
theorem mul_pow {i j : Int} {a b c : Nat} (ha : i.natAbs < 2 ^ a) (hb : j.natAbs < 2 ^ b) (h : a + b ≤ c) : (i * j).natAbs < 2 ^ c := pow_mono (wide_lt ha hb) h
theorem add_pow {i j : Int} {a c : Nat} (ha : i.natAbs < 2 ^ a) (hb : j.natAbs < 2 ^ a) (h : a + 1 ≤ c) : (i + j).natAbs < 2 ^ c := by
  refine pow_mono (a := a + 1) ?_ h
  rw [Nat.pow_succ]
  omega
theorem sub_pow {i j : Int} {a c : Nat} (ha : i.natAbs < 2 ^ a) (hb : j.natAbs < 2 ^ a) (h : a + 1 ≤ c) : (i - j).natAbs < 2 ^ c := by
  refine pow_mono (a := a + 1) ?_ h
  rw [Nat.pow_succ]
  omega
theorem div_pow {i j : Int} {a : Nat} (ha : i.natAbs < 2 ^ a) (hj : 0 < j) : (i / j).natAbs < 2 ^ a := by
  refine Nat.lt_of_le_of_lt ?_ ha
  rcases Int.le_total 0 i with h | h
  · have h1 : 0 ≤ i / j := Int.ediv_nonneg h (Int.le_of_lt hj)
    have h2 : i / j ≤ i := Int.ediv_le_self j h
    omega
  · have h2 : i ≤ i / j := by
      rw [Int.le_ediv_iff_mul_le hj]
      have : i * j ≤ i * 1 := Int.mul_le_mul_of_nonpos_left h (by omega)
      omega
    have h3 : i / j ≤ 0 := by
      have := Int.ediv_le_ediv hj h
      rw [Int.zero_ediv] at this
      exact this
    omega
end DL

namespace DL
open PySem PySem.Spec L2
theorem kb_int_int : kitB "int" "int" = some true := by decide +kernel
theorem isT_int_int {a : Int} : isT "int" (.int a) = true := by show (kitB "int" "int").getD false = true; rw [kb_int_int]; rfl
theorem cT_int_int {K : PySem.W.Frag} {a : Int} : cT K "int" (.int a) = True := eq_true (.inl ⟨_, rfl, by rw [kb_int_int]; rfl⟩)
theorem kb_bl_int : kitB "bool" "int" = some true := by decide +kernel
theorem isT_bl_int {a : Bool} : isT "int" (.bl a) = true := by show (kitB "bool" "int").getD false = true; rw [kb_bl_int]; rfl
theorem cT_bl_int {K : PySem.W.Frag} {a : Bool} : cT K "int" (.bl a) = True := eq_true (.inl ⟨_, rfl, by rw [kb_bl_int]; rfl⟩)
theorem kb_str_int : kitB "str" "int" = some false := by decide +kernel
theorem isT_str_int {a : Str} : isT "int" (.str a) = false := by show (kitB "str" "int").getD false = false; rw [kb_str_int]; rfl
theorem cT_str_int {K : PySem.W.Frag} {a : Str} : cT K "int" (.str a) = True := eq_true (.inl ⟨_, rfl, by rw [kb_str_int]; rfl⟩)
theorem kb_tup_int : kitB "tuple" "int" = some false := by decide +kernel
theorem isT_tup_int {a : List D} : isT "int" (.tup a) = false := by show (kitB "tuple" "int").getD false = false; rw [kb_tup_int]; rfl
theorem cT_tup_int {K : PySem.W.Frag} {a : List D} : cT K "int" (.tup a) = True := eq_true (.inl ⟨_, rfl, by rw [kb_tup_int]; rfl⟩)
theorem kb_lst_int : kitB "list" "int" = some false := by decide +kernel
theorem isT_lst_int {a : List D} : isT "int" (.lst a) = false := by show (kitB "list" "int").getD false = false; rw [kb_lst_int]; rfl
theorem cT_lst_int {K : PySem.W.Frag} {a : List D} : cT K "int" (.lst a) = True := eq_true (.inl ⟨_, rfl, by rw [kb_lst_int]; rfl⟩)
theorem kb_non_int : kitB "NoneType" "int" = some false := by decide +kernel
theorem isT_non_int  : isT "int" (.non) = false := by show (kitB "NoneType" "int").getD false = false; rw [kb_non_int]; rfl
theorem cT_non_int {K : PySem.W.Frag}  : cT K "int" (.non) = True := eq_true (.inl ⟨_, rfl, by rw [kb_non_int]; rfl⟩)
theorem kb_int_bool : kitB "int" "bool" = some false := by decide +kernel
theorem isT_int_bool {a : Int} : isT "bool" (.int a) = false := by show (kitB "int" "bool").getD false = false; rw [kb_int_bool]; rfl
theorem cT_int_bool {K : PySem.W.Frag} {a : Int} : cT K "bool" (.int a) = True := eq_true (.inl ⟨_, rfl, by rw [kb_int_bool]; rfl⟩)
theorem kb_bl_bool : kitB "bool" "bool" = some true := by decide +kernel
theorem isT_bl_bool {a : Bool} : isT "bool" (.bl a) = true := by show (kitB "bool" "bool").getD false = true; rw [kb_bl_bool]; rfl
theorem cT_bl_bool {K : PySem.W.Frag} {a : Bool} : cT K "bool" (.bl a) = True := eq_true (.inl ⟨_, rfl, by rw [kb_bl_bool]; rfl⟩)
theorem kb_str_bool : kitB "str" "bool" = some false := by decide +kernel
theorem isT_str_bool {a : Str} : isT "bool" (.str a) = false := by show (kitB "str" "bool").getD false = false; rw [kb_str_bool]; rfl
theorem cT_str_bool {K : PySem.W.Frag} {a : Str} : cT K "bool" (.str a) = True := eq_true (.inl ⟨_, rfl, by rw [kb_str_bool]; rfl⟩)
theorem kb_tup_bool : kitB "tuple" "bool" = some false := by decide +kernel
theorem isT_tup_bool {a : List D} : isT "bool" (.tup a) = false := by show (kitB "tuple" "bool").getD false = false; rw [kb_tup_bool]; rfl
theorem cT_tup_bool {K : PySem.W.Frag} {a : List D} : cT K "bool" (.tup a) = True := eq_true (.inl ⟨_, rfl, by rw [kb_tup_bool]; rfl⟩)
theorem kb_lst_bool : kitB "list" "bool" = some false := by decide +kernel
theorem isT_lst_bool {a : List D} : isT "bool" (.lst a) = false := by show (kitB "list" "bool").getD false = false; rw [kb_lst_bool]; rfl
theorem cT_lst_bool {K : PySem.W.Frag} {a : List D} : cT K "bool" (.lst a) = True := eq_true (.inl ⟨_, rfl, by rw [kb_lst_bool]; rfl⟩)
theorem kb_non_bool : kitB "NoneType" "bool" = some false := by decide +kernel
theorem isT_non_bool  : isT "bool" (.non) = false := by show (kitB "NoneType" "bool").getD false = false; rw [kb_non_bool]; rfl
theorem cT_non_bool {K : PySem.W.Frag}  : cT K "bool" (.non) = True := eq_true (.inl ⟨_, rfl, by rw [kb_non_bool]; rfl⟩)
theorem kb_int_str : kitB "int" "str" = some false := by decide +kernel
theorem isT_int_str {a : Int} : isT "str" (.int a) = false := by show (kitB "int" "str").getD false = false; rw [kb_int_str]; rfl
theorem cT_int_str {K : PySem.W.Frag} {a : Int} : cT K "str" (.int a) = True := eq_true (.inl ⟨_, rfl, by rw [kb_int_str]; rfl⟩)
theorem kb_bl_str : kitB "bool" "str" = some false := by decide +kernel
theorem isT_bl_str {a : Bool} : isT "str" (.bl a) = false := by show (kitB "bool" "str").getD false = false; rw [kb_bl_str]; rfl
theorem cT_bl_str {K : PySem.W.Frag} {a : Bool} : cT K "str" (.bl a) = True := eq_true (.inl ⟨_, rfl, by rw [kb_bl_str]; rfl⟩)
theorem kb_str_str : kitB "str" "str" = some true := by decide +kernel
theorem isT_str_str {a : Str} : isT "str" (.str a) = true := by show (kitB "str" "str").getD false = true; rw [kb_str_str]; rfl
theorem cT_str_str {K : PySem.W.Frag} {a : Str} : cT K "str" (.str a) = True := eq_true (.inl ⟨_, rfl, by rw [kb_str_str]; rfl⟩)
theorem kb_tup_str : kitB "tuple" "str" = some false := by decide +kernel
theorem isT_tup_str {a : List D} : isT "str" (.tup a) = false := by show (kitB "tuple" "str").getD false = false; rw [kb_tup_str]; rfl
theorem cT_tup_str {K : PySem.W.Frag} {a : List D} : cT K "str" (.tup a) = True := eq_true (.inl ⟨_, rfl, by rw [kb_tup_str]; rfl⟩)
theorem kb_lst_str : kitB "list" "str" = some false := by decide +kernel
theorem isT_lst_str {a : List D} : isT "str" (.lst a) = false := by show (kitB "list" "str").getD false = false; rw [kb_lst_str]; rfl
theorem cT_lst_str {K : PySem.W.Frag} {a : List D} : cT K "str" (.lst a) = True := eq_true (.inl ⟨_, rfl, by rw [kb_lst_str]; rfl⟩)
theorem kb_non_str : kitB "NoneType" "str" = some false := by decide +kernel
theorem isT_non_str  : isT "str" (.non) = false := by show (kitB "NoneType" "str").getD false = false; rw [kb_non_str]; rfl
theorem cT_non_str {K : PySem.W.Frag}  : cT K "str" (.non) = True := eq_true (.inl ⟨_, rfl, by rw [kb_non_str]; rfl⟩)
theorem kb_int_tuple : kitB "int" "tuple" = some false := by decide +kernel
theorem isT_int_tuple {a : Int} : isT "tuple" (.int a) = false := by show (kitB "int" "tuple").getD false = false; rw [kb_int_tuple]; rfl
theorem cT_int_tuple {K : PySem.W.Frag} {a : Int} : cT K "tuple" (.int a) = True := eq_true (.inl ⟨_, rfl, by rw [kb_int_tuple]; rfl⟩)
theorem kb_bl_tuple : kitB "bool" "tuple" = some false := by decide +kernel
theorem isT_bl_tuple {a : Bool} : isT "tuple" (.bl a) = false := by show (kitB "bool" "tuple").getD false = false; rw [kb_bl_tuple]; rfl
theorem cT_bl_tuple {K : PySem.W.Frag} {a : Bool} : cT K "tuple" (.bl a) = True := eq_true (.inl ⟨_, rfl, by rw [kb_bl_tuple]; rfl⟩)
theorem kb_str_tuple : kitB "str" "tuple" = some false := by decide +kernel
theorem isT_str_tuple {a : Str} : isT "tuple" (.str a) = false := by show (kitB "str" "tuple").getD false = false; rw [kb_str_tuple]; rfl
theorem cT_str_tuple {K : PySem.W.Frag} {a : Str} : cT K "tuple" (.str a) = True := eq_true (.inl ⟨_, rfl, by rw [kb_str_tuple]; rfl⟩)
theorem kb_tup_tuple : kitB "tuple" "tuple" = some true := by decide +kernel
theorem isT_tup_tuple {a : List D} : isT "tuple" (.tup a) = true := by show (kitB "tuple" "tuple").getD false = true; rw [kb_tup_tuple]; rfl
theorem cT_tup_tuple {K : PySem.W.Frag} {a : List D} : cT K "tuple" (.tup a) = True := eq_true (.inl ⟨_, rfl, by rw [kb_tup_tuple]; rfl⟩)
theorem kb_lst_tuple : kitB "list" "tuple" = some false := by decide +kernel
theorem isT_lst_tuple {a : List D} : isT "tuple" (.lst a) = false := by show (kitB "list" "tuple").getD false = false; rw [kb_lst_tuple]; rfl
theorem cT_lst_tuple {K : PySem.W.Frag} {a : List D} : cT K "tuple" (.lst a) = True := eq_true (.inl ⟨_, rfl, by rw [kb_lst_tuple]; rfl⟩)
theorem kb_non_tuple : kitB "NoneType" "tuple" = some false := by decide +kernel
theorem isT_non_tuple  : isT "tuple" (.non) = false := by show (kitB "NoneType" "tuple").getD false = false; rw [kb_non_tuple]; rfl
theorem cT_non_tuple {K : PySem.W.Frag}  : cT K "tuple" (.non) = True := eq_true (.inl ⟨_, rfl, by rw [kb_non_tuple]; rfl⟩)
theorem kb_int_list : kitB "int" "list" = some false := by decide +kernel
theorem isT_int_list {a : Int} : isT "list" (.int a) = false := by show (kitB "int" "list").getD false = false; rw [kb_int_list]; rfl
theorem cT_int_list {K : PySem.W.Frag} {a : Int} : cT K "list" (.int a) = True := eq_true (.inl ⟨_, rfl, by rw [kb_int_list]; rfl⟩)
theorem kb_bl_list : kitB "bool" "list" = some false := by decide +kernel
theorem isT_bl_list {a : Bool} : isT "list" (.bl a) = false := by show (kitB "bool" "list").getD false = false; rw [kb_bl_list]; rfl
theorem cT_bl_list {K : PySem.W.Frag} {a : Bool} : cT K "list" (.bl a) = True := eq_true (.inl ⟨_, rfl, by rw [kb_bl_list]; rfl⟩)
theorem kb_str_list : kitB "str" "list" = some false := by decide +kernel
theorem isT_str_list {a : Str} : isT "list" (.str a) = false := by show (kitB "str" "list").getD false = false; rw [kb_str_list]; rfl
theorem cT_str_list {K : PySem.W.Frag} {a : Str} : cT K "list" (.str a) = True := eq_true (.inl ⟨_, rfl, by rw [kb_str_list]; rfl⟩)
theorem kb_tup_list : kitB "tuple" "list" = some false := by decide +kernel
theorem isT_tup_list {a : List D} : isT "list" (.tup a) = false := by show (kitB "tuple" "list").getD false = false; rw [kb_tup_list]; rfl
theorem cT_tup_list {K : PySem.W.Frag} {a : List D} : cT K "list" (.tup a) = True := eq_true (.inl ⟨_, rfl, by rw [kb_tup_list]; rfl⟩)
theorem kb_lst_list : kitB "list" "list" = some true := by decide +kernel
theorem isT_lst_list {a : List D} : isT "list" (.lst a) = true := by show (kitB "list" "list").getD false = true; rw [kb_lst_list]; rfl
theorem cT_lst_list {K : PySem.W.Frag} {a : List D} : cT K "list" (.lst a) = True := eq_true (.inl ⟨_, rfl, by rw [kb_lst_list]; rfl⟩)
theorem kb_non_list : kitB "NoneType" "list" = some false := by decide +kernel
theorem isT_non_list  : isT "list" (.non) = false := by show (kitB "NoneType" "list").getD false = false; rw [kb_non_list]; rfl
theorem cT_non_list {K : PySem.W.Frag}  : cT K "list" (.non) = True := eq_true (.inl ⟨_, rfl, by rw [kb_non_list]; rfl⟩)
theorem sl_le0 : (0 ≤ sizeLine) = True := eq_true (by rw [sizeLine_eq]; decide)
theorem sl_le1 : (1 ≤ sizeLine) = True := eq_true (by rw [sizeLine_eq]; decide)
theorem sl_le2 : (2 ≤ sizeLine) = True := eq_true (by rw [sizeLine_eq]; decide)
theorem sl_le3 : (3 ≤ sizeLine) = True := eq_true (by rw [sizeLine_eq]; decide)
theorem sl_le4 : (4 ≤ sizeLine) = True := eq_true (by rw [sizeLine_eq]; decide)
theorem sl_le5 : (5 ≤ sizeLine) = True := eq_true (by rw [sizeLine_eq]; decide)
theorem sl_le6 : (6 ≤ sizeLine) = True := eq_true (by rw [sizeLine_eq]; decide)
theorem sl_le7 : (7 ≤ sizeLine) = True := eq_true (by rw [sizeLine_eq]; decide)
theorem sl_le8 : (8 ≤ sizeLine) = True := eq_true (by rw [sizeLine_eq]; decide)
theorem sl_le9 : (9 ≤ sizeLine) = True := eq_true (by rw [sizeLine_eq]; decide)
theorem sl_le10 : (10 ≤ sizeLine) = True := eq_true (by rw [sizeLine_eq]; decide)
theorem sl_le11 : (11 ≤ sizeLine) = True := eq_true (by rw [sizeLine_eq]; decide)
theorem nm_eq {a b : Int} : D.tup [.int a, .int b] = nm (a, b) := rfl
theorem cT_nm {K : PySem.W.Frag} {q : Q2} : cT K "int" (nm q) = True := cT_tup_int
theorem isT_nm {q : Q2} : isT "int" (nm q) = false := isT_tup_int
end DL

namespace DL
open PySem PySem.Spec L2
theorem r_gt0 {s : Sl} {Γ : Env} : gt (s :: Γ) 0 = s := rfl
theorem r_gts {s : Sl} {Γ : Env} {n : Nat} : gt (s :: Γ) (n + 1) = gt Γ n := rfl
theorem r_st0 {s u : Sl} {Γ : Env} : st (s :: Γ) 0 u = u :: Γ := rfl
theorem r_sts {s u : Sl} {Γ : Env} {n : Nat} : st (s :: Γ) (n + 1) u = s :: st Γ n u := rfl
theorem r_uns0 : uns 0 = [] := rfl
theorem r_unss {n : Nat} : uns (n + 1) = .un :: uns n := rfl
theorem r_isIm {d : D} : (Sl.im d).isIm = True := rfl
theorem r_d {d : D} : (Sl.im d).d = d := rfl
theorem r_sqL {ds : List D} : (Sl.im (.lst ds)).sq = some ds := rfl
theorem r_sqT {ds : List D} : (Sl.im (.tup ds)).sq = some ds := rfl
theorem r_sqO {ds : List D} {p : Bool} : (Sl.own p (.lst ds)).sq = some ds := rfl
theorem r_isOwn {o : Oc} {p : Bool} : (Sl.own p o).isOwn = True := rfl
theorem r_isB {b : Bool} : (D.bl b).isB = True := rfl
theorem r_b {b : Bool} : (D.bl b).b = b := rfl
theorem r_isI {b : Int} : (D.int b).isI = True := rfl
theorem r_i {b : Int} : (D.int b).i = b := rfl
theorem r_DsqL {ds : List D} : (D.lst ds).sq = some ds := rfl
theorem r_DsqT {ds : List D} : (D.tup ds).sq = some ds := rfl
theorem r_isN_non : D.non.isN = true := rfl
theorem r_isN_bl {b : Bool} : (D.bl b).isN = false := rfl
theorem r_isN_int {b : Int} : (D.int b).isN = false := rfl
theorem r_isN_str {b : Str} : (D.str b).isN = false := rfl
theorem r_isN_tup {b : List D} : (D.tup b).isN = false := rfl
theorem r_isN_lst {b : List D} : (D.lst b).isN = false := rfl
theorem r_isN_ins {C : Addr} {b : List (Str × D)} : (D.ins C b).isN = false := rfl
theorem r_cI2 {a b : Int} : cI2 (.int a) (.int b) = True := rfl
theorem r_cI2C {C : Int → Int → Prop} {a b : Int} : cI2C C (.int a) (.int b) = C a b := rfl
theorem r_gI2 {g : Int → Int → D} {a b : Int} : gI2 g (.int a) (.int b) = g a b := rfl
theorem r_cAddI {a b : Int} : cAdd (.int a) (.int b) = True := rfl
theorem r_dAddI {a b : Int} : dAdd (.int a) (.int b) = .int (a + b) := rfl
theorem r_cAddS {a b : Str} : cAdd (.str a) (.str b) = (a.length + b.length ≤ sizeLine) := rfl
theorem r_dAddS {a b : Str} : dAdd (.str a) (.str b) = .str (a ++ b) := rfl
theorem r_cAddT {a b : List D} : cAdd (.tup a) (.tup b) = (a ≠ [] ∧ a.length + b.length ≤ sizeLine) := rfl
theorem r_dAddT {a b : List D} : dAdd (.tup a) (.tup b) = .tup (a ++ b) := rfl
theorem r_nIxO {p : Bool} {ds : List D} {i : Int} : nIx (.own p (.lst ds)) (.int i) = atI ds i := rfl
theorem r_nIxL {ds : List D} {i : Int} : nIx (.im (.lst ds)) (.int i) = atI ds i := rfl
theorem r_nIxT {ds : List D} {i : Int} : nIx (.im (.tup ds)) (.int i) = atI ds i := rfl
theorem r_dIxL {ds : List D} {i : Int} : dIx (.lst ds) (.int i) = (atI ds i).getD .non := rfl
theorem r_dIxT {ds : List D} {i : Int} : dIx (.tup ds) (.int i) = (atI ds i).getD .non := rfl
theorem r_cIxL {ds : List D} {i : Int} : cIx (.lst ds) (.int i) = ((atI ds i).isSome = true) := rfl
theorem r_cIxT {ds : List D} {i : Int} : cIx (.tup ds) (.int i) = ((atI ds i).isSome = true) := rfl
theorem r_cN {x : D} : cN x .non = True := eq_true rfl
theorem r_cB2 {a b : Bool} : cB2 (.bl a) (.bl b) = True := eq_true ⟨trivial, trivial⟩
theorem r_cLenL {ds : List D} : cLen [.lst ds] = True := rfl
theorem r_cLenT {ds : List D} : cLen [.tup ds] = True := rfl
theorem r_gLenL {ds : List D} : gLen [.lst ds] = .int ds.length := rfl
theorem r_gLenT {ds : List D} : gLen [.tup ds] = .int ds.length := rfl
theorem r_cI1 {a : Int} : cI1 [.int a] = True := rfl
theorem r_cII {a b : Int} : cII [.int a, .int b] = True := rfl
theorem r_gAbs {a : Int} : gAbs [.int a] = .int (if a < 0 then -a else a) := rfl
theorem r_gMax {i j : Int} : gMax [.int i, .int j] = .int (if j > i then j else i) := rfl
theorem r_gMin {i j : Int} : gMin [.int i, .int j] = .int (if j < i then j else i) := rfl
theorem r_cIntI {a : Int} : cInt [.int a] = True := rfl
theorem r_cIntB {a : Bool} : cInt [.bl a] = True := rfl
theorem r_gIntI {a : Int} : gInt [.int a] = .int a := rfl
theorem r_gIntB {a : Bool} : gInt [.bl a] = .int (if a = true then 1 else 0) := rfl
theorem r_gGcd {i j : Int} : gGcd [.int i, .int j] = .int (Nat.gcd i.natAbs j.natAbs : Nat) := rfl
theorem r_lstOf {p : Bool} {ds : List D} : lstOf (.own p (.lst ds)) = some ds := rfl
theorem r_insFs {C : Addr} {p : Bool} {fs : List (Str × D)} : insFs C (.own p (.ins C fs)) = some fs := by simp [insFs]
theorem r_nFld {C : Addr} {p : Bool} {f : Str} {fs : List (Str × D)} : nFld C f (.own p (.ins C fs)) = fs.lookup f := by simp [nFld]
theorem r_reOwn {Γ : Env} {i : Nat} {o : Oc} : reOwn Γ i o = match gt Γ i with
  | .own p _ => st Γ i (.own p o)
  | _ => Γ := rfl
theorem r_gPut {i : Nat} {d : D} {Γ : Env} {k : Env → Prop} : gPut i d Γ k = k (st Γ i (.im d)) := rfl
theorem r_gsCons {g : DTg} {gs : DTgs} {d : D} {r : List D} {Γ : Env} {k : Env → Prop} : gsCons g gs (d :: r) Γ k = g d Γ (fun Γ1 => gs r Γ1 k) := rfl
theorem r_gTupD {n : Nat} {gs : DTgs} {ds : List D} {Γ : Env} {k : Env → Prop} : gTupD n gs (.tup ds) Γ k = (ds.length = n ∧ gs ds Γ k) := rfl
theorem r_gTupDn {n : Nat} {gs : DTgs} {q : Q2} {Γ : Env} {k : Env → Prop} : gTupD n gs (nm q) Γ k = (2 = n ∧ gs [.int q.1, .int q.2] Γ k) := rfl
theorem r_dAnd {a b : Bool} : dAnd (.bl a) (.bl b) = .bl (a && b) := rfl
theorem r_dOr {a b : Bool} : dOr (.bl a) (.bl b) = .bl (a || b) := rfl
theorem r_dNot {a : Bool} : dNot (.bl a) = .bl (!a) := rfl
theorem r_agIs {x d : D} : agIs x (.im d) = (d = x) := rfl
theorem r_agIsL {x : D} {ds : List D} : agIs x (.ow (.lst ds)) = (.lst ds = x) := rfl
theorem r_posts0 {Γ : Env} : posts [] Γ = [] := by cases Γ <;> rfl
theorem r_postsI {as : List Ag} {d : D} {s : Sl} {Γ : Env} : posts (.im d :: as) (s :: Γ) = .im d :: posts as Γ := rfl
theorem r_postsO {as : List Ag} {o u : Oc} {p : Bool} {Γ : Env} : posts (.ow o :: as) (.own p u :: Γ) = .ow u :: posts as Γ := rfl
theorem r_pinned0 {Γ : Env} : pinned [] Γ = True := by cases Γ <;> rfl
theorem r_pinnedI {as : List Ag} {d : D} {s : Sl} {Γ : Env} : pinned (.im d :: as) (s :: Γ) = pinned as Γ := rfl
theorem r_pinnedO {as : List Ag} {o u : Oc} {Γ : Env} : pinned (.ow o :: as) (.own true u :: Γ) = pinned as Γ := rfl
theorem r_slI {d : D} : (Ag.im d).sl = .im d := rfl
theorem r_slO {o : Oc} : (Ag.ow o).sl = .own true o := rfl
theorem imp_True {p : Prop} : (True → p) = p := propext ⟨fun h => h trivial, fun h _ => h⟩
theorem r_frzVi {k : D → Env → Prop} {i : Nat} {Γ : Env} : frzV k i Γ = match gt Γ i with
  | .im d => k d Γ
  | .own false (.lst ds) => k (.lst ds) (st Γ i (.im (.lst ds)))
  | _ => False := rfl
theorem r_rtOwn {D : DEn} {i : Nat} {Γ : Env} : rtOwn D i Γ = match gt Γ i with
  | .own false o => D.rt (.ow o) (st Γ i .un)
  | .im d => D.rt (.im d) Γ
  | _ => False := rfl
theorem r_frzK {k : D → Env → Prop} {ds : List D} {Γ : Env} : frzK k (.lst ds) Γ = k (.lst ds) Γ := rfl
theorem r_agD {k : D → Env → Prop} {d : D} {Γ : Env} : agD k (.im d) Γ = k d Γ := rfl
theorem r_agDo {k : D → Env → Prop} {ds : List D} {Γ : Env} : agD k (.ow (.lst ds)) Γ = k (.lst ds) Γ := rfl
theorem r_agO {k : Oc → Env → Prop} {o : Oc} {Γ : Env} : agO k (.ow o) Γ = k o Γ := rfl
theorem r_tG {n : Nat} {S : DSp} {ta : DTa} {k : Ag → Env → Prop} {Γ : Env} : tG n S ta k Γ = ta Γ (fun as Γ1 => as.length = n ∧ (slotsOf as).Nodup ∧ (∀ i ∈ slotsOf as, (gt Γ1 i).isOwn) ∧ S (as.map (arAg Γ1)) fun r bs => k r (wb Γ1 as bs)) := rfl
theorem r_slots0 : slotsOf [] = [] := rfl
theorem r_slotsD {x : D} {as : List Ar} : slotsOf (.d x :: as) = slotsOf as := rfl
theorem r_slotsS {i : Nat} {as : List Ar} : slotsOf (.s i :: as) = i :: slotsOf as := rfl
theorem r_arD {Γ : Env} {x : D} : arAg Γ (.d x) = .im x := rfl
theorem r_arS {Γ : Env} {i : Nat} : arAg Γ (.s i) = ownAg (gt Γ i) := rfl
theorem r_ownAg {p : Bool} {o : Oc} : ownAg (.own p o) = .ow o := rfl
theorem r_wb0 {Γ : Env} : wb Γ [] [] = Γ := rfl
theorem r_wbD {Γ : Env} {x : D} {as : List Ar} {b : Ag} {bs : List Ag} : wb Γ (.d x :: as) (b :: bs) = wb Γ as bs := by cases b <;> rfl
theorem r_wbS {Γ : Env} {i : Nat} {as : List Ar} {o : Oc} {bs : List Ag} : wb Γ (.s i :: as) (.ow o :: bs) = wb (match gt Γ i with
  | .own p _ => st Γ i (.own p o)
  | _ => Γ) as bs := rfl
theorem r_nd0 : ([] : List Nat).Nodup = True := eq_true List.nodup_nil
theorem r_nd1 {i : Nat} : [i].Nodup = True := eq_true (by simp)
theorem r_nd2 {i j : Nat} : [i, j].Nodup = (i ≠ j) := by simp
theorem r_all0 {p : Nat → Prop} : (∀ i ∈ ([] : List Nat), p i) = True := eq_true (by simp)
theorem r_all1 {p : Nat → Prop} {j : Nat} : (∀ i ∈ [j], p i) = p j := by simp
theorem r_all2 {p : Nat → Prop} {j k : Nat} : (∀ i ∈ [j, k], p i) = (p j ∧ p k) := by simp
theorem r_isL {ds : List D} : (D.lst ds).isL = True := rfl
theorem r_l {ds : List D} : (D.lst ds).l = ds := rfl
end DL

/-! DNum: numbers, stretches as data; their arithmetic. -/
namespace Dr
open PySem PySem.Spec L2 DL

/-! ### what of an own class isinstance asks, by the head's words -/
theorem kit_own {K : PySem.W.Frag} {C : Addr} : PySem.W.kitOne K (.ref C) (.ref C) = some true := by
  unfold PySem.W.kitOne
  have e : (Value.ref C == Value.ref C) = true := by simp
  rw [if_pos e]
theorem kit_nb {K : PySem.W.Frag} {C : Addr} {T : String} {b : Bool} (h2 : PySem.W.isClsIn K C = true) (h3 : PySem.W.typeIn K (.ref C) = some (.type "type")) (h : PySem.W.subIn K (.type T) (.ref C) = some b) : PySem.W.kitOne K (.type T) (.ref C) = some b := by
  unfold PySem.W.kitOne
  have e : ¬ (Value.type T == Value.ref C) = true := by
    intro z
    have := eq_of_beq z
    cases this
  rw [if_neg e]
  have e2 : ((PySem.W.clsIn K C).isSome && PySem.W.typeIn K (.ref C) == some (.type "type")) = true := by
    have h2' : (PySem.W.clsIn K C).isSome = true := h2
    rw [h2', h3] <;> rfl
  show (if ((PySem.W.clsIn K C).isSome && PySem.W.typeIn K (.ref C) == some (.type "type")) = true then PySem.W.subIn K (.type T) (.ref C) else none) = some b
  rw [if_pos e2]
  exact h
theorem kit_bn {K : PySem.W.Frag} {C : Addr} {T : String} {b : Bool} (hm : PySem.W.kitMeta T = true) (h : PySem.W.subIn K (.ref C) (.type T) = some b) : PySem.W.kitOne K (.ref C) (.type T) = some b := by
  unfold PySem.W.kitOne
  have e : ¬ (Value.ref C == Value.type T) = true := by
    intro z
    have := eq_of_beq z
    cases this
  rw [if_neg e]
  show (if PySem.W.kitMeta T = true then PySem.W.subIn K (.ref C) (.type T) else none) = some b
  rw [if_pos hm]
  exact h
/-! ### numbers -/
def dNum : D → Q2
  | .tup [.int a, .int b] => (a, b)
  | _ => (0, 1)
theorem dNum_nm (q : Q2) : dNum (nm q) = q := rfl
theorem nm_inj {a b : Q2} (h : nm a = nm b) : a = b := congrArg dNum h
theorem gTupD_nm {n : Nat} {gs : DTgs} {q : Q2} {Γ : DL.Env} {k : DL.Env → Prop} : gTupD n gs (nm q) Γ k = (2 = n ∧ gs [.int q.1, .int q.2] Γ k) := rfl
/-- its size in bits, its bottom -/
def Sz (N : Nat) (q : Q2) : Prop := q.1.natAbs < 2 ^ N ∧ q.2.natAbs < 2 ^ N ∧ 0 < q.2
theorem Sz.mono {N M : Nat} {q : Q2} (h : Sz N q) (hm : N ≤ M) : Sz M q := ⟨pow_mono h.1 hm, pow_mono h.2.1 hm, h.2.2⟩
def gcdI (a b : Int) : Int := (Nat.gcd a.natAbs b.natAbs : Nat)
/-- a number that is told -/
def Told (q : Q2) : Prop := 0 < q.2 ∧ gcdI q.1 q.2 = 1
def lowQ (q : Q2) : Q2 := (q.1 / gcdI q.1 q.2, q.2 / gcdI q.1 q.2)
theorem gcdI_pos {a b : Int} (h : 0 < b) : 0 < gcdI a b := by
  unfold gcdI
  have := Nat.gcd_pos_of_pos_right a.natAbs (show 0 < b.natAbs by omega)
  omega
theorem gcdI_dvd_l (a b : Int) : gcdI a b ∣ a := by
  unfold gcdI
  rw [Int.ofNat_dvd_left]
  exact Nat.gcd_dvd_left _ _
theorem gcdI_dvd_r (a b : Int) : gcdI a b ∣ b := by
  unfold gcdI
  rw [Int.ofNat_dvd_left]
  exact Nat.gcd_dvd_right _ _
theorem gcdI_le {a b : Int} (h : 0 < b) : gcdI a b ≤ b := Int.le_of_dvd h (gcdI_dvd_r a b)
theorem lowQ_pos {q : Q2} (h : 0 < q.2) : 0 < (lowQ q).2 := by
  have hg := gcdI_pos (a := q.1) h
  show 0 < q.2 / gcdI q.1 q.2
  exact Int.ediv_pos_of_pos_of_dvd h (Int.le_of_lt hg) (gcdI_dvd_r _ _)
theorem lowQ_sz {N : Nat} {q : Q2} (h : Sz N q) : Sz N (lowQ q) := ⟨div_pow h.1 (gcdI_pos h.2.2), div_pow h.2.1 (gcdI_pos h.2.2), lowQ_pos h.2.2⟩
theorem lowQ_told {q : Q2} (h : 0 < q.2) : Told (lowQ q) := by
  refine ⟨lowQ_pos h, ?_⟩
  have hg := gcdI_pos (a := q.1) h
  unfold gcdI lowQ
  dsimp only
  have e1 : (q.1 / gcdI q.1 q.2).natAbs = q.1.natAbs / Nat.gcd q.1.natAbs q.2.natAbs := by
    rw [Int.natAbs_ediv_of_dvd (gcdI_dvd_l _ _)]; rfl
  have e2 : (q.2 / gcdI q.1 q.2).natAbs = q.2.natAbs / Nat.gcd q.1.natAbs q.2.natAbs := by
    rw [Int.natAbs_ediv_of_dvd (gcdI_dvd_r _ _)]; rfl
  rw [e1, e2, Nat.coprime_div_gcd_div_gcd (Nat.gcd_pos_of_pos_right _ (by omega))]
  rfl
theorem lowQ_of_told {q : Q2} (h : Told q) : lowQ q = q := by
  unfold lowQ
  rw [h.2, Int.ediv_one, Int.ediv_one]
/-- the same number -/
def EqQ (a b : Q2) : Prop := a.1 * b.2 = b.1 * a.2
theorem lowQ_mul (q : Q2) : q.1 = (lowQ q).1 * gcdI q.1 q.2 ∧ q.2 = (lowQ q).2 * gcdI q.1 q.2 :=
  ⟨(Int.ediv_mul_cancel (gcdI_dvd_l _ _)).symm, (Int.ediv_mul_cancel (gcdI_dvd_r _ _)).symm⟩
theorem lowQ_eq (q : Q2) : EqQ (lowQ q) q := by
  obtain ⟨h1, h2⟩ := lowQ_mul q
  unfold EqQ
  generalize gcdI q.1 q.2 = g at h1 h2
  rw [h1, h2]
  generalize (lowQ q).1 = x
  generalize (lowQ q).2 = y
  grind
/-! the value -/
def val (q : Q2) : Rat := (q.1 : Rat) / (q.2 : Rat)
theorem cast_pos {b : Int} (h : 0 < b) : (0 : Rat) < (b : Rat) := Rat.intCast_lt_intCast.mpr h
theorem val_lt {a b : Q2} (ha : 0 < a.2) (hb : 0 < b.2) : val a < val b ↔ a.1 * b.2 < b.1 * a.2 := by
  have h1 := cast_pos ha
  have h2 := cast_pos hb
  unfold val
  rw [Rat.div_lt_iff h1]
  have e : (b.1 : Rat) / (b.2 : Rat) * (a.2 : Rat) = ((b.1 : Rat) * (a.2 : Rat)) / (b.2 : Rat) := by
    rw [Rat.div_def, Rat.div_def, Rat.mul_assoc, Rat.mul_assoc, Rat.mul_comm (b.2 : Rat)⁻¹]
  rw [e, Rat.lt_div_iff h2, ← Rat.intCast_mul, ← Rat.intCast_mul, Rat.intCast_lt_intCast]
theorem val_le {a b : Q2} (ha : 0 < a.2) (hb : 0 < b.2) : val a ≤ val b ↔ a.1 * b.2 ≤ b.1 * a.2 := by
  rw [← Rat.not_lt, val_lt hb ha]
  omega
theorem val_eq {a b : Q2} (ha : 0 < a.2) (hb : 0 < b.2) : val a = val b ↔ a.1 * b.2 = b.1 * a.2 := by
  have h1 := val_le ha hb
  have h2 := val_le hb ha
  constructor
  · intro h
    have h3 := h1.mp (by rw [h]; exact Rat.le_refl)
    have h4 := h2.mp (by rw [h]; exact Rat.le_refl)
    omega
  · intro h
    exact Rat.le_antisymm (h1.mpr (by omega)) (h2.mpr (by omega))
theorem val_low {q : Q2} (h : 0 < q.2) : val (lowQ q) = val q := (val_eq (lowQ_pos h) h).mpr (lowQ_eq q)
theorem told_eq {a b : Q2} (ha : Told a) (hb : Told b) (h : a.1 * b.2 = b.1 * a.2) : a = b := by
  have n : a.1.natAbs * b.2.natAbs = b.1.natAbs * a.2.natAbs := by rw [← Int.natAbs_mul, ← Int.natAbs_mul, h]
  have ga : Nat.Coprime a.1.natAbs a.2.natAbs := by
    have := ha.2
    unfold gcdI at this
    exact Int.ofNat.inj this
  have gb : Nat.Coprime b.1.natAbs b.2.natAbs := by
    have := hb.2
    unfold gcdI at this
    exact Int.ofNat.inj this
  have d1 : a.2.natAbs ∣ b.2.natAbs := ga.symm.dvd_of_dvd_mul_left (by rw [n]; exact Nat.dvd_mul_left _ _)
  have d2 : b.2.natAbs ∣ a.2.natAbs := gb.symm.dvd_of_dvd_mul_left (by rw [← n]; exact Nat.dvd_mul_left _ _)
  have e := Nat.dvd_antisymm d1 d2
  have h1 := ha.1
  have h2 := hb.1
  have e2 : a.2 = b.2 := by omega
  rw [e2] at h
  exact Prod.ext (Int.eq_of_mul_eq_mul_right (by omega) h) e2
theorem told_val {a b : Q2} (ha : Told a) (hb : Told b) : a = b ↔ val a = val b := ⟨fun h => h ▸ rfl, fun h => told_eq ha hb ((val_eq ha.1 hb.1).mp h)⟩
def ltQ (a b : Q2) : Bool := decide (a.1 * b.2 < b.1 * a.2)
theorem ltQ_iff {a b : Q2} (ha : 0 < a.2) (hb : 0 < b.2) : ltQ a b = true ↔ val a < val b := by
  unfold ltQ
  rw [decide_eq_true_eq, val_lt ha hb]
theorem ltQ_eq {a b : Q2} (ha : 0 < a.2) (hb : 0 < b.2) : ltQ a b = decide (val a < val b) := by
  rw [Bool.eq_iff_iff, ltQ_iff ha hb, decide_eq_true_eq]
theorem told_dec {a b : Q2} (ha : Told a) (hb : Told b) : decide (a = b) = decide (val a = val b) := by
  rw [Bool.eq_iff_iff, decide_eq_true_eq, decide_eq_true_eq]
  exact told_val ha hb
theorem told0 : Told (0, 1) := ⟨by decide, by decide⟩
theorem told1 : Told (1, 1) := ⟨by decide, by decide⟩
theorem toldI (a : Int) : Told (a, 1) := ⟨by show (0 : Int) < 1; decide, by unfold gcdI; simp⟩
theorem val0 : val (0, 1) = 0 := by unfold val; grind
theorem val1 : val (1, 1) = 1 := by unfold val; grind
theorem sz0 {N : Nat} (h : 1 ≤ N) : Sz N (0, 1) := by
  have : 2 ^ 1 ≤ 2 ^ N := Nat.pow_le_pow_right (by decide) h
  exact ⟨by show 0 < 2 ^ N; omega, by show 1 < 2 ^ N; omega, by decide⟩
theorem sz1 {N : Nat} (h : 1 ≤ N) : Sz N (1, 1) := by
  have : 2 ^ 1 ≤ 2 ^ N := Nat.pow_le_pow_right (by decide) h
  exact ⟨by show 1 < 2 ^ N; omega, by show 1 < 2 ^ N; omega, by decide⟩
/-- a number in any form -/
inductive Nf where
  | i (a : Int)
  | fr (q : Q2)
abbrev B := 2000
def Nf.d : Nf → D
  | .i a => .int a
  | .fr q => nm q
def Nf.v : Nf → Q2
  | .i a => (a, 1)
  | .fr q => lowQ q
def Nf.Sz : Nf → Prop
  | .i a => a.natAbs < 2 ^ B
  | .fr q => Dr.Sz B q
def asN : D → Q2
  | .int a => (a, 1)
  | .tup [.int a, .int b] => lowQ (a, b)
  | _ => (0, 1)
theorem asN_d (f : Nf) : asN f.d = f.v := by cases f <;> rfl
theorem asN_nm {q : Q2} (h : Told q) : asN (nm q) = q := lowQ_of_told h
theorem Nf.told {f : Nf} (h : f.Sz) : Told f.v := by
  cases f with
  | i a => exact toldI a
  | fr q => exact lowQ_told h.2.2
theorem Nf.szv {f : Nf} (h : f.Sz) : Dr.Sz B f.v := by
  cases f with
  | i a => exact ⟨h, Nat.one_lt_two_pow (by decide), by show (0 : Int) < 1; decide⟩
  | fr q => exact lowQ_sz h

/-! ### stretches -/
structure Part where
  lo : Q2
  li : Bool
  hi : Q2
  hin : Bool
  deriving DecidableEq
def Part.d (p : Part) : D := .tup [nm p.lo, .bl p.li, nm p.hi, .bl p.hin]
def Part.fs (p : Part) : List (Str × D) := [("low", nm p.lo), ("low_in", .bl p.li), ("high", nm p.hi), ("high_in", .bl p.hin)]
def Part.s (C : Addr) (p : Part) : D := .ins C p.fs
def dPart : D → Part
  | .tup [x, .bl a, y, .bl b] => ⟨dNum x, a, dNum y, b⟩
  | _ => ⟨(0, 1), false, (1, 1), false⟩
def dS : D → Part
  | .ins _ [(_, x), (_, .bl a), (_, y), (_, .bl b)] => ⟨dNum x, a, dNum y, b⟩
  | _ => ⟨(0, 1), false, (1, 1), false⟩
theorem dS_s {C : Addr} {p : Part} : dS (p.s C) = p := rfl
theorem dPart_d {p : Part} : dPart p.d = p := rfl
theorem d_inj {p q : Part} (h : p.d = q.d) : p = q := congrArg dPart h
def mayQ (p : Part) : Bool := !(ltQ p.lo (0, 1) || (ltQ p.hi p.lo || ltQ (1, 1) p.hi)) && (!(decide (p.lo = p.hi) && !(p.li && p.hin)) && (!(p.li && decide (p.lo = (0, 1))) && !(p.hin && decide (p.hi = (1, 1)))))
def Part.Sz (N : Nat) (p : Part) : Prop := Dr.Sz N p.lo ∧ Dr.Sz N p.hi
structure Part.Ok (N : Nat) (p : Part) : Prop where
  sz : p.Sz N
  tlo : Told p.lo
  thi : Told p.hi
  may : mayQ p = true
theorem Part.Ok.mono {N M : Nat} {p : Part} (h : p.Ok N) (hm : N ≤ M) : p.Ok M := ⟨⟨h.sz.1.mono hm, h.sz.2.mono hm⟩, h.tlo, h.thi, h.may⟩
/-- what mayQ says, by values -/
structure MayV (p : Part) : Prop where
  l0 : 0 ≤ val p.lo
  lh : val p.lo ≤ val p.hi
  h1 : val p.hi ≤ 1
  eq : val p.lo = val p.hi → p.li = true ∧ p.hin = true
  li0 : p.li = true → val p.lo ≠ 0
  hi1 : p.hin = true → val p.hi ≠ 1
theorem mayV {p : Part} (tl : Told p.lo) (th : Told p.hi) : mayQ p = true ↔ MayV p := by
  unfold mayQ
  rw [ltQ_eq tl.1 told0.1, ltQ_eq th.1 tl.1, ltQ_eq told1.1 th.1, told_dec tl th, told_dec tl told0, told_dec th told1, val0, val1]
  constructor
  · intro h
    simp only [Bool.and_eq_true, Bool.not_eq_true', Bool.or_eq_false_iff, Bool.and_eq_false_iff, decide_eq_false_iff_not, Rat.not_lt, Bool.not_eq_false', Bool.not_eq_true] at h
    obtain ⟨⟨h1, h2, h3⟩, h4, h5, h6⟩ := h
    refine ⟨h1, h2, h3, fun e => ?_, fun e => ?_, fun e => ?_⟩
    · rcases h4 with h4 | h4
      · exact absurd e h4
      · exact h4
    · rcases h5 with h5 | h5
      · rw [e] at h5; cases h5
      · exact h5
    · rcases h6 with h6 | h6
      · rw [e] at h6; cases h6
      · exact h6
  · rintro ⟨h1, h2, h3, h4, h5, h6⟩
    simp only [Bool.and_eq_true, Bool.not_eq_true', Bool.or_eq_false_iff, Bool.and_eq_false_iff, decide_eq_false_iff_not, Rat.not_lt, Bool.not_eq_false', Bool.not_eq_true]
    refine ⟨⟨h1, h2, h3⟩, ?_, ?_, ?_⟩
    · by_cases e : val p.lo = val p.hi
      · exact .inr (h4 e)
      · exact .inl e
    · cases q : p.li with
      | true => exact .inr (h5 q)
      | false => exact .inl rfl
    · cases q : p.hin with
      | true => exact .inr (h6 q)
      | false => exact .inl rfl
theorem Part.Ok.v {N : Nat} {p : Part} (h : p.Ok N) : MayV p := (mayV h.tlo h.thi).mp h.may
/-- its places -/
def Mem (p : Part) (x : Rat) : Prop := (val p.lo < x ∨ (val p.lo = x ∧ p.li = true)) ∧ (x < val p.hi ∨ (x = val p.hi ∧ p.hin = true))
def sfQ (p q : Part) : Bool := if p.lo = q.lo then p.li || !q.li else ltQ p.lo q.lo
def elQ (p q : Part) : Bool := if p.hi = q.hi then p.hin || !q.hin else ltQ q.hi p.hi
def withinQ (p q : Part) : Bool := sfQ q p && elQ q p
def loB (p : Part) : Q2 × Bool := if ltQ (0, 1) p.lo then (p.lo, p.li) else ((0, 1), false)
def hiB (p : Part) : Q2 × Bool := if ltQ p.hi (1, 1) then (p.hi, p.hin) else ((1, 1), false)
def betQ (p : Part) : Option Part :=
  if ltQ (loB p).1 (hiB p).1 || (decide ((loB p).1 = (hiB p).1) && ((loB p).2 && (hiB p).2)) then some ⟨(loB p).1, (loB p).2, (hiB p).1, (hiB p).2⟩ else none
def andQ (p q : Part) : Option Part := betQ ⟨(if sfQ q p then p else q).lo, (if sfQ q p then p else q).li, (if elQ q p then p else q).hi, (if elQ q p then p else q).hin⟩
def conQ (p : Part) (v : Q2) : Bool := if ltQ v p.lo || ltQ p.hi v then false else if decide (v = p.lo) && !p.li then false else p.hin || !decide (v = p.hi)
def optS (C : Addr) : Option Part → D
  | none => .non
  | some p => p.s C
def optD : Option Part → D
  | none => .non
  | some p => p.d
theorem loB_told {p : Part} (h : Told p.lo) : Told (loB p).1 := by unfold loB; split <;> first | exact h | exact told0
theorem hiB_told {p : Part} (h : Told p.hi) : Told (hiB p).1 := by unfold hiB; split <;> first | exact h | exact told1
theorem loB_sz {p : Part} {N : Nat} (hN : 1 ≤ N) (h : Sz N p.lo) : Sz N (loB p).1 := by unfold loB; split <;> first | exact h | exact sz0 hN
theorem hiB_sz {p : Part} {N : Nat} (hN : 1 ≤ N) (h : Sz N p.hi) : Sz N (hiB p).1 := by unfold hiB; split <;> first | exact h | exact sz1 hN
theorem betQ_ok {p r : Part} {N : Nat} (hN : 1 ≤ N) (sz : p.Sz N) (tl : Told p.lo) (th : Told p.hi) (h : betQ p = some r) : r.Ok N := by
  unfold betQ at h
  split at h
  · rename_i hc
    cases h
    have t1 := loB_told tl
    have t2 := hiB_told th
    refine ⟨⟨loB_sz hN sz.1, hiB_sz hN sz.2⟩, t1, t2, (mayV t1 t2).mpr ?_⟩
    have k1 : 0 ≤ val (loB p).1 ∧ ((loB p).2 = true → val (loB p).1 ≠ 0) := by
      unfold loB
      rw [ltQ_eq told0.1 tl.1, val0]
      split
      · rename_i q
        rw [decide_eq_true_eq] at q
        dsimp only
        exact ⟨by grind, fun _ => by grind⟩
      · dsimp only
        rw [val0]
        exact ⟨by grind, fun z => nomatch z⟩
    have k2 : val (hiB p).1 ≤ 1 ∧ ((hiB p).2 = true → val (hiB p).1 ≠ 1) := by
      unfold hiB
      rw [ltQ_eq th.1 told1.1, val1]
      split
      · rename_i q
        rw [decide_eq_true_eq] at q
        dsimp only
        exact ⟨by grind, fun _ => by grind⟩
      · dsimp only
        rw [val1]
        exact ⟨by grind, fun z => nomatch z⟩
    rw [ltQ_eq t1.1 t2.1, told_dec t1 t2, Bool.or_eq_true, Bool.and_eq_true, Bool.and_eq_true, decide_eq_true_eq, decide_eq_true_eq] at hc
    refine ⟨k1.1, by dsimp only; grind, k2.1, fun e => ?_, k1.2, k2.2⟩
    dsimp only at e ⊢
    rcases hc with hc | hc
    · exact absurd e (by grind)
    · exact hc.2
  · cases h
theorem fld_lo {C : Addr} {p : Part} : dFld "low" (p.s C) = nm p.lo := by rfl
theorem fld_li {C : Addr} {p : Part} : dFld "low_in" (p.s C) = .bl p.li := by rfl
theorem fld_hi {C : Addr} {p : Part} : dFld "high" (p.s C) = nm p.hi := by rfl
theorem fld_hin {C : Addr} {p : Part} : dFld "high_in" (p.s C) = .bl p.hin := by rfl
theorem cfld_lo {C : Addr} {p : Part} : cFld C "low" (p.s C) = True := eq_true ⟨rfl, by rfl⟩
theorem cfld_li {C : Addr} {p : Part} : cFld C "low_in" (p.s C) = True := eq_true ⟨rfl, by rfl⟩
theorem cfld_hi {C : Addr} {p : Part} : cFld C "high" (p.s C) = True := eq_true ⟨rfl, by rfl⟩
theorem cfld_hin {C : Addr} {p : Part} : cFld C "high_in" (p.s C) = True := eq_true ⟨rfl, by rfl⟩
theorem noAt_w {C : Addr} {p : Part} : noAt C "within" (p.s C) = True := eq_true ⟨rfl, by rfl⟩
theorem insOf_s {C : Addr} {p : Part} : insOf C (p.s C) = True := eq_true rfl
theorem isC_s {C : Addr} {p : Part} : isC C (p.s C) = true := by show (C == C) = true; simp

theorem putD_lo {v : D} : putD "low" v [] = ([("low", v)] : List (Str × D)) := by rfl
theorem putD_li {x v : D} : putD "low_in" v ([("low", x)] : List (Str × D)) = ([("low", x), ("low_in", v)] : List (Str × D)) := by rfl
theorem putD_hi {x y v : D} : putD "high" v ([("low", x), ("low_in", y)] : List (Str × D)) = ([("low", x), ("low_in", y), ("high", v)] : List (Str × D)) := by rfl
theorem putD_hin {x y z v : D} : putD "high_in" v ([("low", x), ("low_in", y), ("high", z)] : List (Str × D)) = ([("low", x), ("low_in", y), ("high", z), ("high_in", v)] : List (Str × D)) := by rfl
theorem lk_lo {x y z v : D} : List.lookup ("low" : Str) ([("low", x), ("low_in", y), ("high", z), ("high_in", v)] : List (Str × D)) = some x := by rfl
theorem lk_hi {x y z v : D} : List.lookup ("high" : Str) ([("low", x), ("low_in", y), ("high", z), ("high_in", v)] : List (Str × D)) = some z := by rfl
/-! ### promises of the package's defs -/
def pre_lowest : List D → Prop
  | [.int a, .int b] => Sz 8000 (a, b)
  | _ => False
def val_lowest : List D → D
  | [.int a, .int b] => nm (lowQ (a, b))
  | _ => .non
def pre_as_number : List D → Prop
  | [x] => ∃ f : Nf, x = f.d ∧ f.Sz
  | _ => False
def val_as_number : List D → D
  | [x] => nm (asN x)
  | _ => .non
def pre_less : List D → Prop
  | [x, y] => ∃ a b : Q2, x = nm a ∧ y = nm b ∧ Sz B a ∧ Sz B b
  | _ => False
def val_less : List D → D
  | [x, y] => .bl (ltQ (dNum x) (dNum y))
  | _ => .non
def pre_may_stand : List D → Prop
  | [x, .bl _, y, .bl _] => ∃ p q : Q2, x = nm p ∧ y = nm q ∧ Sz B p ∧ Sz B q
  | _ => False
def val_may_stand : List D → D
  | [x, .bl a, y, .bl b] => .bl (mayQ ⟨dNum x, a, dNum y, b⟩)
  | _ => .non
def pre_Stretch_ddinitdd : List D → Prop
  | [x, .bl a, y, .bl b] => ∃ f g : Nf, x = f.d ∧ y = g.d ∧ f.Sz ∧ g.Sz ∧ mayQ ⟨f.v, a, g.v, b⟩ = true
  | _ => False
def val_Stretch_ddinitdd : List D → List (Str × D)
  | [x, .bl a, y, .bl b] => Part.fs ⟨asN x, a, asN y, b⟩
  | _ => []
def preSS (C : Addr) : List D → Prop
  | [x, y] => ∃ p q : Part, x = p.s C ∧ y = q.s C ∧ p.Ok B ∧ q.Ok B
  | _ => False
abbrev pre_starts_first := preSS
def val_starts_first (_ : Addr) : List D → D
  | [x, y] => .bl (sfQ (dS x) (dS y))
  | _ => .non
abbrev pre_ends_last := preSS
def val_ends_last (_ : Addr) : List D → D
  | [x, y] => .bl (elQ (dS x) (dS y))
  | _ => .non
abbrev pre_Stretch_within := preSS
def val_Stretch_within (_ : Addr) : List D → D
  | [x, y] => .bl (withinQ (dS x) (dS y))
  | _ => .non
def pre_between (_ : Addr) : List D → Prop
  | [x, .bl _, y, .bl _] => ∃ p q : Q2, x = nm p ∧ y = nm q ∧ Sz B p ∧ Sz B q ∧ Told p ∧ Told q
  | _ => False
def val_between (C : Addr) : List D → D
  | [x, .bl a, y, .bl b] => optS C (betQ ⟨dNum x, a, dNum y, b⟩)
  | _ => .non
abbrev pre_Stretch_ddanddd := preSS
def val_Stretch_ddanddd (C : Addr) : List D → D
  | [x, y] => optS C (andQ (dS x) (dS y))
  | _ => .non
def pre_Stretch_ddcontainsdd (C : Addr) : List D → Prop
  | [x, y] => ∃ (p : Part) (f : Nf), x = p.s C ∧ y = f.d ∧ p.Ok B ∧ f.Sz
  | _ => False
def val_Stretch_ddcontainsdd (_ : Addr) : List D → D
  | [x, y] => .bl (conQ (dS x) (asN y))
  | _ => .non
abbrev pre_Stretch_ddeqdd := preSS
def val_Stretch_ddeqdd (_ : Addr) : List D → D
  | [x, y] => .bl (decide (dS x = dS y))
  | _ => .non
/-! the promises at data of their kind -/
theorem v_lowest {a b : Int} : val_lowest [.int a, .int b] = nm (lowQ (a, b)) := rfl
theorem p_lowest' {a b : Int} : pre_lowest [.int a, .int b] = Sz 8000 (a, b) := rfl
theorem v_as_number {f : Nf} : val_as_number [f.d] = nm f.v := by show nm (asN f.d) = _; rw [asN_d]
theorem v_as_numberI {a : Int} : val_as_number [.int a] = nm (a, 1) := rfl
theorem v_as_numberQ {q : Q2} : val_as_number [nm q] = nm (lowQ q) := rfl
theorem p_as_number' {f : Nf} : pre_as_number [f.d] = f.Sz := propext ⟨fun ⟨g, h, k⟩ => by
  cases f with
  | i a =>
    cases g with
    | i b => cases h; exact k
    | fr q => cases h
  | fr q =>
    cases g with
    | i b => cases h
    | fr r =>
      have : q = r := nm_inj h
      subst this; exact k, fun h => ⟨f, rfl, h⟩⟩
theorem p_as_numberQ {q : Q2} : pre_as_number [nm q] = Sz B q := p_as_number' (f := .fr q)
theorem p_as_numberI {a : Int} : pre_as_number [.int a] = (a.natAbs < 2 ^ B) := p_as_number' (f := .i a)
theorem v_less {a b : Q2} : val_less [nm a, nm b] = .bl (ltQ a b) := rfl
theorem p_less' {a b : Q2} : pre_less [nm a, nm b] = (Sz B a ∧ Sz B b) := propext ⟨fun ⟨x, y, h1, h2, h3, h4⟩ => by rw [nm_inj h1, nm_inj h2]; exact ⟨h3, h4⟩, fun h => ⟨a, b, rfl, rfl, h.1, h.2⟩⟩
theorem v_may_stand {p q : Q2} {a b : Bool} : val_may_stand [nm p, .bl a, nm q, .bl b] = .bl (mayQ ⟨p, a, q, b⟩) := rfl
theorem p_may_stand' {p q : Q2} {a b : Bool} : pre_may_stand [nm p, .bl a, nm q, .bl b] = (Sz B p ∧ Sz B q) := propext ⟨fun ⟨x, y, h1, h2, h3, h4⟩ => by rw [nm_inj h1, nm_inj h2]; exact ⟨h3, h4⟩, fun h => ⟨p, q, rfl, rfl, h.1, h.2⟩⟩
theorem s_inj {C : Addr} {p q : Part} (h : p.s C = q.s C) : p = q := congrArg dS h
theorem p_SS {C : Addr} {p q : Part} : preSS C [p.s C, q.s C] = (p.Ok B ∧ q.Ok B) := propext ⟨fun ⟨x, y, h1, h2, h3, h4⟩ => by rw [s_inj h1, s_inj h2]; exact ⟨h3, h4⟩, fun h => ⟨p, q, rfl, rfl, h.1, h.2⟩⟩
theorem v_starts_first {C : Addr} {p q : Part} : val_starts_first C [p.s C, q.s C] = .bl (sfQ p q) := rfl
theorem v_ends_last {C : Addr} {p q : Part} : val_ends_last C [p.s C, q.s C] = .bl (elQ p q) := rfl
theorem v_within {C : Addr} {p q : Part} : val_Stretch_within C [p.s C, q.s C] = .bl (withinQ p q) := rfl
theorem v_between {C : Addr} {p q : Q2} {a b : Bool} : val_between C [nm p, .bl a, nm q, .bl b] = optS C (betQ ⟨p, a, q, b⟩) := rfl
theorem p_between' {C : Addr} {p q : Q2} {a b : Bool} : pre_between C [nm p, .bl a, nm q, .bl b] = (Sz B p ∧ Sz B q ∧ Told p ∧ Told q) := propext ⟨fun ⟨x, y, h1, h2, h3⟩ => by rw [nm_inj h1, nm_inj h2]; exact h3, fun h => ⟨p, q, rfl, rfl, h⟩⟩
theorem v_and {C : Addr} {p q : Part} : val_Stretch_ddanddd C [p.s C, q.s C] = optS C (andQ p q) := rfl
theorem v_contains {C : Addr} {p : Part} {f : Nf} : val_Stretch_ddcontainsdd C [p.s C, f.d] = .bl (conQ p f.v) := by show D.bl (conQ p (asN f.d)) = _; rw [asN_d]
theorem p_contains {C : Addr} {p : Part} {f : Nf} (h : p.Ok B) (hf : f.Sz) : pre_Stretch_ddcontainsdd C [p.s C, f.d] := ⟨p, f, rfl, rfl, h, hf⟩
theorem v_eq {C : Addr} {p q : Part} : val_Stretch_ddeqdd C [p.s C, q.s C] = .bl (decide (p = q)) := rfl
theorem p_initP {p : Part} (h : p.Ok B) : pre_Stretch_ddinitdd [nm p.lo, .bl p.li, nm p.hi, .bl p.hin] := ⟨.fr p.lo, .fr p.hi, rfl, rfl, h.sz.1, h.sz.2, by
  show mayQ ⟨lowQ p.lo, p.li, lowQ p.hi, p.hin⟩ = true
  rw [lowQ_of_told h.tlo, lowQ_of_told h.thi]; exact h.may⟩
theorem v_initP {C : Addr} {p : Part} (h : p.Ok B) : D.ins C (val_Stretch_ddinitdd [nm p.lo, .bl p.li, nm p.hi, .bl p.hin]) = p.s C := by
  show D.ins C (Part.fs ⟨asN (nm p.lo), p.li, asN (nm p.hi), p.hin⟩) = _
  rw [asN_nm h.tlo, asN_nm h.thi]; rfl
theorem v_initF {C : Addr} {f g : Nf} {a b : Bool} : D.ins C (val_Stretch_ddinitdd [f.d, .bl a, g.d, .bl b]) = Part.s C ⟨f.v, a, g.v, b⟩ := by
  show D.ins C (Part.fs ⟨asN f.d, a, asN g.d, b⟩) = _
  rw [asN_d, asN_d]; rfl
theorem ite_s {C : Addr} {c : Prop} [Decidable c] {p q : Part} : (if c then p.s C else q.s C) = (if c then p else q).s C := by split <;> rfl
theorem bet_leaf {C : Addr} {P : Part} {x y : Q2} {xb yb : Bool} (sz : P.Sz B) (tl : Told P.lo) (th : Told P.hi) (hl : loB P = (x, xb)) (hh : hiB P = (y, yb)) :
    (Sz B x ∧ Sz B y) ∧ ((ltQ x y || decide (x = y) && (xb && yb)) = true → pre_Stretch_ddinitdd [nm x, .bl xb, nm y, .bl yb] ∧ D.ins C (val_Stretch_ddinitdd [nm x, .bl xb, nm y, .bl yb]) = optS C (betQ P)) ∧ ((ltQ x y || decide (x = y) && (xb && yb)) = false → D.non = optS C (betQ P)) := by
  have s1 := loB_sz (N := B) (by decide) sz.1
  have s2 := hiB_sz (N := B) (by decide) sz.2
  rw [hl] at s1
  rw [hh] at s2
  have e : betQ P = if (ltQ x y || decide (x = y) && (xb && yb)) = true then some ⟨x, xb, y, yb⟩ else none := by unfold betQ; rw [hl, hh]
  refine ⟨⟨s1, s2⟩, fun h => ?_, fun h => ?_⟩
  · rw [if_pos h] at e
    have ok := betQ_ok (N := B) (by decide) sz tl th e
    rw [e]
    exact ⟨p_initP ok, v_initP ok⟩
  · rw [if_neg (by rw [h]; decide)] at e
    rw [e]; rfl
theorem loB_t {P : Part} (h : (!ltQ (0, 1) P.lo) = true) : loB P = ((0, 1), false) := by unfold loB; rw [if_neg (by simpa using h)]
theorem loB_f {P : Part} (h : (!ltQ (0, 1) P.lo) = false) : loB P = (P.lo, P.li) := by unfold loB; rw [if_pos (by simpa using h)]
theorem hiB_t {P : Part} (h : (!ltQ P.hi (1, 1)) = true) : hiB P = ((1, 1), false) := by unfold hiB; rw [if_neg (by simpa using h)]
theorem hiB_f {P : Part} (h : (!ltQ P.hi (1, 1)) = false) : hiB P = (P.hi, P.hin) := by unfold hiB; rw [if_pos (by simpa using h)]
theorem Part.Ok.ite {N : Nat} {c : Prop} [Decidable c] {p q : Part} (hp : p.Ok N) (hq : q.Ok N) : (if c then p else q).Ok N := by split <;> assumption
theorem conQ_eq {p : Part} {v : Q2} (tl : Told p.lo) (th : Told p.hi) (tv : Told v) : conQ p v = true ↔ Mem p (val v) := by
  unfold conQ Mem
  rw [ltQ_eq tv.1 tl.1, ltQ_eq th.1 tv.1, told_dec tv tl, told_dec tv th]
  have k1 : val v < val p.lo ∨ val v = val p.lo ∨ val p.lo < val v := by grind
  have k2 : val v < val p.hi ∨ val v = val p.hi ∨ val p.hi < val v := by grind
  cases p.li <;> cases p.hin <;> grind
theorem imp_TT {p : Prop} : (p → True) = True := eq_true fun _ => trivial
end Dr

/-! DBag: the law's bag of draws, likeness, small sums. -/
namespace Dr
open PySem PySem.Spec L2 DL

theorem ex2 {α β : Type} {a : α} {p : α → β → Prop} : (∃ x y, a = x ∧ p x y) = ∃ y, p a y := propext ⟨fun ⟨_, y, e, h⟩ => ⟨y, e ▸ h⟩, fun ⟨y, h⟩ => ⟨a, y, rfl, h⟩⟩
theorem ex1 {α : Type} {a : α} {p : α → Prop} : (∃ x, a = x ∧ p x) = p a := propext ⟨fun ⟨_, e, h⟩ => e ▸ h, fun h => ⟨a, rfl, h⟩⟩
theorem ofNat_nn {n : Nat} : ((n : Int).toNat) = n := rfl
theorem one_inj {a b : D} : ([a] = [b]) = (a = b) := by simp
theorem two_inj {a b c d : D} : ([a, b] = [c, d]) = (a = c ∧ b = d) := by simp
theorem ex_eq {α : Type} {a : α} : (∃ x, a = x) = True := eq_true ⟨a, rfl⟩
theorem gSeq_l {xs : List D} : gSeq [.lst xs] = xs := rfl
theorem gSeq_t {xs : List D} : gSeq [.tup xs] = xs := rfl
theorem n01 : ((0 : Nat) = 1) = False := by simp
theorem opt_cases (o : Option Part) : o = none ∨ ∃ r, o = some r := by
  cases o with
  | none => exact .inl rfl
  | some r => exact .inr ⟨r, rfl⟩
/-! ### the bag -/
def BagOk (n : Nat) (ds : List D) : Prop := ∃ (xs : List Int) (c r m t g : Int), ds = [.lst (xs.map .int), .int c, .int r, .int m, .int t, .int g] ∧ xs.length ≤ 63 ∧ 0 ≤ c ∧ c ≤ xs.length ∧ 0 ≤ r ∧ 0 ≤ m ∧ m < 2147483647 ∧ 0 ≤ t ∧ t ≤ n
theorem BagOk.mono {n m : Nat} {ds : List D} (h : BagOk n ds) (hm : n ≤ m) : BagOk m ds := by
  obtain ⟨xs, c, r, q, t, g, e, h1, h2, h3, h4, h5, h6, h7, h8⟩ := h
  exact ⟨xs, c, r, q, t, g, e, h1, h2, h3, h4, h5, h6, h7, by omega⟩
def S__law_bag : DSp := fun as k => ∃ xs : List Int, xs.length ≤ 63 ∧ as = [.im (.lst (xs.map .int))] ∧ ∀ ds, BagOk 0 ds → k (.ow (.lst ds)) as
def S__law_draw : DSp := fun as k => ∃ (n : Nat) (ds : List D) (size : Int), as = [.ow (.lst ds), .im (.int size)] ∧ BagOk n ds ∧ n < 2 ^ 50 ∧ 0 < size ∧ size.natAbs < 2 ^ 8000 ∧ ∀ v ds', 0 ≤ v → v < size → BagOk (n + 1) ds' → k (.im (.int v)) [.ow (.lst ds'), .im (.int size)]
def S__law_of : DSp := fun as k => ∃ (n : Nat) (ds ts : List D), as = [.ow (.lst ds), .ow (.lst ts)] ∧ BagOk n ds ∧ n < 2 ^ 50 ∧ ts ≠ [] ∧ ts.length < 2 ^ 50 ∧ ∀ v ds', v ∈ ts → BagOk (n + 1) ds' → k (.im v) [.ow (.lst ds'), .ow (.lst ts)]
theorem bag_of {xs : List Int} {k : Ag → List Ag → Prop} (h : xs.length ≤ 63) (hk : ∀ ds, BagOk 0 ds → k (.ow (.lst ds)) [.im (.lst (xs.map .int))]) : S__law_bag [.im (.lst (xs.map .int))] k := ⟨xs, h, rfl, hk⟩
theorem draw_of {n : Nat} {ds : List D} {s : Int} {k : Ag → List Ag → Prop} (hb : BagOk n ds) (hn : n < 2 ^ 50) (h0 : 0 < s) (hs : s.natAbs < 2 ^ 8000) (h : ∀ v ds', 0 ≤ v → v < s → BagOk (n + 1) ds' → k (.im (.int v)) [.ow (.lst ds'), .im (.int s)]) : S__law_draw [.ow (.lst ds), .im (.int s)] k := ⟨n, ds, s, rfl, hb, hn, h0, hs, h⟩
theorem of_of {n : Nat} {ds ts : List D} {k : Ag → List Ag → Prop} (hb : BagOk n ds) (hn : n < 2 ^ 50) (h0 : ts ≠ []) (hs : ts.length < 2 ^ 50) (h : ∀ v ds', v ∈ ts → BagOk (n + 1) ds' → k (.im v) [.ow (.lst ds'), .ow (.lst ts)]) : S__law_of [.ow (.lst ds), .ow (.lst ts)] k := ⟨n, ds, ts, rfl, hb, hn, h0, hs, h⟩
theorem ite_int {c : Prop} [Decidable c] {x y : Int} : (if c then D.int x else D.int y) = D.int (if c then x else y) := by split <;> rfl
section
variable {xs : List Int} {c r m t g size : Int} {n : Nat} {k : Ag → List Ag → Prop}
theorem draw1 (h1 : xs.length ≤ 63) (h2 : 0 ≤ c) (h3 : c ≤ xs.length) (h4 : 0 ≤ r) (h5 : 0 ≤ m) (h6 : m < 2147483647) (h7 : 0 ≤ t) (h8 : t ≤ n) (s0 : 0 < size) (s1 : size.natAbs < 2 ^ 8000)
    (hk : ∀ (v : Int) (ds' : List D), 0 ≤ v → v < size → BagOk (n + 1) ds' → k (.im (.int v)) [.ow (.lst ds'), .im (.int size)]) :
    0 < size ∧ (decide (g > 0) = true → CDivW r size) ∧ k (.im (.int (r % size))) [.ow (.lst [.lst (xs.map .int), .int c, .int (if decide (g > 0) = true then r / size else 0), .int m, .int (t + 1), .int g]), .im (.int size)] := by
  refine ⟨s0, fun _ => divW s0 s1 (by decide) r, hk _ _ (Int.emod_nonneg _ (by omega)) (Int.emod_lt_of_pos _ s0) ⟨xs, c, _, m, t + 1, g, rfl, h1, h2, h3, ?_, h5, h6, by omega, by omega⟩⟩
  split
  · exact Int.ediv_nonneg h4 (by omega)
  · exact Int.le_refl 0
theorem draw2 (h1 : xs.length ≤ 63) (h2 : 0 ≤ c) (h3 : c ≤ xs.length) (h4 : 0 ≤ r) (h5 : 0 ≤ m) (h6 : m < 2147483647) (h7 : 0 ≤ t) (h8 : t ≤ n) (hn : n < 2 ^ 50) (s0 : 0 < size) (s1 : size.natAbs < 2 ^ 8000)
    (hk : ∀ (v : Int) (ds' : List D), 0 ≤ v → v < size → BagOk (n + 1) ds' → k (.im (.int v)) [.ow (.lst ds'), .im (.int size)]) :
    ((CPow m 3 ∧ CMulW (t + 1) 1299721) ∧ (0 : Int) < 2147483563) ∧
      ((CDivW ((m ^ Int.toNat 3 + (t + 1) * 1299721 + 60037) % 2147483563) 97 ∧ (0 : Int) < 7907 ∧ CMulW ((m ^ Int.toNat 3 + (t + 1) * 1299721 + 60037) % 2147483563 % 7907) 71) ∧ 0 < size) ∧
        k (.im (.int (((m ^ Int.toNat 3 + (t + 1) * 1299721 + 60037) % 2147483563 / 97 + (m ^ Int.toNat 3 + (t + 1) * 1299721 + 60037) % 2147483563 % 7907 * 71) % size)))
          [.ow (.lst [.lst (xs.map .int), .int c, .int r, .int ((m ^ Int.toNat 3 + (t + 1) * 1299721 + 60037) % 2147483563), .int (t + 1), .int g]), .im (.int size)] := by
  generalize (m ^ Int.toNat 3 + (t + 1) * 1299721 + 60037) = X
  have x0 : 0 ≤ X % 2147483563 := Int.emod_nonneg _ (by decide)
  have x1 : X % 2147483563 < 2147483563 := Int.emod_lt_of_pos _ (by decide)
  refine ⟨⟨⟨⟨by decide, by decide, by omega⟩, mulW (a := 60) (b := 60) (by omega) (by decide) (by decide)⟩, by decide⟩, ⟨⟨divW (b := 60) (by decide) (by decide) (by decide) _, by decide, mulW (a := 60) (b := 60) (by omega) (by decide) (by decide)⟩, s0⟩, hk _ _ (Int.emod_nonneg _ (by omega)) (Int.emod_lt_of_pos _ s0) ⟨xs, c, r, _, t + 1, g, rfl, h1, h2, h3, h4, x0, by omega, by omega, by omega⟩⟩
end
theorem emod31 (x : Int) : 0 ≤ x % 2147483563 ∧ x % 2147483563 < 2147483647 := by omega
theorem cut63 {xs : List D} (h : xs.length ≤ 63) : cutD xs none (some 63) = xs := by
  unfold cutD
  rw [HT.sIx_none, show HT.sIx xs.length xs.length (some 63) = min 63 xs.length from HT.sIx_nat xs.length xs.length 63, Nat.min_eq_right h]
  simp
theorem atI_in {xs : List D} {c : Int} (h0 : 0 ≤ c) (h : c < xs.length) : ∃ x, atI xs c = some x ∧ x ∈ xs := by
  obtain ⟨n, rfl⟩ := Int.eq_ofNat_of_zero_le h0
  have hn : n < xs.length := by omega
  exact ⟨xs[n], by rw [atI_nat (j := n) (List.getElem?_eq_getElem hn)], List.getElem_mem hn⟩
/-! ### likeness -/
mutual
def likeD : D → D → Bool
  | .bl a, .bl b => a == b
  | .int a, .int b => decide (a = b)
  | .str a, .str b => decide (a = b)
  | .non, .non => true
  | .tup xs, .tup ys => likeL xs ys
  | .lst xs, .lst ys => likeL xs ys
  | _, _ => false
def likeL : List D → List D → Bool
  | [], [] => true
  | x :: xs, y :: ys => likeD x y && likeL xs ys
  | _, _ => false
end
def Scal : D → Prop
  | .non => True
  | .bl _ => True
  | .int _ => True
  | .str s => D.ok 16 (.str s) = true
  | _ => False
def PlainN : Nat → D → Prop
  | 0, d => Scal d
  | n + 1, .tup xs => xs.length < 2 ^ 50 ∧ ∀ x ∈ xs, PlainN n x
  | n + 1, .lst xs => xs.length < 2 ^ 50 ∧ ∀ x ∈ xs, PlainN n x
  | _ + 1, d => Scal d
def pre__law_like (n : Nat) : List D → Prop
  | [x, y] => PlainN n x ∧ PlainN n y
  | _ => False
def val__law_like : List D → D
  | [x, y] => .bl (likeD x y)
  | _ => .non
theorem v_like {x y : D} : val__law_like [x, y] = .bl (likeD x y) := rfl
theorem p_like {n : Nat} {x y : D} : pre__law_like n [x, y] = (PlainN n x ∧ PlainN n y) := rfl
theorem likeL_len : ∀ {xs ys : List D}, likeL xs ys = true → xs.length = ys.length
  | [], [], _ => rfl
  | x :: xs, y :: ys, h => by
    have h : (likeD x y && likeL xs ys) = true := h
    rw [Bool.and_eq_true] at h
    rw [List.length_cons, List.length_cons, likeL_len h.2]
  | [], _ :: _, h => nomatch h
  | _ :: _, [], h => nomatch h
theorem likeL_all : ∀ {xs ys : List D}, xs.length = ys.length → (∀ (i : Nat) (x y : D), xs[i]? = some x → ys[i]? = some y → likeD x y = true) → likeL xs ys = true
  | [], [], _, _ => rfl
  | x :: xs, y :: ys, hl, h => by
    show (likeD x y && likeL xs ys) = true
    rw [h 0 x y rfl rfl, likeL_all (by simpa using hl) fun i a b h1 h2 => h (i + 1) a b h1 h2]
    rfl
  | [], _ :: _, hl, _ => nomatch hl
  | _ :: _, [], hl, _ => nomatch hl
theorem likeL_not : ∀ {xs ys : List D} {i : Nat} {x y : D}, xs[i]? = some x → ys[i]? = some y → likeD x y = false → likeL xs ys = false
  | x :: xs, y :: ys, 0, a, b, h1, h2, h => by
    cases h1; cases h2
    show (likeD x y && likeL xs ys) = false
    rw [h]; rfl
  | x :: xs, y :: ys, i + 1, a, b, h1, h2, h => by
    show (likeD x y && likeL xs ys) = false
    rw [likeL_not (xs := xs) (ys := ys) (i := i) h1 h2 h, Bool.and_false]
  | [], _, _, _, _, h, _, _ => by simp at h
  | _ :: _, [], _, _, _, _, h, _ => by simp at h
theorem plain_no {n : Nat} {C : Addr} {fs : List (Str × D)} (h : PlainN n (.ins C fs)) : False := by cases n <;> exact h
theorem plain_nod {n : Nat} {a b : List D} (h : PlainN n (.dic a b)) : False := by cases n <;> exact h
theorem get_mem {xs : List D} {i : Nat} (h : i < xs.length) : ∃ x, xs[i]? = some x ∧ x ∈ xs := ⟨xs[i], List.getElem?_eq_getElem h, List.getElem_mem h⟩
theorem rng_get {n i : Nat} {d : D} (h : (rngD 0 n)[i]? = some d) : i < n ∧ d = .int i := by
  unfold rngD at h
  rw [List.getElem?_map] at h
  by_cases hi : i < n
  · rw [List.getElem?_range hi] at h
    have h := Option.some.inj h
    exact ⟨hi, by rw [← h]; simp⟩
  · rw [List.getElem?_eq_none (by rw [List.length_range]; omega)] at h
    cases h
theorem rng_len {n : Nat} : (rngD 0 n).length = n := by unfold rngD; rw [List.length_map, List.length_range]
theorem bq1 : (true == false) = false := rfl
theorem bq2 : (false == true) = false := rfl
theorem bq3 : (true == true) = true := rfl
theorem bq4 : (false == false) = true := rfl
theorem likeT {xs ys : List D} : likeD (.tup xs) (.tup ys) = likeL xs ys := by rw [likeD]
theorem likeLL {xs ys : List D} : likeD (.lst xs) (.lst ys) = likeL xs ys := by rw [likeD]
theorem like_bb {a b : Bool} : likeD (.bl a) (.bl b) = (a == b) := rfl
theorem like_nm {a b : Q2} : likeD (nm a) (nm b) = decide (a = b) := by
  show (decide (a.1 = b.1) && (decide (a.2 = b.2) && true)) = _
  rw [Bool.eq_iff_iff]
  simp only [Bool.and_eq_true, decide_eq_true_eq, and_true]
  exact ⟨fun h => Prod.ext h.1 h.2, fun h => ⟨by rw [h], by rw [h]⟩⟩
theorem like_part {p q : Part} : likeD p.d q.d = decide (p = q) := by
  show (likeD (nm p.lo) (nm q.lo) && ((p.li == q.li) && (likeD (nm p.hi) (nm q.hi) && ((p.hin == q.hin) && true)))) = _
  rw [like_nm, like_nm, Bool.eq_iff_iff]
  cases p; cases q
  simp only [Bool.and_eq_true, decide_eq_true_eq, beq_iff_eq, Part.mk.injEq, and_true]
theorem plain_nm {n : Nat} {q : Q2} : PlainN (n + 1) (nm q) := ⟨by show 2 < 2 ^ 50; decide, fun x hx => by
  have : x = .int q.1 ∨ x = .int q.2 := by simpa using hx
  rcases this with rfl | rfl <;> cases n <;> trivial⟩
theorem plain_bl {n : Nat} {b : Bool} : PlainN n (.bl b) := by cases n <;> trivial
theorem plain_part {n : Nat} {p : Part} : PlainN (n + 2) p.d := ⟨by show 4 < 2 ^ 50; decide, fun x hx => by
  have : x = nm p.lo ∨ x = .bl p.li ∨ x = nm p.hi ∨ x = .bl p.hin := by simpa [Part.d] using hx
  rcases this with rfl | rfl | rfl | rfl
  · exact plain_nm
  · exact plain_bl
  · exact plain_nm
  · exact plain_bl⟩
/-! ### sums -/
abbrev B1 := 1000
abbrev B0 := 100
def pre__law_gcd : List D → Prop
  | [.int a, .int b] => 0 ≤ a ∧ 0 ≤ b ∧ a.natAbs < 2 ^ 8000 ∧ b.natAbs < 2 ^ 8000
  | _ => False
def val__law_gcd : List D → D
  | [.int a, .int b] => .int (gcdI a b)
  | _ => .non
def pre__law_frac : List D → Prop
  | [.int a, .int b] => Sz 8000 (a, b)
  | _ => False
def val__law_frac : List D → D
  | [.int a, .int b] => nm (lowQ (a, b))
  | _ => .non
def sgI (x : Int) : Int := if 0 < x then 1 else if x < 0 then -1 else 0
def sgQ (a b : Q2) : Int := sgI (a.1 * b.2 - b.1 * a.2)
def pre__law_sign : List D → Prop
  | [x, y] => ∃ a b : Q2, x = nm a ∧ y = nm b ∧ Sz B a ∧ Sz B b
  | _ => False
def val__law_sign : List D → D
  | [x, y] => .int (sgQ (dNum x) (dNum y))
  | _ => .non
theorem v_gcd {a b : Int} : val__law_gcd [.int a, .int b] = .int (gcdI a b) := rfl
theorem p_gcd {a b : Int} : pre__law_gcd [.int a, .int b] = (0 ≤ a ∧ 0 ≤ b ∧ a.natAbs < 2 ^ 8000 ∧ b.natAbs < 2 ^ 8000) := rfl
theorem v_frac {a b : Int} : val__law_frac [.int a, .int b] = nm (lowQ (a, b)) := rfl
theorem p_frac {a b : Int} : pre__law_frac [.int a, .int b] = Sz 8000 (a, b) := rfl
theorem v_sign {a b : Q2} : val__law_sign [nm a, nm b] = .int (sgQ a b) := rfl
theorem p_sign {a b : Q2} : pre__law_sign [nm a, nm b] = (Sz B a ∧ Sz B b) := p_less'
theorem sg_pos {a b : Q2} (ha : 0 < a.2) (hb : 0 < b.2) : 0 < sgQ a b ↔ val b < val a := by
  rw [val_lt hb ha]
  unfold sgQ sgI
  split
  · omega
  · split <;> omega
theorem sg_neg {a b : Q2} (ha : 0 < a.2) (hb : 0 < b.2) : sgQ a b < 0 ↔ val a < val b := by
  rw [val_lt ha hb]
  unfold sgQ sgI
  split
  · omega
  · split <;> omega
theorem sg_zero {a b : Q2} (ha : 0 < a.2) (hb : 0 < b.2) : sgQ a b = 0 ↔ val a = val b := by
  rw [val_eq ha hb]
  unfold sgQ sgI
  split
  · omega
  · split <;> omega
theorem sg_nn {a b : Q2} (ha : 0 < a.2) (hb : 0 < b.2) : 0 ≤ sgQ a b ↔ val b ≤ val a := by
  rw [← Rat.not_lt, ← sg_neg ha hb]
  omega
theorem gcdI_step {a b : Int} (ha : 0 ≤ a) (hb : 0 < b) : gcdI b (a % b) = gcdI a b := by
  unfold gcdI
  have e : (a % b).natAbs = a.natAbs % b.natAbs := by
    rw [Int.natAbs_emod_of_nonneg ha]
  rw [e, Nat.gcd_comm a.natAbs, Nat.gcd_rec b.natAbs a.natAbs, Nat.gcd_comm]
theorem gcdI_zero {a : Int} (ha : 0 ≤ a) : gcdI a 0 = a := by
  unfold gcdI
  simp
  omega
/-! ### parts as data -/
instance {p : Part} {x : Rat} : Decidable (Mem p x) := by unfold Mem; infer_instance
theorem ite_d {c : Prop} [Decidable c] {p q : Part} : (if c then p.d else q.d) = (if c then p else q).d := by split <;> rfl
theorem ite_bl {c : Prop} [Decidable c] {p q : Bool} : (if c then D.bl p else D.bl q) = D.bl (if c then p else q) := by split <;> rfl
theorem ixd0 {p : Part} : dIx p.d (.int 0) = nm p.lo := rfl
theorem ixd1 {p : Part} : dIx p.d (.int 1) = .bl p.li := rfl
theorem ixd2 {p : Part} : dIx p.d (.int 2) = nm p.hi := rfl
theorem ixd3 {p : Part} : dIx p.d (.int 3) = .bl p.hin := rfl
theorem cixd0 {p : Part} : cIx p.d (.int 0) = True := eq_true rfl
theorem cixd1 {p : Part} : cIx p.d (.int 1) = True := eq_true rfl
theorem cixd2 {p : Part} : cIx p.d (.int 2) = True := eq_true rfl
theorem cixd3 {p : Part} : cIx p.d (.int 3) = True := eq_true rfl
theorem isN_d {p : Part} : D.isN p.d = false := rfl
theorem isN_s {C : Addr} {p : Part} : D.isN (p.s C) = false := rfl
theorem loB_id {p : Part} (t : Told p.lo) (h0 : 0 ≤ val p.lo) (h1 : p.li = true → val p.lo ≠ 0) : loB p = (p.lo, p.li) := by
  unfold loB
  rw [ltQ_eq told0.1 t.1, val0]
  by_cases h : 0 < val p.lo
  · rw [if_pos (decide_eq_true h)]
  · rw [if_neg (by rw [decide_eq_false h]; decide)]
    have e : val p.lo = 0 := Rat.le_antisymm (Rat.not_lt.mp h) h0
    have e2 : p.lo = (0, 1) := (told_val t told0).mpr (by rw [e, val0])
    cases hl : p.li with
    | true => exact absurd e (h1 hl)
    | false => rw [e2]
theorem hiB_id {p : Part} (t : Told p.hi) (h0 : val p.hi ≤ 1) (h1 : p.hin = true → val p.hi ≠ 1) : hiB p = (p.hi, p.hin) := by
  unfold hiB
  rw [ltQ_eq t.1 told1.1, val1]
  by_cases h : val p.hi < 1
  · rw [if_pos (decide_eq_true h)]
  · rw [if_neg (by rw [decide_eq_false h]; decide)]
    have e : val p.hi = 1 := Rat.le_antisymm h0 (Rat.not_lt.mp h)
    have e2 : p.hi = (1, 1) := (told_val t told1).mpr (by rw [e, val1])
    cases hl : p.hin with
    | true => exact absurd e (h1 hl)
    | false => rw [e2]
def comL (p q : Part) : Part := if decide (sgQ p.lo q.lo > 0) = true then p else q
def comH (p q : Part) : Part := if decide (sgQ p.hi q.hi < 0) = true then p else q
def comP (p q : Part) : Part := ⟨(comL p q).lo, if (!decide (p.lo = q.lo)) = true then (comL p q).li else p.li && q.li, (comH p q).hi, if (!decide (p.hi = q.hi)) = true then (comH p q).hin else p.hin && q.hin⟩
theorem comP_and {N : Nat} {p q : Part} (hp : p.Ok N) (hq : q.Ok N) : andQ p q = betQ (comP p q) := by
  unfold andQ
  congr 1
  have h1 : (if sfQ q p = true then p else q).lo = (comL p q).lo ∧ (if sfQ q p = true then p else q).li = if (!decide (p.lo = q.lo)) = true then (comL p q).li else p.li && q.li := by
    unfold sfQ comL
    by_cases e : p.lo = q.lo
    · simp only [if_pos e.symm]
      have ez : ∀ (c : Prop) [Decidable c], (if c then p else q).lo = p.lo := fun c _ => by split <;> first | rfl | exact e.symm
      refine ⟨by rw [ez, ez], ?_⟩
      have ed : (!decide (p.lo = q.lo)) = false := by rw [decide_eq_true e]; rfl
      simp only [ed, Bool.false_eq_true, if_false]
      cases h1 : p.li <;> cases h2 : q.li <;> simp [h1, h2]
    · have ne : ¬ q.lo = p.lo := fun z => e z.symm
      simp only [if_neg ne]
      rw [ltQ_eq hq.tlo.1 hp.tlo.1]
      have ec : (decide (sgQ p.lo q.lo > 0)) = decide (val q.lo < val p.lo) := by
        rw [Bool.eq_iff_iff, decide_eq_true_eq, decide_eq_true_eq]
        exact sg_pos hp.tlo.1 hq.tlo.1
      rw [ec, if_pos (show (!decide (p.lo = q.lo)) = true by rw [decide_eq_false e]; rfl)]
      exact ⟨rfl, rfl⟩
  have h2 : (if elQ q p = true then p else q).hi = (comH p q).hi ∧ (if elQ q p = true then p else q).hin = if (!decide (p.hi = q.hi)) = true then (comH p q).hin else p.hin && q.hin := by
    unfold elQ comH
    by_cases e : p.hi = q.hi
    · simp only [if_pos e.symm]
      have ez : ∀ (c : Prop) [Decidable c], (if c then p else q).hi = p.hi := fun c _ => by split <;> first | rfl | exact e.symm
      refine ⟨by rw [ez, ez], ?_⟩
      have ed : (!decide (p.hi = q.hi)) = false := by rw [decide_eq_true e]; rfl
      simp only [ed, Bool.false_eq_true, if_false]
      cases h1 : p.hin <;> cases h2 : q.hin <;> simp [h1, h2]
    · have ne : ¬ q.hi = p.hi := fun z => e z.symm
      simp only [if_neg ne]
      rw [ltQ_eq hp.thi.1 hq.thi.1]
      have ec : (decide (sgQ p.hi q.hi < 0)) = decide (val p.hi < val q.hi) := by
        rw [Bool.eq_iff_iff, decide_eq_true_eq, decide_eq_true_eq]
        exact sg_neg hp.thi.1 hq.thi.1
      rw [ec, if_pos (show (!decide (p.hi = q.hi)) = true by rw [decide_eq_false e]; rfl)]
      exact ⟨rfl, rfl⟩
  rw [h1.1, h1.2, h2.1, h2.2]
  rfl
theorem comL_ok {N : Nat} {p q : Part} (hp : p.Ok N) (hq : q.Ok N) : (comL p q).Ok N := hp.ite hq
theorem comH_ok {N : Nat} {p q : Part} (hp : p.Ok N) (hq : q.Ok N) : (comH p q).Ok N := hp.ite hq
theorem com_eq {N : Nat} {p q : Part} (hp : p.Ok N) (hq : q.Ok N) : andQ p q = if (decide (sgQ (comP p q).hi (comP p q).lo > 0) || (decide (sgQ (comP p q).hi (comP p q).lo = 0) && ((comP p q).li && (comP p q).hin))) = true then some (comP p q) else none := by
  have L := comL_ok hp hq
  have Hh := comH_ok hp hq
  have tl : Told (comP p q).lo := L.tlo
  have th : Told (comP p q).hi := Hh.thi
  have e1 : loB (comP p q) = ((comP p q).lo, (comP p q).li) := loB_id tl L.v.l0 fun h => by
    show val (comL p q).lo ≠ 0
    have h : (if (!decide (p.lo = q.lo)) = true then (comL p q).li else p.li && q.li) = true := h
    split at h
    · exact L.v.li0 h
    · rename_i e
      have e : p.lo = q.lo := by simpa using e
      rw [Bool.and_eq_true] at h
      unfold comL
      split
      · exact hp.v.li0 h.1
      · exact hq.v.li0 h.2
  have e2 : hiB (comP p q) = ((comP p q).hi, (comP p q).hin) := hiB_id th Hh.v.h1 fun h => by
    show val (comH p q).hi ≠ 1
    have h : (if (!decide (p.hi = q.hi)) = true then (comH p q).hin else p.hin && q.hin) = true := h
    split at h
    · exact Hh.v.hi1 h
    · rename_i e
      rw [Bool.and_eq_true] at h
      unfold comH
      split
      · exact hp.v.hi1 h.1
      · exact hq.v.hi1 h.2
  rw [comP_and hp hq]
  unfold betQ
  rw [e1, e2]
  have c1 : ltQ (comP p q).lo (comP p q).hi = decide (sgQ (comP p q).hi (comP p q).lo > 0) := by
    rw [ltQ_eq tl.1 th.1, Bool.eq_iff_iff, decide_eq_true_eq, decide_eq_true_eq]
    exact (sg_pos th.1 tl.1).symm
  have c2 : decide ((comP p q).lo = (comP p q).hi) = decide (sgQ (comP p q).hi (comP p q).lo = 0) := by
    rw [told_dec tl th, Bool.eq_iff_iff, decide_eq_true_eq, decide_eq_true_eq]
    exact ⟨fun h => (sg_zero th.1 tl.1).mpr h.symm, fun h => ((sg_zero th.1 tl.1).mp h).symm⟩
  dsimp only
  rw [c1, c2]
theorem val_mk {x u : Int} : val (x, u) = (x : Rat) / (u : Rat) := rfl
theorem piece_one {N : Nat} {x u : Int} (sz : Sz N (x, u)) (h0 : 0 < x) (h1 : x < u) : Part.Ok N ⟨lowQ (x, u), true, lowQ (x, u), true⟩ := by
  have hu : 0 < u := sz.2.2
  have t := lowQ_told (q := (x, u)) hu
  have v0 : 0 < val (lowQ (x, u)) := by
    rw [val_low (q := (x, u)) hu, ← val0, val_lt (a := (0, 1)) (b := (x, u)) (by decide) hu]
    show 0 * u < x * 1
    omega
  have v1 : val (lowQ (x, u)) < 1 := by
    rw [val_low (q := (x, u)) hu, ← val1, val_lt (a := (x, u)) (b := (1, 1)) hu (by decide)]
    show x * 1 < 1 * u
    omega
  refine ⟨⟨lowQ_sz sz, lowQ_sz sz⟩, t, t, (mayV t t).mpr ⟨Rat.le_of_lt v0, Rat.le_refl, Rat.le_of_lt v1, fun _ => ⟨rfl, rfl⟩, fun _ e => ?_, fun _ e => ?_⟩⟩
  · dsimp only at e; rw [e] at v0; exact Rat.lt_irrefl v0
  · dsimp only at e; rw [e] at v1; exact Rat.lt_irrefl v1
theorem piece_two {N : Nat} {x y u : Int} {a b : Bool} (sx : Sz N (x, u)) (sy : Sz N (y, u)) (h0 : 0 ≤ x) (h1 : x < y) (h2 : y ≤ u) (ha : a = true → x > 0) (hb : b = true → y < u) : Part.Ok N ⟨lowQ (x, u), a, lowQ (y, u), b⟩ := by
  have hu : 0 < u := sx.2.2
  have t := lowQ_told (q := (x, u)) hu
  have t2 := lowQ_told (q := (y, u)) hu
  have v0 : 0 ≤ val (lowQ (x, u)) := by
    rw [val_low (q := (x, u)) hu, ← val0, val_le (a := (0, 1)) (b := (x, u)) (by decide) hu]
    show 0 * u ≤ x * 1
    omega
  have v01 : x > 0 → 0 < val (lowQ (x, u)) := fun h => by
    rw [val_low (q := (x, u)) hu, ← val0, val_lt (a := (0, 1)) (b := (x, u)) (by decide) hu]
    show 0 * u < x * 1
    omega
  have vm : val (lowQ (x, u)) < val (lowQ (y, u)) := by
    rw [val_low (q := (x, u)) hu, val_low (q := (y, u)) hu, val_lt (a := (x, u)) (b := (y, u)) hu hu]
    exact Int.mul_lt_mul_of_pos_right h1 hu
  have v1 : val (lowQ (y, u)) ≤ 1 := by
    rw [val_low (q := (y, u)) hu, ← val1, val_le (a := (y, u)) (b := (1, 1)) hu (by decide)]
    show y * 1 ≤ 1 * u
    omega
  have v11 : y < u → val (lowQ (y, u)) < 1 := fun h => by
    rw [val_low (q := (y, u)) hu, ← val1, val_lt (a := (y, u)) (b := (1, 1)) hu (by decide)]
    show y * 1 < 1 * u
    omega
  refine ⟨⟨lowQ_sz sx, lowQ_sz sy⟩, t, t2, (mayV t t2).mpr ⟨v0, Rat.le_of_lt vm, v1, fun e => ?_, fun h e => ?_, fun h e => ?_⟩⟩
  · dsimp only at e; rw [e] at vm; exact absurd vm Rat.lt_irrefl
  · have := v01 (ha h)
    dsimp only at e; rw [e] at this; exact Rat.lt_irrefl this
  · have := v11 (hb h)
    dsimp only at e; rw [e] at this; exact Rat.lt_irrefl this
theorem sf_v {p q : Part} (hp : Told p.lo) (hq : Told q.lo) : sfQ q p = (decide (val q.lo ≤ val p.lo) && (decide (val q.lo < val p.lo) || (q.li || !p.li))) := by
  unfold sfQ
  rw [ltQ_eq hq.1 hp.1]
  by_cases e : q.lo = p.lo
  · rw [if_pos e, e, decide_eq_true (Rat.le_refl (a := val p.lo)), decide_eq_false (Rat.lt_irrefl (a := val p.lo))]
    rfl
  · rw [if_neg e]
    have ne : val q.lo ≠ val p.lo := fun z => e ((told_val hq hp).mpr z)
    by_cases h : val q.lo < val p.lo
    · rw [decide_eq_true h, decide_eq_true (Rat.le_of_lt h)]; rfl
    · rw [decide_eq_false h, decide_eq_false fun z => h (by grind)]; rfl
theorem el_v {p q : Part} (hp : Told p.hi) (hq : Told q.hi) : elQ q p = (decide (val p.hi ≤ val q.hi) && (decide (val p.hi < val q.hi) || (q.hin || !p.hin))) := by
  unfold elQ
  rw [ltQ_eq hp.1 hq.1]
  by_cases e : q.hi = p.hi
  · rw [if_pos e, e, decide_eq_true (Rat.le_refl (a := val p.hi)), decide_eq_false (Rat.lt_irrefl (a := val p.hi))]
    rfl
  · rw [if_neg e]
    have ne : val q.hi ≠ val p.hi := fun z => e ((told_val hq hp).mpr z)
    by_cases h : val p.hi < val q.hi
    · rw [decide_eq_true h, decide_eq_true (Rat.le_of_lt h)]; rfl
    · rw [decide_eq_false h, decide_eq_false fun z => h (by grind)]; rfl
theorem lies_eq {N : Nat} {p q : Part} (hp : p.Ok N) (hq : q.Ok N) : (decide (sgQ p.lo q.lo ≥ 0) && (decide (sgQ q.hi p.hi ≥ 0) && ((decide (sgQ p.lo q.lo > 0) || (q.li || !p.li)) && (decide (sgQ q.hi p.hi > 0) || (q.hin || !p.hin))))) = withinQ p q := by
  unfold withinQ
  rw [sf_v hp.tlo hq.tlo, el_v hp.thi hq.thi]
  have a1 : decide (sgQ p.lo q.lo ≥ 0) = decide (val q.lo ≤ val p.lo) := decide_eq_decide.mpr (sg_nn hp.tlo.1 hq.tlo.1)
  have a2 : decide (sgQ q.hi p.hi ≥ 0) = decide (val p.hi ≤ val q.hi) := decide_eq_decide.mpr (sg_nn hq.thi.1 hp.thi.1)
  have a3 : decide (sgQ p.lo q.lo > 0) = decide (val q.lo < val p.lo) := decide_eq_decide.mpr (sg_pos hp.tlo.1 hq.tlo.1)
  have a4 : decide (sgQ q.hi p.hi > 0) = decide (val p.hi < val q.hi) := decide_eq_decide.mpr (sg_pos hq.thi.1 hp.thi.1)
  rw [a1, a2, a3, a4]
  generalize (decide (val q.lo < val p.lo) || (q.li || !p.li)) = c
  generalize (decide (val p.hi < val q.hi) || (q.hin || !p.hin)) = d
  generalize decide (val q.lo ≤ val p.lo) = a
  generalize decide (val p.hi ≤ val q.hi) = b
  revert a b c d
  decide
theorem reach_eq {N : Nat} {p : Part} {q : Q2} (hp : p.Ok N) (hq : 0 < q.2) : ((if decide (p.lo.1 * q.2 * p.hi.2 < q.1 * p.lo.2 * p.hi.2) = true then decide (q.1 * p.lo.2 * p.hi.2 < p.hi.1 * q.2 * p.lo.2) else false) ||
    (decide (q.1 * p.lo.2 * p.hi.2 = p.lo.1 * q.2 * p.hi.2) && p.li || decide (q.1 * p.lo.2 * p.hi.2 = p.hi.1 * q.2 * p.lo.2) && p.hin)) = decide (Mem p (val q)) := by
  have hl := hp.tlo.1
  have hh := hp.thi.1
  have c1 : p.lo.1 * q.2 * p.hi.2 < q.1 * p.lo.2 * p.hi.2 ↔ val p.lo < val q := by
    rw [val_lt hl hq]
    exact ⟨fun h => Int.lt_of_mul_lt_mul_right h (Int.le_of_lt hh), fun h => Int.mul_lt_mul_of_pos_right h hh⟩
  have e1 : q.1 * p.lo.2 * p.hi.2 = (q.1 * p.hi.2) * p.lo.2 := by grind
  have c2 : q.1 * p.lo.2 * p.hi.2 < p.hi.1 * q.2 * p.lo.2 ↔ val q < val p.hi := by
    rw [val_lt hq hh, e1]
    exact ⟨fun h => Int.lt_of_mul_lt_mul_right h (Int.le_of_lt hl), fun h => Int.mul_lt_mul_of_pos_right h hl⟩
  have c3 : q.1 * p.lo.2 * p.hi.2 = p.lo.1 * q.2 * p.hi.2 ↔ val q = val p.lo := by
    rw [val_eq hq hl]
    exact ⟨fun h => Int.eq_of_mul_eq_mul_right (by omega) h, fun h => by rw [h]⟩
  have c4 : q.1 * p.lo.2 * p.hi.2 = p.hi.1 * q.2 * p.lo.2 ↔ val q = val p.hi := by
    rw [val_eq hq hh, e1]
    exact ⟨fun h => Int.eq_of_mul_eq_mul_right (by omega) h, fun h => by rw [h]⟩
  have m := hp.v
  obtain ⟨m1, m2, m3, m4, m5, m6⟩ := m
  rw [Bool.eq_iff_iff]
  simp only [Bool.or_eq_true, Bool.and_eq_true, decide_eq_true_eq, Bool.if_false_right, c1, c2, c3, c4]
  unfold Mem
  constructor
  · rintro (h | h | h)
    · exact ⟨.inl h.1, .inl h.2⟩
    · refine ⟨.inr ⟨h.1.symm, h.2⟩, ?_⟩
      by_cases e : val p.lo = val p.hi
      · exact .inr ⟨by rw [h.1, e], (m4 e).2⟩
      · exact .inl (by grind)
    · refine ⟨?_, .inr ⟨h.1, h.2⟩⟩
      by_cases e : val p.lo = val p.hi
      · exact .inr ⟨by rw [h.1, e], (m4 e).1⟩
      · exact .inl (by grind)
  · rintro ⟨h1 | h1, h2 | h2⟩
    · exact .inl ⟨h1, h2⟩
    · exact .inr (.inr h2)
    · exact .inr (.inl ⟨h1.1.symm, h1.2⟩)
    · exact .inr (.inl ⟨h1.1.symm, h1.2⟩)
def LoM (p : Part) (x : Rat) : Prop := val p.lo < x ∨ (val p.lo = x ∧ p.li = true)
def HiM (p : Part) (x : Rat) : Prop := x < val p.hi ∨ (x = val p.hi ∧ p.hin = true)
theorem Mem_iff {p : Part} {x : Rat} : Mem p x ↔ LoM p x ∧ HiM p x := Iff.rfl
section
variable {N : Nat} {p q r : Part} {x : Rat}
theorem comL_eq (hp : p.Ok N) (hq : q.Ok N) (e : p.lo = q.lo) : (comP p q).lo = p.lo ∧ (comP p q).li = (p.li && q.li) := by
  have e2 : (!decide (p.lo = q.lo)) = false := by rw [decide_eq_true e]; rfl
  refine ⟨?_, ?_⟩
  · show (comL p q).lo = p.lo
    unfold comL
    split
    · rfl
    · exact e.symm
  · show (if (!decide (p.lo = q.lo)) = true then (comL p q).li else p.li && q.li) = _
    rw [e2]; rfl
theorem comL_lt (hp : p.Ok N) (hq : q.Ok N) (h : val q.lo < val p.lo) : (comP p q).lo = p.lo ∧ (comP p q).li = p.li := by
  have e : p.lo ≠ q.lo := fun z => by rw [z] at h; exact Rat.lt_irrefl h
  have e2 : (!decide (p.lo = q.lo)) = true := by rw [decide_eq_false e]; rfl
  have k : comL p q = p := by unfold comL; rw [if_pos (decide_eq_true ((sg_pos hp.tlo.1 hq.tlo.1).mpr h))]
  refine ⟨by show (comL p q).lo = p.lo; rw [k], ?_⟩
  show (if (!decide (p.lo = q.lo)) = true then (comL p q).li else p.li && q.li) = _
  rw [e2, k]; rfl
theorem comL_gt (hp : p.Ok N) (hq : q.Ok N) (h : val p.lo < val q.lo) : (comP p q).lo = q.lo ∧ (comP p q).li = q.li := by
  have e : p.lo ≠ q.lo := fun z => by rw [z] at h; exact Rat.lt_irrefl h
  have e2 : (!decide (p.lo = q.lo)) = true := by rw [decide_eq_false e]; rfl
  have k : comL p q = q := by
    unfold comL
    rw [if_neg]
    rw [decide_eq_true_eq]
    intro z
    have := (sg_pos hp.tlo.1 hq.tlo.1).mp z
    grind
  refine ⟨by show (comL p q).lo = q.lo; rw [k], ?_⟩
  show (if (!decide (p.lo = q.lo)) = true then (comL p q).li else p.li && q.li) = _
  rw [e2, k]; rfl
theorem comH_eq (hp : p.Ok N) (hq : q.Ok N) (e : p.hi = q.hi) : (comP p q).hi = p.hi ∧ (comP p q).hin = (p.hin && q.hin) := by
  have e2 : (!decide (p.hi = q.hi)) = false := by rw [decide_eq_true e]; rfl
  refine ⟨?_, ?_⟩
  · show (comH p q).hi = p.hi
    unfold comH
    split
    · rfl
    · exact e.symm
  · show (if (!decide (p.hi = q.hi)) = true then (comH p q).hin else p.hin && q.hin) = _
    rw [e2]; rfl
theorem comH_lt (hp : p.Ok N) (hq : q.Ok N) (h : val p.hi < val q.hi) : (comP p q).hi = p.hi ∧ (comP p q).hin = p.hin := by
  have e : p.hi ≠ q.hi := fun z => by rw [z] at h; exact Rat.lt_irrefl h
  have e2 : (!decide (p.hi = q.hi)) = true := by rw [decide_eq_false e]; rfl
  have k : comH p q = p := by unfold comH; rw [if_pos (decide_eq_true ((sg_neg hp.thi.1 hq.thi.1).mpr h))]
  refine ⟨by show (comH p q).hi = p.hi; rw [k], ?_⟩
  show (if (!decide (p.hi = q.hi)) = true then (comH p q).hin else p.hin && q.hin) = _
  rw [e2, k]; rfl
theorem comH_gt (hp : p.Ok N) (hq : q.Ok N) (h : val q.hi < val p.hi) : (comP p q).hi = q.hi ∧ (comP p q).hin = q.hin := by
  have e : p.hi ≠ q.hi := fun z => by rw [z] at h; exact Rat.lt_irrefl h
  have e2 : (!decide (p.hi = q.hi)) = true := by rw [decide_eq_false e]; rfl
  have k : comH p q = q := by
    unfold comH
    rw [if_neg]
    rw [decide_eq_true_eq]
    intro z
    have := (sg_neg hp.thi.1 hq.thi.1).mp z
    grind
  refine ⟨by show (comH p q).hi = q.hi; rw [k], ?_⟩
  show (if (!decide (p.hi = q.hi)) = true then (comH p q).hin else p.hin && q.hin) = _
  rw [e2, k]; rfl
theorem comLo (hp : p.Ok N) (hq : q.Ok N) : LoM (comP p q) x ↔ LoM p x ∧ LoM q x := by
  unfold LoM
  by_cases e : p.lo = q.lo
  · obtain ⟨a, b⟩ := comL_eq hp hq e
    rw [a, b, ← e, Bool.and_eq_true]
    grind
  · have ne : val p.lo ≠ val q.lo := fun z => e ((told_val hp.tlo hq.tlo).mpr z)
    by_cases h : val q.lo < val p.lo
    · obtain ⟨a, b⟩ := comL_lt hp hq h
      rw [a, b]
      grind
    · obtain ⟨a, b⟩ := comL_gt hp hq (by grind)
      rw [a, b]
      grind
theorem comHi (hp : p.Ok N) (hq : q.Ok N) : HiM (comP p q) x ↔ HiM p x ∧ HiM q x := by
  unfold HiM
  by_cases e : p.hi = q.hi
  · obtain ⟨a, b⟩ := comH_eq hp hq e
    rw [a, b, ← e, Bool.and_eq_true]
    grind
  · have ne : val p.hi ≠ val q.hi := fun z => e ((told_val hp.thi hq.thi).mpr z)
    by_cases h : val p.hi < val q.hi
    · obtain ⟨a, b⟩ := comH_lt hp hq h
      rw [a, b]
      grind
    · obtain ⟨a, b⟩ := comH_gt hp hq (by grind)
      rw [a, b]
      grind
theorem and_some (hp : p.Ok N) (hq : q.Ok N) (h : andQ p q = some r) : r = comP p q := by
  rw [com_eq hp hq] at h
  split at h
  · exact (Option.some.inj h).symm
  · cases h
theorem and_ok (hN : 1 ≤ N) (hp : p.Ok N) (hq : q.Ok N) (h : andQ p q = some r) : r.Ok N := by
  rw [comP_and hp hq] at h
  have L := comL_ok hp hq
  have Hh := comH_ok hp hq
  exact betQ_ok (p := comP p q) hN ⟨L.sz.1, Hh.sz.2⟩ L.tlo Hh.thi h
theorem and_mem (hp : p.Ok N) (hq : q.Ok N) (h : andQ p q = some r) : Mem r x ↔ Mem p x ∧ Mem q x := by
  rw [and_some hp hq h, Mem_iff, Mem_iff, Mem_iff, comLo hp hq, comHi hp hq]
  constructor
  · rintro ⟨⟨a, b⟩, c, d⟩; exact ⟨⟨a, c⟩, b, d⟩
  · rintro ⟨⟨a, c⟩, b, d⟩; exact ⟨⟨a, b⟩, c, d⟩
theorem and_not (hp : p.Ok N) (hq : q.Ok N) (h : andQ p q = none) : ¬ (Mem p x ∧ Mem q x) := by
  rintro ⟨⟨a, c⟩, b, d⟩
  have l : LoM (comP p q) x := (comLo hp hq).mpr ⟨a, b⟩
  have u : HiM (comP p q) x := (comHi hp hq).mpr ⟨c, d⟩
  have L := comL_ok hp hq
  have Hh := comH_ok hp hq
  have tl : Told (comP p q).lo := L.tlo
  have th : Told (comP p q).hi := Hh.thi
  rw [com_eq hp hq] at h
  split at h
  · cases h
  · rename_i hc
    apply hc
    rw [Bool.or_eq_true, Bool.and_eq_true, Bool.and_eq_true, decide_eq_true_eq, decide_eq_true_eq]
    have k1 := sg_pos th.1 tl.1
    have k2 := sg_zero th.1 tl.1
    show 0 < _ ∨ _
    rw [k1, k2]
    unfold LoM at l
    unfold HiM at u
    grind
theorem and_w1 (hN : 1 ≤ N) (hp : p.Ok N) (hq : q.Ok N) (h : andQ p q = some r) : withinQ r p = true := by
  have hr := and_ok hN hp hq h
  have e := and_some hp hq h
  unfold withinQ
  rw [sf_v hr.tlo hp.tlo, el_v hr.thi hp.thi]
  have a : val p.lo ≤ val r.lo ∧ (val p.lo < val r.lo ∨ (p.li = true ∨ r.li = false)) := by
    rw [e]
    by_cases e : p.lo = q.lo
    · obtain ⟨a, b⟩ := comL_eq hp hq e
      rw [a, b]
      cases p.li <;> cases q.li <;> grind
    · have ne : val p.lo ≠ val q.lo := fun z => e ((told_val hp.tlo hq.tlo).mpr z)
      by_cases h : val q.lo < val p.lo
      · obtain ⟨a, b⟩ := comL_lt hp hq h
        rw [a, b]
        cases p.li <;> grind
      · obtain ⟨a, b⟩ := comL_gt hp hq (by grind)
        rw [a]
        grind
  have b : val r.hi ≤ val p.hi ∧ (val r.hi < val p.hi ∨ (p.hin = true ∨ r.hin = false)) := by
    rw [e]
    by_cases e : p.hi = q.hi
    · obtain ⟨a, b⟩ := comH_eq hp hq e
      rw [a, b]
      cases p.hin <;> cases q.hin <;> grind
    · have ne : val p.hi ≠ val q.hi := fun z => e ((told_val hp.thi hq.thi).mpr z)
      by_cases h : val p.hi < val q.hi
      · obtain ⟨a, b⟩ := comH_lt hp hq h
        rw [a, b]
        cases p.hin <;> grind
      · obtain ⟨a, b⟩ := comH_gt hp hq (by grind)
        rw [a]
        grind
  simp only [Bool.and_eq_true, Bool.or_eq_true, decide_eq_true_eq, Bool.not_eq_true']
  exact ⟨a, b⟩
theorem mem_lo {y : Rat} (hp : p.Ok N) (h : val p.lo < y) : ∃ x, Mem p x ∧ x < y := by
  have m := hp.v
  have l := m.lh
  by_cases e : val p.lo = val p.hi
  · exact ⟨val p.lo, ⟨.inr ⟨rfl, (m.eq e).1⟩, .inr ⟨e, (m.eq e).2⟩⟩, h⟩
  · by_cases hy : y < val p.hi
    · exact ⟨(val p.lo + y) / 2, ⟨.inl (by grind), .inl (by grind)⟩, by grind⟩
    · exact ⟨(val p.lo + val p.hi) / 2, ⟨.inl (by grind), .inl (by grind)⟩, by grind⟩
theorem mem_hi {y : Rat} (hp : p.Ok N) (h : y < val p.hi) : ∃ x, Mem p x ∧ y < x := by
  have m := hp.v
  have l := m.lh
  by_cases e : val p.lo = val p.hi
  · exact ⟨val p.hi, ⟨.inr ⟨e, (m.eq e).1⟩, .inr ⟨rfl, (m.eq e).2⟩⟩, h⟩
  · by_cases hy : val p.lo < y
    · exact ⟨(val p.hi + y) / 2, ⟨.inl (by grind), .inl (by grind)⟩, by grind⟩
    · exact ⟨(val p.lo + val p.hi) / 2, ⟨.inl (by grind), .inl (by grind)⟩, by grind⟩
theorem mem_ex (hp : p.Ok N) : ∃ x, Mem p x := by
  obtain ⟨x, h, _⟩ := mem_lo (y := val p.lo + 1) hp (by grind)
  exact ⟨x, h⟩
theorem part_ext {a b : Part} (h1 : a.lo = b.lo) (h2 : a.li = b.li) (h3 : a.hi = b.hi) (h4 : a.hin = b.hin) : a = b := by
  cases a; cases b
  cases h1; cases h2; cases h3; cases h4
  rfl
theorem mem_le (hp : p.Ok N) (hq : q.Ok N) (h : ∀ x, Mem p x → Mem q x) : val q.lo ≤ val p.lo ∧ val p.hi ≤ val q.hi := by
  constructor
  · by_cases c : val p.lo < val q.lo
    · obtain ⟨x, hx, hl⟩ := mem_lo hp c
      have := (h x hx).1
      grind
    · exact Rat.not_lt.mp c
  · by_cases c : val q.hi < val p.hi
    · obtain ⟨x, hx, hl⟩ := mem_hi hp c
      have := (h x hx).2
      grind
    · exact Rat.not_lt.mp c
theorem mem_ends (hp : p.Ok N) (hq : q.Ok N) (h : ∀ x, Mem p x → Mem q x) (e1 : val p.lo = val q.lo) (e2 : val p.hi = val q.hi) : (p.li = true → q.li = true) ∧ (p.hin = true → q.hin = true) := by
  have m := hp.v
  have n := hq.v
  by_cases e : val p.lo = val p.hi
  · have := n.eq (by rw [← e1, ← e2]; exact e)
    exact ⟨fun _ => this.1, fun _ => this.2⟩
  · have l := m.lh
    have s : val p.lo < val p.hi := by grind
    refine ⟨fun a => ?_, fun a => ?_⟩
    · rcases (h (val p.lo) ⟨.inr ⟨rfl, a⟩, .inl s⟩).1 with b | b
      · grind
      · exact b.2
    · rcases (h (val p.hi) ⟨.inl s, .inr ⟨rfl, a⟩⟩).2 with b | b
      · grind
      · exact b.2
theorem mem_ext (hp : p.Ok N) (hq : q.Ok N) (h : ∀ x, Mem p x ↔ Mem q x) : p = q := by
  have a := mem_le hp hq fun x => (h x).mp
  have b := mem_le hq hp fun x => (h x).mpr
  have e1 : val p.lo = val q.lo := Rat.le_antisymm b.1 a.1
  have e2 : val p.hi = val q.hi := Rat.le_antisymm a.2 b.2
  have c := mem_ends hp hq (fun x => (h x).mp) e1 e2
  have d := mem_ends hq hp (fun x => (h x).mpr) e1.symm e2.symm
  exact part_ext ((told_val hp.tlo hq.tlo).mpr e1) (Bool.eq_iff_iff.mpr ⟨c.1, d.1⟩) ((told_val hp.thi hq.thi).mpr e2) (Bool.eq_iff_iff.mpr ⟨c.2, d.2⟩)
theorem comP_comm (hp : p.Ok N) (hq : q.Ok N) : comP p q = comP q p := by
  have a : (comP p q).lo = (comP q p).lo ∧ (comP p q).li = (comP q p).li := by
    by_cases e : p.lo = q.lo
    · rw [(comL_eq hp hq e).1, (comL_eq hp hq e).2, (comL_eq hq hp e.symm).1, (comL_eq hq hp e.symm).2, e, Bool.and_comm]
      exact ⟨rfl, rfl⟩
    · have ne : val p.lo ≠ val q.lo := fun z => e ((told_val hp.tlo hq.tlo).mpr z)
      by_cases h : val q.lo < val p.lo
      · rw [(comL_lt hp hq h).1, (comL_lt hp hq h).2, (comL_gt hq hp h).1, (comL_gt hq hp h).2]
        exact ⟨rfl, rfl⟩
      · have h : val p.lo < val q.lo := by grind
        rw [(comL_gt hp hq h).1, (comL_gt hp hq h).2, (comL_lt hq hp h).1, (comL_lt hq hp h).2]
        exact ⟨rfl, rfl⟩
  have b : (comP p q).hi = (comP q p).hi ∧ (comP p q).hin = (comP q p).hin := by
    by_cases e : p.hi = q.hi
    · rw [(comH_eq hp hq e).1, (comH_eq hp hq e).2, (comH_eq hq hp e.symm).1, (comH_eq hq hp e.symm).2, e, Bool.and_comm]
      exact ⟨rfl, rfl⟩
    · have ne : val p.hi ≠ val q.hi := fun z => e ((told_val hp.thi hq.thi).mpr z)
      by_cases h : val p.hi < val q.hi
      · rw [(comH_lt hp hq h).1, (comH_lt hp hq h).2, (comH_gt hq hp h).1, (comH_gt hq hp h).2]
        exact ⟨rfl, rfl⟩
      · have h : val q.hi < val p.hi := by grind
        rw [(comH_gt hp hq h).1, (comH_gt hp hq h).2, (comH_lt hq hp h).1, (comH_lt hq hp h).2]
        exact ⟨rfl, rfl⟩
  exact part_ext a.1 a.2 b.1 b.2
theorem and_comm' (hp : p.Ok N) (hq : q.Ok N) : andQ p q = andQ q p := by rw [comP_and hp hq, comP_and hq hp, comP_comm hp hq]
theorem and_w2 (hN : 1 ≤ N) (hp : p.Ok N) (hq : q.Ok N) (h : andQ p q = some r) : withinQ r q = true := and_w1 hN hq hp (by rw [← and_comm' hp hq]; exact h)
end
/-- three parts, cut in either order -/
theorem and_assoc3 {N : Nat} (hN : 1 ≤ N) {a b c : Part} (ha : a.Ok N) (hb : b.Ok N) (hc : c.Ok N) :
    (andQ a b).bind (fun r => andQ r c) = (andQ b c).bind (fun r => andQ a r) := by
  have key : ∀ {a b c : Part}, a.Ok N → b.Ok N → c.Ok N → ∀ d, (andQ a b).bind (fun r => andQ r c) = some d → ∃ e, (andQ b c).bind (fun r => andQ a r) = some e ∧ d.Ok N ∧ e.Ok N ∧ ∀ x, Mem d x ↔ Mem e x := fun {a b c} ha hb hc d h => by
    cases h1 : andQ a b with
    | none => rw [h1] at h; cases h
    | some r1 =>
      rw [h1] at h
      have h : andQ r1 c = some d := h
      have o1 := and_ok hN ha hb h1
      have od := and_ok hN o1 hc h
      obtain ⟨x, hx⟩ := mem_ex od
      have hx := (and_mem o1 hc h).mp hx
      have hx1 := (and_mem ha hb h1).mp hx.1
      cases h2 : andQ b c with
      | none => exact absurd ⟨hx1.2, hx.2⟩ (and_not hb hc h2)
      | some r2 =>
        have o2 := and_ok hN hb hc h2
        have m2 := (and_mem (x := x) hb hc h2).mpr ⟨hx1.2, hx.2⟩
        cases h3 : andQ a r2 with
        | none => exact absurd ⟨hx1.1, m2⟩ (and_not ha o2 h3)
        | some e =>
          refine ⟨e, h3, od, and_ok hN ha o2 h3, fun y => ?_⟩
          rw [and_mem o1 hc h, and_mem ha hb h1, and_mem ha o2 h3, and_mem hb hc h2]
          exact ⟨fun z => ⟨z.1.1, z.1.2, z.2⟩, fun z => ⟨⟨z.1, z.2.1⟩, z.2.2⟩⟩
  cases h : (andQ a b).bind (fun r => andQ r c) with
  | some d =>
    obtain ⟨e, he, od, oe, hm⟩ := key ha hb hc d h
    rw [he, mem_ext od oe hm]
  | none =>
    cases h2 : (andQ b c).bind (fun r => andQ a r) with
    | none => rfl
    | some e =>
      exfalso
      cases h3 : andQ b c with
      | none => rw [h3] at h2; cases h2
      | some r2 =>
        rw [h3] at h2
        have h2 : andQ a r2 = some e := h2
        have o2 := and_ok hN hb hc h3
        obtain ⟨x, hx⟩ := mem_ex (and_ok hN ha o2 h2)
        have hx := (and_mem ha o2 h2).mp hx
        have hx2 := (and_mem hb hc h3).mp hx.2
        cases h4 : andQ a b with
        | none => exact and_not ha hb h4 ⟨hx.1, hx2.1⟩
        | some r1 =>
          rw [h4] at h
          have h : andQ r1 c = none := h
          exact and_not (and_ok hN ha hb h4) hc h ⟨(and_mem (x := x) ha hb h4).mpr ⟨hx.1, hx2.1⟩, hx2.2⟩
theorem mid_sz {p q : Part} (hp : p.Ok B0) (hq : q.Ok B0) : Sz 300 (p.lo.1 * q.hi.2 + q.hi.1 * p.lo.2, 2 * p.lo.2 * q.hi.2) := by
  have a := hp.sz.1
  have b := hq.sz.2
  exact ⟨add_pow (a := 200) (mul_pow a.1 b.2.1 (by decide)) (mul_pow b.1 a.2.1 (by decide)) (by decide), mul_pow (a := 102) (mul_pow (a := 2) (by decide) a.2.1 (by decide)) b.2.1 (by decide), Int.mul_pos (Int.mul_pos (by decide) a.2.2) b.2.2⟩
theorem mid_ok {p q : Part} (hp : p.Ok B0) (hq : q.Ok B0) : ((CMulW p.lo.1 q.hi.2 ∧ CMulW q.hi.1 p.lo.2) ∧ CMulW 2 p.lo.2 ∧ CMulW (2 * p.lo.2) q.hi.2) ∧ Sz 8000 (p.lo.1 * q.hi.2 + q.hi.1 * p.lo.2, 2 * p.lo.2 * q.hi.2) := by
  have a := hp.sz.1
  have b := hq.sz.2
  exact ⟨⟨⟨mulW a.1 b.2.1 (by decide), mulW b.1 a.2.1 (by decide)⟩, mulW (a := 2) (by decide) a.2.1 (by decide), mulW (a := 102) (mul_pow (a := 2) (by decide) a.2.1 (by decide)) b.2.1 (by decide)⟩, (mid_sz hp hq).mono (by decide)⟩
theorem mid_items {p q : Part} (hp : p.Ok B0) (hq : q.Ok B0) : ∀ d ∈ [nm p.lo, nm p.hi, nm q.lo, nm q.hi, nm (lowQ (p.lo.1 * q.hi.2 + q.hi.1 * p.lo.2, 2 * p.lo.2 * q.hi.2))], ∃ x, d = nm x ∧ Told x ∧ Sz B1 x := fun d hd => by
  have m := mid_sz hp hq
  simp only [List.mem_cons, List.not_mem_nil, or_false] at hd
  rcases hd with rfl | rfl | rfl | rfl | rfl
  · exact ⟨_, rfl, hp.tlo, hp.sz.1.mono (by decide)⟩
  · exact ⟨_, rfl, hp.thi, hp.sz.2.mono (by decide)⟩
  · exact ⟨_, rfl, hq.tlo, hq.sz.1.mono (by decide)⟩
  · exact ⟨_, rfl, hq.thi, hq.sz.2.mono (by decide)⟩
  · exact ⟨_, rfl, lowQ_told m.2.2, (lowQ_sz m).mono (by decide)⟩
/-! ### parts from parts -/
section
variable {N : Nat} {p q : Part} {a b : Bool}
theorem hi_pos (hq : q.Ok N) : 0 < val q.hi := by
  have m := hq.v
  have h1 := m.l0
  have h2 := m.lh
  by_cases e : val q.hi = 0
  · exfalso
    have e2 : val q.lo = 0 := by grind
    exact m.li0 (m.eq (by rw [e, e2])).1 e2
  · grind
theorem lo_lt (hq : q.Ok N) : val q.lo < 1 := by
  have m := hq.v
  have h1 := m.h1
  have h2 := m.lh
  by_cases e : val q.lo = 1
  · exfalso
    have e2 : val q.hi = 1 := by grind
    exact m.hi1 (m.eq (by rw [e, e2])).2 e2
  · grind
theorem num_pos (hq : 0 < q.lo.2) (h : 0 < q.lo.1) : 0 < val q.lo := by
  rw [← val0, val_lt (a := (0, 1)) (b := q.lo) (by decide) hq]
  show 0 * q.lo.2 < q.lo.1 * 1
  omega
theorem okA (hq : q.Ok N) (hp : p.Ok N) (h : val q.hi < val p.hi) : Part.Ok N ⟨q.hi, a, p.hi, p.hin⟩ := by
  have m := hp.v
  have z := hi_pos hq
  refine ⟨⟨hq.sz.2, hp.sz.2⟩, hq.thi, hp.thi, (mayV (p := ⟨q.hi, a, p.hi, p.hin⟩) hq.thi hp.thi).mpr ⟨Rat.le_of_lt z, Rat.le_of_lt h, m.h1, fun e => ?_, fun _ e => ?_, m.hi1⟩⟩
  · dsimp only at e; rw [e] at h; exact absurd h Rat.lt_irrefl
  · dsimp only at e; rw [e] at z; exact absurd z Rat.lt_irrefl
theorem okB (hq : q.Ok N) (hp : p.Ok N) (h : val p.lo < val q.lo) : Part.Ok N ⟨p.lo, p.li, q.lo, b⟩ := by
  have m := hp.v
  have z := lo_lt hq
  refine ⟨⟨hp.sz.1, hq.sz.1⟩, hp.tlo, hq.tlo, (mayV (p := ⟨p.lo, p.li, q.lo, b⟩) hp.tlo hq.tlo).mpr ⟨m.l0, Rat.le_of_lt h, Rat.le_of_lt z, fun e => ?_, m.li0, fun _ e => ?_⟩⟩
  · dsimp only at e; rw [e] at h; exact absurd h Rat.lt_irrefl
  · dsimp only at e; rw [e] at z; exact absurd z Rat.lt_irrefl
theorem okC (hq : q.Ok N) (h : val q.lo < val q.hi) (ha : a = true → 0 < q.lo.1) : Part.Ok N ⟨q.lo, a, q.hi, q.hin⟩ := by
  have m := hq.v
  refine ⟨hq.sz, hq.tlo, hq.thi, (mayV (p := ⟨q.lo, a, q.hi, q.hin⟩) hq.tlo hq.thi).mpr ⟨m.l0, m.lh, m.h1, fun e => ?_, fun h e => ?_, m.hi1⟩⟩
  · dsimp only at e; rw [e] at h; exact absurd h Rat.lt_irrefl
  · have := num_pos hq.tlo.1 (ha h)
    dsimp only at e; rw [e] at this; exact absurd this Rat.lt_irrefl
theorem okD (hq : q.Ok N) (h : 0 < q.lo.1) : Part.Ok N ⟨q.lo, true, q.lo, true⟩ := by
  have z := lo_lt hq
  have w := num_pos hq.tlo.1 h
  refine ⟨⟨hq.sz.1, hq.sz.1⟩, hq.tlo, hq.tlo, (mayV (p := ⟨q.lo, true, q.lo, true⟩) hq.tlo hq.tlo).mpr ⟨Rat.le_of_lt w, Rat.le_refl, Rat.le_of_lt z, fun _ => ⟨rfl, rfl⟩, fun _ e => ?_, fun _ e => ?_⟩⟩
  · dsimp only at e; rw [e] at w; exact absurd w Rat.lt_irrefl
  · dsimp only at e; rw [e] at z; exact absurd z Rat.lt_irrefl
end
/-! ### numbers in other forms -/
theorem lowQ_scale {q : Q2} {k : Int} (h : Told q) (hk : 0 < k) : lowQ (q.1 * k, q.2 * k) = q := by
  have hp : 0 < (lowQ (q.1 * k, q.2 * k)).2 := lowQ_pos (q := (q.1 * k, q.2 * k)) (Int.mul_pos h.1 hk)
  refine told_eq (lowQ_told (q := (q.1 * k, q.2 * k)) (Int.mul_pos h.1 hk)) h ?_
  have e := lowQ_eq (q.1 * k, q.2 * k)
  unfold EqQ at e
  dsimp only at e
  generalize (lowQ (q.1 * k, q.2 * k)).1 = x at *
  generalize (lowQ (q.1 * k, q.2 * k)).2 = y at *
  have e2 : (x * q.2) * k = (q.1 * y) * k := by grind
  exact Int.eq_of_mul_eq_mul_right (by omega) e2
/-- a form of the told number -/
def FormOf (q : Q2) (f : Nf) : Prop := f.v = q ∧ f.Sz
def S__law_form : DSp := fun as k => ∃ (n : Nat) (ds : List D) (q : Q2), as = [.ow (.lst ds), .im (nm q)] ∧ BagOk n ds ∧ n < 2 ^ 49 ∧ Told q ∧ Sz B1 q ∧ ∀ f ds', FormOf q f → BagOk (n + 1) ds' → k (.im f.d) [.ow (.lst ds'), .im (nm q)]
theorem form_of {n : Nat} {ds : List D} {q : Q2} {k : Ag → List Ag → Prop} (hb : BagOk n ds) (hn : n < 2 ^ 49) (ht : Told q) (hs : Sz B1 q) (h : ∀ f ds', FormOf q f → BagOk (n + 1) ds' → k (.im f.d) [.ow (.lst ds'), .im (nm q)]) : S__law_form [.ow (.lst ds), .im (nm q)] k := ⟨n, ds, q, rfl, hb, hn, ht, hs, h⟩
def S__law_piece : DSp := fun as k => ∃ (n : Nat) (ds : List D) (most : Int), as = [.ow (.lst ds), .im (.int most)] ∧ BagOk n ds ∧ n < 2 ^ 49 ∧ 2 ≤ most ∧ most ≤ 1000 ∧ ∀ p ds', Part.Ok B0 p → BagOk (n + 2) ds' → k (.im p.d) [.ow (.lst ds'), .im (.int most)]
theorem piece_of {n : Nat} {ds : List D} {most : Int} {k : Ag → List Ag → Prop} (hb : BagOk n ds) (hn : n < 2 ^ 49) (h1 : 2 ≤ most) (h2 : most ≤ 1000) (h : ∀ p ds', Part.Ok B0 p → BagOk (n + 2) ds' → k (.im p.d) [.ow (.lst ds'), .im (.int most)]) : S__law_piece [.ow (.lst ds), .im (.int most)] k := ⟨n, ds, most, rfl, hb, hn, h1, h2, h⟩
def S__law_stretch (C : Addr) : DSp := fun as k => ∃ (n : Nat) (ds : List D) (p : Part), as = [.ow (.lst ds), .im p.d] ∧ BagOk n ds ∧ n < 2 ^ 48 ∧ Part.Ok B1 p ∧ ∀ ds', BagOk (n + 2) ds' → k (.im (p.s C)) [.ow (.lst ds'), .im p.d]
theorem stretch_of {C : Addr} {n : Nat} {ds : List D} {p : Part} {k : Ag → List Ag → Prop} (hb : BagOk n ds) (hn : n < 2 ^ 48) (hp : Part.Ok B1 p) (h : ∀ ds', BagOk (n + 2) ds' → k (.im (p.s C)) [.ow (.lst ds'), .im p.d]) : S__law_stretch C [.ow (.lst ds), .im p.d] k := ⟨n, ds, p, rfl, hb, hn, hp, h⟩
def pre__law_is (C : Addr) : List D → Prop
  | [x, y] => ∃ (o : Option Part) (p : Part), x = optS C o ∧ y = p.d
  | _ => False
def dOptS : D → Option Part
  | .non => none
  | d => some (dS d)
theorem dOptS_s {C : Addr} {o : Option Part} : dOptS (optS C o) = o := by cases o <;> rfl
def val__law_is (_ : Addr) : List D → D
  | [x, y] => .bl (decide (dOptS x = some (dPart y)))
  | _ => .non
theorem v_is {C : Addr} {o : Option Part} {p : Part} : val__law_is C [optS C o, p.d] = .bl (decide (o = some p)) := by
  show D.bl (decide (dOptS (optS C o) = some (dPart p.d))) = _
  rw [dOptS_s]; rfl
theorem v_isN {C : Addr} {p : Part} : val__law_is C [.non, p.d] = .bl false := v_is (o := none)
theorem v_isS {C : Addr} {p q : Part} : val__law_is C [q.s C, p.d] = .bl (decide (q = p)) := by
  have := v_is (C := C) (o := some q) (p := p)
  rw [show optS C (some q) = q.s C from rfl] at this
  rw [this]
  congr 1
  rw [Bool.eq_iff_iff, decide_eq_true_eq, decide_eq_true_eq]
  exact ⟨fun h => Option.some.inj h, fun h => by rw [h]⟩
theorem p_isN {C : Addr} {p : Part} : pre__law_is C [.non, p.d] = True := eq_true ⟨none, p, rfl, rfl⟩
theorem p_isS {C : Addr} {p q : Part} : pre__law_is C [q.s C, p.d] = True := eq_true ⟨some q, p, rfl, rfl⟩
theorem p_is {C : Addr} {o : Option Part} {p : Part} : pre__law_is C [optS C o, p.d] = True := eq_true ⟨o, p, rfl, rfl⟩
def prePP (N : Nat) : List D → Prop
  | [x, y] => ∃ p q : Part, x = p.d ∧ y = q.d ∧ p.Ok N ∧ q.Ok N
  | _ => False
theorem p_PP {N : Nat} {p q : Part} : prePP N [p.d, q.d] = (p.Ok N ∧ q.Ok N) := propext ⟨fun ⟨x, y, h1, h2, h3, h4⟩ => by rw [d_inj h1, d_inj h2]; exact ⟨h3, h4⟩, fun h => ⟨p, q, rfl, rfl, h.1, h.2⟩⟩
abbrev pre__law_common := prePP B1
def val__law_common : List D → D
  | [x, y] => optD (andQ (dPart x) (dPart y))
  | _ => .non
theorem v_common {p q : Part} : val__law_common [p.d, q.d] = optD (andQ p q) := rfl
abbrev pre__law_lies := prePP B1
def val__law_lies : List D → D
  | [x, y] => .bl (withinQ (dPart x) (dPart y))
  | _ => .non
theorem v_lies {p q : Part} : val__law_lies [p.d, q.d] = .bl (withinQ p q) := rfl
def pre__law_reaches : List D → Prop
  | [x, y] => ∃ (p : Part) (q : Q2), x = p.d ∧ y = nm q ∧ p.Ok B1 ∧ Sz B q
  | _ => False
def val__law_reaches : List D → D
  | [x, y] => .bl (decide (Mem (dPart x) (val (dNum y))))
  | _ => .non
theorem p_reaches {p : Part} {q : Q2} : pre__law_reaches [p.d, nm q] = (p.Ok B1 ∧ Sz B q) := propext ⟨fun ⟨x, y, h1, h2, h3, h4⟩ => by rw [d_inj h1, nm_inj h2]; exact ⟨h3, h4⟩, fun h => ⟨p, q, rfl, rfl, h.1, h.2⟩⟩
theorem v_reaches {p : Part} {q : Q2} : val__law_reaches [p.d, nm q] = .bl (decide (Mem p (val q))) := rfl
def S__law_drawn : DSp := fun as k => ∃ (n : Nat) (ds : List D), as = [.ow (.lst ds)] ∧ BagOk n ds ∧ n < 2 ^ 40 ∧ ∀ (ps : List Part) ds', (∀ p ∈ ps, Part.Ok B0 p) → 2 ≤ ps.length → ps.length ≤ 6 → BagOk (n + 100) ds' → k (.ow (.lst (ps.map Part.d))) [.ow (.lst ds')]
theorem drawn_of {n : Nat} {ds : List D} {k : Ag → List Ag → Prop} (hb : BagOk n ds) (hn : n < 2 ^ 40) (h : ∀ (ps : List Part) ds', (∀ p ∈ ps, Part.Ok B0 p) → 2 ≤ ps.length → ps.length ≤ 6 → BagOk (n + 100) ds' → k (.ow (.lst (ps.map Part.d))) [.ow (.lst ds')]) : S__law_drawn [.ow (.lst ds)] k := ⟨n, ds, rfl, hb, hn, h⟩
def S__law_met : DSp := fun as k => ∃ (n : Nat) (ds : List D) (p q : Part), as = [.ow (.lst ds), .im p.d, .im q.d] ∧ BagOk n ds ∧ n < 2 ^ 40 ∧ p.Ok B0 ∧ q.Ok B0 ∧ ∀ ds', BagOk (n + 100) ds' → k (.im (.bl true)) [.ow (.lst ds'), .im p.d, .im q.d]
theorem met_of {n : Nat} {ds : List D} {p q : Part} {k : Ag → List Ag → Prop} (hb : BagOk n ds) (hn : n < 2 ^ 40) (hp : p.Ok B0) (hq : q.Ok B0) (h : ∀ ds', BagOk (n + 100) ds' → k (.im (.bl true)) [.ow (.lst ds'), .im p.d, .im q.d]) : S__law_met [.ow (.lst ds), .im p.d, .im q.d] k := ⟨n, ds, p, q, rfl, hb, hn, hp, hq, h⟩
def pre_law : List D → Prop
  | [x] => ∃ xs : List Int, xs.length ≤ 63 ∧ x = .lst (xs.map .int)
  | _ => False
def val_law : List D → D := fun _ => .bl true
end Dr

namespace K01
open PySem PySem.Spec L2 DL Dr

local macro_rules | `(tactic| walk_at "dd") => `(tactic| ((try dsimp only); simp only [like_bb, beq_self_eq_true, decide_true, n01, ite_d, ite_bl, ixd0, ixd1, ixd2, ixd3, cixd0, cixd1, cixd2, cixd3, isN_d, isN_s, D.lst.injEq, one_inj, two_inj, ex_eq, gSeq_l, gSeq_t, D.int.injEq, List.length_map, ite_int, ex2, ex1, List.map_cons, List.map_nil, List.cons_append, List.nil_append, dIx_nm0, dIx_nm1, cIx_nm0, cIx_nm1, dEq, dNe, cEq, dEqB_int, dEqB_bl, dEqB_str, dEqB_nm, ok_int, ok_bl, ok_nm, ok_non, atI_0, atI_1, atI_2, atI_3, atI_4, atI_5, setAt_0, setAt_1, setAt_2, setAt_3, setAt_4, setAt_5, Option.some.injEq, Option.isSome_some, Option.getD_some, exists_eq_left', exists_eq_left, List.length_cons, List.length_nil, imp_T, imp_F, imp_T', imp_F', imp_True, true_and, and_true, and_self, Nat.reduceAdd, fld_lo, fld_li, fld_hi, fld_hin, cfld_lo, cfld_li, cfld_hi, cfld_hin, noAt_w, insOf_s, isC_s, dS_s, dPart_d, dNum_nm, cT_nm, isT_nm, ne_eq, not_false_eq_true, Bool.not_true, Bool.not_false, ite_s, v_gcd, p_gcd, v_frac, p_frac, v_sign, p_sign, v_like, p_like, v_is, p_is, v_isN, v_isS, p_isN, p_isS, p_PP, v_common, v_lies, p_reaches, v_reaches, putD_lo, putD_li, putD_hi, putD_hin, lk_lo, lk_hi, v_lowest, p_lowest', v_as_number, v_as_numberI, v_as_numberQ, p_as_number', p_as_numberQ, p_as_numberI, v_less, p_less', v_may_stand, p_may_stand', p_SS, v_starts_first, v_ends_last, v_within, v_between, p_between', v_and, v_contains, v_eq, imp_TT, D.bl.injEq, and_imp, r_gt0, r_gts, r_st0, r_sts, r_uns0, r_unss, r_isIm, r_d, r_sqL, r_sqT, r_sqO, r_isOwn, r_isB, r_b, r_isI, r_i, r_DsqL, r_DsqT, r_isN_non, r_isN_bl, r_isN_int, r_isN_str, r_isN_tup, r_isN_lst, r_isN_ins, r_cI2, r_cI2C, r_gI2, r_cAddI, r_dAddI, r_cAddS, r_dAddS, r_cAddT, r_dAddT, r_nIxO, r_nIxL, r_nIxT, r_dIxL, r_dIxT, r_cIxL, r_cIxT, r_cN, r_cB2, r_cLenL, r_cLenT, r_gLenL, r_gLenT, r_cI1, r_cII, r_gAbs, r_gMax, r_gMin, r_cIntI, r_cIntB, r_gIntI, r_gIntB, r_gGcd, r_lstOf, r_insFs, r_nFld, r_reOwn, r_gPut, r_gsCons, r_gTupD, r_gTupDn, r_dAnd, r_dOr, r_dNot, r_agIs, r_agIsL, r_posts0, r_postsI, r_postsO, r_pinned0, r_pinnedI, r_pinnedO, r_slI, r_slO, r_frzVi, r_rtOwn, r_frzK, r_agD, r_agDo, r_agO, r_tG, r_slots0, r_slotsD, r_slotsS, r_arD, r_arS, r_ownAg, r_wb0, r_wbD, r_wbS, r_nd0, r_nd1, r_nd2, r_all0, r_all1, r_all2, r_isL, r_l, isT_int_int, cT_int_int, isT_bl_int, cT_bl_int, isT_str_int, cT_str_int, isT_tup_int, cT_tup_int, isT_lst_int, cT_lst_int, isT_non_int, cT_non_int, isT_int_bool, cT_int_bool, isT_bl_bool, cT_bl_bool, isT_str_bool, cT_str_bool, isT_tup_bool, cT_tup_bool, isT_lst_bool, cT_lst_bool, isT_non_bool, cT_non_bool, isT_int_str, cT_int_str, isT_bl_str, cT_bl_str, isT_str_str, cT_str_str, isT_tup_str, cT_tup_str, isT_lst_str, cT_lst_str, isT_non_str, cT_non_str, isT_int_tuple, cT_int_tuple, isT_bl_tuple, cT_bl_tuple, isT_str_tuple, cT_str_tuple, isT_tup_tuple, cT_tup_tuple, isT_lst_tuple, cT_lst_tuple, isT_non_tuple, cT_non_tuple, isT_int_list, cT_int_list, isT_bl_list, cT_bl_list, isT_str_list, cT_str_list, isT_tup_list, cT_tup_list, isT_lst_list, cT_lst_list, isT_non_list, cT_non_list, sl_le0, sl_le1, sl_le2, sl_le3, sl_le4, sl_le5, sl_le6, sl_le7, sl_le8, sl_le9, sl_le10, sl_le11]))
local macro_rules | `(tactic| walk_at "dbb") => `(tactic| (walk_at "dd"; simp only [bq1, bq2, bq3, bq4, Bool.or_false, Bool.false_or, Bool.or_true, Bool.true_or, Bool.and_false, Bool.false_and, Bool.true_and, Bool.and_true, Bool.not_true, Bool.not_false, likeD, imp_T, imp_F, imp_T', imp_F', imp_TT, true_and, and_true, and_self, dEqB_str, Bool.false_eq_true, Bool.true_eq_false, false_imp_iff, true_imp_iff, imp_self, reduceCtorEq]))
def topS (i : Nat) : Stmt := PySem.Challenge.pw_driftsure_k01_stretches_cut_beside_tuple.main.body.getD i (.Pass ⟨0, 0, 0, 0⟩)
abbrev s_lowest : Stmt := topS 21
abbrev n_lowest : List Str := ["top", "bottom", "shared"]
abbrev p_lowest : List Str := ["top", "bottom"]
theorem sc_lowest : FnScope n_lowest p_lowest (defScope s_lowest) := ⟨rfl, rfl, rfl, by decide +kernel, rfl, by decide +kernel, by decide +kernel⟩
abbrev s_as_number : Stmt := topS 22
abbrev n_as_number : List Str := ["value", "top", "bottom"]
abbrev p_as_number : List Str := ["value"]
theorem sc_as_number : FnScope n_as_number p_as_number (defScope s_as_number) := ⟨rfl, rfl, rfl, by decide +kernel, rfl, by decide +kernel, by decide +kernel⟩
abbrev s_less : Stmt := topS 27
abbrev n_less : List Str := ["a", "b"]
abbrev p_less : List Str := ["a", "b"]
theorem sc_less : FnScope n_less p_less (defScope s_less) := ⟨rfl, rfl, rfl, by decide +kernel, rfl, by decide +kernel, by decide +kernel⟩
abbrev s_may_stand : Stmt := topS 29
abbrev n_may_stand : List Str := ["low", "low_in", "high", "high_in"]
abbrev p_may_stand : List Str := ["low", "low_in", "high", "high_in"]
theorem sc_may_stand : FnScope n_may_stand p_may_stand (defScope s_may_stand) := ⟨rfl, rfl, rfl, by decide +kernel, rfl, by decide +kernel, by decide +kernel⟩
abbrev s_Stretch_ddinitdd : Stmt := inClass (topS 31) 0
abbrev n_Stretch_ddinitdd : List Str := ["self", "low", "low_in", "high", "high_in"]
abbrev p_Stretch_ddinitdd : List Str := ["self", "low", "low_in", "high", "high_in"]
theorem sc_Stretch_ddinitdd : FnScope n_Stretch_ddinitdd p_Stretch_ddinitdd (defScope s_Stretch_ddinitdd) := ⟨rfl, rfl, rfl, by decide +kernel, rfl, by decide +kernel, by decide +kernel⟩
abbrev s_starts_first : Stmt := topS 34
abbrev n_starts_first : List Str := ["one", "other"]
abbrev p_starts_first : List Str := ["one", "other"]
theorem sc_starts_first : FnScope n_starts_first p_starts_first (defScope s_starts_first) := ⟨rfl, rfl, rfl, by decide +kernel, rfl, by decide +kernel, by decide +kernel⟩
abbrev s_ends_last : Stmt := topS 35
abbrev n_ends_last : List Str := ["one", "other"]
abbrev p_ends_last : List Str := ["one", "other"]
theorem sc_ends_last : FnScope n_ends_last p_ends_last (defScope s_ends_last) := ⟨rfl, rfl, rfl, by decide +kernel, rfl, by decide +kernel, by decide +kernel⟩
abbrev s_Stretch_within : Stmt := inClass (topS 31) 5
abbrev n_Stretch_within : List Str := ["self", "other"]
abbrev p_Stretch_within : List Str := ["self", "other"]
theorem sc_Stretch_within : FnScope n_Stretch_within p_Stretch_within (defScope s_Stretch_within) := ⟨rfl, rfl, rfl, by decide +kernel, rfl, by decide +kernel, by decide +kernel⟩
abbrev s_between : Stmt := topS 33
abbrev n_between : List Str := ["low", "low_in", "high", "high_in"]
abbrev p_between : List Str := ["low", "low_in", "high", "high_in"]
theorem sc_between : FnScope n_between p_between (defScope s_between) := ⟨rfl, rfl, rfl, by decide +kernel, rfl, by decide +kernel, by decide +kernel⟩
abbrev s_Stretch_ddanddd : Stmt := inClass (topS 31) 6
abbrev n_Stretch_ddanddd : List Str := ["self", "other", "start", "end"]
abbrev p_Stretch_ddanddd : List Str := ["self", "other"]
theorem sc_Stretch_ddanddd : FnScope n_Stretch_ddanddd p_Stretch_ddanddd (defScope s_Stretch_ddanddd) := ⟨rfl, rfl, rfl, by decide +kernel, rfl, by decide +kernel, by decide +kernel⟩
abbrev s_Stretch_ddcontainsdd : Stmt := inClass (topS 31) 7
abbrev n_Stretch_ddcontainsdd : List Str := ["self", "number", "value"]
abbrev p_Stretch_ddcontainsdd : List Str := ["self", "number"]
theorem sc_Stretch_ddcontainsdd : FnScope n_Stretch_ddcontainsdd p_Stretch_ddcontainsdd (defScope s_Stretch_ddcontainsdd) := ⟨rfl, rfl, rfl, by decide +kernel, rfl, by decide +kernel, by decide +kernel⟩
abbrev s_Stretch_ddeqdd : Stmt := inClass (topS 31) 8
abbrev n_Stretch_ddeqdd : List Str := ["self", "other", "lows"]
abbrev p_Stretch_ddeqdd : List Str := ["self", "other"]
theorem sc_Stretch_ddeqdd : FnScope n_Stretch_ddeqdd p_Stretch_ddeqdd (defScope s_Stretch_ddeqdd) := ⟨rfl, rfl, rfl, by decide +kernel, rfl, by decide +kernel, by decide +kernel⟩
abbrev s__law_bag : Stmt := topS 37
abbrev n__law_bag : List Str := ["script", "mixed", "item"]
abbrev p__law_bag : List Str := ["script"]
theorem sc__law_bag : FnScope n__law_bag p__law_bag (defScope s__law_bag) := ⟨rfl, rfl, rfl, by decide +kernel, rfl, by decide +kernel, by decide +kernel⟩
abbrev s__law_draw : Stmt := topS 38
abbrev n__law_draw : List Str := ["bag", "size", "item", "digit"]
abbrev p__law_draw : List Str := ["bag", "size"]
theorem sc__law_draw : FnScope n__law_draw p__law_draw (defScope s__law_draw) := ⟨rfl, rfl, rfl, by decide +kernel, rfl, by decide +kernel, by decide +kernel⟩
abbrev s__law_of : Stmt := topS 39
abbrev n__law_of : List Str := ["bag", "things"]
abbrev p__law_of : List Str := ["bag", "things"]
theorem sc__law_of : FnScope n__law_of p__law_of (defScope s__law_of) := ⟨rfl, rfl, rfl, by decide +kernel, rfl, by decide +kernel, by decide +kernel⟩
abbrev s__law_like : Stmt := topS 40
abbrev n__law_like : List Str := ["told", "due", "k"]
abbrev p__law_like : List Str := ["told", "due"]
theorem sc__law_like : FnScope n__law_like p__law_like (defScope s__law_like) := ⟨rfl, rfl, rfl, by decide +kernel, rfl, by decide +kernel, by decide +kernel⟩
abbrev s__law_gcd : Stmt := topS 41
abbrev n__law_gcd : List Str := ["one", "two"]
abbrev p__law_gcd : List Str := ["one", "two"]
theorem sc__law_gcd : FnScope n__law_gcd p__law_gcd (defScope s__law_gcd) := ⟨rfl, rfl, rfl, by decide +kernel, rfl, by decide +kernel, by decide +kernel⟩
abbrev s__law_frac : Stmt := topS 42
abbrev n__law_frac : List Str := ["top", "under", "part"]
abbrev p__law_frac : List Str := ["top", "under"]
theorem sc__law_frac : FnScope n__law_frac p__law_frac (defScope s__law_frac) := ⟨rfl, rfl, rfl, by decide +kernel, rfl, by decide +kernel, by decide +kernel⟩
abbrev s__law_sign : Stmt := topS 43
abbrev n__law_sign : List Str := ["x", "y", "gap"]
abbrev p__law_sign : List Str := ["x", "y"]
theorem sc__law_sign : FnScope n__law_sign p__law_sign (defScope s__law_sign) := ⟨rfl, rfl, rfl, by decide +kernel, rfl, by decide +kernel, by decide +kernel⟩
abbrev s__law_form : Stmt := topS 44
abbrev n__law_form : List Str := ["bag", "x", "pick"]
abbrev p__law_form : List Str := ["bag", "x"]
theorem sc__law_form : FnScope n__law_form p__law_form (defScope s__law_form) := ⟨rfl, rfl, rfl, by decide +kernel, rfl, by decide +kernel, by decide +kernel⟩
abbrev s__law_piece : Stmt := topS 45
abbrev n__law_piece : List Str := ["bag", "most", "under", "pick", "lo", "hi"]
abbrev p__law_piece : List Str := ["bag", "most"]
theorem sc__law_piece : FnScope n__law_piece p__law_piece (defScope s__law_piece) := ⟨rfl, rfl, rfl, by decide +kernel, rfl, by decide +kernel, by decide +kernel⟩
abbrev s__law_stretch : Stmt := topS 46
abbrev n__law_stretch : List Str := ["bag", "part"]
abbrev p__law_stretch : List Str := ["bag", "part"]
theorem sc__law_stretch : FnScope n__law_stretch p__law_stretch (defScope s__law_stretch) := ⟨rfl, rfl, rfl, by decide +kernel, rfl, by decide +kernel, by decide +kernel⟩
abbrev s__law_is : Stmt := topS 47
abbrev n__law_is : List Str := ["told", "part"]
abbrev p__law_is : List Str := ["told", "part"]
theorem sc__law_is : FnScope n__law_is p__law_is (defScope s__law_is) := ⟨rfl, rfl, rfl, by decide +kernel, rfl, by decide +kernel, by decide +kernel⟩
abbrev s__law_common : Stmt := topS 48
abbrev n__law_common : List Str := ["one", "two", "lo", "hi", "lin", "hin", "gap"]
abbrev p__law_common : List Str := ["one", "two"]
theorem sc__law_common : FnScope n__law_common p__law_common (defScope s__law_common) := ⟨rfl, rfl, rfl, by decide +kernel, rfl, by decide +kernel, by decide +kernel⟩
abbrev s__law_drawn : Stmt := topS 49
abbrev n__law_drawn : List Str := ["bag", "parts", "k", "part", "near", "pick"]
abbrev p__law_drawn : List Str := ["bag"]
theorem sc__law_drawn : FnScope n__law_drawn p__law_drawn (defScope s__law_drawn) := ⟨rfl, rfl, rfl, by decide +kernel, rfl, by decide +kernel, by decide +kernel⟩
abbrev s__law_reaches : Stmt := topS 50
abbrev n__law_reaches : List Str := ["part", "x", "lo", "at_x", "hi"]
abbrev p__law_reaches : List Str := ["part", "x"]
theorem sc__law_reaches : FnScope n__law_reaches p__law_reaches (defScope s__law_reaches) := ⟨rfl, rfl, rfl, by decide +kernel, rfl, by decide +kernel, by decide +kernel⟩
abbrev s__law_lies : Stmt := topS 51
abbrev n__law_lies : List Str := ["one", "two", "gap"]
abbrev p__law_lies : List Str := ["one", "two"]
theorem sc__law_lies : FnScope n__law_lies p__law_lies (defScope s__law_lies) := ⟨rfl, rfl, rfl, by decide +kernel, rfl, by decide +kernel, by decide +kernel⟩
abbrev s__law_met : Stmt := topS 52
abbrev n__law_met : List Str := ["bag", "one", "two", "due", "first", "second", "told", "x", "both"]
abbrev p__law_met : List Str := ["bag", "one", "two"]
theorem sc__law_met : FnScope n__law_met p__law_met (defScope s__law_met) := ⟨rfl, rfl, rfl, by decide +kernel, rfl, by decide +kernel, by decide +kernel⟩
abbrev s_law : Stmt := topS 53
abbrev n_law : List Str := ["script", "bag", "parts", "one", "two", "first", "second", "third", "left", "right", "due"]
abbrev p_law : List Str := ["script"]
theorem sc_law : FnScope n_law p_law (defScope s_law) := ⟨rfl, rfl, rfl, by decide +kernel, rfl, by decide +kernel, by decide +kernel⟩
structure Txt (K : PySem.W.Frag) (mg : Str → Option Value) where
  a_lowest : Addr
  fd_lowest : FuncData
  F_lowest : Fun K "lowest" "lowest" s_lowest a_lowest fd_lowest
  b_lowest : Binds K fd_lowest p_lowest []
  g_lowest : mg "lowest" = some (.ref a_lowest)
  a_as_number : Addr
  fd_as_number : FuncData
  F_as_number : Fun K "as_number" "as_number" s_as_number a_as_number fd_as_number
  b_as_number : Binds K fd_as_number p_as_number []
  g_as_number : mg "as_number" = some (.ref a_as_number)
  a_less : Addr
  fd_less : FuncData
  F_less : Fun K "less" "less" s_less a_less fd_less
  b_less : Binds K fd_less p_less []
  g_less : mg "less" = some (.ref a_less)
  a_may_stand : Addr
  fd_may_stand : FuncData
  F_may_stand : Fun K "may_stand" "may_stand" s_may_stand a_may_stand fd_may_stand
  b_may_stand : Binds K fd_may_stand p_may_stand []
  g_may_stand : mg "may_stand" = some (.ref a_may_stand)
  a_Stretch_ddinitdd : Addr
  fd_Stretch_ddinitdd : FuncData
  F_Stretch_ddinitdd : Fun K "__init__" "Stretch.__init__" s_Stretch_ddinitdd a_Stretch_ddinitdd fd_Stretch_ddinitdd
  b_Stretch_ddinitdd : Binds K fd_Stretch_ddinitdd p_Stretch_ddinitdd []
  a_starts_first : Addr
  fd_starts_first : FuncData
  F_starts_first : Fun K "starts_first" "starts_first" s_starts_first a_starts_first fd_starts_first
  b_starts_first : Binds K fd_starts_first p_starts_first []
  g_starts_first : mg "starts_first" = some (.ref a_starts_first)
  a_ends_last : Addr
  fd_ends_last : FuncData
  F_ends_last : Fun K "ends_last" "ends_last" s_ends_last a_ends_last fd_ends_last
  b_ends_last : Binds K fd_ends_last p_ends_last []
  g_ends_last : mg "ends_last" = some (.ref a_ends_last)
  a_Stretch_within : Addr
  fd_Stretch_within : FuncData
  F_Stretch_within : Fun K "within" "Stretch.within" s_Stretch_within a_Stretch_within fd_Stretch_within
  b_Stretch_within : Binds K fd_Stretch_within p_Stretch_within []
  bk_Stretch_within : KBinds K fd_Stretch_within p_Stretch_within ["other"] g2 g2V
  a_between : Addr
  fd_between : FuncData
  F_between : Fun K "between" "between" s_between a_between fd_between
  b_between : Binds K fd_between p_between []
  g_between : mg "between" = some (.ref a_between)
  a_Stretch_ddanddd : Addr
  fd_Stretch_ddanddd : FuncData
  F_Stretch_ddanddd : Fun K "__and__" "Stretch.__and__" s_Stretch_ddanddd a_Stretch_ddanddd fd_Stretch_ddanddd
  b_Stretch_ddanddd : Binds K fd_Stretch_ddanddd p_Stretch_ddanddd []
  a_Stretch_ddcontainsdd : Addr
  fd_Stretch_ddcontainsdd : FuncData
  F_Stretch_ddcontainsdd : Fun K "__contains__" "Stretch.__contains__" s_Stretch_ddcontainsdd a_Stretch_ddcontainsdd fd_Stretch_ddcontainsdd
  b_Stretch_ddcontainsdd : Binds K fd_Stretch_ddcontainsdd p_Stretch_ddcontainsdd []
  a_Stretch_ddeqdd : Addr
  fd_Stretch_ddeqdd : FuncData
  F_Stretch_ddeqdd : Fun K "__eq__" "Stretch.__eq__" s_Stretch_ddeqdd a_Stretch_ddeqdd fd_Stretch_ddeqdd
  b_Stretch_ddeqdd : Binds K fd_Stretch_ddeqdd p_Stretch_ddeqdd []
  a__law_bag : Addr
  fd__law_bag : FuncData
  F__law_bag : Fun K "_law_bag" "_law_bag" s__law_bag a__law_bag fd__law_bag
  b__law_bag : Binds K fd__law_bag p__law_bag []
  g__law_bag : mg "_law_bag" = some (.ref a__law_bag)
  a__law_draw : Addr
  fd__law_draw : FuncData
  F__law_draw : Fun K "_law_draw" "_law_draw" s__law_draw a__law_draw fd__law_draw
  b__law_draw : Binds K fd__law_draw p__law_draw []
  g__law_draw : mg "_law_draw" = some (.ref a__law_draw)
  a__law_of : Addr
  fd__law_of : FuncData
  F__law_of : Fun K "_law_of" "_law_of" s__law_of a__law_of fd__law_of
  b__law_of : Binds K fd__law_of p__law_of []
  g__law_of : mg "_law_of" = some (.ref a__law_of)
  a__law_like : Addr
  fd__law_like : FuncData
  F__law_like : Fun K "_law_like" "_law_like" s__law_like a__law_like fd__law_like
  b__law_like : Binds K fd__law_like p__law_like []
  g__law_like : mg "_law_like" = some (.ref a__law_like)
  a__law_gcd : Addr
  fd__law_gcd : FuncData
  F__law_gcd : Fun K "_law_gcd" "_law_gcd" s__law_gcd a__law_gcd fd__law_gcd
  b__law_gcd : Binds K fd__law_gcd p__law_gcd []
  g__law_gcd : mg "_law_gcd" = some (.ref a__law_gcd)
  a__law_frac : Addr
  fd__law_frac : FuncData
  F__law_frac : Fun K "_law_frac" "_law_frac" s__law_frac a__law_frac fd__law_frac
  b__law_frac : Binds K fd__law_frac p__law_frac []
  g__law_frac : mg "_law_frac" = some (.ref a__law_frac)
  a__law_sign : Addr
  fd__law_sign : FuncData
  F__law_sign : Fun K "_law_sign" "_law_sign" s__law_sign a__law_sign fd__law_sign
  b__law_sign : Binds K fd__law_sign p__law_sign []
  g__law_sign : mg "_law_sign" = some (.ref a__law_sign)
  a__law_form : Addr
  fd__law_form : FuncData
  F__law_form : Fun K "_law_form" "_law_form" s__law_form a__law_form fd__law_form
  b__law_form : Binds K fd__law_form p__law_form []
  g__law_form : mg "_law_form" = some (.ref a__law_form)
  a__law_piece : Addr
  fd__law_piece : FuncData
  F__law_piece : Fun K "_law_piece" "_law_piece" s__law_piece a__law_piece fd__law_piece
  b__law_piece : Binds K fd__law_piece p__law_piece []
  g__law_piece : mg "_law_piece" = some (.ref a__law_piece)
  a__law_stretch : Addr
  fd__law_stretch : FuncData
  F__law_stretch : Fun K "_law_stretch" "_law_stretch" s__law_stretch a__law_stretch fd__law_stretch
  b__law_stretch : Binds K fd__law_stretch p__law_stretch []
  g__law_stretch : mg "_law_stretch" = some (.ref a__law_stretch)
  a__law_is : Addr
  fd__law_is : FuncData
  F__law_is : Fun K "_law_is" "_law_is" s__law_is a__law_is fd__law_is
  b__law_is : Binds K fd__law_is p__law_is []
  g__law_is : mg "_law_is" = some (.ref a__law_is)
  a__law_common : Addr
  fd__law_common : FuncData
  F__law_common : Fun K "_law_common" "_law_common" s__law_common a__law_common fd__law_common
  b__law_common : Binds K fd__law_common p__law_common []
  g__law_common : mg "_law_common" = some (.ref a__law_common)
  a__law_drawn : Addr
  fd__law_drawn : FuncData
  F__law_drawn : Fun K "_law_drawn" "_law_drawn" s__law_drawn a__law_drawn fd__law_drawn
  b__law_drawn : Binds K fd__law_drawn p__law_drawn []
  g__law_drawn : mg "_law_drawn" = some (.ref a__law_drawn)
  a__law_reaches : Addr
  fd__law_reaches : FuncData
  F__law_reaches : Fun K "_law_reaches" "_law_reaches" s__law_reaches a__law_reaches fd__law_reaches
  b__law_reaches : Binds K fd__law_reaches p__law_reaches []
  g__law_reaches : mg "_law_reaches" = some (.ref a__law_reaches)
  a__law_lies : Addr
  fd__law_lies : FuncData
  F__law_lies : Fun K "_law_lies" "_law_lies" s__law_lies a__law_lies fd__law_lies
  b__law_lies : Binds K fd__law_lies p__law_lies []
  g__law_lies : mg "_law_lies" = some (.ref a__law_lies)
  a__law_met : Addr
  fd__law_met : FuncData
  F__law_met : Fun K "_law_met" "_law_met" s__law_met a__law_met fd__law_met
  b__law_met : Binds K fd__law_met p__law_met []
  g__law_met : mg "_law_met" = some (.ref a__law_met)
  a_law : Addr
  fd_law : FuncData
  F_law : Fun K "law" "law" s_law a_law fd_law
  b_law : Binds K fd_law p_law []
  g_law : mg "law" = some (.ref a_law)
  c_Stretch : Addr
  gc_Stretch : mg "Stretch" = some (.ref c_Stretch)
  kc_Stretch : KCls K c_Stretch
  sf_Stretch : PySem.W.selfFirst K c_Stretch = true
  mkk_Stretch : Mk K c_Stretch a_Stretch_ddinitdd
  m_Stretch_within : Meth K c_Stretch "within" a_Stretch_within
  m_Stretch_ddanddd : Meth K c_Stretch "__and__" a_Stretch_ddanddd
  m_Stretch_ddcontainsdd : Meth K c_Stretch "__contains__" a_Stretch_ddcontainsdd
  m_Stretch_ddeqdd : Meth K c_Stretch "__eq__" a_Stretch_ddeqdd
  na_Stretch_low : NoAttr K c_Stretch "low"
  na_Stretch_low_in : NoAttr K c_Stretch "low_in"
  na_Stretch_high : NoAttr K c_Stretch "high"
  na_Stretch_high_in : NoAttr K c_Stretch "high_in"
  z_len : mg "len" = none
  z_int : mg "int" = none
  z_abs : mg "abs" = none
  z_max : mg "max" = none
  z_min : mg "min" = none
  z_isinstance : mg "isinstance" = none
  z_bool : mg "bool" = none
  z_str : mg "str" = none
  z_list : mg "list" = none
  z_tuple : mg "tuple" = none
  z_range : mg "range" = none
  aZERO : Addr
  gZERO : mg "ZERO" = some (.ref aZERO)
  rZERO : ∀ Z, Rep K Z (.ref aZERO) (nm (0, 1))
  aONE : Addr
  gONE : mg "ONE" = some (.ref aONE)
  rONE : ∀ Z, Rep K Z (.ref aONE) (nm (1, 1))
  z_gcd : mg "gcd" = some (.builtin "math.gcd")
theorem Txt.cl_Stretch {K : PySem.W.Frag} {mg : Str → Option Value} (T : Txt K mg) : Cls K T.c_Stretch := T.kc_Stretch.cl
section
variable {P : Program} {w : World} {K : PySem.W.Frag} {mg : Str → Option Value} {base : Heap}
set_option maxHeartbeats 4000000 in
theorem ok_lowest (T : Txt K mg) : FnOk P w K mg base CX0 1 T.a_lowest T.fd_lowest p_lowest (SpP K 2 pre_lowest val_lowest) := by
  have sc := sc_lowest
  refine fok_p T.F_lowest sc_lowest rfl 1 rfl fun cdv A outer s H E hr => ⟨_, (dss_cons (ds_set 2 sc_lowest.nd (de_p (dp_bf c_gcd T.z_gcd (dpa_cons (dp_var 0) (dpa_cons (dp_var 1) dpa_nil)))))
      (dss_cons (ds_if (du_q (dq_cmp (o_eq hr) (dp_var 2) dp_int))
      (dss_one (ds_ret (dp_tup (dpa_cons (dp_var 0) (dpa_cons (dp_var 1) dpa_nil)))))
      dss_nil)
      (dss_one (ds_ret (dp_tup (dpa_cons (dp_op o_div (dp_var 0) (dp_var 2)) (dpa_cons (dp_op o_div (dp_var 1) (dp_var 2)) dpa_nil))))))), fun ds hl hp => ?_⟩
  clear sc hr
  clear hl
  match ds, hp with
  | [.int a, .int b], h =>
    walk_at "dd"
    have hg : (0 : Int) < (Nat.gcd a.natAbs b.natAbs : Nat) := gcdI_pos (a := a) h.2.2
    have hs : ((Nat.gcd a.natAbs b.natAbs : Nat) : Int).natAbs < 2 ^ 8000 := Nat.lt_of_le_of_lt (by have := gcdI_le (a := a) h.2.2; unfold gcdI at this; have := h.2.2; dsimp only at *; omega) h.2.1
    refine ⟨fun e => ?_, fun _ => ⟨⟨divW hg hs (by decide) _, divW hg hs (by decide) _⟩, rfl⟩⟩
    rw [decide_eq_true_eq] at e
    have e2 : lowQ (a, b) = (a, b) := lowQ_of_told ⟨h.2.2, e⟩
    show nm (a, b) = nm (lowQ (a, b))
    rw [e2]
theorem fn_lowest (T : Txt K mg) : Fn P w K mg base "lowest" 1 (SpP K 2 pre_lowest val_lowest) := .of T.F_lowest (ok_lowest T) T.g_lowest T.b_lowest
set_option maxHeartbeats 4000000 in
theorem ok_as_number (T : Txt K mg) : FnOk P w K mg base CX0 2 T.a_as_number T.fd_as_number p_as_number (SpP K 1 pre_as_number val_as_number) := by
  have sc := sc_as_number
  refine fok_p T.F_as_number sc_as_number rfl 2 rfl fun cdv A outer s H E hr => ⟨_, (dss_cons (ds_if (du_q (dq_val (dp_isiT (T := "int") T.z_isinstance T.z_int (by decide +kernel) (dp_var 0))))
      (dss_one (ds_ret (dp_tup (dpa_cons (dp_var 0) (dpa_cons dp_int dpa_nil)))))
      dss_nil)
      (dss_cons (ds_asg (de_p (dp_var 0)) (dg_tup (n := 2) rfl (dgs_cons (dg_name 1 sc_as_number.nd) (dgs_cons (dg_name 2 sc_as_number.nd) dgs_nil))))
      (dss_one (ds_ret (dp_call (fn_lowest (P := P) (w := w) (base := base) T) (hr.mono (by decide)) (dpa_cons (dp_var 1) (dpa_cons (dp_var 2) dpa_nil))))))), fun ds hl hp => ?_⟩
  clear sc hr
  clear hl
  match ds, hp with
  | [x], ⟨f, hx, hf⟩ =>
    subst hx
    cases f with
    | i a =>
      dsimp only [Nf.d]
      walk_at "dd"
      rfl
    | fr q =>
      dsimp only [Nf.d]
      walk_at "dd"
      exact Sz.mono hf (by decide)
theorem fn_as_number (T : Txt K mg) : Fn P w K mg base "as_number" 2 (SpP K 1 pre_as_number val_as_number) := .of T.F_as_number (ok_as_number T) T.g_as_number T.b_as_number
set_option maxHeartbeats 4000000 in
theorem ok_less (T : Txt K mg) : FnOk P w K mg base CX0 1 T.a_less T.fd_less p_less (SpP K 2 pre_less val_less) := by
  have sc := sc_less
  refine fok_p T.F_less sc_less rfl 0 rfl fun cdv A outer s H E hr => ⟨_, (dss_one (ds_ret (dp_cmp o_lt (dp_op o_mul (dp_ix (dp_var 0) dp_int) (dp_ix (dp_var 1) dp_int)) (dp_op o_mul (dp_ix (dp_var 1) dp_int) (dp_ix (dp_var 0) dp_int))))), fun ds hl hp => ?_⟩
  clear sc hr
  clear hl
  match ds, hp with
  | [x, y], ⟨a, b, hx, hy, ha, hb⟩ =>
    subst hx hy
    walk_at "dd"
    exact ⟨⟨mulW ha.1 hb.2.1 (by decide), mulW hb.1 ha.2.1 (by decide)⟩, rfl⟩
theorem fn_less (T : Txt K mg) : Fn P w K mg base "less" 1 (SpP K 2 pre_less val_less) := .of T.F_less (ok_less T) T.g_less T.b_less
set_option maxHeartbeats 4000000 in
theorem ok_may_stand (T : Txt K mg) : FnOk P w K mg base CX0 2 T.a_may_stand T.fd_may_stand p_may_stand (SpP K 4 pre_may_stand val_may_stand) := by
  have sc := sc_may_stand
  refine fok_p T.F_may_stand sc_may_stand rfl 0 rfl fun cdv A outer s H E hr => ⟨_, (dss_cons (ds_if (du_q (dq_w (dw_or (dq_val (dp_call (fn_less (P := P) (w := w) (base := base) T) (hr.mono (by decide)) (dpa_cons (dp_var 0) (dpa_cons (dp_glob (v := .ref T.aZERO) rfl T.gZERO rfl T.rZERO) dpa_nil)))) (dw_or (dq_val (dp_call (fn_less (P := P) (w := w) (base := base) T) (hr.mono (by decide)) (dpa_cons (dp_var 2) (dpa_cons (dp_var 0) dpa_nil)))) (dw_or1 (dq_val (dp_call (fn_less (P := P) (w := w) (base := base) T) (hr.mono (by decide)) (dpa_cons (dp_glob (v := .ref T.aONE) rfl T.gONE rfl T.rONE) (dpa_cons (dp_var 2) dpa_nil)))))))))
      (dss_one (ds_ret dp_bl))
      dss_nil)
      (dss_cons (ds_if (du_q (dq_w (dw_and (dq_cmp (o_eq hr) (dp_var 0) (dp_var 2)) (dw_and1 (dq_not (dq_w (dw_and (dq_val (dp_var 1)) (dw_and1 (dq_val (dp_var 3))))))))))
      (dss_one (ds_ret dp_bl))
      dss_nil)
      (dss_one (ds_ret (dp_and (dp_not (dp_and (dp_var 1) (dp_one (dp_cmp (o_eq hr) (dp_var 0) (dp_glob (v := .ref T.aZERO) rfl T.gZERO rfl T.rZERO))))) (dp_one (dp_not (dp_and (dp_var 3) (dp_one (dp_cmp (o_eq hr) (dp_var 2) (dp_glob (v := .ref T.aONE) rfl T.gONE rfl T.rONE))))))))))), fun ds hl hp => ?_⟩
  clear sc hr
  clear hl
  match ds, hp with
  | [x, .bl a, y, .bl b], ⟨p, q, hx, hy, hp, hq⟩ =>
    subst hx hy
    walk_at "dd"
    have z0 : Sz B (0, 1) := sz0 (by decide)
    have z1 : Sz B (1, 1) := sz1 (by decide)
    refine ⟨⟨⟨hp, z0⟩, fun _ => ⟨⟨hq, hp⟩, fun _ => ⟨z1, hq⟩⟩⟩, ?_⟩
    simp only [mayQ]
    generalize ltQ p (0, 1) = x1
    generalize ltQ q p = x2
    generalize ltQ (1, 1) q = x3
    generalize decide (p = q) = x4
    generalize decide (p = (0, 1)) = x5
    generalize decide (q = (1, 1)) = x6
    revert a b x1 x2 x3 x4 x5 x6
    decide
theorem fn_may_stand (T : Txt K mg) : Fn P w K mg base "may_stand" 2 (SpP K 4 pre_may_stand val_may_stand) := .of T.F_may_stand (ok_may_stand T) T.g_may_stand T.b_may_stand
set_option maxHeartbeats 4000000 in
theorem ok_Stretch_ddinitdd (T : Txt K mg) : FnOk P w K mg base CX0 3 T.a_Stretch_ddinitdd T.fd_Stretch_ddinitdd p_Stretch_ddinitdd (SpG K 5 (SInit T.c_Stretch pre_Stretch_ddinitdd val_Stretch_ddinitdd)) := by
  have sc := sc_Stretch_ddinitdd
  refine fok_g T.F_Stretch_ddinitdd sc_Stretch_ddinitdd rfl 0 rfl fun cdv A outer s H E hr => ⟨_, (dss_cons (ds_fld T.cl_Stretch T.na_Stretch_low (pv 0) (de_p (dp_call (fn_as_number (P := P) (w := w) (base := base) T) (hr.mono (by decide)) (dpa_cons (dp_var 1) dpa_nil))))
      (dss_cons (ds_fld T.cl_Stretch T.na_Stretch_low_in (pv 0) (de_p (dp_var 2)))
      (dss_cons (ds_fld T.cl_Stretch T.na_Stretch_high (pv 0) (de_p (dp_call (fn_as_number (P := P) (w := w) (base := base) T) (hr.mono (by decide)) (dpa_cons (dp_var 3) dpa_nil))))
      (dss_cons (ds_fld T.cl_Stretch T.na_Stretch_high_in (pv 0) (de_p (dp_var 4)))
      (dss_one (ds_if (du_q (dq_not (dq_val (dp_call (fn_may_stand (P := P) (w := w) (base := base) T) (hr.mono (by decide)) (dpa_cons (dp_fldN T.cl_Stretch T.na_Stretch_low (pv 0)) (dpa_cons (dp_var 2) (dpa_cons (dp_fldN T.cl_Stretch T.na_Stretch_high (pv 0)) (dpa_cons (dp_var 4) dpa_nil))))))))
      (dss_one ds_never)
      dss_nil)))))), fun as kk hS hl => ?_⟩
  clear sc hr
  clear hl
  obtain ⟨ds, rfl, hp, hk⟩ := hS
  match ds, hp, hk with
  | [x, .bl a, y, .bl b], ⟨f, g, hx, hy, hf, hg, hm⟩, hk =>
    subst hx hy
    walk_at "dd"
    refine ⟨hf, by decide, by decide, hg, by decide, by decide, ⟨Nf.szv hf, Nf.szv hg⟩, fun h => ?_, fun _ => ?_⟩
    · rw [hm] at h; cases h
    · have e : val_Stretch_ddinitdd [f.d, .bl a, g.d, .bl b] = Part.fs ⟨asN f.d, a, asN g.d, b⟩ := rfl
      rw [e, asN_d, asN_d] at hk
      exact hk
theorem mk_Stretch (T : Txt K mg) : Mke P w K mg base "Stretch" T.c_Stretch 3 (SpG K 5 (SInit T.c_Stretch pre_Stretch_ddinitdd val_Stretch_ddinitdd)) := ⟨⟨_, _, _, ok_Stretch_ddinitdd T, T.mkk_Stretch, T.b_Stretch_ddinitdd⟩, T.gc_Stretch⟩
set_option maxHeartbeats 4000000 in
theorem ok_starts_first (T : Txt K mg) : FnOk P w K mg base CX0 2 T.a_starts_first T.fd_starts_first p_starts_first (SpP K 2 (pre_starts_first T.c_Stretch) (val_starts_first T.c_Stretch)) := by
  have sc := sc_starts_first
  refine fok_p T.F_starts_first sc_starts_first rfl 0 rfl fun cdv A outer s H E hr => ⟨_, (dss_cons (ds_if (du_q (dq_cmp (o_eq hr) (dp_fld T.cl_Stretch T.na_Stretch_low (dp_var 0)) (dp_fld T.cl_Stretch T.na_Stretch_low (dp_var 1))))
      (dss_one (ds_ret (dp_or (dp_fld T.cl_Stretch T.na_Stretch_low_in (dp_var 0)) (dp_one (dp_not (dp_fld T.cl_Stretch T.na_Stretch_low_in (dp_var 1)))))))
      dss_nil)
      (dss_one (ds_ret (dp_call (fn_less (P := P) (w := w) (base := base) T) (hr.mono (by decide)) (dpa_cons (dp_fld T.cl_Stretch T.na_Stretch_low (dp_var 0)) (dpa_cons (dp_fld T.cl_Stretch T.na_Stretch_low (dp_var 1)) dpa_nil)))))), fun ds hl hp => ?_⟩
  clear sc hr
  clear hl
  match ds, hp with
  | [x, y], ⟨p, q, hx, hy, hp, hq⟩ =>
    subst hx hy
    walk_at "dd"
    simp only [sfQ]
    by_cases e : p.lo = q.lo
    · rw [if_pos e]; exact ⟨fun _ => rfl, fun h => absurd (decide_eq_true e) (by rw [h]; decide)⟩
    · rw [if_neg e]; exact ⟨fun h => absurd (of_decide_eq_true h) e, fun _ => ⟨by first | exact ⟨hp.sz.1, hq.sz.1⟩ | exact ⟨hq.sz.2, hp.sz.2⟩, rfl⟩⟩
theorem fn_starts_first (T : Txt K mg) : Fn P w K mg base "starts_first" 2 (SpP K 2 (pre_starts_first T.c_Stretch) (val_starts_first T.c_Stretch)) := .of T.F_starts_first (ok_starts_first T) T.g_starts_first T.b_starts_first
set_option maxHeartbeats 4000000 in
theorem ok_ends_last (T : Txt K mg) : FnOk P w K mg base CX0 2 T.a_ends_last T.fd_ends_last p_ends_last (SpP K 2 (pre_ends_last T.c_Stretch) (val_ends_last T.c_Stretch)) := by
  have sc := sc_ends_last
  refine fok_p T.F_ends_last sc_ends_last rfl 0 rfl fun cdv A outer s H E hr => ⟨_, (dss_cons (ds_if (du_q (dq_cmp (o_eq hr) (dp_fld T.cl_Stretch T.na_Stretch_high (dp_var 0)) (dp_fld T.cl_Stretch T.na_Stretch_high (dp_var 1))))
      (dss_one (ds_ret (dp_or (dp_fld T.cl_Stretch T.na_Stretch_high_in (dp_var 0)) (dp_one (dp_not (dp_fld T.cl_Stretch T.na_Stretch_high_in (dp_var 1)))))))
      dss_nil)
      (dss_one (ds_ret (dp_call (fn_less (P := P) (w := w) (base := base) T) (hr.mono (by decide)) (dpa_cons (dp_fld T.cl_Stretch T.na_Stretch_high (dp_var 1)) (dpa_cons (dp_fld T.cl_Stretch T.na_Stretch_high (dp_var 0)) dpa_nil)))))), fun ds hl hp => ?_⟩
  clear sc hr
  clear hl
  match ds, hp with
  | [x, y], ⟨p, q, hx, hy, hp, hq⟩ =>
    subst hx hy
    walk_at "dd"
    simp only [elQ]
    by_cases e : p.hi = q.hi
    · rw [if_pos e]; exact ⟨fun _ => rfl, fun h => absurd (decide_eq_true e) (by rw [h]; decide)⟩
    · rw [if_neg e]; exact ⟨fun h => absurd (of_decide_eq_true h) e, fun _ => ⟨by first | exact ⟨hp.sz.1, hq.sz.1⟩ | exact ⟨hq.sz.2, hp.sz.2⟩, rfl⟩⟩
theorem fn_ends_last (T : Txt K mg) : Fn P w K mg base "ends_last" 2 (SpP K 2 (pre_ends_last T.c_Stretch) (val_ends_last T.c_Stretch)) := .of T.F_ends_last (ok_ends_last T) T.g_ends_last T.b_ends_last
set_option maxHeartbeats 4000000 in
theorem ok_Stretch_within (T : Txt K mg) : FnOk P w K mg base CX0 3 T.a_Stretch_within T.fd_Stretch_within p_Stretch_within (SpP K 2 (pre_Stretch_within T.c_Stretch) (val_Stretch_within T.c_Stretch)) := by
  have sc := sc_Stretch_within
  refine fok_p T.F_Stretch_within sc_Stretch_within rfl 0 rfl fun cdv A outer s H E hr => ⟨_, (dss_one (ds_ret (dp_and (dp_call (fn_starts_first (P := P) (w := w) (base := base) T) (hr.mono (by decide)) (dpa_cons (dp_var 1) (dpa_cons (dp_var 0) dpa_nil))) (dp_one (dp_call (fn_ends_last (P := P) (w := w) (base := base) T) (hr.mono (by decide)) (dpa_cons (dp_var 1) (dpa_cons (dp_var 0) dpa_nil))))))), fun ds hl hp => ?_⟩
  clear sc hr
  clear hl
  match ds, hp with
  | [x, y], ⟨p, q, hx, hy, hp, hq⟩ =>
    subst hx hy
    walk_at "dd"
    exact ⟨⟨⟨hq, hp⟩, fun _ => ⟨hq, hp⟩⟩, rfl⟩
theorem mt_Stretch_within (T : Txt K mg) : Mt P w K mg base T.c_Stretch "within" 3 (SpP K 2 (pre_Stretch_within T.c_Stretch) (val_Stretch_within T.c_Stretch)) := ⟨T.cl_Stretch, T.sf_Stretch, _, _, _, ok_Stretch_within T, T.m_Stretch_within, T.b_Stretch_within⟩
theorem mtk_Stretch_within (T : Txt K mg) : MtK P w K mg base T.c_Stretch "within" ["other"] 3 (SpP K 2 (pre_Stretch_within T.c_Stretch) (val_Stretch_within T.c_Stretch)) := ⟨T.cl_Stretch, _, _, _, ok_Stretch_within T, T.m_Stretch_within, T.bk_Stretch_within⟩
set_option maxHeartbeats 4000000 in
theorem ok_between (T : Txt K mg) : FnOk P w K mg base CX0 5 T.a_between T.fd_between p_between (SpP K 4 (pre_between T.c_Stretch) (val_between T.c_Stretch)) := by
  have sc := sc_between
  refine fok_p T.F_between sc_between rfl 0 rfl fun cdv A outer s H E hr => ⟨_, (dss_cons (ds_if (du_q (dq_not (dq_val (dp_call (fn_less (P := P) (w := w) (base := base) T) (hr.mono (by decide)) (dpa_cons (dp_glob (v := .ref T.aZERO) rfl T.gZERO rfl T.rZERO) (dpa_cons (dp_var 0) dpa_nil))))))
      (dss_one (ds_par (i := 0) (j := 1) rfl sc_between.nd (dls_cons (de_p (dp_glob (v := .ref T.aZERO) rfl T.gZERO rfl T.rZERO)) (dls_cons (de_p dp_bl) dls_nil))))
      dss_nil)
      (dss_cons (ds_if (du_q (dq_not (dq_val (dp_call (fn_less (P := P) (w := w) (base := base) T) (hr.mono (by decide)) (dpa_cons (dp_var 2) (dpa_cons (dp_glob (v := .ref T.aONE) rfl T.gONE rfl T.rONE) dpa_nil))))))
      (dss_one (ds_par (i := 2) (j := 3) rfl sc_between.nd (dls_cons (de_p (dp_glob (v := .ref T.aONE) rfl T.gONE rfl T.rONE)) (dls_cons (de_p dp_bl) dls_nil))))
      dss_nil)
      (dss_cons (ds_if (du_q (dq_w (dw_or (dq_val (dp_call (fn_less (P := P) (w := w) (base := base) T) (hr.mono (by decide)) (dpa_cons (dp_var 0) (dpa_cons (dp_var 2) dpa_nil)))) (dw_or1 (dq_w (dw_and (dq_cmp (o_eq hr) (dp_var 0) (dp_var 2)) (dw_and (dq_val (dp_var 1)) (dw_and1 (dq_val (dp_var 3))))))))))
      (dss_one (ds_ret (dp_make (mk_Stretch (P := P) (w := w) (base := base) T) (hr.mono (by decide)) (dpa_cons (dp_var 0) (dpa_cons (dp_var 1) (dpa_cons (dp_var 2) (dpa_cons (dp_var 3) dpa_nil)))))))
      dss_nil)
      (dss_one (ds_ret dp_non))))), fun ds hl hp => ?_⟩
  clear sc hr
  clear hl
  match ds, hp with
  | [x, .bl a, y, .bl b], ⟨p, q, hx, hy, hp, hq, tp, tq⟩ =>
    subst hx hy
    walk_at "dd"
    have z0 : Sz B (0, 1) := sz0 (by decide)
    have z1 : Sz B (1, 1) := sz1 (by decide)
    have key : ∀ x y xb yb, loB ⟨p, a, q, b⟩ = (x, xb) → hiB ⟨p, a, q, b⟩ = (y, yb) → _ := fun x y xb yb => bet_leaf (C := T.c_Stretch) (P := ⟨p, a, q, b⟩) (x := x) (y := y) (xb := xb) (yb := yb) ⟨hp, hq⟩ tp tq
    exact ⟨⟨z0, hp⟩, fun h1 => ⟨⟨hq, z1⟩, fun h2 => key _ _ _ _ (loB_t h1) (hiB_t h2), fun h2 => key _ _ _ _ (loB_t h1) (hiB_f h2)⟩, fun h1 => ⟨⟨hq, z1⟩, fun h2 => key _ _ _ _ (loB_f h1) (hiB_t h2), fun h2 => key _ _ _ _ (loB_f h1) (hiB_f h2)⟩⟩
theorem fn_between (T : Txt K mg) : Fn P w K mg base "between" 5 (SpP K 4 (pre_between T.c_Stretch) (val_between T.c_Stretch)) := .of T.F_between (ok_between T) T.g_between T.b_between
set_option maxHeartbeats 4000000 in
theorem ok_Stretch_ddanddd (T : Txt K mg) : FnOk P w K mg base CX0 6 T.a_Stretch_ddanddd T.fd_Stretch_ddanddd p_Stretch_ddanddd (SpP K 2 (pre_Stretch_ddanddd T.c_Stretch) (val_Stretch_ddanddd T.c_Stretch)) := by
  have sc := sc_Stretch_ddanddd
  refine fok_p T.F_Stretch_ddanddd sc_Stretch_ddanddd rfl 2 rfl fun cdv A outer s H E hr => ⟨_, (dss_cons (ds_set 2 sc_Stretch_ddanddd.nd (de_p (dp_if (dq_val (dp_call (fn_starts_first (P := P) (w := w) (base := base) T) (hr.mono (by decide)) (dpa_cons (dp_var 1) (dpa_cons (dp_var 0) dpa_nil)))) (dp_var 0) (dp_var 1))))
      (dss_cons (ds_set 3 sc_Stretch_ddanddd.nd (de_p (dp_if (dq_val (dp_call (fn_ends_last (P := P) (w := w) (base := base) T) (hr.mono (by decide)) (dpa_cons (dp_var 1) (dpa_cons (dp_var 0) dpa_nil)))) (dp_var 0) (dp_var 1))))
      (dss_one (ds_ret (dp_call (fn_between (P := P) (w := w) (base := base) T) (hr.mono (by decide)) (dpa_cons (dp_fld T.cl_Stretch T.na_Stretch_low (dp_var 2)) (dpa_cons (dp_fld T.cl_Stretch T.na_Stretch_low_in (dp_var 2)) (dpa_cons (dp_fld T.cl_Stretch T.na_Stretch_high (dp_var 3)) (dpa_cons (dp_fld T.cl_Stretch T.na_Stretch_high_in (dp_var 3)) dpa_nil))))))))), fun ds hl hp => ?_⟩
  clear sc hr
  clear hl
  match ds, hp with
  | [x, y], ⟨p, q, hx, hy, hp, hq⟩ =>
    subst hx hy
    walk_at "dd"
    have h1 : Part.Ok B (if sfQ q p = true then p else q) := hp.ite hq
    have h2 : Part.Ok B (if elQ q p = true then p else q) := hp.ite hq
    exact ⟨⟨hq, hp⟩, ⟨hq, hp⟩, ⟨h1.sz.1, h2.sz.2, h1.tlo, h2.thi⟩, rfl⟩
theorem mt_Stretch_ddanddd (T : Txt K mg) : Mt P w K mg base T.c_Stretch "__and__" 6 (SpP K 2 (pre_Stretch_ddanddd T.c_Stretch) (val_Stretch_ddanddd T.c_Stretch)) := ⟨T.cl_Stretch, T.sf_Stretch, _, _, _, ok_Stretch_ddanddd T, T.m_Stretch_ddanddd, T.b_Stretch_ddanddd⟩
set_option maxHeartbeats 4000000 in
theorem ok_Stretch_ddcontainsdd (T : Txt K mg) : FnOk P w K mg base CX0 3 T.a_Stretch_ddcontainsdd T.fd_Stretch_ddcontainsdd p_Stretch_ddcontainsdd (SpP K 2 (pre_Stretch_ddcontainsdd T.c_Stretch) (val_Stretch_ddcontainsdd T.c_Stretch)) := by
  have sc := sc_Stretch_ddcontainsdd
  refine fok_p T.F_Stretch_ddcontainsdd sc_Stretch_ddcontainsdd rfl 1 rfl fun cdv A outer s H E hr => ⟨_, (dss_cons (ds_set 2 sc_Stretch_ddcontainsdd.nd (de_p (dp_call (fn_as_number (P := P) (w := w) (base := base) T) (hr.mono (by decide)) (dpa_cons (dp_var 1) dpa_nil))))
      (dss_cons (ds_if (du_q (dq_w (dw_or (dq_val (dp_call (fn_less (P := P) (w := w) (base := base) T) (hr.mono (by decide)) (dpa_cons (dp_var 2) (dpa_cons (dp_fld T.cl_Stretch T.na_Stretch_low (dp_var 0)) dpa_nil)))) (dw_or1 (dq_val (dp_call (fn_less (P := P) (w := w) (base := base) T) (hr.mono (by decide)) (dpa_cons (dp_fld T.cl_Stretch T.na_Stretch_high (dp_var 0)) (dpa_cons (dp_var 2) dpa_nil))))))))
      (dss_one (ds_ret dp_bl))
      dss_nil)
      (dss_cons (ds_if (du_q (dq_w (dw_and (dq_cmp (o_eq hr) (dp_var 2) (dp_fld T.cl_Stretch T.na_Stretch_low (dp_var 0))) (dw_and1 (dq_not (dq_val (dp_fld T.cl_Stretch T.na_Stretch_low_in (dp_var 0))))))))
      (dss_one (ds_ret dp_bl))
      dss_nil)
      (dss_one (ds_ret (dp_or (dp_fld T.cl_Stretch T.na_Stretch_high_in (dp_var 0)) (dp_one (dp_cmp (o_ne hr) (dp_var 2) (dp_fld T.cl_Stretch T.na_Stretch_high (dp_var 0)))))))))), fun ds hl hp => ?_⟩
  clear sc hr
  clear hl
  match ds, hp with
  | [x, y], ⟨p, f, hx, hy, hp, hf⟩ =>
    subst hx hy
    walk_at "dd"
    have zf := Nf.szv hf
    refine ⟨hf, ⟨⟨zf, hp.sz.1⟩, fun _ => ⟨hp.sz.2, zf⟩⟩, fun h => ?_, fun h => ⟨fun k => ?_, fun k => ?_⟩⟩
    · unfold conQ; rw [if_pos h]
    · unfold conQ; rw [if_neg (by rw [h]; decide), if_pos k]
    · unfold conQ; rw [if_neg (by rw [h]; decide), if_neg (by rw [k]; decide)]
theorem mt_Stretch_ddcontainsdd (T : Txt K mg) : Mt P w K mg base T.c_Stretch "__contains__" 3 (SpP K 2 (pre_Stretch_ddcontainsdd T.c_Stretch) (val_Stretch_ddcontainsdd T.c_Stretch)) := ⟨T.cl_Stretch, T.sf_Stretch, _, _, _, ok_Stretch_ddcontainsdd T, T.m_Stretch_ddcontainsdd, T.b_Stretch_ddcontainsdd⟩
set_option maxHeartbeats 4000000 in
theorem ok_Stretch_ddeqdd (T : Txt K mg) : FnOk P w K mg base CX0 2 T.a_Stretch_ddeqdd T.fd_Stretch_ddeqdd p_Stretch_ddeqdd (SpP K 2 (pre_Stretch_ddeqdd T.c_Stretch) (val_Stretch_ddeqdd T.c_Stretch)) := by
  have sc := sc_Stretch_ddeqdd
  refine fok_p T.F_Stretch_ddeqdd sc_Stretch_ddeqdd rfl 1 rfl fun cdv A outer s H E hr => ⟨_, (dss_cons (ds_if (du_q (dq_not (dq_val (dp_isiC T.kc_Stretch T.z_isinstance T.gc_Stretch (dp_var 1)))))
      (dss_one (ds_ret dp_bl))
      dss_nil)
      (dss_cons (ds_set 2 sc_Stretch_ddeqdd.nd (de_p (dp_and (dp_cmp (o_eq hr) (dp_fld T.cl_Stretch T.na_Stretch_low (dp_var 0)) (dp_fld T.cl_Stretch T.na_Stretch_low (dp_var 1))) (dp_one (dp_cmp (o_eq hr) (dp_fld T.cl_Stretch T.na_Stretch_low_in (dp_var 0)) (dp_fld T.cl_Stretch T.na_Stretch_low_in (dp_var 1)))))))
      (dss_one (ds_ret (dp_and (dp_var 2) (dp_and (dp_cmp (o_eq hr) (dp_fld T.cl_Stretch T.na_Stretch_high (dp_var 0)) (dp_fld T.cl_Stretch T.na_Stretch_high (dp_var 1))) (dp_one (dp_cmp (o_eq hr) (dp_fld T.cl_Stretch T.na_Stretch_high_in (dp_var 0)) (dp_fld T.cl_Stretch T.na_Stretch_high_in (dp_var 1)))))))))), fun ds hl hp => ?_⟩
  clear sc hr
  clear hl
  match ds, hp with
  | [x, y], ⟨p, q, hx, hy, hp, hq⟩ =>
    subst hx hy
    walk_at "dd"
    refine ⟨.inr trivial, ?_⟩
    rw [Bool.eq_iff_iff]
    cases p; cases q
    simp only [Bool.and_eq_true, decide_eq_true_eq, beq_iff_eq, Part.mk.injEq, and_assoc]
theorem mt_Stretch_ddeqdd (T : Txt K mg) : Mt P w K mg base T.c_Stretch "__eq__" 2 (SpP K 2 (pre_Stretch_ddeqdd T.c_Stretch) (val_Stretch_ddeqdd T.c_Stretch)) := ⟨T.cl_Stretch, T.sf_Stretch, _, _, _, ok_Stretch_ddeqdd T, T.m_Stretch_ddeqdd, T.b_Stretch_ddeqdd⟩
set_option maxHeartbeats 4000000 in
theorem ok__law_bag (T : Txt K mg) : FnOk P w K mg base CX0 1 T.a__law_bag T.fd__law_bag p__law_bag (SpG K 1 S__law_bag) := by
  have sc := sc__law_bag
  refine fok_g T.F__law_bag sc__law_bag rfl 2 rfl fun cdv A outer s H E hr => ⟨_, (dss_cons (ds_set 1 sc__law_bag.nd (de_p dp_int))
      (dss_cons (ds_for rfl (di_list (de_p (dp_l (dpl_slice (dp_var 0) dpo_none (dpo_some dp_int))))) (dg_name 2 sc__law_bag.nd)
      (dss_one (ds_set 1 sc__law_bag.nd (de_p (dp_op o_mod (dp_ty c_int T.z_int PyProof.Rows.boot_int (dpa_cons (dp_op o_add (dp_op o_add (dp_op o_mul (dp_var 1) dp_int) (dp_op o_mod (dp_ty c_int T.z_int PyProof.Rows.boot_int (dpa_cons (dp_var 2) dpa_nil)) dp_int)) dp_int) dpa_nil)) dp_int)))))
      (dss_one (ds_retO (do_l (dpl_lst (dpa_cons (dp_l (dpl_list T.z_list (dpa_cons (dp_l (dpl_slice (dp_var 0) dpo_none (dpo_some dp_int))) dpa_nil))) (dpa_cons dp_int (dpa_cons dp_int (dpa_cons (dp_var 1) (dpa_cons dp_int (dpa_cons dp_int dpa_nil)))))))))))), fun as kk hS hl => ?_⟩
  clear sc hr
  clear hl
  obtain ⟨xs, hx, rfl, hk⟩ := hS
  walk_at "dd"
  unfold dFor
  walk_at "dd"
  rw [cut63 (by rw [List.length_map]; exact hx)]
  refine ⟨fun i Γ => ∃ (m : Int) (x : Sl), Γ = [.im (.lst (xs.map .int)), .im (.int m), x] ∧ 0 ≤ m ∧ m < 2147483647, ⟨17784, _, rfl, by decide, by decide⟩, ?_, ?_⟩
  · rintro i d Γ hd ⟨m, x, rfl, m0, m1⟩
    obtain ⟨v, _, rfl⟩ := List.mem_map.mp (List.mem_of_getElem? hd)
    walk_at "dd"
    exact ⟨⟨⟨mulW (a := 60) (b := 60) (by omega) (by decide) (by decide), by decide⟩, by decide⟩, _, _, rfl, emod31 _⟩
  · rintro Γ ⟨m, x, rfl, m0, m1⟩
    walk_at "dd"
    rw [cut63 (by rw [List.length_map]; exact hx)]
    exact hk _ ⟨xs, 0, 0, m, 0, 0, rfl, hx, by decide, by omega, by decide, m0, m1, by decide, by decide⟩
theorem fn__law_bag (T : Txt K mg) : Fn P w K mg base "_law_bag" 1 (SpG K 1 S__law_bag) := .of T.F__law_bag (ok__law_bag T) T.g__law_bag T.b__law_bag
set_option maxHeartbeats 4000000 in
theorem ok__law_draw (T : Txt K mg) : FnOk P w K mg base CX0 1 T.a__law_draw T.fd__law_draw p__law_draw (SpG K 2 S__law_draw) := by
  have sc := sc__law_draw
  refine fok_g T.F__law_draw sc__law_draw rfl 2 rfl fun cdv A outer s H E hr => ⟨_, (dss_cons (ds_setItem (pv 0) (de_p dp_int) (de_p (dp_op o_add (dp_ixN (pv 0) dp_int) dp_int)))
      (dss_cons (ds_if (du_q (dq_w (dw_and (dq_cmp (o_eq hr) (dp_ixN (pv 0) dp_int) dp_int) (dw_and1 (dq_cmp o_lt (dp_ixN (pv 0) dp_int) (dp_b c_len T.z_len PySem.boot_len (dpa_cons (dp_ixN (pv 0) dp_int) dpa_nil)))))))
      (dss_cons (ds_set 2 sc__law_draw.nd (de_p (dp_ix (dp_ixN (pv 0) dp_int) (dp_ixN (pv 0) dp_int))))
      (dss_cons (ds_setItem (pv 0) (de_p dp_int) (de_p (dp_op o_add (dp_ixN (pv 0) dp_int) dp_int)))
      (dss_one (ds_if (du_q (dq_cmp o_ge (dp_var 2) (dp_op o_pow dp_int dp_int)))
      (dss_cons (ds_setItem (pv 0) (de_p dp_int) (de_p (dp_var 2)))
      (dss_one (ds_setItem (pv 0) (de_p dp_int) (de_p dp_int))))
      (dss_one (ds_setItem (pv 0) (de_p dp_int) (de_p (dp_op o_mod (dp_ty c_int T.z_int PyProof.Rows.boot_int (dpa_cons (dp_op o_add (dp_op o_add (dp_op o_mul (dp_ixN (pv 0) dp_int) dp_int) (dp_op o_mul (dp_op o_mod (dp_ty c_int T.z_int PyProof.Rows.boot_int (dpa_cons (dp_var 2) dpa_nil)) dp_int) dp_int)) dp_int) dpa_nil)) dp_int))))))))
      dss_nil)
      (dss_cons (ds_if (du_q (dq_cmp o_gt (dp_ixN (pv 0) dp_int) dp_int))
      (dss_cons (ds_set 3 sc__law_draw.nd (de_p (dp_op o_mod (dp_ty c_int T.z_int PyProof.Rows.boot_int (dpa_cons (dp_ixN (pv 0) dp_int) dpa_nil)) (dp_var 1))))
      (dss_cons (ds_setItem (pv 0) (de_p dp_int) (de_p (dp_op o_sub (dp_ixN (pv 0) dp_int) dp_int)))
      (dss_cons (ds_setItem (pv 0) (de_p dp_int) (de_p (dp_if (dq_cmp o_gt (dp_ixN (pv 0) dp_int) dp_int) (dp_op o_div (dp_ixN (pv 0) dp_int) (dp_var 1)) dp_int)))
      (dss_one (ds_ret (dp_var 3))))))
      dss_nil)
      (dss_cons (ds_setItem (pv 0) (de_p dp_int) (de_p (dp_op o_mod (dp_ty c_int T.z_int PyProof.Rows.boot_int (dpa_cons (dp_op o_add (dp_op o_add (dp_op o_pow (dp_ixN (pv 0) dp_int) dp_int) (dp_op o_mul (dp_ixN (pv 0) dp_int) dp_int)) dp_int) dpa_nil)) dp_int)))
      (dss_one (ds_ret (dp_op o_mod (dp_ty c_int T.z_int PyProof.Rows.boot_int (dpa_cons (dp_op o_add (dp_op o_div (dp_ixN (pv 0) dp_int) dp_int) (dp_op o_mul (dp_op o_mod (dp_ty c_int T.z_int PyProof.Rows.boot_int (dpa_cons (dp_ixN (pv 0) dp_int) dpa_nil)) dp_int) dp_int)) dpa_nil)) (dp_var 1)))))))), fun as kk hS hl => ?_⟩
  clear sc hr
  clear hl
  obtain ⟨n, ds, size, rfl, ⟨xs, c, r, m, t, g, rfl, h1, h2, h3, h4, h5, h6, h7, h8⟩, hn, s0, s1, hk⟩ := hS
  walk_at "dd"
  refine ⟨fun hA => ?_, fun hA => ?_⟩
  · rw [Bool.and_eq_true, decide_eq_true_eq, decide_eq_true_eq] at hA
    obtain ⟨hr0, hc⟩ := hA
    obtain ⟨x, ea, hx⟩ := atI_in (xs := xs.map D.int) h2 (by rw [List.length_map]; exact hc)
    obtain ⟨v, _, rfl⟩ := List.mem_map.mp hx
    simp only [ea]
    walk_at "dd"
    have c0 : 0 ≤ c + 1 := by omega
    have c1 : c + 1 ≤ xs.length := by omega
    refine ⟨⟨by decide, by decide, by decide⟩, fun hv => ⟨fun hv0 => ?_, fun hv0 => ?_⟩, fun hv => ⟨?_, fun hr1 => ?_, fun hr1 => ?_⟩⟩
    · have v0 : 0 ≤ v := by have := of_decide_eq_true hv0; omega
      exact draw1 h1 c0 c1 v0 h5 h6 h7 h8 s0 s1 hk
    · exfalso
      have a1 := of_decide_eq_true hv
      have a2 := of_decide_eq_false hv0
      have : (0 : Int) < 10 ^ Int.toNat 18 := by decide
      omega
    · exact ⟨⟨mulW (a := 60) (b := 60) (by omega) (by decide) (by decide), by decide, mulW (a := 60) (b := 60) (by have y0 : 0 ≤ v % 2147483423 := Int.emod_nonneg _ (by decide); have y1 : v % 2147483423 < 2147483423 := Int.emod_lt_of_pos _ (by decide); omega) (by decide) (by decide)⟩, by decide⟩
    · exact draw1 h1 c0 c1 h4 (emod31 _).1 (emod31 _).2 h7 h8 s0 s1 hk
    · exact draw2 h1 c0 c1 h4 (emod31 _).1 (emod31 _).2 h7 h8 hn s0 s1 hk
  · refine ⟨fun hr1 => ?_, fun hr1 => ?_⟩
    · exact draw1 h1 h2 h3 h4 h5 h6 h7 h8 s0 s1 hk
    · exact draw2 h1 h2 h3 h4 h5 h6 h7 h8 hn s0 s1 hk
theorem fn__law_draw (T : Txt K mg) : Fn P w K mg base "_law_draw" 1 (SpG K 2 S__law_draw) := .of T.F__law_draw (ok__law_draw T) T.g__law_draw T.b__law_draw
set_option maxHeartbeats 4000000 in
theorem ok__law_of (T : Txt K mg) : FnOk P w K mg base CX0 2 T.a__law_of T.fd__law_of p__law_of (SpG K 2 S__law_of) := by
  have sc := sc__law_of
  refine fok_g T.F__law_of sc__law_of rfl 0 rfl fun cdv A outer s H E hr => ⟨_, (dss_one (ds_retE (de_ixN (pv 1) (de_callG (fn__law_draw (P := P) (w := w) (base := base) T) (hr.mono (by decide)) (da_slot (pv 0) (da_cons (de_p (dp_lenN T.z_len (pv 1))) da_nil)))))), fun as kk hS hl => ?_⟩
  clear sc hr
  clear hl
  obtain ⟨n, ds, ts, rfl, hb, hn, h0, h1, hk⟩ := hS
  walk_at "dd"
  have l0 : 0 < ts.length := List.length_pos_iff.mpr h0
  refine draw_of hb hn (by omega) (pow_mono (a := 60) (by omega) (by decide)) fun v ds' v0 v1 hb' => ?_
  walk_at "dd"
  obtain ⟨x, ea, hx⟩ := atI_in (xs := ts) v0 v1
  simp only [ea]
  walk_at "dd"
  exact hk _ _ hx hb'
theorem fn__law_of (T : Txt K mg) : Fn P w K mg base "_law_of" 2 (SpG K 2 S__law_of) := .of T.F__law_of (ok__law_of T) T.g__law_of T.b__law_of
theorem ok__law_like_n (T : Txt K mg) : FnOk P w K mg base CX0 1 T.a__law_like T.fd__law_like p__law_like (SpP K 2 (fun _ => False) val__law_like) := fok_never
theorem fn__law_like_n (T : Txt K mg) : Fn P w K mg base "_law_like" 1 (SpP K 2 (fun _ => False) val__law_like) := .of T.F__law_like (ok__law_like_n T) T.g__law_like T.b__law_like
set_option maxHeartbeats 4000000 in
theorem ok__law_like_0 (T : Txt K mg) : FnOk P w K mg base CX0 2 T.a__law_like T.fd__law_like p__law_like (SpP K 2 (pre__law_like 0) val__law_like) := by
  have sc := sc__law_like
  refine fok_p T.F__law_like sc__law_like rfl 1 rfl fun cdv A outer s H E hr => ⟨_, (dss_cons (ds_if (du_q (dq_val (dp_isiT (T := "bool") T.z_isinstance T.z_bool (by decide +kernel) (dp_var 1))))
      (dss_one (ds_ret (dp_and (dp_isiT (T := "bool") T.z_isinstance T.z_bool (by decide +kernel) (dp_var 0)) (dp_one (dp_cmp (o_eq hr) (dp_var 0) (dp_var 1))))))
      dss_nil)
      (dss_cons (ds_if (du_q (dq_val (dp_isiT (T := "int") T.z_isinstance T.z_int (by decide +kernel) (dp_var 1))))
      (dss_one (ds_ret (dp_and (dp_isiT (T := "int") T.z_isinstance T.z_int (by decide +kernel) (dp_var 0)) (dp_and (dp_not (dp_isiT (T := "bool") T.z_isinstance T.z_bool (by decide +kernel) (dp_var 0))) (dp_one (dp_cmp (o_eq hr) (dp_var 0) (dp_var 1)))))))
      dss_nil)
      (dss_cons (ds_if (du_q (dq_val (dp_isiT (T := "str") T.z_isinstance T.z_str (by decide +kernel) (dp_var 1))))
      (dss_one (ds_ret (dp_and (dp_isiT (T := "str") T.z_isinstance T.z_str (by decide +kernel) (dp_var 0)) (dp_one (dp_cmp (o_eq hr) (dp_var 0) (dp_var 1))))))
      dss_nil)
      (dss_cons (ds_if (du_q (dq_w (dw_or (dq_val (dp_isiT (T := "list") T.z_isinstance T.z_list (by decide +kernel) (dp_var 1))) (dw_or1 (dq_val (dp_isiT (T := "tuple") T.z_isinstance T.z_tuple (by decide +kernel) (dp_var 1)))))))
      (dss_cons (ds_if (du_q (dq_w (dw_or (dq_cmp (o_ne hr) (dp_isiT (T := "list") T.z_isinstance T.z_list (by decide +kernel) (dp_var 0)) (dp_isiT (T := "list") T.z_isinstance T.z_list (by decide +kernel) (dp_var 1))) (dw_or1 (dq_cmp (o_ne hr) (dp_isiT (T := "tuple") T.z_isinstance T.z_tuple (by decide +kernel) (dp_var 0)) (dp_isiT (T := "tuple") T.z_isinstance T.z_tuple (by decide +kernel) (dp_var 1)))))))
      (dss_one (ds_ret dp_bl))
      dss_nil)
      (dss_cons (ds_if (du_q (dq_cmp (o_ne hr) (dp_b c_len T.z_len PySem.boot_len (dpa_cons (dp_var 0) dpa_nil)) (dp_b c_len T.z_len PySem.boot_len (dpa_cons (dp_var 1) dpa_nil))))
      (dss_one (ds_ret dp_bl))
      dss_nil)
      (dss_cons (ds_for rfl (di_range1 T.z_range (dls_cons (de_p (dp_b c_len T.z_len PySem.boot_len (dpa_cons (dp_var 1) dpa_nil))) dls_nil)) (dg_name 2 sc__law_like.nd)
      (dss_one (ds_if (du_q (dq_not (dq_val (dp_call (fn__law_like_n (P := P) (w := w) (base := base) T) (hr.mono (by decide)) (dpa_cons (dp_ix (dp_var 0) (dp_var 2)) (dpa_cons (dp_ix (dp_var 1) (dp_var 2)) dpa_nil))))))
      (dss_one (ds_ret dp_bl))
      dss_nil)))
      (dss_one (ds_ret dp_bl)))))
      dss_nil)
      (dss_one (ds_ret (dp_and (dp_cmp o_isN (dp_var 1) dp_non) (dp_one (dp_cmp o_isN (dp_var 0) dp_non))))))))), fun ds hl hp => ?_⟩
  clear sc hr
  clear hl
  match ds, hp with
  | [x, y], ⟨hx, hy⟩ =>
    cases y with
    | ins C fs => exact (plain_no hy).elim
    | dic u v => exact (plain_nod hy).elim
    | non =>
      cases x with
      | ins C fs => exact (plain_no hx).elim
      | dic u v => exact (plain_nod hx).elim
      | non => first | (walk_at "dbb"; done) | (walk_at "dbb"; rfl) | (walk_at "dbb"; exact ⟨hx, hy⟩)
      | bl a => first | (walk_at "dbb"; done) | (walk_at "dbb"; rfl) | (walk_at "dbb"; exact ⟨hx, hy⟩)
      | int a => first | (walk_at "dbb"; done) | (walk_at "dbb"; rfl) | (walk_at "dbb"; exact ⟨hx, hy⟩)
      | str a => first | (walk_at "dbb"; done) | (walk_at "dbb"; rfl) | (walk_at "dbb"; exact ⟨hx, hy⟩)
      | tup a => first | (walk_at "dbb"; done) | (walk_at "dbb"; rfl) | (walk_at "dbb"; exact ⟨hx, hy⟩)
      | lst a => first | (walk_at "dbb"; done) | (walk_at "dbb"; rfl) | (walk_at "dbb"; exact ⟨hx, hy⟩)
    | bl b =>
      cases x with
      | ins C fs => exact (plain_no hx).elim
      | dic u v => exact (plain_nod hx).elim
      | non => first | (walk_at "dbb"; done) | (walk_at "dbb"; rfl) | (walk_at "dbb"; exact ⟨hx, hy⟩)
      | bl a => first | (walk_at "dbb"; done) | (walk_at "dbb"; rfl) | (walk_at "dbb"; exact ⟨hx, hy⟩)
      | int a => first | (walk_at "dbb"; done) | (walk_at "dbb"; rfl) | (walk_at "dbb"; exact ⟨hx, hy⟩)
      | str a => first | (walk_at "dbb"; done) | (walk_at "dbb"; rfl) | (walk_at "dbb"; exact ⟨hx, hy⟩)
      | tup a => first | (walk_at "dbb"; done) | (walk_at "dbb"; rfl) | (walk_at "dbb"; exact ⟨hx, hy⟩)
      | lst a => first | (walk_at "dbb"; done) | (walk_at "dbb"; rfl) | (walk_at "dbb"; exact ⟨hx, hy⟩)
    | int b =>
      cases x with
      | ins C fs => exact (plain_no hx).elim
      | dic u v => exact (plain_nod hx).elim
      | non => first | (walk_at "dbb"; done) | (walk_at "dbb"; rfl) | (walk_at "dbb"; exact ⟨hx, hy⟩)
      | bl a => first | (walk_at "dbb"; done) | (walk_at "dbb"; rfl) | (walk_at "dbb"; exact ⟨hx, hy⟩)
      | int a => first | (walk_at "dbb"; done) | (walk_at "dbb"; rfl) | (walk_at "dbb"; exact ⟨hx, hy⟩)
      | str a => first | (walk_at "dbb"; done) | (walk_at "dbb"; rfl) | (walk_at "dbb"; exact ⟨hx, hy⟩)
      | tup a => first | (walk_at "dbb"; done) | (walk_at "dbb"; rfl) | (walk_at "dbb"; exact ⟨hx, hy⟩)
      | lst a => first | (walk_at "dbb"; done) | (walk_at "dbb"; rfl) | (walk_at "dbb"; exact ⟨hx, hy⟩)
    | str b =>
      cases x with
      | ins C fs => exact (plain_no hx).elim
      | dic u v => exact (plain_nod hx).elim
      | non => first | (walk_at "dbb"; done) | (walk_at "dbb"; rfl) | (walk_at "dbb"; exact ⟨hx, hy⟩)
      | bl a => first | (walk_at "dbb"; done) | (walk_at "dbb"; rfl) | (walk_at "dbb"; exact ⟨hx, hy⟩)
      | int a => first | (walk_at "dbb"; done) | (walk_at "dbb"; rfl) | (walk_at "dbb"; exact ⟨hx, hy⟩)
      | str a => first | (walk_at "dbb"; done) | (walk_at "dbb"; rfl) | (walk_at "dbb"; exact ⟨hx, hy⟩)
      | tup a => first | (walk_at "dbb"; done) | (walk_at "dbb"; rfl) | (walk_at "dbb"; exact ⟨hx, hy⟩)
      | lst a => first | (walk_at "dbb"; done) | (walk_at "dbb"; rfl) | (walk_at "dbb"; exact ⟨hx, hy⟩)
    | tup ys =>
      cases x with
      | ins C fs => exact (plain_no hx).elim
      | dic u v => exact (plain_nod hx).elim
      | non => first | (walk_at "dbb"; done) | (walk_at "dbb"; rfl) | (walk_at "dbb"; exact ⟨hx, hy⟩)
      | bl a => first | (walk_at "dbb"; done) | (walk_at "dbb"; rfl) | (walk_at "dbb"; exact ⟨hx, hy⟩)
      | int a => first | (walk_at "dbb"; done) | (walk_at "dbb"; rfl) | (walk_at "dbb"; exact ⟨hx, hy⟩)
      | str a => first | (walk_at "dbb"; done) | (walk_at "dbb"; rfl) | (walk_at "dbb"; exact ⟨hx, hy⟩)
      | tup xs =>
        first
        | exact (show False from hy).elim
        | (
          walk_at "dbb"
          have hx : xs.length < 2 ^ 50 ∧ ∀ x ∈ xs, _ := hx
          have hy : ys.length < 2 ^ 50 ∧ ∀ x ∈ ys, _ := hy
          refine ⟨fun hne => ?_, fun heq => ?_⟩
          · rw [Bool.not_eq_true', decide_eq_false_iff_not] at hne
            show false = likeL xs ys
            cases hq : likeL xs ys with
            | false => rfl
            | true => exact absurd (congrArg (fun n : Nat => (n : Int)) (likeL_len hq)) hne
          · rw [Bool.not_eq_false', decide_eq_true_eq] at heq
            have hlen : xs.length = ys.length := by omega
            unfold dFor
            walk_at "dd"
            refine ⟨by omega, by omega, fun i Γ => (∃ z, Γ = [.im (.tup xs), .im (.tup ys), z]) ∧ ∀ (j : Nat) (a b : D), j < i → xs[j]? = some a → ys[j]? = some b → likeD a b = true, ⟨⟨_, rfl⟩, fun _ _ _ h => absurd h (Nat.not_lt_zero _)⟩, ?_, ?_⟩
            · rintro i d Γ hd ⟨⟨z, rfl⟩, hall⟩
              obtain ⟨hi, rfl⟩ := rng_get hd
              rw [Int.toNat_natCast] at hi
              obtain ⟨a, ea, ha⟩ := get_mem (xs := xs) (i := i) (by omega)
              obtain ⟨b, eb, hb⟩ := get_mem (xs := ys) (i := i) hi
              walk_at "dd"
              rw [atI_nat (j := i) ea, atI_nat (j := i) eb]
              walk_at "dd"
              refine ⟨⟨hx.2 a ha, hy.2 b hb⟩, fun h => ?_, fun h => ⟨⟨_, rfl⟩, fun j a' b' hj e1 e2 => ?_⟩⟩
              · rw [Bool.not_eq_true'] at h
                exact (likeL_not ea eb h).symm
              · rw [Bool.not_eq_false'] at h
                by_cases hji : j = i
                · subst hji
                  rw [ea] at e1
                  rw [eb] at e2
                  cases e1
                  cases e2
                  exact h
                · exact hall j a' b' (by omega) e1 e2
            · rintro Γ ⟨⟨z, rfl⟩, hall⟩
              rw [rng_len, Int.toNat_natCast] at hall
              refine (likeL_all hlen fun i a b e1 e2 => hall i a b ?_ e1 e2).symm
              have := (List.getElem?_eq_some_iff.mp e2).1
              omega)
      | lst a => first | (walk_at "dbb"; done) | (walk_at "dbb"; rfl) | (walk_at "dbb"; exact ⟨hx, hy⟩)
    | lst ys =>
      cases x with
      | ins C fs => exact (plain_no hx).elim
      | dic u v => exact (plain_nod hx).elim
      | non => first | (walk_at "dbb"; done) | (walk_at "dbb"; rfl) | (walk_at "dbb"; exact ⟨hx, hy⟩)
      | bl a => first | (walk_at "dbb"; done) | (walk_at "dbb"; rfl) | (walk_at "dbb"; exact ⟨hx, hy⟩)
      | int a => first | (walk_at "dbb"; done) | (walk_at "dbb"; rfl) | (walk_at "dbb"; exact ⟨hx, hy⟩)
      | str a => first | (walk_at "dbb"; done) | (walk_at "dbb"; rfl) | (walk_at "dbb"; exact ⟨hx, hy⟩)
      | tup a => first | (walk_at "dbb"; done) | (walk_at "dbb"; rfl) | (walk_at "dbb"; exact ⟨hx, hy⟩)
      | lst xs =>
        first
        | exact (show False from hy).elim
        | (
          walk_at "dbb"
          have hx : xs.length < 2 ^ 50 ∧ ∀ x ∈ xs, _ := hx
          have hy : ys.length < 2 ^ 50 ∧ ∀ x ∈ ys, _ := hy
          refine ⟨fun hne => ?_, fun heq => ?_⟩
          · rw [Bool.not_eq_true', decide_eq_false_iff_not] at hne
            show false = likeL xs ys
            cases hq : likeL xs ys with
            | false => rfl
            | true => exact absurd (congrArg (fun n : Nat => (n : Int)) (likeL_len hq)) hne
          · rw [Bool.not_eq_false', decide_eq_true_eq] at heq
            have hlen : xs.length = ys.length := by omega
            unfold dFor
            walk_at "dd"
            refine ⟨by omega, by omega, fun i Γ => (∃ z, Γ = [.im (.lst xs), .im (.lst ys), z]) ∧ ∀ (j : Nat) (a b : D), j < i → xs[j]? = some a → ys[j]? = some b → likeD a b = true, ⟨⟨_, rfl⟩, fun _ _ _ h => absurd h (Nat.not_lt_zero _)⟩, ?_, ?_⟩
            · rintro i d Γ hd ⟨⟨z, rfl⟩, hall⟩
              obtain ⟨hi, rfl⟩ := rng_get hd
              rw [Int.toNat_natCast] at hi
              obtain ⟨a, ea, ha⟩ := get_mem (xs := xs) (i := i) (by omega)
              obtain ⟨b, eb, hb⟩ := get_mem (xs := ys) (i := i) hi
              walk_at "dd"
              rw [atI_nat (j := i) ea, atI_nat (j := i) eb]
              walk_at "dd"
              refine ⟨⟨hx.2 a ha, hy.2 b hb⟩, fun h => ?_, fun h => ⟨⟨_, rfl⟩, fun j a' b' hj e1 e2 => ?_⟩⟩
              · rw [Bool.not_eq_true'] at h
                exact (likeL_not ea eb h).symm
              · rw [Bool.not_eq_false'] at h
                by_cases hji : j = i
                · subst hji
                  rw [ea] at e1
                  rw [eb] at e2
                  cases e1
                  cases e2
                  exact h
                · exact hall j a' b' (by omega) e1 e2
            · rintro Γ ⟨⟨z, rfl⟩, hall⟩
              rw [rng_len, Int.toNat_natCast] at hall
              refine (likeL_all hlen fun i a b e1 e2 => hall i a b ?_ e1 e2).symm
              have := (List.getElem?_eq_some_iff.mp e2).1
              omega)
theorem fn__law_like_0 (T : Txt K mg) : Fn P w K mg base "_law_like" 2 (SpP K 2 (pre__law_like 0) val__law_like) := .of T.F__law_like (ok__law_like_0 T) T.g__law_like T.b__law_like
set_option maxHeartbeats 4000000 in
theorem ok__law_like_1 (T : Txt K mg) : FnOk P w K mg base CX0 3 T.a__law_like T.fd__law_like p__law_like (SpP K 2 (pre__law_like 1) val__law_like) := by
  have sc := sc__law_like
  refine fok_p T.F__law_like sc__law_like rfl 1 rfl fun cdv A outer s H E hr => ⟨_, (dss_cons (ds_if (du_q (dq_val (dp_isiT (T := "bool") T.z_isinstance T.z_bool (by decide +kernel) (dp_var 1))))
      (dss_one (ds_ret (dp_and (dp_isiT (T := "bool") T.z_isinstance T.z_bool (by decide +kernel) (dp_var 0)) (dp_one (dp_cmp (o_eq hr) (dp_var 0) (dp_var 1))))))
      dss_nil)
      (dss_cons (ds_if (du_q (dq_val (dp_isiT (T := "int") T.z_isinstance T.z_int (by decide +kernel) (dp_var 1))))
      (dss_one (ds_ret (dp_and (dp_isiT (T := "int") T.z_isinstance T.z_int (by decide +kernel) (dp_var 0)) (dp_and (dp_not (dp_isiT (T := "bool") T.z_isinstance T.z_bool (by decide +kernel) (dp_var 0))) (dp_one (dp_cmp (o_eq hr) (dp_var 0) (dp_var 1)))))))
      dss_nil)
      (dss_cons (ds_if (du_q (dq_val (dp_isiT (T := "str") T.z_isinstance T.z_str (by decide +kernel) (dp_var 1))))
      (dss_one (ds_ret (dp_and (dp_isiT (T := "str") T.z_isinstance T.z_str (by decide +kernel) (dp_var 0)) (dp_one (dp_cmp (o_eq hr) (dp_var 0) (dp_var 1))))))
      dss_nil)
      (dss_cons (ds_if (du_q (dq_w (dw_or (dq_val (dp_isiT (T := "list") T.z_isinstance T.z_list (by decide +kernel) (dp_var 1))) (dw_or1 (dq_val (dp_isiT (T := "tuple") T.z_isinstance T.z_tuple (by decide +kernel) (dp_var 1)))))))
      (dss_cons (ds_if (du_q (dq_w (dw_or (dq_cmp (o_ne hr) (dp_isiT (T := "list") T.z_isinstance T.z_list (by decide +kernel) (dp_var 0)) (dp_isiT (T := "list") T.z_isinstance T.z_list (by decide +kernel) (dp_var 1))) (dw_or1 (dq_cmp (o_ne hr) (dp_isiT (T := "tuple") T.z_isinstance T.z_tuple (by decide +kernel) (dp_var 0)) (dp_isiT (T := "tuple") T.z_isinstance T.z_tuple (by decide +kernel) (dp_var 1)))))))
      (dss_one (ds_ret dp_bl))
      dss_nil)
      (dss_cons (ds_if (du_q (dq_cmp (o_ne hr) (dp_b c_len T.z_len PySem.boot_len (dpa_cons (dp_var 0) dpa_nil)) (dp_b c_len T.z_len PySem.boot_len (dpa_cons (dp_var 1) dpa_nil))))
      (dss_one (ds_ret dp_bl))
      dss_nil)
      (dss_cons (ds_for rfl (di_range1 T.z_range (dls_cons (de_p (dp_b c_len T.z_len PySem.boot_len (dpa_cons (dp_var 1) dpa_nil))) dls_nil)) (dg_name 2 sc__law_like.nd)
      (dss_one (ds_if (du_q (dq_not (dq_val (dp_call (fn__law_like_0 (P := P) (w := w) (base := base) T) (hr.mono (by decide)) (dpa_cons (dp_ix (dp_var 0) (dp_var 2)) (dpa_cons (dp_ix (dp_var 1) (dp_var 2)) dpa_nil))))))
      (dss_one (ds_ret dp_bl))
      dss_nil)))
      (dss_one (ds_ret dp_bl)))))
      dss_nil)
      (dss_one (ds_ret (dp_and (dp_cmp o_isN (dp_var 1) dp_non) (dp_one (dp_cmp o_isN (dp_var 0) dp_non))))))))), fun ds hl hp => ?_⟩
  clear sc hr
  clear hl
  match ds, hp with
  | [x, y], ⟨hx, hy⟩ =>
    cases y with
    | ins C fs => exact (plain_no hy).elim
    | dic u v => exact (plain_nod hy).elim
    | non =>
      cases x with
      | ins C fs => exact (plain_no hx).elim
      | dic u v => exact (plain_nod hx).elim
      | non => first | (walk_at "dbb"; done) | (walk_at "dbb"; rfl) | (walk_at "dbb"; exact ⟨hx, hy⟩)
      | bl a => first | (walk_at "dbb"; done) | (walk_at "dbb"; rfl) | (walk_at "dbb"; exact ⟨hx, hy⟩)
      | int a => first | (walk_at "dbb"; done) | (walk_at "dbb"; rfl) | (walk_at "dbb"; exact ⟨hx, hy⟩)
      | str a => first | (walk_at "dbb"; done) | (walk_at "dbb"; rfl) | (walk_at "dbb"; exact ⟨hx, hy⟩)
      | tup a => first | (walk_at "dbb"; done) | (walk_at "dbb"; rfl) | (walk_at "dbb"; exact ⟨hx, hy⟩)
      | lst a => first | (walk_at "dbb"; done) | (walk_at "dbb"; rfl) | (walk_at "dbb"; exact ⟨hx, hy⟩)
    | bl b =>
      cases x with
      | ins C fs => exact (plain_no hx).elim
      | dic u v => exact (plain_nod hx).elim
      | non => first | (walk_at "dbb"; done) | (walk_at "dbb"; rfl) | (walk_at "dbb"; exact ⟨hx, hy⟩)
      | bl a => first | (walk_at "dbb"; done) | (walk_at "dbb"; rfl) | (walk_at "dbb"; exact ⟨hx, hy⟩)
      | int a => first | (walk_at "dbb"; done) | (walk_at "dbb"; rfl) | (walk_at "dbb"; exact ⟨hx, hy⟩)
      | str a => first | (walk_at "dbb"; done) | (walk_at "dbb"; rfl) | (walk_at "dbb"; exact ⟨hx, hy⟩)
      | tup a => first | (walk_at "dbb"; done) | (walk_at "dbb"; rfl) | (walk_at "dbb"; exact ⟨hx, hy⟩)
      | lst a => first | (walk_at "dbb"; done) | (walk_at "dbb"; rfl) | (walk_at "dbb"; exact ⟨hx, hy⟩)
    | int b =>
      cases x with
      | ins C fs => exact (plain_no hx).elim
      | dic u v => exact (plain_nod hx).elim
      | non => first | (walk_at "dbb"; done) | (walk_at "dbb"; rfl) | (walk_at "dbb"; exact ⟨hx, hy⟩)
      | bl a => first | (walk_at "dbb"; done) | (walk_at "dbb"; rfl) | (walk_at "dbb"; exact ⟨hx, hy⟩)
      | int a => first | (walk_at "dbb"; done) | (walk_at "dbb"; rfl) | (walk_at "dbb"; exact ⟨hx, hy⟩)
      | str a => first | (walk_at "dbb"; done) | (walk_at "dbb"; rfl) | (walk_at "dbb"; exact ⟨hx, hy⟩)
      | tup a => first | (walk_at "dbb"; done) | (walk_at "dbb"; rfl) | (walk_at "dbb"; exact ⟨hx, hy⟩)
      | lst a => first | (walk_at "dbb"; done) | (walk_at "dbb"; rfl) | (walk_at "dbb"; exact ⟨hx, hy⟩)
    | str b =>
      cases x with
      | ins C fs => exact (plain_no hx).elim
      | dic u v => exact (plain_nod hx).elim
      | non => first | (walk_at "dbb"; done) | (walk_at "dbb"; rfl) | (walk_at "dbb"; exact ⟨hx, hy⟩)
      | bl a => first | (walk_at "dbb"; done) | (walk_at "dbb"; rfl) | (walk_at "dbb"; exact ⟨hx, hy⟩)
      | int a => first | (walk_at "dbb"; done) | (walk_at "dbb"; rfl) | (walk_at "dbb"; exact ⟨hx, hy⟩)
      | str a => first | (walk_at "dbb"; done) | (walk_at "dbb"; rfl) | (walk_at "dbb"; exact ⟨hx, hy⟩)
      | tup a => first | (walk_at "dbb"; done) | (walk_at "dbb"; rfl) | (walk_at "dbb"; exact ⟨hx, hy⟩)
      | lst a => first | (walk_at "dbb"; done) | (walk_at "dbb"; rfl) | (walk_at "dbb"; exact ⟨hx, hy⟩)
    | tup ys =>
      cases x with
      | ins C fs => exact (plain_no hx).elim
      | dic u v => exact (plain_nod hx).elim
      | non => first | (walk_at "dbb"; done) | (walk_at "dbb"; rfl) | (walk_at "dbb"; exact ⟨hx, hy⟩)
      | bl a => first | (walk_at "dbb"; done) | (walk_at "dbb"; rfl) | (walk_at "dbb"; exact ⟨hx, hy⟩)
      | int a => first | (walk_at "dbb"; done) | (walk_at "dbb"; rfl) | (walk_at "dbb"; exact ⟨hx, hy⟩)
      | str a => first | (walk_at "dbb"; done) | (walk_at "dbb"; rfl) | (walk_at "dbb"; exact ⟨hx, hy⟩)
      | tup xs =>
        first
        | exact (show False from hy).elim
        | (
          walk_at "dbb"
          have hx : xs.length < 2 ^ 50 ∧ ∀ x ∈ xs, _ := hx
          have hy : ys.length < 2 ^ 50 ∧ ∀ x ∈ ys, _ := hy
          refine ⟨fun hne => ?_, fun heq => ?_⟩
          · rw [Bool.not_eq_true', decide_eq_false_iff_not] at hne
            show false = likeL xs ys
            cases hq : likeL xs ys with
            | false => rfl
            | true => exact absurd (congrArg (fun n : Nat => (n : Int)) (likeL_len hq)) hne
          · rw [Bool.not_eq_false', decide_eq_true_eq] at heq
            have hlen : xs.length = ys.length := by omega
            unfold dFor
            walk_at "dd"
            refine ⟨by omega, by omega, fun i Γ => (∃ z, Γ = [.im (.tup xs), .im (.tup ys), z]) ∧ ∀ (j : Nat) (a b : D), j < i → xs[j]? = some a → ys[j]? = some b → likeD a b = true, ⟨⟨_, rfl⟩, fun _ _ _ h => absurd h (Nat.not_lt_zero _)⟩, ?_, ?_⟩
            · rintro i d Γ hd ⟨⟨z, rfl⟩, hall⟩
              obtain ⟨hi, rfl⟩ := rng_get hd
              rw [Int.toNat_natCast] at hi
              obtain ⟨a, ea, ha⟩ := get_mem (xs := xs) (i := i) (by omega)
              obtain ⟨b, eb, hb⟩ := get_mem (xs := ys) (i := i) hi
              walk_at "dd"
              rw [atI_nat (j := i) ea, atI_nat (j := i) eb]
              walk_at "dd"
              refine ⟨⟨hx.2 a ha, hy.2 b hb⟩, fun h => ?_, fun h => ⟨⟨_, rfl⟩, fun j a' b' hj e1 e2 => ?_⟩⟩
              · rw [Bool.not_eq_true'] at h
                exact (likeL_not ea eb h).symm
              · rw [Bool.not_eq_false'] at h
                by_cases hji : j = i
                · subst hji
                  rw [ea] at e1
                  rw [eb] at e2
                  cases e1
                  cases e2
                  exact h
                · exact hall j a' b' (by omega) e1 e2
            · rintro Γ ⟨⟨z, rfl⟩, hall⟩
              rw [rng_len, Int.toNat_natCast] at hall
              refine (likeL_all hlen fun i a b e1 e2 => hall i a b ?_ e1 e2).symm
              have := (List.getElem?_eq_some_iff.mp e2).1
              omega)
      | lst a => first | (walk_at "dbb"; done) | (walk_at "dbb"; rfl) | (walk_at "dbb"; exact ⟨hx, hy⟩)
    | lst ys =>
      cases x with
      | ins C fs => exact (plain_no hx).elim
      | dic u v => exact (plain_nod hx).elim
      | non => first | (walk_at "dbb"; done) | (walk_at "dbb"; rfl) | (walk_at "dbb"; exact ⟨hx, hy⟩)
      | bl a => first | (walk_at "dbb"; done) | (walk_at "dbb"; rfl) | (walk_at "dbb"; exact ⟨hx, hy⟩)
      | int a => first | (walk_at "dbb"; done) | (walk_at "dbb"; rfl) | (walk_at "dbb"; exact ⟨hx, hy⟩)
      | str a => first | (walk_at "dbb"; done) | (walk_at "dbb"; rfl) | (walk_at "dbb"; exact ⟨hx, hy⟩)
      | tup a => first | (walk_at "dbb"; done) | (walk_at "dbb"; rfl) | (walk_at "dbb"; exact ⟨hx, hy⟩)
      | lst xs =>
        first
        | exact (show False from hy).elim
        | (
          walk_at "dbb"
          have hx : xs.length < 2 ^ 50 ∧ ∀ x ∈ xs, _ := hx
          have hy : ys.length < 2 ^ 50 ∧ ∀ x ∈ ys, _ := hy
          refine ⟨fun hne => ?_, fun heq => ?_⟩
          · rw [Bool.not_eq_true', decide_eq_false_iff_not] at hne
            show false = likeL xs ys
            cases hq : likeL xs ys with
            | false => rfl
            | true => exact absurd (congrArg (fun n : Nat => (n : Int)) (likeL_len hq)) hne
          · rw [Bool.not_eq_false', decide_eq_true_eq] at heq
            have hlen : xs.length = ys.length := by omega
            unfold dFor
            walk_at "dd"
            refine ⟨by omega, by omega, fun i Γ => (∃ z, Γ = [.im (.lst xs), .im (.lst ys), z]) ∧ ∀ (j : Nat) (a b : D), j < i → xs[j]? = some a → ys[j]? = some b → likeD a b = true, ⟨⟨_, rfl⟩, fun _ _ _ h => absurd h (Nat.not_lt_zero _)⟩, ?_, ?_⟩
            · rintro i d Γ hd ⟨⟨z, rfl⟩, hall⟩
              obtain ⟨hi, rfl⟩ := rng_get hd
              rw [Int.toNat_natCast] at hi
              obtain ⟨a, ea, ha⟩ := get_mem (xs := xs) (i := i) (by omega)
              obtain ⟨b, eb, hb⟩ := get_mem (xs := ys) (i := i) hi
              walk_at "dd"
              rw [atI_nat (j := i) ea, atI_nat (j := i) eb]
              walk_at "dd"
              refine ⟨⟨hx.2 a ha, hy.2 b hb⟩, fun h => ?_, fun h => ⟨⟨_, rfl⟩, fun j a' b' hj e1 e2 => ?_⟩⟩
              · rw [Bool.not_eq_true'] at h
                exact (likeL_not ea eb h).symm
              · rw [Bool.not_eq_false'] at h
                by_cases hji : j = i
                · subst hji
                  rw [ea] at e1
                  rw [eb] at e2
                  cases e1
                  cases e2
                  exact h
                · exact hall j a' b' (by omega) e1 e2
            · rintro Γ ⟨⟨z, rfl⟩, hall⟩
              rw [rng_len, Int.toNat_natCast] at hall
              refine (likeL_all hlen fun i a b e1 e2 => hall i a b ?_ e1 e2).symm
              have := (List.getElem?_eq_some_iff.mp e2).1
              omega)
theorem fn__law_like_1 (T : Txt K mg) : Fn P w K mg base "_law_like" 3 (SpP K 2 (pre__law_like 1) val__law_like) := .of T.F__law_like (ok__law_like_1 T) T.g__law_like T.b__law_like
set_option maxHeartbeats 4000000 in
theorem ok__law_like_2 (T : Txt K mg) : FnOk P w K mg base CX0 4 T.a__law_like T.fd__law_like p__law_like (SpP K 2 (pre__law_like 2) val__law_like) := by
  have sc := sc__law_like
  refine fok_p T.F__law_like sc__law_like rfl 1 rfl fun cdv A outer s H E hr => ⟨_, (dss_cons (ds_if (du_q (dq_val (dp_isiT (T := "bool") T.z_isinstance T.z_bool (by decide +kernel) (dp_var 1))))
      (dss_one (ds_ret (dp_and (dp_isiT (T := "bool") T.z_isinstance T.z_bool (by decide +kernel) (dp_var 0)) (dp_one (dp_cmp (o_eq hr) (dp_var 0) (dp_var 1))))))
      dss_nil)
      (dss_cons (ds_if (du_q (dq_val (dp_isiT (T := "int") T.z_isinstance T.z_int (by decide +kernel) (dp_var 1))))
      (dss_one (ds_ret (dp_and (dp_isiT (T := "int") T.z_isinstance T.z_int (by decide +kernel) (dp_var 0)) (dp_and (dp_not (dp_isiT (T := "bool") T.z_isinstance T.z_bool (by decide +kernel) (dp_var 0))) (dp_one (dp_cmp (o_eq hr) (dp_var 0) (dp_var 1)))))))
      dss_nil)
      (dss_cons (ds_if (du_q (dq_val (dp_isiT (T := "str") T.z_isinstance T.z_str (by decide +kernel) (dp_var 1))))
      (dss_one (ds_ret (dp_and (dp_isiT (T := "str") T.z_isinstance T.z_str (by decide +kernel) (dp_var 0)) (dp_one (dp_cmp (o_eq hr) (dp_var 0) (dp_var 1))))))
      dss_nil)
      (dss_cons (ds_if (du_q (dq_w (dw_or (dq_val (dp_isiT (T := "list") T.z_isinstance T.z_list (by decide +kernel) (dp_var 1))) (dw_or1 (dq_val (dp_isiT (T := "tuple") T.z_isinstance T.z_tuple (by decide +kernel) (dp_var 1)))))))
      (dss_cons (ds_if (du_q (dq_w (dw_or (dq_cmp (o_ne hr) (dp_isiT (T := "list") T.z_isinstance T.z_list (by decide +kernel) (dp_var 0)) (dp_isiT (T := "list") T.z_isinstance T.z_list (by decide +kernel) (dp_var 1))) (dw_or1 (dq_cmp (o_ne hr) (dp_isiT (T := "tuple") T.z_isinstance T.z_tuple (by decide +kernel) (dp_var 0)) (dp_isiT (T := "tuple") T.z_isinstance T.z_tuple (by decide +kernel) (dp_var 1)))))))
      (dss_one (ds_ret dp_bl))
      dss_nil)
      (dss_cons (ds_if (du_q (dq_cmp (o_ne hr) (dp_b c_len T.z_len PySem.boot_len (dpa_cons (dp_var 0) dpa_nil)) (dp_b c_len T.z_len PySem.boot_len (dpa_cons (dp_var 1) dpa_nil))))
      (dss_one (ds_ret dp_bl))
      dss_nil)
      (dss_cons (ds_for rfl (di_range1 T.z_range (dls_cons (de_p (dp_b c_len T.z_len PySem.boot_len (dpa_cons (dp_var 1) dpa_nil))) dls_nil)) (dg_name 2 sc__law_like.nd)
      (dss_one (ds_if (du_q (dq_not (dq_val (dp_call (fn__law_like_1 (P := P) (w := w) (base := base) T) (hr.mono (by decide)) (dpa_cons (dp_ix (dp_var 0) (dp_var 2)) (dpa_cons (dp_ix (dp_var 1) (dp_var 2)) dpa_nil))))))
      (dss_one (ds_ret dp_bl))
      dss_nil)))
      (dss_one (ds_ret dp_bl)))))
      dss_nil)
      (dss_one (ds_ret (dp_and (dp_cmp o_isN (dp_var 1) dp_non) (dp_one (dp_cmp o_isN (dp_var 0) dp_non))))))))), fun ds hl hp => ?_⟩
  clear sc hr
  clear hl
  match ds, hp with
  | [x, y], ⟨hx, hy⟩ =>
    cases y with
    | ins C fs => exact (plain_no hy).elim
    | dic u v => exact (plain_nod hy).elim
    | non =>
      cases x with
      | ins C fs => exact (plain_no hx).elim
      | dic u v => exact (plain_nod hx).elim
      | non => first | (walk_at "dbb"; done) | (walk_at "dbb"; rfl) | (walk_at "dbb"; exact ⟨hx, hy⟩)
      | bl a => first | (walk_at "dbb"; done) | (walk_at "dbb"; rfl) | (walk_at "dbb"; exact ⟨hx, hy⟩)
      | int a => first | (walk_at "dbb"; done) | (walk_at "dbb"; rfl) | (walk_at "dbb"; exact ⟨hx, hy⟩)
      | str a => first | (walk_at "dbb"; done) | (walk_at "dbb"; rfl) | (walk_at "dbb"; exact ⟨hx, hy⟩)
      | tup a => first | (walk_at "dbb"; done) | (walk_at "dbb"; rfl) | (walk_at "dbb"; exact ⟨hx, hy⟩)
      | lst a => first | (walk_at "dbb"; done) | (walk_at "dbb"; rfl) | (walk_at "dbb"; exact ⟨hx, hy⟩)
    | bl b =>
      cases x with
      | ins C fs => exact (plain_no hx).elim
      | dic u v => exact (plain_nod hx).elim
      | non => first | (walk_at "dbb"; done) | (walk_at "dbb"; rfl) | (walk_at "dbb"; exact ⟨hx, hy⟩)
      | bl a => first | (walk_at "dbb"; done) | (walk_at "dbb"; rfl) | (walk_at "dbb"; exact ⟨hx, hy⟩)
      | int a => first | (walk_at "dbb"; done) | (walk_at "dbb"; rfl) | (walk_at "dbb"; exact ⟨hx, hy⟩)
      | str a => first | (walk_at "dbb"; done) | (walk_at "dbb"; rfl) | (walk_at "dbb"; exact ⟨hx, hy⟩)
      | tup a => first | (walk_at "dbb"; done) | (walk_at "dbb"; rfl) | (walk_at "dbb"; exact ⟨hx, hy⟩)
      | lst a => first | (walk_at "dbb"; done) | (walk_at "dbb"; rfl) | (walk_at "dbb"; exact ⟨hx, hy⟩)
    | int b =>
      cases x with
      | ins C fs => exact (plain_no hx).elim
      | dic u v => exact (plain_nod hx).elim
      | non => first | (walk_at "dbb"; done) | (walk_at "dbb"; rfl) | (walk_at "dbb"; exact ⟨hx, hy⟩)
      | bl a => first | (walk_at "dbb"; done) | (walk_at "dbb"; rfl) | (walk_at "dbb"; exact ⟨hx, hy⟩)
      | int a => first | (walk_at "dbb"; done) | (walk_at "dbb"; rfl) | (walk_at "dbb"; exact ⟨hx, hy⟩)
      | str a => first | (walk_at "dbb"; done) | (walk_at "dbb"; rfl) | (walk_at "dbb"; exact ⟨hx, hy⟩)
      | tup a => first | (walk_at "dbb"; done) | (walk_at "dbb"; rfl) | (walk_at "dbb"; exact ⟨hx, hy⟩)
      | lst a => first | (walk_at "dbb"; done) | (walk_at "dbb"; rfl) | (walk_at "dbb"; exact ⟨hx, hy⟩)
    | str b =>
      cases x with
      | ins C fs => exact (plain_no hx).elim
      | dic u v => exact (plain_nod hx).elim
      | non => first | (walk_at "dbb"; done) | (walk_at "dbb"; rfl) | (walk_at "dbb"; exact ⟨hx, hy⟩)
      | bl a => first | (walk_at "dbb"; done) | (walk_at "dbb"; rfl) | (walk_at "dbb"; exact ⟨hx, hy⟩)
      | int a => first | (walk_at "dbb"; done) | (walk_at "dbb"; rfl) | (walk_at "dbb"; exact ⟨hx, hy⟩)
      | str a => first | (walk_at "dbb"; done) | (walk_at "dbb"; rfl) | (walk_at "dbb"; exact ⟨hx, hy⟩)
      | tup a => first | (walk_at "dbb"; done) | (walk_at "dbb"; rfl) | (walk_at "dbb"; exact ⟨hx, hy⟩)
      | lst a => first | (walk_at "dbb"; done) | (walk_at "dbb"; rfl) | (walk_at "dbb"; exact ⟨hx, hy⟩)
    | tup ys =>
      cases x with
      | ins C fs => exact (plain_no hx).elim
      | dic u v => exact (plain_nod hx).elim
      | non => first | (walk_at "dbb"; done) | (walk_at "dbb"; rfl) | (walk_at "dbb"; exact ⟨hx, hy⟩)
      | bl a => first | (walk_at "dbb"; done) | (walk_at "dbb"; rfl) | (walk_at "dbb"; exact ⟨hx, hy⟩)
      | int a => first | (walk_at "dbb"; done) | (walk_at "dbb"; rfl) | (walk_at "dbb"; exact ⟨hx, hy⟩)
      | str a => first | (walk_at "dbb"; done) | (walk_at "dbb"; rfl) | (walk_at "dbb"; exact ⟨hx, hy⟩)
      | tup xs =>
        first
        | exact (show False from hy).elim
        | (
          walk_at "dbb"
          have hx : xs.length < 2 ^ 50 ∧ ∀ x ∈ xs, _ := hx
          have hy : ys.length < 2 ^ 50 ∧ ∀ x ∈ ys, _ := hy
          refine ⟨fun hne => ?_, fun heq => ?_⟩
          · rw [Bool.not_eq_true', decide_eq_false_iff_not] at hne
            show false = likeL xs ys
            cases hq : likeL xs ys with
            | false => rfl
            | true => exact absurd (congrArg (fun n : Nat => (n : Int)) (likeL_len hq)) hne
          · rw [Bool.not_eq_false', decide_eq_true_eq] at heq
            have hlen : xs.length = ys.length := by omega
            unfold dFor
            walk_at "dd"
            refine ⟨by omega, by omega, fun i Γ => (∃ z, Γ = [.im (.tup xs), .im (.tup ys), z]) ∧ ∀ (j : Nat) (a b : D), j < i → xs[j]? = some a → ys[j]? = some b → likeD a b = true, ⟨⟨_, rfl⟩, fun _ _ _ h => absurd h (Nat.not_lt_zero _)⟩, ?_, ?_⟩
            · rintro i d Γ hd ⟨⟨z, rfl⟩, hall⟩
              obtain ⟨hi, rfl⟩ := rng_get hd
              rw [Int.toNat_natCast] at hi
              obtain ⟨a, ea, ha⟩ := get_mem (xs := xs) (i := i) (by omega)
              obtain ⟨b, eb, hb⟩ := get_mem (xs := ys) (i := i) hi
              walk_at "dd"
              rw [atI_nat (j := i) ea, atI_nat (j := i) eb]
              walk_at "dd"
              refine ⟨⟨hx.2 a ha, hy.2 b hb⟩, fun h => ?_, fun h => ⟨⟨_, rfl⟩, fun j a' b' hj e1 e2 => ?_⟩⟩
              · rw [Bool.not_eq_true'] at h
                exact (likeL_not ea eb h).symm
              · rw [Bool.not_eq_false'] at h
                by_cases hji : j = i
                · subst hji
                  rw [ea] at e1
                  rw [eb] at e2
                  cases e1
                  cases e2
                  exact h
                · exact hall j a' b' (by omega) e1 e2
            · rintro Γ ⟨⟨z, rfl⟩, hall⟩
              rw [rng_len, Int.toNat_natCast] at hall
              refine (likeL_all hlen fun i a b e1 e2 => hall i a b ?_ e1 e2).symm
              have := (List.getElem?_eq_some_iff.mp e2).1
              omega)
      | lst a => first | (walk_at "dbb"; done) | (walk_at "dbb"; rfl) | (walk_at "dbb"; exact ⟨hx, hy⟩)
    | lst ys =>
      cases x with
      | ins C fs => exact (plain_no hx).elim
      | dic u v => exact (plain_nod hx).elim
      | non => first | (walk_at "dbb"; done) | (walk_at "dbb"; rfl) | (walk_at "dbb"; exact ⟨hx, hy⟩)
      | bl a => first | (walk_at "dbb"; done) | (walk_at "dbb"; rfl) | (walk_at "dbb"; exact ⟨hx, hy⟩)
      | int a => first | (walk_at "dbb"; done) | (walk_at "dbb"; rfl) | (walk_at "dbb"; exact ⟨hx, hy⟩)
      | str a => first | (walk_at "dbb"; done) | (walk_at "dbb"; rfl) | (walk_at "dbb"; exact ⟨hx, hy⟩)
      | tup a => first | (walk_at "dbb"; done) | (walk_at "dbb"; rfl) | (walk_at "dbb"; exact ⟨hx, hy⟩)
      | lst xs =>
        first
        | exact (show False from hy).elim
        | (
          walk_at "dbb"
          have hx : xs.length < 2 ^ 50 ∧ ∀ x ∈ xs, _ := hx
          have hy : ys.length < 2 ^ 50 ∧ ∀ x ∈ ys, _ := hy
          refine ⟨fun hne => ?_, fun heq => ?_⟩
          · rw [Bool.not_eq_true', decide_eq_false_iff_not] at hne
            show false = likeL xs ys
            cases hq : likeL xs ys with
            | false => rfl
            | true => exact absurd (congrArg (fun n : Nat => (n : Int)) (likeL_len hq)) hne
          · rw [Bool.not_eq_false', decide_eq_true_eq] at heq
            have hlen : xs.length = ys.length := by omega
            unfold dFor
            walk_at "dd"
            refine ⟨by omega, by omega, fun i Γ => (∃ z, Γ = [.im (.lst xs), .im (.lst ys), z]) ∧ ∀ (j : Nat) (a b : D), j < i → xs[j]? = some a → ys[j]? = some b → likeD a b = true, ⟨⟨_, rfl⟩, fun _ _ _ h => absurd h (Nat.not_lt_zero _)⟩, ?_, ?_⟩
            · rintro i d Γ hd ⟨⟨z, rfl⟩, hall⟩
              obtain ⟨hi, rfl⟩ := rng_get hd
              rw [Int.toNat_natCast] at hi
              obtain ⟨a, ea, ha⟩ := get_mem (xs := xs) (i := i) (by omega)
              obtain ⟨b, eb, hb⟩ := get_mem (xs := ys) (i := i) hi
              walk_at "dd"
              rw [atI_nat (j := i) ea, atI_nat (j := i) eb]
              walk_at "dd"
              refine ⟨⟨hx.2 a ha, hy.2 b hb⟩, fun h => ?_, fun h => ⟨⟨_, rfl⟩, fun j a' b' hj e1 e2 => ?_⟩⟩
              · rw [Bool.not_eq_true'] at h
                exact (likeL_not ea eb h).symm
              · rw [Bool.not_eq_false'] at h
                by_cases hji : j = i
                · subst hji
                  rw [ea] at e1
                  rw [eb] at e2
                  cases e1
                  cases e2
                  exact h
                · exact hall j a' b' (by omega) e1 e2
            · rintro Γ ⟨⟨z, rfl⟩, hall⟩
              rw [rng_len, Int.toNat_natCast] at hall
              refine (likeL_all hlen fun i a b e1 e2 => hall i a b ?_ e1 e2).symm
              have := (List.getElem?_eq_some_iff.mp e2).1
              omega)
theorem fn__law_like_2 (T : Txt K mg) : Fn P w K mg base "_law_like" 4 (SpP K 2 (pre__law_like 2) val__law_like) := .of T.F__law_like (ok__law_like_2 T) T.g__law_like T.b__law_like
theorem fn__law_like (T : Txt K mg) : Fn P w K mg base "_law_like" 4 (SpP K 2 (pre__law_like 2) val__law_like) := fn__law_like_2 T
set_option maxHeartbeats 4000000 in
theorem ok__law_gcd (T : Txt K mg) : FnOk P w K mg base CX0 1 T.a__law_gcd T.fd__law_gcd p__law_gcd (SpP K 2 pre__law_gcd val__law_gcd) := by
  have sc := sc__law_gcd
  refine fok_p T.F__law_gcd sc__law_gcd rfl 0 rfl fun cdv A outer s H E hr => ⟨_, (dss_cons (ds_while (du_q (dq_cmp o_gt (dp_var 1) dp_int))
      (dss_one (ds_par (i := 0) (j := 1) rfl sc__law_gcd.nd (dls_cons (de_p (dp_var 1)) (dls_cons (de_p (dp_op o_mod (dp_ty c_int T.z_int PyProof.Rows.boot_int (dpa_cons (dp_var 0) dpa_nil)) (dp_var 1))) dls_nil)))))
      (dss_one (ds_ret (dp_var 0)))), fun ds hl hp => ?_⟩
  clear sc hr
  clear hl
  match ds, hp with
  | [.int a, .int b], ⟨h1, h2, h3, h4⟩ =>
    walk_at "dd"
    refine ⟨fun m Γ => ∃ x y : Int, Γ = [.im (.int x), .im (.int y)] ∧ 0 ≤ x ∧ 0 ≤ y ∧ gcdI x y = gcdI a b ∧ m = y.toNat, ⟨_, a, b, rfl, h1, h2, rfl, rfl⟩, ?_⟩
    rintro m Γ ⟨x, y, rfl, x0, y0, e, rfl⟩
    walk_at "dd"
    refine ⟨fun hy => ?_, fun hy => ?_⟩
    · have hy := of_decide_eq_true hy
      have z0 : 0 ≤ x % y := Int.emod_nonneg _ (by omega)
      have z1 : x % y < y := Int.emod_lt_of_pos _ hy
      exact ⟨hy, _, by omega, y, x % y, rfl, y0, z0, by rw [gcdI_step x0 hy]; exact e, rfl⟩
    · have hy := of_decide_eq_false hy
      have : y = 0 := by omega
      subst this
      rw [← e, gcdI_zero x0]
theorem fn__law_gcd (T : Txt K mg) : Fn P w K mg base "_law_gcd" 1 (SpP K 2 pre__law_gcd val__law_gcd) := .of T.F__law_gcd (ok__law_gcd T) T.g__law_gcd T.b__law_gcd
set_option maxHeartbeats 4000000 in
theorem ok__law_frac (T : Txt K mg) : FnOk P w K mg base CX0 2 T.a__law_frac T.fd__law_frac p__law_frac (SpP K 2 pre__law_frac val__law_frac) := by
  have sc := sc__law_frac
  refine fok_p T.F__law_frac sc__law_frac rfl 1 rfl fun cdv A outer s H E hr => ⟨_, (dss_cons (ds_if (du_q (dq_cmp o_lt (dp_var 1) dp_int))
      (dss_one (ds_par (i := 0) (j := 1) rfl sc__law_frac.nd (dls_cons (de_p (dp_un u_neg (dp_var 0))) (dls_cons (de_p (dp_un u_neg (dp_var 1))) dls_nil))))
      dss_nil)
      (dss_cons (ds_set 2 sc__law_frac.nd (de_p (dp_call (fn__law_gcd (P := P) (w := w) (base := base) T) (hr.mono (by decide)) (dpa_cons (dp_b c_abs T.z_abs PyProof.Rows.boot_abs (dpa_cons (dp_var 0) dpa_nil)) (dpa_cons (dp_var 1) dpa_nil)))))
      (dss_one (ds_ret (dp_tup (dpa_cons (dp_op o_div (dp_var 0) (dp_var 2)) (dpa_cons (dp_op o_div (dp_var 1) (dp_var 2)) dpa_nil))))))), fun ds hl hp => ?_⟩
  clear sc hr
  clear hl
  match ds, hp with
  | [.int a, .int b], h =>
    walk_at "dd"
    have h : Sz 8000 (a, b) := h
    have hb : 0 < b := h.2.2
    refine ⟨fun hn => absurd (of_decide_eq_true hn) (by omega), fun _ => ?_⟩
    have e : gcdI (if a < 0 then -a else a) b = gcdI a b := by
      unfold gcdI
      split <;> simp
    rw [e]
    have g0 := gcdI_pos (a := a) hb
    have g1 : (gcdI a b).natAbs < 2 ^ 8000 := Nat.lt_of_le_of_lt (by have := gcdI_le (a := a) hb; omega) h.2.1
    refine ⟨⟨by split <;> omega, by omega, by have := h.1; dsimp only at this; split <;> omega, h.2.1⟩, ⟨divW g0 g1 (by decide) _, divW g0 g1 (by decide) _⟩, rfl⟩
theorem fn__law_frac (T : Txt K mg) : Fn P w K mg base "_law_frac" 2 (SpP K 2 pre__law_frac val__law_frac) := .of T.F__law_frac (ok__law_frac T) T.g__law_frac T.b__law_frac
set_option maxHeartbeats 4000000 in
theorem ok__law_sign (T : Txt K mg) : FnOk P w K mg base CX0 1 T.a__law_sign T.fd__law_sign p__law_sign (SpP K 2 pre__law_sign val__law_sign) := by
  have sc := sc__law_sign
  refine fok_p T.F__law_sign sc__law_sign rfl 1 rfl fun cdv A outer s H E hr => ⟨_, (dss_cons (ds_set 2 sc__law_sign.nd (de_p (dp_op o_sub (dp_op o_mul (dp_ix (dp_var 0) dp_int) (dp_ix (dp_var 1) dp_int)) (dp_op o_mul (dp_ix (dp_var 1) dp_int) (dp_ix (dp_var 0) dp_int)))))
      (dss_one (ds_ret (dp_op o_sub (dp_ty c_int T.z_int PyProof.Rows.boot_int (dpa_cons (dp_cmp o_gt (dp_var 2) dp_int) dpa_nil)) (dp_ty c_int T.z_int PyProof.Rows.boot_int (dpa_cons (dp_cmp o_lt (dp_var 2) dp_int) dpa_nil)))))), fun ds hl hp => ?_⟩
  clear sc hr
  clear hl
  match ds, hp with
  | [x, y], ⟨p, q, hx, hy, hp, hq⟩ =>
    subst hx hy
    walk_at "dd"
    refine ⟨⟨mulW hp.1 hq.2.1 (by decide), mulW hq.1 hp.2.1 (by decide)⟩, ?_⟩
    unfold sgQ sgI
    generalize p.1 * q.2 - q.1 * p.2 = z
    simp only [decide_eq_true_eq]
    split <;> split <;> omega
theorem fn__law_sign (T : Txt K mg) : Fn P w K mg base "_law_sign" 1 (SpP K 2 pre__law_sign val__law_sign) := .of T.F__law_sign (ok__law_sign T) T.g__law_sign T.b__law_sign
set_option maxHeartbeats 4000000 in
theorem ok__law_form (T : Txt K mg) : FnOk P w K mg base CX0 2 T.a__law_form T.fd__law_form p__law_form (SpG K 2 S__law_form) := by
  have sc := sc__law_form
  refine fok_g T.F__law_form sc__law_form rfl 1 rfl fun cdv A outer s H E hr => ⟨_, (dss_cons (ds_set 2 sc__law_form.nd (de_callG (fn__law_draw (P := P) (w := w) (base := base) T) (hr.mono (by decide)) (da_slot (pv 0) (da_cons (de_p dp_int) da_nil))))
      (dss_cons (ds_if (du_q (dq_w (dw_and (dq_cmp (o_eq hr) (dp_ix (dp_var 1) dp_int) dp_int) (dw_and1 (dq_cmp o_lt (dp_var 2) dp_int)))))
      (dss_one (ds_ret (dp_ix (dp_var 1) dp_int)))
      dss_nil)
      (dss_one (ds_ret (dp_if (dq_cmp o_lt (dp_var 2) dp_int) (dp_var 1) (dp_tup (dpa_cons (dp_op o_mul (dp_ix (dp_var 1) dp_int) (dp_op o_sub (dp_var 2) dp_int)) (dpa_cons (dp_op o_mul (dp_ix (dp_var 1) dp_int) (dp_op o_sub (dp_var 2) dp_int)) dpa_nil)))))))), fun as kk hS hl => ?_⟩
  clear sc hr
  clear hl
  obtain ⟨n, ds, q, rfl, hb, hn, ht, hs, hk⟩ := hS
  walk_at "dd"
  refine draw_of hb (by omega) (by decide) (by decide) fun v ds' v0 v1 hb' => ?_
  walk_at "dd"
  refine ⟨fun h => ?_, fun h => ⟨fun h4 => ?_, ?_⟩⟩
  · rw [Bool.and_eq_true, decide_eq_true_eq] at h
    have e : ((q.1, 1) : Q2) = q := Prod.ext rfl h.1.symm
    exact hk (.i q.1) _ ⟨e, pow_mono hs.1 (by decide)⟩ hb'
  · have h4 := of_decide_eq_false h4
    have k : (v - 2).natAbs < 2 ^ 3 := by omega
    exact ⟨mulW hs.1 k (by decide), mulW hs.2.1 k (by decide)⟩
  · split
    · exact hk (.fr q) _ ⟨lowQ_of_told ht, hs.mono (by decide)⟩ hb'
    · rename_i h4
      have h4 : ¬ v < 4 := fun z => h4 (decide_eq_true z)
      have k : (v - 2).natAbs < 2 ^ 3 := by omega
      exact hk (.fr (q.1 * (v - 2), q.2 * (v - 2))) _ ⟨lowQ_scale ht (by omega), mul_pow hs.1 k (by decide), mul_pow hs.2.1 k (by decide), Int.mul_pos ht.1 (by omega)⟩ hb'
theorem fn__law_form (T : Txt K mg) : Fn P w K mg base "_law_form" 2 (SpG K 2 S__law_form) := .of T.F__law_form (ok__law_form T) T.g__law_form T.b__law_form
set_option maxHeartbeats 4000000 in
theorem ok__law_piece (T : Txt K mg) : FnOk P w K mg base CX0 3 T.a__law_piece T.fd__law_piece p__law_piece (SpG K 2 S__law_piece) := by
  have sc := sc__law_piece
  refine fok_g T.F__law_piece sc__law_piece rfl 4 rfl fun cdv A outer s H E hr => ⟨_, (dss_cons (ds_set 2 sc__law_piece.nd (de_op o_add (de_p dp_int) (de_callG (fn__law_draw (P := P) (w := w) (base := base) T) (hr.mono (by decide)) (da_slot (pv 0) (da_cons (de_p (dp_op o_sub (dp_var 1) dp_int)) da_nil)))))
      (dss_cons (ds_set 3 sc__law_piece.nd (de_callG (fn__law_draw (P := P) (w := w) (base := base) T) (hr.mono (by decide)) (da_slot (pv 0) (da_cons (de_p (dp_op o_mul (dp_op o_mul dp_int (dp_op o_add (dp_var 2) dp_int)) (dp_op o_add (dp_var 2) dp_int))) da_nil))))
      (dss_cons (ds_par (i := 4) (j := 5) rfl sc__law_piece.nd (dls_cons (de_p (dp_op o_mod (dp_ty c_int T.z_int PyProof.Rows.boot_int (dpa_cons (dp_op o_div (dp_var 3) dp_int) dpa_nil)) (dp_op o_add (dp_var 2) dp_int))) (dls_cons (de_p (dp_op o_div (dp_op o_div (dp_var 3) dp_int) (dp_op o_add (dp_var 2) dp_int))) dls_nil)))
      (dss_cons (ds_if (du_q (dq_cmp (o_eq hr) (dp_var 4) (dp_var 5)))
      (dss_cons (ds_set 4 sc__law_piece.nd (de_p (dp_b (c_max rfl) T.z_max PyProof.Rows.boot_max (dpa_cons dp_int (dpa_cons (dp_b (c_min rfl) T.z_min PyProof.Rows.boot_min (dpa_cons (dp_var 4) (dpa_cons (dp_op o_sub (dp_var 2) dp_int) dpa_nil))) dpa_nil)))))
      (dss_one (ds_ret (dp_tup (dpa_cons (dp_call (fn__law_frac (P := P) (w := w) (base := base) T) (hr.mono (by decide)) (dpa_cons (dp_var 4) (dpa_cons (dp_var 2) dpa_nil))) (dpa_cons dp_bl (dpa_cons (dp_call (fn__law_frac (P := P) (w := w) (base := base) T) (hr.mono (by decide)) (dpa_cons (dp_var 4) (dpa_cons (dp_var 2) dpa_nil))) (dpa_cons dp_bl dpa_nil))))))))
      dss_nil)
      (dss_cons (ds_par (i := 4) (j := 5) rfl sc__law_piece.nd (dls_cons (de_p (dp_b (c_min rfl) T.z_min PyProof.Rows.boot_min (dpa_cons (dp_var 4) (dpa_cons (dp_var 5) dpa_nil)))) (dls_cons (de_p (dp_b (c_max rfl) T.z_max PyProof.Rows.boot_max (dpa_cons (dp_var 4) (dpa_cons (dp_var 5) dpa_nil)))) dls_nil)))
      (dss_one (ds_ret (dp_tup (dpa_cons (dp_call (fn__law_frac (P := P) (w := w) (base := base) T) (hr.mono (by decide)) (dpa_cons (dp_var 4) (dpa_cons (dp_var 2) dpa_nil))) (dpa_cons (dp_and (dp_cmp o_gt (dp_var 4) dp_int) (dp_one (dp_cmp (o_eq hr) (dp_op o_mod (dp_ty c_int T.z_int PyProof.Rows.boot_int (dpa_cons (dp_var 3) dpa_nil)) dp_int) dp_int))) (dpa_cons (dp_call (fn__law_frac (P := P) (w := w) (base := base) T) (hr.mono (by decide)) (dpa_cons (dp_var 5) (dpa_cons (dp_var 2) dpa_nil))) (dpa_cons (dp_and (dp_cmp o_lt (dp_var 5) (dp_var 2)) (dp_one (dp_cmp o_lt (dp_op o_mod (dp_ty c_int T.z_int PyProof.Rows.boot_int (dpa_cons (dp_var 3) dpa_nil)) dp_int) dp_int))) dpa_nil)))))))))))), fun as kk hS hl => ?_⟩
  clear sc hr
  clear hl
  obtain ⟨n, ds, most, rfl, hb, hn, hm0, hm1, hk⟩ := hS
  walk_at "dd"
  refine draw_of hb (by omega) (by omega) (pow_mono (a := 60) (by omega) (by decide)) fun v ds' v0 v1 hb' => ?_
  walk_at "dd"
  have u0 : 2 ≤ 2 + v := by omega
  have u1 : 2 + v ≤ 1000 := by omega
  generalize 2 + v = u at u0 u1 ⊢
  have p1 : (u + 1).natAbs < 2 ^ 10 := by omega
  have p2 : (4 * (u + 1)).natAbs < 2 ^ 13 := by omega
  refine ⟨⟨mulW (a := 60) (b := 60) (by decide) (by omega) (by decide), mulW p2 p1 (by decide)⟩, ?_⟩
  refine draw_of hb' (by omega) (Int.mul_pos (by omega) (by omega)) (mul_pow p2 p1 (by decide)) fun w ds2 w0 w1 hb2 => ?_
  walk_at "dd"
  have hhi0 : 0 ≤ w / 4 / (u + 1) := Int.ediv_nonneg (by omega) (by omega)
  have hhi1 : w / 4 / (u + 1) ≤ u := by
    have : w / 4 / (u + 1) < u + 1 := by
      refine Int.ediv_lt_of_lt_mul (by omega) ?_
      have e : 4 * (u + 1) * (u + 1) = 4 * ((u + 1) * (u + 1)) := Int.mul_assoc _ _ _
      rw [e] at w1
      omega
    omega
  have hlo0 : 0 ≤ w / 4 % (u + 1) := Int.emod_nonneg _ (by omega)
  have hlo1 : w / 4 % (u + 1) ≤ u := by
    have := Int.emod_lt_of_pos (w / 4) (show 0 < u + 1 by omega)
    omega
  generalize w / 4 % (u + 1) = lo at hlo0 hlo1 ⊢
  generalize w / 4 / (u + 1) = hi at hhi0 hhi1 ⊢
  refine ⟨⟨divW (b := 10) (by decide) (by decide) (by decide) _, by omega⟩, ⟨divW (b := 10) (by decide) (by decide) (by decide) _, divW (b := 10) (by omega) p1 (by decide) _⟩, fun h => ?_, fun h => ?_⟩
  · have e1 : 1 ≤ (if (if u - 1 < lo then u - 1 else lo) > 1 then if u - 1 < lo then u - 1 else lo else 1) := by split <;> omega
    have e2 : (if (if u - 1 < lo then u - 1 else lo) > 1 then if u - 1 < lo then u - 1 else lo else 1) < u := by split <;> (try split) <;> omega
    generalize (if (if u - 1 < lo then u - 1 else lo) > 1 then if u - 1 < lo then u - 1 else lo else 1) = x at e1 e2 ⊢
    have sz : Sz 100 (x, u) := ⟨pow_mono (a := 10) (by show x.natAbs < 2 ^ 10; omega) (by decide), pow_mono (a := 10) (by show u.natAbs < 2 ^ 10; omega) (by decide), by show 0 < u; omega⟩
    exact ⟨sz.mono (by decide), hk ⟨lowQ (x, u), true, lowQ (x, u), true⟩ _ (piece_one sz (by omega) e2) hb2⟩
  · have hne : lo ≠ hi := of_decide_eq_false h
    have e1 : 0 ≤ (if hi < lo then hi else lo) := by split <;> omega
    have e2 : (if hi > lo then hi else lo) ≤ u := by split <;> omega
    have e3 : (if hi < lo then hi else lo) < (if hi > lo then hi else lo) := by split <;> split <;> omega
    generalize (if hi < lo then hi else lo) = x at e1 e2 e3 ⊢
    generalize (if hi > lo then hi else lo) = y at e1 e2 e3 ⊢
    have sx : Sz 100 (x, u) := ⟨pow_mono (a := 10) (by show x.natAbs < 2 ^ 10; omega) (by decide), pow_mono (a := 10) (by show u.natAbs < 2 ^ 10; omega) (by decide), by show 0 < u; omega⟩
    have sy : Sz 100 (y, u) := ⟨pow_mono (a := 10) (by show y.natAbs < 2 ^ 10; omega) (by decide), sx.2.1, sx.2.2⟩
    refine ⟨⟨sx.mono (by decide), fun _ => by decide, sy.mono (by decide), fun _ => by decide⟩, hk ⟨lowQ (x, u), _, lowQ (y, u), _⟩ _ (piece_two sx sy e1 e3 e2 (fun h => ?_) (fun h => ?_)) hb2⟩
    · have h : (decide (x > 0) && decide (w % 2 = 0)) = true := h
      rw [Bool.and_eq_true, decide_eq_true_eq] at h; exact h.1
    · have h : (decide (y < u) && decide (w % 4 < 2)) = true := h
      rw [Bool.and_eq_true, decide_eq_true_eq] at h; exact h.1
theorem fn__law_piece (T : Txt K mg) : Fn P w K mg base "_law_piece" 3 (SpG K 2 S__law_piece) := .of T.F__law_piece (ok__law_piece T) T.g__law_piece T.b__law_piece
set_option maxHeartbeats 4000000 in
theorem ok__law_stretch (T : Txt K mg) : FnOk P w K mg base CX0 5 T.a__law_stretch T.fd__law_stretch p__law_stretch (SpG K 2 (S__law_stretch T.c_Stretch)) := by
  have sc := sc__law_stretch
  refine fok_g T.F__law_stretch sc__law_stretch rfl 0 rfl fun cdv A outer s H E hr => ⟨_, (dss_one (ds_retE (de_make (mk_Stretch (P := P) (w := w) (base := base) T) (hr.mono (by decide)) (dls_cons (de_callG (fn__law_form (P := P) (w := w) (base := base) T) (hr.mono (by decide)) (da_slot (pv 0) (da_cons (de_p (dp_ix (dp_var 1) dp_int)) da_nil))) (dls_cons (de_p (dp_ix (dp_var 1) dp_int)) (dls_cons (de_callG (fn__law_form (P := P) (w := w) (base := base) T) (hr.mono (by decide)) (da_slot (pv 0) (da_cons (de_p (dp_ix (dp_var 1) dp_int)) da_nil))) (dls_cons (de_p (dp_ix (dp_var 1) dp_int)) dls_nil))))))), fun as kk hS hl => ?_⟩
  clear sc hr
  clear hl
  obtain ⟨n, ds, p, rfl, hb, hn, hp, hk⟩ := hS
  walk_at "dd"
  refine form_of hb (by omega) hp.tlo hp.sz.1 fun f ds' hf hb' => ?_
  walk_at "dd"
  refine form_of hb' (by omega) hp.thi hp.sz.2 fun g ds2 hg hb2 => ?_
  walk_at "dd"
  have e : (⟨f.v, p.li, g.v, p.hin⟩ : Part) = p := by rw [hf.1, hg.1]
  refine ⟨⟨f, g, rfl, rfl, hf.2, hg.2, by rw [e]; exact hp.may⟩, ?_⟩
  rw [v_initF, e]
  exact hk _ hb2
theorem fn__law_stretch (T : Txt K mg) : Fn P w K mg base "_law_stretch" 5 (SpG K 2 (S__law_stretch T.c_Stretch)) := .of T.F__law_stretch (ok__law_stretch T) T.g__law_stretch T.b__law_stretch
set_option maxHeartbeats 4000000 in
theorem ok__law_is (T : Txt K mg) : FnOk P w K mg base CX0 5 T.a__law_is T.fd__law_is p__law_is (SpP K 2 (pre__law_is T.c_Stretch) (val__law_is T.c_Stretch)) := by
  have sc := sc__law_is
  refine fok_p T.F__law_is sc__law_is rfl 0 rfl fun cdv A outer s H E hr => ⟨_, (dss_one (ds_ret (dp_and (dp_isiC T.kc_Stretch T.z_isinstance T.gc_Stretch (dp_var 0)) (dp_one (dp_call (fn__law_like (P := P) (w := w) (base := base) T) (hr.mono (by decide)) (dpa_cons (dp_tup (dpa_cons (dp_fld T.cl_Stretch T.na_Stretch_low (dp_var 0)) (dpa_cons (dp_fld T.cl_Stretch T.na_Stretch_low_in (dp_var 0)) (dpa_cons (dp_fld T.cl_Stretch T.na_Stretch_high (dp_var 0)) (dpa_cons (dp_fld T.cl_Stretch T.na_Stretch_high_in (dp_var 0)) dpa_nil))))) (dpa_cons (dp_var 1) dpa_nil))))))), fun ds hl hp => ?_⟩
  clear sc hr
  clear hl
  match ds, hp with
  | [x, y], ⟨o, p, hx, hy⟩ =>
    subst hx hy
    cases o with
    | none =>
      unfold optS
      walk_at "dd"
      exact ⟨⟨.inl rfl, fun h => nomatch h⟩, rfl⟩
    | some q =>
      unfold optS
      walk_at "dd"
      refine ⟨⟨.inr trivial, plain_part (p := q), plain_part⟩, ?_⟩
      exact like_part (p := q) (q := p)
theorem fn__law_is (T : Txt K mg) : Fn P w K mg base "_law_is" 5 (SpP K 2 (pre__law_is T.c_Stretch) (val__law_is T.c_Stretch)) := .of T.F__law_is (ok__law_is T) T.g__law_is T.b__law_is
set_option maxHeartbeats 4000000 in
theorem ok__law_common (T : Txt K mg) : FnOk P w K mg base CX0 3 T.a__law_common T.fd__law_common p__law_common (SpP K 2 pre__law_common val__law_common) := by
  have sc := sc__law_common
  refine fok_p T.F__law_common sc__law_common rfl 5 rfl fun cdv A outer s H E hr => ⟨_, (dss_cons (ds_set 2 sc__law_common.nd (de_p (dp_if (dq_cmp o_gt (dp_call (fn__law_sign (P := P) (w := w) (base := base) T) (hr.mono (by decide)) (dpa_cons (dp_ix (dp_var 0) dp_int) (dpa_cons (dp_ix (dp_var 1) dp_int) dpa_nil))) dp_int) (dp_var 0) (dp_var 1))))
      (dss_cons (ds_set 3 sc__law_common.nd (de_p (dp_if (dq_cmp o_lt (dp_call (fn__law_sign (P := P) (w := w) (base := base) T) (hr.mono (by decide)) (dpa_cons (dp_ix (dp_var 0) dp_int) (dpa_cons (dp_ix (dp_var 1) dp_int) dpa_nil))) dp_int) (dp_var 0) (dp_var 1))))
      (dss_cons (ds_set 4 sc__law_common.nd (de_p (dp_if (dq_cmp (o_ne hr) (dp_ix (dp_var 0) dp_int) (dp_ix (dp_var 1) dp_int)) (dp_ix (dp_var 2) dp_int) (dp_and (dp_ix (dp_var 0) dp_int) (dp_one (dp_ix (dp_var 1) dp_int))))))
      (dss_cons (ds_set 5 sc__law_common.nd (de_p (dp_if (dq_cmp (o_ne hr) (dp_ix (dp_var 0) dp_int) (dp_ix (dp_var 1) dp_int)) (dp_ix (dp_var 3) dp_int) (dp_and (dp_ix (dp_var 0) dp_int) (dp_one (dp_ix (dp_var 1) dp_int))))))
      (dss_cons (ds_set 6 sc__law_common.nd (de_p (dp_call (fn__law_sign (P := P) (w := w) (base := base) T) (hr.mono (by decide)) (dpa_cons (dp_ix (dp_var 3) dp_int) (dpa_cons (dp_ix (dp_var 2) dp_int) dpa_nil)))))
      (dss_one (ds_ret (dp_if (dq_w (dw_or (dq_cmp o_gt (dp_var 6) dp_int) (dw_or1 (dq_w (dw_and (dq_cmp (o_eq hr) (dp_var 6) dp_int) (dw_and (dq_val (dp_var 4)) (dw_and1 (dq_val (dp_var 5))))))))) (dp_tup (dpa_cons (dp_ix (dp_var 2) dp_int) (dpa_cons (dp_var 4) (dpa_cons (dp_ix (dp_var 3) dp_int) (dpa_cons (dp_var 5) dpa_nil))))) dp_non)))))))), fun ds hl hp => ?_⟩
  clear sc hr
  clear hl
  match ds, hp with
  | [x, y], ⟨p, q, hx, hy, hp, hq⟩ =>
    subst hx hy
    walk_at "dd"
    have L := comL_ok hp hq
    have Hh := comH_ok hp hq
    refine ⟨⟨hp.sz.1.mono (by decide), hq.sz.1.mono (by decide)⟩, ⟨hp.sz.2.mono (by decide), hq.sz.2.mono (by decide)⟩, ⟨Hh.sz.2.mono (by decide), L.sz.1.mono (by decide)⟩, ?_⟩
    rw [com_eq hp hq]
    have e : ∀ c : Bool, (if c = true then (comP p q).d else D.non) = optD (if c = true then some (comP p q) else none) := fun c => by split <;> rfl
    exact e _
theorem fn__law_common (T : Txt K mg) : Fn P w K mg base "_law_common" 3 (SpP K 2 pre__law_common val__law_common) := .of T.F__law_common (ok__law_common T) T.g__law_common T.b__law_common
set_option maxHeartbeats 4000000 in
theorem ok__law_drawn (T : Txt K mg) : FnOk P w K mg base CX0 4 T.a__law_drawn T.fd__law_drawn p__law_drawn (SpG K 1 S__law_drawn) := by
  have sc := sc__law_drawn
  refine fok_g T.F__law_drawn sc__law_drawn rfl 5 rfl fun cdv A outer s H E hr => ⟨_, (dss_cons (ds_setO 1 sc__law_drawn.nd (do_l (dpl_lst dpa_nil)))
      (dss_cons (ds_for rfl (di_range1 T.z_range (dls_cons (de_op o_add (de_p dp_int) (de_callG (fn__law_draw (P := P) (w := w) (base := base) T) (hr.mono (by decide)) (da_slot (pv 0) (da_cons (de_p dp_int) da_nil)))) dls_nil)) (dg_name 2 sc__law_drawn.nd)
      (dss_cons (ds_set 3 sc__law_drawn.nd (de_callG (fn__law_piece (P := P) (w := w) (base := base) T) (hr.mono (by decide)) (da_slot (pv 0) (da_cons (de_p dp_int) da_nil))))
      (dss_cons (ds_if (du_w (dwu_and (du_q (dq_truN (pv 1))) (dwu_and1 (du_cmp (o_eq hr) (de_callG (fn__law_draw (P := P) (w := w) (base := base) T) (hr.mono (by decide)) (da_slot (pv 0) (da_cons (de_p dp_int) da_nil))) (de_p dp_int)))))
      (dss_cons (ds_par (i := 4) (j := 5) rfl sc__law_drawn.nd (dls_cons (de_callG (fn__law_of (P := P) (w := w) (base := base) T) (hr.mono (by decide)) (da_slot (pv 0) (da_slot (pv 1) da_nil))) (dls_cons (de_callG (fn__law_draw (P := P) (w := w) (base := base) T) (hr.mono (by decide)) (da_slot (pv 0) (da_cons (de_p dp_int) da_nil))) dls_nil)))
      (dss_one (ds_if (du_q (dq_w (dw_and (dq_cmp (o_eq hr) (dp_var 5) dp_int) (dw_and1 (dq_cmp o_lt (dp_call (fn__law_sign (P := P) (w := w) (base := base) T) (hr.mono (by decide)) (dpa_cons (dp_ix (dp_var 4) dp_int) (dpa_cons (dp_ix (dp_var 3) dp_int) dpa_nil))) dp_int)))))
      (dss_one (ds_set 3 sc__law_drawn.nd (de_tup (dls_cons (de_p (dp_ix (dp_var 4) dp_int)) (dls_cons (de_cmp (o_eq hr) (de_callG (fn__law_draw (P := P) (w := w) (base := base) T) (hr.mono (by decide)) (da_slot (pv 0) (da_cons (de_p dp_int) da_nil))) (de_p dp_int)) (dls_cons (de_p (dp_ix (dp_var 3) dp_int)) (dls_cons (de_p (dp_ix (dp_var 3) dp_int)) dls_nil)))))))
      (dss_one (ds_if (du_q (dq_w (dw_and (dq_cmp (o_eq hr) (dp_var 5) dp_int) (dw_and1 (dq_cmp o_lt (dp_call (fn__law_sign (P := P) (w := w) (base := base) T) (hr.mono (by decide)) (dpa_cons (dp_ix (dp_var 3) dp_int) (dpa_cons (dp_ix (dp_var 4) dp_int) dpa_nil))) dp_int)))))
      (dss_one (ds_set 3 sc__law_drawn.nd (de_tup (dls_cons (de_p (dp_ix (dp_var 3) dp_int)) (dls_cons (de_p (dp_ix (dp_var 3) dp_int)) (dls_cons (de_p (dp_ix (dp_var 4) dp_int)) (dls_cons (de_and (de_p (dp_cmp o_gt (dp_ix (dp_ix (dp_var 4) dp_int) dp_int) dp_int)) (de_one (de_cmp (o_eq hr) (de_callG (fn__law_draw (P := P) (w := w) (base := base) T) (hr.mono (by decide)) (da_slot (pv 0) (da_cons (de_p dp_int) da_nil))) (de_p dp_int)))) dls_nil)))))))
      (dss_one (ds_if (du_q (dq_w (dw_and (dq_cmp (o_eq hr) (dp_var 5) dp_int) (dw_and1 (dq_cmp o_lt (dp_call (fn__law_sign (P := P) (w := w) (base := base) T) (hr.mono (by decide)) (dpa_cons (dp_ix (dp_var 4) dp_int) (dpa_cons (dp_ix (dp_var 4) dp_int) dpa_nil))) dp_int)))))
      (dss_one (ds_set 3 sc__law_drawn.nd (de_p (dp_tup (dpa_cons (dp_ix (dp_var 4) dp_int) (dpa_cons (dp_and (dp_cmp o_gt (dp_ix (dp_ix (dp_var 4) dp_int) dp_int) dp_int) (dp_one (dp_not (dp_ix (dp_var 4) dp_int)))) (dpa_cons (dp_ix (dp_var 4) dp_int) (dpa_cons (dp_ix (dp_var 4) dp_int) dpa_nil))))))))
      (dss_one (ds_if (du_q (dq_cmp o_gt (dp_ix (dp_ix (dp_var 4) dp_int) dp_int) dp_int))
      (dss_one (ds_set 3 sc__law_drawn.nd (de_p (dp_tup (dpa_cons (dp_ix (dp_var 4) dp_int) (dpa_cons dp_bl (dpa_cons (dp_ix (dp_var 4) dp_int) (dpa_cons dp_bl dpa_nil))))))))
      dss_nil)))))))))
      dss_nil)
      (dss_one (ds_append (pv 1) (de_p (dp_var 3)) rfl (pe_bm PySem.F.plainAttrs_list PySem.F.slot_list_append PySem.F.type_list_append mt_append (pv 1) (pa_cons (de_p (dp_var 3)) pa_nil)))))))
      (dss_one (ds_retV (pv 1))))), fun as kk hS hl => ?_⟩
  clear sc hr
  clear hl
  obtain ⟨n, ds, rfl, hb, hn, hk⟩ := hS
  walk_at "dd"
  unfold dFor
  walk_at "dd"
  refine draw_of hb (by omega) (by decide) (by decide) fun v ds1 v0 v1 hb1 => ?_
  walk_at "dd"
  refine ⟨by omega, by omega, fun i Γ => ∃ (ds : List D) (ps : List Part) (x2 x3 x4 x5 : Sl), Γ = [.own true (.lst ds), .own false (.lst (ps.map Part.d)), x2, x3, x4, x5] ∧ BagOk (n + 1 + 6 * i) ds ∧ ps.length = i ∧ ∀ p ∈ ps, Part.Ok B0 p, ⟨ds1, [], _, _, _, _, rfl, hb1, rfl, fun _ h => nomatch h⟩, ?_, ?_⟩
  · rintro i d Γ hd ⟨ds2, ps, x2, x3, x4, x5, rfl, hb2, hlen, hps⟩
    obtain ⟨hi, rfl⟩ := rng_get hd
    have hi : i < 6 := by omega
    walk_at "dd"
    refine piece_of hb2 (by omega) (by decide) (by decide) fun p ds3 hp hb3 => ?_
    walk_at "dd"
    have fin : ∀ (q : Part) (ds' : List D) (y1 y2 y3 y4 : Sl), q.Ok B0 → BagOk (n + 1 + 6 * (i + 1)) ds' → (ps.length < sizeLine ∧ ∃ (ds : List D) (ps' : List Part) (x2 x3 x4 x5 : Sl), ([.own true (.lst ds'), .own false (.lst (ps.map Part.d ++ [q.d])), y1, y2, y3, y4] : List Sl) = [.own true (.lst ds), .own false (.lst (ps'.map Part.d)), x2, x3, x4, x5] ∧ BagOk (n + 1 + 6 * (i + 1)) ds ∧ ps'.length = i + 1 ∧ ∀ p ∈ ps', Part.Ok B0 p) := fun q ds' y1 y2 y3 y4 hq hb' => by
      refine ⟨Nat.lt_of_lt_of_le (m := 1000) (by omega) (by decide), ds', ps ++ [q], y1, y2, y3, y4, ?_, hb', by rw [List.length_append, hlen]; rfl, fun r hr => ?_⟩
      · rw [List.map_append]; rfl
      · rcases List.mem_append.mp hr with hr | hr
        · exact hps r hr
        · rw [List.mem_singleton] at hr; rw [hr]; exact hq
    refine ⟨fun hne => ?_, fun hem => fin p _ _ _ _ _ hp (hb3.mono (by omega))⟩
    refine draw_of hb3 (by omega) (by decide) (by decide) fun z ds4 z0 z1 hb4 => ?_
    walk_at "dd"
    refine ⟨fun hz => ?_, fun hz => fin p _ _ _ _ _ hp (hb4.mono (by omega))⟩
    have hl0 : (ps.map Part.d) ≠ [] := fun e => by rw [e] at hne; cases hne
    refine of_of hb4 (by omega) hl0 (Nat.lt_of_lt_of_le (m := 1000) (by rw [List.length_map]; omega) (by decide)) fun x ds5 hx hb5 => ?_
    obtain ⟨nr, hnr, rfl⟩ := List.mem_map.mp hx
    have hnr := hps nr hnr
    walk_at "dd"
    refine draw_of hb5 (by omega) (by decide) (by decide) fun y ds6 y0 y1 hb6 => ?_
    walk_at "dd"
    have s1 : Sz B nr.lo := hnr.sz.1.mono (by decide)
    have s2 : Sz B nr.hi := hnr.sz.2.mono (by decide)
    have s3 : Sz B p.lo := hp.sz.1.mono (by decide)
    have s4 : Sz B p.hi := hp.sz.2.mono (by decide)
    have h66 := hb6.mono (m := n + 1 + 6 * (i + 1)) (by omega)
    refine ⟨fun _ => ⟨s2, s4⟩, fun hc => ?_, fun _ => ⟨fun _ => ⟨s3, s1⟩, fun hc => ⟨fun hp0 => ?_, fun _ => ?_⟩, fun _ => ⟨fun _ => ⟨s1, s2⟩, fun hc => ?_, fun _ => ⟨fun h => ?_, fun _ => ?_⟩⟩⟩⟩
    · rw [Bool.and_eq_true, decide_eq_true_eq, decide_eq_true_eq] at hc
      refine draw_of hb6 (by omega) (by decide) (by decide) fun u ds7 _ _ hb7 => ?_
      walk_at "dd"
      exact fin ⟨nr.hi, decide (u = 0), p.hi, p.hin⟩ _ _ _ _ _ (okA hnr hp ((sg_neg hnr.thi.1 hp.thi.1).mp hc.2)) (hb7.mono (by omega))
    · rw [Bool.and_eq_true, decide_eq_true_eq, decide_eq_true_eq] at hc
      refine draw_of hb6 (by omega) (by decide) (by decide) fun u ds7 _ _ hb7 => ?_
      walk_at "dd"
      exact fin ⟨p.lo, p.li, nr.lo, decide (u = 0)⟩ _ _ _ _ _ (okB hnr hp ((sg_neg hp.tlo.1 hnr.tlo.1).mp hc.2)) (hb7.mono (by omega))
    · rw [Bool.and_eq_true, decide_eq_true_eq, decide_eq_true_eq] at hc
      exact fin ⟨p.lo, p.li, nr.lo, false⟩ _ _ _ _ _ (okB hnr hp ((sg_neg hp.tlo.1 hnr.tlo.1).mp hc.2)) h66
    · rw [Bool.and_eq_true, decide_eq_true_eq, decide_eq_true_eq] at hc
      refine fin ⟨nr.lo, decide (nr.lo.1 > 0) && !nr.li, nr.hi, nr.hin⟩ _ _ _ _ _ (okC hnr ((sg_neg hnr.tlo.1 hnr.thi.1).mp hc.2) fun h => ?_) h66
      rw [Bool.and_eq_true, decide_eq_true_eq] at h
      exact h.1
    · exact fin ⟨nr.lo, true, nr.lo, true⟩ _ _ _ _ _ (okD hnr (of_decide_eq_true h)) h66
    · exact fin p _ _ _ _ _ hp h66
  · rintro Γ ⟨ds2, ps, x2, x3, x4, x5, rfl, hb2, hlen, hps⟩
    walk_at "dd"
    rw [rng_len] at hb2 hlen
    exact hk ps ds2 hps (by omega) (by omega) (hb2.mono (by omega))
theorem fn__law_drawn (T : Txt K mg) : Fn P w K mg base "_law_drawn" 4 (SpG K 1 S__law_drawn) := .of T.F__law_drawn (ok__law_drawn T) T.g__law_drawn T.b__law_drawn
set_option maxHeartbeats 4000000 in
theorem ok__law_reaches (T : Txt K mg) : FnOk P w K mg base CX0 2 T.a__law_reaches T.fd__law_reaches p__law_reaches (SpP K 2 pre__law_reaches val__law_reaches) := by
  have sc := sc__law_reaches
  refine fok_p T.F__law_reaches sc__law_reaches rfl 3 rfl fun cdv A outer s H E hr => ⟨_, (dss_cons (ds_par3 (i := 2) (j := 3) (l := 4) rfl sc__law_reaches.nd (dls_cons (de_p (dp_op o_mul (dp_op o_mul (dp_ix (dp_ix (dp_var 0) dp_int) dp_int) (dp_ix (dp_var 1) dp_int)) (dp_ix (dp_ix (dp_var 0) dp_int) dp_int))) (dls_cons (de_p (dp_op o_mul (dp_op o_mul (dp_ix (dp_var 1) dp_int) (dp_ix (dp_ix (dp_var 0) dp_int) dp_int)) (dp_ix (dp_ix (dp_var 0) dp_int) dp_int))) (dls_cons (de_p (dp_op o_mul (dp_op o_mul (dp_ix (dp_ix (dp_var 0) dp_int) dp_int) (dp_ix (dp_var 1) dp_int)) (dp_ix (dp_ix (dp_var 0) dp_int) dp_int))) dls_nil))))
      (dss_one (ds_ret (dp_or (dp_chain o_lt o_lt (dp_var 2) (dp_var 3) (dp_var 4)) (dp_or (dp_and (dp_cmp (o_eq hr) (dp_var 3) (dp_var 2)) (dp_one (dp_ix (dp_var 0) dp_int))) (dp_one (dp_and (dp_cmp (o_eq hr) (dp_var 3) (dp_var 4)) (dp_one (dp_ix (dp_var 0) dp_int))))))))), fun ds hl hp => ?_⟩
  clear sc hr
  clear hl
  match ds, hp with
  | [x, y], ⟨p, q, hx, hy, hp, hq⟩ =>
    subst hx hy
    walk_at "dd"
    have l := hp.sz.1
    have h := hp.sz.2
    refine ⟨⟨mulW l.1 hq.2.1 (by decide), mulW (mul_pow l.1 hq.2.1 (Nat.le_refl _)) h.2.1 (by decide)⟩, ⟨mulW hq.1 l.2.1 (by decide), mulW (mul_pow hq.1 l.2.1 (Nat.le_refl _)) h.2.1 (by decide)⟩, ⟨mulW h.1 hq.2.1 (by decide), mulW (mul_pow h.1 hq.2.1 (Nat.le_refl _)) l.2.1 (by decide)⟩, ?_⟩
    exact reach_eq hp hq.2.2
theorem fn__law_reaches (T : Txt K mg) : Fn P w K mg base "_law_reaches" 2 (SpP K 2 pre__law_reaches val__law_reaches) := .of T.F__law_reaches (ok__law_reaches T) T.g__law_reaches T.b__law_reaches
set_option maxHeartbeats 4000000 in
theorem ok__law_lies (T : Txt K mg) : FnOk P w K mg base CX0 3 T.a__law_lies T.fd__law_lies p__law_lies (SpP K 2 pre__law_lies val__law_lies) := by
  have sc := sc__law_lies
  refine fok_p T.F__law_lies sc__law_lies rfl 1 rfl fun cdv A outer s H E hr => ⟨_, (dss_cons (ds_set 2 sc__law_lies.nd (de_p (dp_tup (dpa_cons (dp_call (fn__law_sign (P := P) (w := w) (base := base) T) (hr.mono (by decide)) (dpa_cons (dp_ix (dp_var 0) dp_int) (dpa_cons (dp_ix (dp_var 1) dp_int) dpa_nil))) (dpa_cons (dp_call (fn__law_sign (P := P) (w := w) (base := base) T) (hr.mono (by decide)) (dpa_cons (dp_ix (dp_var 1) dp_int) (dpa_cons (dp_ix (dp_var 0) dp_int) dpa_nil))) dpa_nil)))))
      (dss_one (ds_ret (dp_and (dp_cmp o_ge (dp_ix (dp_var 2) dp_int) dp_int) (dp_and (dp_cmp o_ge (dp_ix (dp_var 2) dp_int) dp_int) (dp_and (dp_or (dp_cmp o_gt (dp_ix (dp_var 2) dp_int) dp_int) (dp_or (dp_ix (dp_var 1) dp_int) (dp_one (dp_not (dp_ix (dp_var 0) dp_int))))) (dp_one (dp_or (dp_cmp o_gt (dp_ix (dp_var 2) dp_int) dp_int) (dp_or (dp_ix (dp_var 1) dp_int) (dp_one (dp_not (dp_ix (dp_var 0) dp_int)))))))))))), fun ds hl hp => ?_⟩
  clear sc hr
  clear hl
  match ds, hp with
  | [x, y], ⟨p, q, hx, hy, hp, hq⟩ =>
    subst hx hy
    walk_at "dd"
    exact ⟨⟨⟨hp.sz.1.mono (by decide), hq.sz.1.mono (by decide)⟩, hq.sz.2.mono (by decide), hp.sz.2.mono (by decide)⟩, lies_eq hp hq⟩
theorem fn__law_lies (T : Txt K mg) : Fn P w K mg base "_law_lies" 3 (SpP K 2 pre__law_lies val__law_lies) := .of T.F__law_lies (ok__law_lies T) T.g__law_lies T.b__law_lies
set_option maxHeartbeats 4000000 in
theorem ok__law_met (T : Txt K mg) : FnOk P w K mg base CX0 8 T.a__law_met T.fd__law_met p__law_met (SpG K 3 S__law_met) := by
  have sc := sc__law_met
  refine fok_g T.F__law_met sc__law_met rfl 6 rfl fun cdv A outer s H E hr => ⟨_, (dss_cons (ds_set 3 sc__law_met.nd (de_p (dp_call (fn__law_common (P := P) (w := w) (base := base) T) (hr.mono (by decide)) (dpa_cons (dp_var 1) (dpa_cons (dp_var 2) dpa_nil)))))
      (dss_cons (ds_par (i := 4) (j := 5) rfl sc__law_met.nd (dls_cons (de_callG (fn__law_stretch (P := P) (w := w) (base := base) T) (hr.mono (by decide)) (da_slot (pv 0) (da_cons (de_p (dp_var 1)) da_nil))) (dls_cons (de_callG (fn__law_stretch (P := P) (w := w) (base := base) T) (hr.mono (by decide)) (da_slot (pv 0) (da_cons (de_p (dp_var 2)) da_nil))) dls_nil)))
      (dss_cons (ds_set 6 sc__law_met.nd (de_p (dp_op (op_ownBin (mt_Stretch_ddanddd (P := P) (w := w) (base := base) T) (hr.mono (by decide))) (dp_var 4) (dp_var 5))))
      (dss_cons (ds_if (du_q (dq_w (dw_or (dq_w (dw_and (dq_cmp o_isN (dp_var 3) dp_non) (dw_and1 (dq_cmp o_notN (dp_var 6) dp_non)))) (dw_or1 (dq_w (dw_and (dq_cmp o_notN (dp_var 3) dp_non) (dw_and1 (dq_not (dq_val (dp_call (fn__law_is (P := P) (w := w) (base := base) T) (hr.mono (by decide)) (dpa_cons (dp_var 6) (dpa_cons (dp_var 3) dpa_nil))))))))))))
      (dss_one (ds_ret dp_bl))
      dss_nil)
      (dss_cons (ds_if (du_q (dq_w (dw_or (dq_not (dq_val (dp_call (fn__law_like (P := P) (w := w) (base := base) T) (hr.mono (by decide)) (dpa_cons (dp_meth (mt_Stretch_within (P := P) (w := w) (base := base) T) (hr.mono (by decide)) (dp_var 4) (dpa_cons (dp_var 5) dpa_nil)) (dpa_cons (dp_call (fn__law_lies (P := P) (w := w) (base := base) T) (hr.mono (by decide)) (dpa_cons (dp_var 1) (dpa_cons (dp_var 2) dpa_nil))) dpa_nil))))) (dw_or (dq_not (dq_val (dp_call (fn__law_is (P := P) (w := w) (base := base) T) (hr.mono (by decide)) (dpa_cons (dp_var 4) (dpa_cons (dp_var 1) dpa_nil))))) (dw_or1 (dq_not (dq_val (dp_call (fn__law_is (P := P) (w := w) (base := base) T) (hr.mono (by decide)) (dpa_cons (dp_var 5) (dpa_cons (dp_var 2) dpa_nil))))))))))
      (dss_one (ds_ret dp_bl))
      dss_nil)
      (dss_cons (ds_for rfl (di_list (de_p (dp_l (dpl_lst (dpa_cons (dp_ix (dp_var 1) dp_int) (dpa_cons (dp_ix (dp_var 1) dp_int) (dpa_cons (dp_ix (dp_var 2) dp_int) (dpa_cons (dp_ix (dp_var 2) dp_int) (dpa_cons (dp_call (fn__law_frac (P := P) (w := w) (base := base) T) (hr.mono (by decide)) (dpa_cons (dp_op o_add (dp_op o_mul (dp_ix (dp_ix (dp_var 1) dp_int) dp_int) (dp_ix (dp_ix (dp_var 2) dp_int) dp_int)) (dp_op o_mul (dp_ix (dp_ix (dp_var 2) dp_int) dp_int) (dp_ix (dp_ix (dp_var 1) dp_int) dp_int))) (dpa_cons (dp_op o_mul (dp_op o_mul dp_int (dp_ix (dp_ix (dp_var 1) dp_int) dp_int)) (dp_ix (dp_ix (dp_var 2) dp_int) dp_int)) dpa_nil))) dpa_nil))))))))) (dg_name 7 sc__law_met.nd)
      (dss_cons (ds_set 8 sc__law_met.nd (de_p (dp_and (dp_call (fn__law_reaches (P := P) (w := w) (base := base) T) (hr.mono (by decide)) (dpa_cons (dp_var 1) (dpa_cons (dp_var 7) dpa_nil))) (dp_one (dp_call (fn__law_reaches (P := P) (w := w) (base := base) T) (hr.mono (by decide)) (dpa_cons (dp_var 2) (dpa_cons (dp_var 7) dpa_nil)))))))
      (dss_cons (ds_if (du_q (dq_w (dw_and (dq_val (dp_var 8)) (dw_and1 (dq_cmp o_isN (dp_var 6) dp_non)))))
      (dss_one (ds_ret dp_bl))
      dss_nil)
      (dss_one (ds_if (du_w (dwu_and (du_q (dq_cmp o_notN (dp_var 6) dp_non)) (dwu_and1 (du_not (du_val (de_call (fn__law_like (P := P) (w := w) (base := base) T) (hr.mono (by decide)) (dls_cons (de_cmp (op_ownIn (mt_Stretch_ddcontainsdd (P := P) (w := w) (base := base) T) (hr.mono (by decide))) (de_callG (fn__law_form (P := P) (w := w) (base := base) T) (hr.mono (by decide)) (da_slot (pv 0) (da_cons (de_p (dp_var 7)) da_nil))) (de_p (dp_var 6))) (dls_cons (de_p (dp_var 8)) dls_nil))))))))
      (dss_one (ds_ret dp_bl))
      dss_nil)))))
      (dss_one (ds_ret (dp_or (dp_cmp o_isN (dp_var 6) dp_non) (dp_one (dp_and (dp_cmp o_isB (dp_meth (mt_Stretch_within (P := P) (w := w) (base := base) T) (hr.mono (by decide)) (dp_var 6) (dpa_cons (dp_var 4) dpa_nil)) dp_bl) (dp_one (dp_cmp o_isB (dp_methK (mtk_Stretch_within (P := P) (w := w) (base := base) T) (hr.mono (by decide)) (dp_var 6) (dp_var 5)) dp_bl))))))))))))), fun as kk hS hl => ?_⟩
  clear sc hr
  clear hl
  obtain ⟨n, ds, p, q, rfl, hb, hn, hp0, hq0, hk⟩ := hS
  have hp : p.Ok B1 := hp0.mono (by decide)
  have hq : q.Ok B1 := hq0.mono (by decide)
  have hpB : p.Ok B := hp0.mono (by decide)
  have hqB : q.Ok B := hq0.mono (by decide)
  have hm := mid_sz hp0 hq0
  walk_at "dd"
  refine ⟨⟨hp, hq⟩, stretch_of hb (by omega) hp fun ds1 hb1 => ?_⟩
  walk_at "dd"
  refine stretch_of hb1 (by omega) hq fun ds2 hb2 => ?_
  walk_at "dd"
  cases hr : andQ p q with
  | none =>
    simp only [hr, optS, optD]
    walk_at "dd"
    refine ⟨⟨hpB, hqB⟩, fun h => (nomatch h), fun _ => ⟨⟨⟨⟨hpB, hqB⟩, hp, hq⟩, plain_bl⟩, fun h => (nomatch h), fun _ => ?_⟩⟩
    unfold dFor
    walk_at "dd"
    refine ⟨mid_ok hp0 hq0, fun i Γ => ∃ (ds : List D) (x7 x8 : Sl), Γ = [.own true (.lst ds), .im p.d, .im q.d, .im .non, .im (p.s T.c_Stretch), .im (q.s T.c_Stretch), .im .non, x7, x8] ∧ BagOk (n + 4 + i) ds, ⟨ds2, _, _, rfl, hb2⟩, ?_, ?_⟩
    · rintro i d Γ hd ⟨ds3, x7, x8, rfl, hb3⟩
      obtain ⟨x, rfl, tx, sx⟩ := mid_items hp0 hq0 d (List.mem_of_getElem? hd)
      walk_at "dd"
      have no := and_not (x := val x) hp hq hr
      refine ⟨⟨⟨hp, sx.mono (by decide)⟩, fun _ => ⟨hq, sx.mono (by decide)⟩⟩, fun h => ?_, fun _ => ⟨_, _, _, rfl, hb3.mono (by omega)⟩⟩
      rw [Bool.and_eq_true, Bool.and_eq_true, decide_eq_true_eq, decide_eq_true_eq] at h
      exact absurd h.1 no
    · rintro Γ ⟨ds3, x7, x8, rfl, hb3⟩
      walk_at "dd"
      exact hk _ (hb3.mono (by omega))
  | some r =>
    have hrk := and_ok (by decide) hpB hqB hr
    simp only [hr, optS, optD]
    walk_at "dd"
    refine ⟨⟨hpB, hqB⟩, fun h => (nomatch h), fun _ => ⟨⟨⟨⟨hpB, hqB⟩, hp, hq⟩, plain_bl⟩, fun h => (nomatch h), fun _ => ?_⟩⟩
    unfold dFor
    walk_at "dd"
    refine ⟨mid_ok hp0 hq0, fun i Γ => ∃ (ds : List D) (x7 x8 : Sl), Γ = [.own true (.lst ds), .im p.d, .im q.d, .im r.d, .im (p.s T.c_Stretch), .im (q.s T.c_Stretch), .im (r.s T.c_Stretch), x7, x8] ∧ BagOk (n + 4 + i) ds, ⟨ds2, _, _, rfl, hb2⟩, ?_, ?_⟩
    · rintro i d Γ hd ⟨ds3, x7, x8, rfl, hb3⟩
      have hi : i < 5 := (List.getElem?_eq_some_iff.mp hd).1
      obtain ⟨x, rfl, tx, sx⟩ := mid_items hp0 hq0 d (List.mem_of_getElem? hd)
      walk_at "dd"
      have mem := and_mem (x := val x) hp hq hr
      refine ⟨⟨⟨hp, sx.mono (by decide)⟩, fun _ => ⟨hq, sx.mono (by decide)⟩⟩, fun h => ?_, fun _ => ?_⟩
      · rw [Bool.and_false] at h; cases h
      refine form_of hb3 (by omega) tx sx fun f ds4 hf hb4 => ?_
      walk_at "dd"
      have ec : conQ r f.v = (decide (Mem p (val x)) && decide (Mem q (val x))) := by
        rw [Bool.eq_iff_iff, hf.1, conQ_eq hrk.tlo hrk.thi tx, mem, Bool.and_eq_true, decide_eq_true_eq, decide_eq_true_eq]
      refine ⟨p_contains hrk hf.2, ⟨plain_bl, plain_bl⟩, fun h => ?_, fun _ => ⟨_, _, _, rfl, hb4.mono (by omega)⟩⟩
      rw [ec, beq_self_eq_true] at h
      cases h
    · rintro Γ ⟨ds3, x7, x8, rfl, hb3⟩
      walk_at "dd"
      rw [and_w1 (by decide) hpB hqB hr, and_w2 (by decide) hpB hqB hr]
      exact ⟨⟨⟨hrk, hpB⟩, fun _ => ⟨hrk, hqB⟩⟩, hk _ (hb3.mono (by omega))⟩
theorem fn__law_met (T : Txt K mg) : Fn P w K mg base "_law_met" 8 (SpG K 3 S__law_met) := .of T.F__law_met (ok__law_met T) T.g__law_met T.b__law_met
set_option maxHeartbeats 4000000 in
theorem ok_law (T : Txt K mg) : FnOk P w K mg base CX0 9 T.a_law T.fd_law p_law (SpP K 1 pre_law val_law) := by
  have sc := sc_law
  refine fok_p T.F_law sc_law rfl 10 rfl fun cdv A outer s H E hr => ⟨_, (dss_cons (ds_setO 1 sc_law.nd (do_callG (fn__law_bag (P := P) (w := w) (base := base) T) (hr.mono (by decide)) (da_cons (de_p (dp_var 0)) da_nil)))
      (dss_cons (ds_set 2 sc_law.nd (de_o (do_callG (fn__law_drawn (P := P) (w := w) (base := base) T) (hr.mono (by decide)) (da_slot (pv 1) da_nil))))
      (dss_cons (ds_for rfl (di_list (de_p (dp_var 2))) (dg_name 3 sc_law.nd)
      (dss_one (ds_for rfl (di_list (de_p (dp_var 2))) (dg_name 4 sc_law.nd)
      (dss_one (ds_if (du_not (du_val (de_callG (fn__law_met (P := P) (w := w) (base := base) T) (hr.mono (by decide)) (da_slot (pv 1) (da_cons (de_p (dp_var 3)) (da_cons (de_p (dp_var 4)) da_nil))))))
      (dss_one (ds_ret dp_bl))
      dss_nil)))))
      (dss_cons (ds_par3 (i := 5) (j := 6) (l := 7) rfl sc_law.nd (dls_cons (de_callG (fn__law_stretch (P := P) (w := w) (base := base) T) (hr.mono (by decide)) (da_slot (pv 1) (da_cons (de_p (dp_ix (dp_var 2) dp_int)) da_nil))) (dls_cons (de_callG (fn__law_stretch (P := P) (w := w) (base := base) T) (hr.mono (by decide)) (da_slot (pv 1) (da_cons (de_p (dp_ix (dp_var 2) dp_int)) da_nil))) (dls_cons (de_callG (fn__law_stretch (P := P) (w := w) (base := base) T) (hr.mono (by decide)) (da_slot (pv 1) (da_cons (de_p (dp_ix (dp_var 2) (dp_un u_neg dp_int))) da_nil))) dls_nil))))
      (dss_cons (ds_par (i := 3) (j := 4) rfl sc_law.nd (dls_cons (de_p (dp_op (op_ownBin (mt_Stretch_ddanddd (P := P) (w := w) (base := base) T) (hr.mono (by decide))) (dp_var 5) (dp_var 6))) (dls_cons (de_p (dp_op (op_ownBin (mt_Stretch_ddanddd (P := P) (w := w) (base := base) T) (hr.mono (by decide))) (dp_var 6) (dp_var 7))) dls_nil)))
      (dss_cons (ds_set 8 sc_law.nd (de_p (dp_if (dq_cmp o_notN (dp_var 3) dp_non) (dp_op (op_ownBin (mt_Stretch_ddanddd (P := P) (w := w) (base := base) T) (hr.mono (by decide))) (dp_var 3) (dp_var 7)) dp_non)))
      (dss_cons (ds_set 9 sc_law.nd (de_p (dp_if (dq_cmp o_notN (dp_var 4) dp_non) (dp_op (op_ownBin (mt_Stretch_ddanddd (P := P) (w := w) (base := base) T) (hr.mono (by decide))) (dp_var 5) (dp_var 4)) dp_non)))
      (dss_cons (ds_set 10 sc_law.nd (de_p (dp_call (fn__law_common (P := P) (w := w) (base := base) T) (hr.mono (by decide)) (dpa_cons (dp_ix (dp_var 2) dp_int) (dpa_cons (dp_ix (dp_var 2) dp_int) dpa_nil)))))
      (dss_cons (ds_set 10 sc_law.nd (de_p (dp_if (dq_cmp o_notN (dp_var 10) dp_non) (dp_call (fn__law_common (P := P) (w := w) (base := base) T) (hr.mono (by decide)) (dpa_cons (dp_var 10) (dpa_cons (dp_ix (dp_var 2) (dp_un u_neg dp_int)) dpa_nil))) dp_non)))
      (dss_cons (ds_if (du_q (dq_cmp o_isN (dp_var 10) dp_non))
      (dss_one (ds_ret (dp_and (dp_cmp o_isN (dp_var 8) dp_non) (dp_one (dp_cmp o_isN (dp_var 9) dp_non)))))
      dss_nil)
      (dss_one (ds_ret (dp_and (dp_call (fn__law_is (P := P) (w := w) (base := base) T) (hr.mono (by decide)) (dpa_cons (dp_var 8) (dpa_cons (dp_var 10) dpa_nil))) (dp_and (dp_call (fn__law_is (P := P) (w := w) (base := base) T) (hr.mono (by decide)) (dpa_cons (dp_var 9) (dpa_cons (dp_var 10) dpa_nil))) (dp_one (dp_cmp o_isB (dp_cmp (op_ownEq (mt_Stretch_ddeqdd (P := P) (w := w) (base := base) T) (hr.mono (by decide))) (dp_var 8) (dp_var 9)) dp_bl)))))))))))))))), fun ds hl hp => ?_⟩
  clear sc hr
  clear hl
  match ds, hp with
  | [x], ⟨xs, hx, hd⟩ =>
    subst hd
    walk_at "dd"
    refine bag_of hx fun b0 hb0 => ?_
    walk_at "dd"
    refine drawn_of hb0 (by decide) fun ps b1 hps hl1 hl2 hb1 => ?_
    obtain ⟨a, b, c, ha, hb, hc, e0, e1, e2⟩ : ∃ a b c : Part, a ∈ ps ∧ b ∈ ps ∧ c ∈ ps ∧ atI (ps.map Part.d) 0 = some a.d ∧ atI (ps.map Part.d) 1 = some b.d ∧ atI (ps.map Part.d) (-1) = some c.d := by
      match ps, hl1 with
      | a :: b :: rest, _ =>
        refine ⟨a, b, (a :: b :: rest).getLast (List.cons_ne_nil _ _), by simp, by simp, List.getLast_mem _, atI_nat (j := 0) rfl, atI_nat (j := 1) rfl, ?_⟩
        have hz : ((a :: b :: rest).map Part.d) = ((a :: b :: rest).dropLast.map Part.d) ++ [((a :: b :: rest).getLast (List.cons_ne_nil _ _)).d] := by
          rw [← List.map_singleton, ← List.map_append, List.dropLast_concat_getLast]
        rw [hz]
        exact atI_last _ _
    have ha := hps a ha
    have hb := hps b hb
    have hc := hps c hc
    walk_at "dd"
    unfold dFor
    walk_at "dd"
    refine ⟨fun i Γ => ∃ (ds : List D) (x3 x4 : Sl), Γ = [.im (.lst (xs.map .int)), .own false (.lst ds), .im (.lst (ps.map Part.d)), x3, x4, .un, .un, .un, .un, .un, .un] ∧ BagOk (100 + 600 * i) ds, ⟨b1, _, _, rfl, hb1⟩, ?_, ?_⟩
    · rintro i d Γ hd ⟨ds2, x3, x4, rfl, hb2⟩
      have hi : i < ps.length := by rw [← List.length_map (f := Part.d)]; exact (List.getElem?_eq_some_iff.mp hd).1
      obtain ⟨p, hp, rfl⟩ := List.mem_map.mp (List.mem_of_getElem? hd)
      have hp := hps p hp
      walk_at "dd"
      refine ⟨fun j Γ => ∃ (ds : List D) (x4 : Sl), Γ = [.im (.lst (xs.map .int)), .own false (.lst ds), .im (.lst (ps.map Part.d)), .im p.d, x4, .un, .un, .un, .un, .un, .un] ∧ BagOk (100 + 600 * i + 100 * j) ds, ⟨ds2, _, rfl, hb2⟩, ?_, ?_⟩
      · rintro j d2 Γ hd2 ⟨ds3, x5, rfl, hb3⟩
        have hj : j < ps.length := by rw [← List.length_map (f := Part.d)]; exact (List.getElem?_eq_some_iff.mp hd2).1
        obtain ⟨q, hq, rfl⟩ := List.mem_map.mp (List.mem_of_getElem? hd2)
        have hq := hps q hq
        walk_at "dd"
        refine met_of hb3 (by omega) hp hq fun ds4 hb4 => ?_
        walk_at "dd"
        exact ⟨_, _, rfl, hb4⟩
      · rintro Γ ⟨ds3, x5, rfl, hb3⟩
        exact ⟨_, _, _, rfl, hb3.mono (by omega)⟩
    · rintro Γ ⟨ds2, x3, x4, rfl, hb2⟩
      have ha1 : a.Ok B1 := ha.mono (by decide)
      have hb1 : b.Ok B1 := hb.mono (by decide)
      have hc1 : c.Ok B1 := hc.mono (by decide)
      walk_at "dd"
      simp only [e0]
      walk_at "dd"
      refine stretch_of hb2 (by omega) ha1 fun ds3 hb3 => ?_
      walk_at "dd"
      simp only [e1]
      walk_at "dd"
      refine stretch_of hb3 (by omega) hb1 fun ds4 hb4 => ?_
      walk_at "dd"
      simp only [e2]
      walk_at "dd"
      refine stretch_of hb4 (by omega) hc1 fun ds5 hb5 => ?_
      walk_at "dd"
      have haB : a.Ok B := ha.mono (by decide)
      have hbB : b.Ok B := hb.mono (by decide)
      have hcB : c.Ok B := hc.mono (by decide)
      have as3 := and_assoc3 (N := B) (by decide) haB hbB hcB
      simp only [e0, e1, e2]
      walk_at "dd"
      rcases opt_cases (andQ a b) with h1 | ⟨r1, h1⟩
      · rcases opt_cases (andQ b c) with h2 | ⟨r2, h2⟩
        · simp only [h1, h2, optS, optD]
          walk_at "dd"
          simp only [Bool.false_eq_true, if_false, if_true]
          walk_at "dd"
          exact ⟨⟨haB, hbB⟩, ⟨hbB, hcB⟩, ⟨ha1, hb1⟩, rfl⟩
        · have h4 : andQ a r2 = none := by rw [h1, h2] at as3; exact as3.symm
          have o2 := and_ok (N := B) (by decide) hbB hcB h2
          simp only [h1, h2, optS, optD]
          walk_at "dd"
          simp only [Bool.false_eq_true, if_false, if_true, v_and, v_common, h4, optS, optD]
          walk_at "dd"
          exact ⟨⟨haB, hbB⟩, ⟨hbB, hcB⟩, ⟨haB, o2⟩, ⟨ha1, hb1⟩, rfl⟩
      · have o1 := and_ok (N := B) (by decide) haB hbB h1
        have o11 := and_ok (N := B1) (by decide) ha1 hb1 h1
        rcases opt_cases (andQ b c) with h2 | ⟨r2, h2⟩
        · have h3 : andQ r1 c = none := by rw [h1, h2] at as3; exact as3
          simp only [h1, h2, optS, optD]
          walk_at "dd"
          simp only [Bool.false_eq_true, if_false, if_true, v_and, v_common, h3, optS, optD]
          walk_at "dd"
          exact ⟨⟨haB, hbB⟩, ⟨hbB, hcB⟩, ⟨o1, hcB⟩, ⟨ha1, hb1⟩, ⟨o11, hc1⟩, rfl⟩
        · have o2 := and_ok (N := B) (by decide) hbB hcB h2
          have h34 : andQ r1 c = andQ a r2 := by rw [h1, h2] at as3; exact as3
          simp only [h1, h2, optS, optD]
          walk_at "dd"
          simp only [Bool.false_eq_true, if_false, if_true]
          simp only [← h34]
          rcases opt_cases (andQ r1 c) with h3 | ⟨d, h3⟩
          · simp only [Bool.false_eq_true, if_false, if_true, v_and, v_common, h3, optS, optD]
            walk_at "dd"
            exact ⟨⟨haB, hbB⟩, ⟨hbB, hcB⟩, ⟨o1, hcB⟩, ⟨haB, o2⟩, ⟨ha1, hb1⟩, ⟨o11, hc1⟩, rfl⟩
          · simp only [Bool.false_eq_true, if_false, if_true, v_and, v_common, h3, optS, optD]
            walk_at "dd"
            exact ⟨⟨haB, hbB⟩, ⟨hbB, hcB⟩, ⟨o1, hcB⟩, ⟨haB, o2⟩, ⟨ha1, hb1⟩, ⟨o11, hc1⟩, and_ok (N := B) (by decide) o1 hcB h3, rfl⟩
theorem fn_law (T : Txt K mg) : Fn P w K mg base "law" 9 (SpP K 1 pre_law val_law) := .of T.F_law (ok_law T) T.g_law T.b_law
abbrev spLaw (K : PySem.W.Frag) : Sp := SpP K 1 pre_law val_law
theorem ints_rep {K : PySem.W.Frag} {Z : Hp} : ∀ ns : List Int, RepL K Z (ns.map V.int) (ns.map D.int)
  | [] => .nil
  | n :: r => .cons (.int n) (ints_rep r)
theorem spLaw_of {K : PySem.W.Frag} {H : Hp} {a : Addr} {ns : List Int} (hl : ns.length ≤ 63) (hS : SqL K H a (ns.map V.int)) : spLaw K [.ref a] H (fun v _ => v = .bl true) (fun _ _ _ => False) :=
  ⟨H, [.lst (ns.map .int)], Sub.refl, .cons (.lst hS (ints_rep ns)) .nil, rfl, ⟨ns, hl, rfl⟩, fun v Z' H' _ r => by cases r; rfl⟩
set_option maxHeartbeats 0 in
theorem all_mk {l : PySem.W.OpenLaw} {w : World} {K : PySem.W.Frag} {h : Heap} {mg : Str → Option Value} {fa : Addr} {c_Stretch : Addr} {f_lowest : Addr} {od_lowest an_lowest : Option Addr} {sl_lowest : Array (Option Value)} {oc_lowest kV_lowest dc_lowest pm_lowest cd_lowest ct_lowest : Value} {f_as_number : Addr} {od_as_number an_as_number : Option Addr} {sl_as_number : Array (Option Value)} {oc_as_number kV_as_number dc_as_number pm_as_number cd_as_number ct_as_number : Value} {f_less : Addr} {od_less an_less : Option Addr} {sl_less : Array (Option Value)} {oc_less kV_less dc_less pm_less cd_less ct_less : Value} {f_may_stand : Addr} {od_may_stand an_may_stand : Option Addr} {sl_may_stand : Array (Option Value)} {oc_may_stand kV_may_stand dc_may_stand pm_may_stand cd_may_stand ct_may_stand : Value} {f_Stretch_ddinitdd : Addr} {od_Stretch_ddinitdd an_Stretch_ddinitdd : Option Addr} {sl_Stretch_ddinitdd : Array (Option Value)} {oc_Stretch_ddinitdd kV_Stretch_ddinitdd dc_Stretch_ddinitdd pm_Stretch_ddinitdd cd_Stretch_ddinitdd ct_Stretch_ddinitdd : Value} {f_starts_first : Addr} {od_starts_first an_starts_first : Option Addr} {sl_starts_first : Array (Option Value)} {oc_starts_first kV_starts_first dc_starts_first pm_starts_first cd_starts_first ct_starts_first : Value} {f_ends_last : Addr} {od_ends_last an_ends_last : Option Addr} {sl_ends_last : Array (Option Value)} {oc_ends_last kV_ends_last dc_ends_last pm_ends_last cd_ends_last ct_ends_last : Value} {f_Stretch_within : Addr} {od_Stretch_within an_Stretch_within : Option Addr} {sl_Stretch_within : Array (Option Value)} {oc_Stretch_within kV_Stretch_within dc_Stretch_within pm_Stretch_within cd_Stretch_within ct_Stretch_within : Value} {f_between : Addr} {od_between an_between : Option Addr} {sl_between : Array (Option Value)} {oc_between kV_between dc_between pm_between cd_between ct_between : Value} {f_Stretch_ddanddd : Addr} {od_Stretch_ddanddd an_Stretch_ddanddd : Option Addr} {sl_Stretch_ddanddd : Array (Option Value)} {oc_Stretch_ddanddd kV_Stretch_ddanddd dc_Stretch_ddanddd pm_Stretch_ddanddd cd_Stretch_ddanddd ct_Stretch_ddanddd : Value} {f_Stretch_ddcontainsdd : Addr} {od_Stretch_ddcontainsdd an_Stretch_ddcontainsdd : Option Addr} {sl_Stretch_ddcontainsdd : Array (Option Value)} {oc_Stretch_ddcontainsdd kV_Stretch_ddcontainsdd dc_Stretch_ddcontainsdd pm_Stretch_ddcontainsdd cd_Stretch_ddcontainsdd ct_Stretch_ddcontainsdd : Value} {f_Stretch_ddeqdd : Addr} {od_Stretch_ddeqdd an_Stretch_ddeqdd : Option Addr} {sl_Stretch_ddeqdd : Array (Option Value)} {oc_Stretch_ddeqdd kV_Stretch_ddeqdd dc_Stretch_ddeqdd pm_Stretch_ddeqdd cd_Stretch_ddeqdd ct_Stretch_ddeqdd : Value} {f__law_bag : Addr} {od__law_bag an__law_bag : Option Addr} {sl__law_bag : Array (Option Value)} {oc__law_bag kV__law_bag dc__law_bag pm__law_bag cd__law_bag ct__law_bag : Value} {f__law_draw : Addr} {od__law_draw an__law_draw : Option Addr} {sl__law_draw : Array (Option Value)} {oc__law_draw kV__law_draw dc__law_draw pm__law_draw cd__law_draw ct__law_draw : Value} {f__law_of : Addr} {od__law_of an__law_of : Option Addr} {sl__law_of : Array (Option Value)} {oc__law_of kV__law_of dc__law_of pm__law_of cd__law_of ct__law_of : Value} {f__law_like : Addr} {od__law_like an__law_like : Option Addr} {sl__law_like : Array (Option Value)} {oc__law_like kV__law_like dc__law_like pm__law_like cd__law_like ct__law_like : Value} {f__law_gcd : Addr} {od__law_gcd an__law_gcd : Option Addr} {sl__law_gcd : Array (Option Value)} {oc__law_gcd kV__law_gcd dc__law_gcd pm__law_gcd cd__law_gcd ct__law_gcd : Value} {f__law_frac : Addr} {od__law_frac an__law_frac : Option Addr} {sl__law_frac : Array (Option Value)} {oc__law_frac kV__law_frac dc__law_frac pm__law_frac cd__law_frac ct__law_frac : Value} {f__law_sign : Addr} {od__law_sign an__law_sign : Option Addr} {sl__law_sign : Array (Option Value)} {oc__law_sign kV__law_sign dc__law_sign pm__law_sign cd__law_sign ct__law_sign : Value} {f__law_form : Addr} {od__law_form an__law_form : Option Addr} {sl__law_form : Array (Option Value)} {oc__law_form kV__law_form dc__law_form pm__law_form cd__law_form ct__law_form : Value} {f__law_piece : Addr} {od__law_piece an__law_piece : Option Addr} {sl__law_piece : Array (Option Value)} {oc__law_piece kV__law_piece dc__law_piece pm__law_piece cd__law_piece ct__law_piece : Value} {f__law_stretch : Addr} {od__law_stretch an__law_stretch : Option Addr} {sl__law_stretch : Array (Option Value)} {oc__law_stretch kV__law_stretch dc__law_stretch pm__law_stretch cd__law_stretch ct__law_stretch : Value} {f__law_is : Addr} {od__law_is an__law_is : Option Addr} {sl__law_is : Array (Option Value)} {oc__law_is kV__law_is dc__law_is pm__law_is cd__law_is ct__law_is : Value} {f__law_common : Addr} {od__law_common an__law_common : Option Addr} {sl__law_common : Array (Option Value)} {oc__law_common kV__law_common dc__law_common pm__law_common cd__law_common ct__law_common : Value} {f__law_drawn : Addr} {od__law_drawn an__law_drawn : Option Addr} {sl__law_drawn : Array (Option Value)} {oc__law_drawn kV__law_drawn dc__law_drawn pm__law_drawn cd__law_drawn ct__law_drawn : Value} {f__law_reaches : Addr} {od__law_reaches an__law_reaches : Option Addr} {sl__law_reaches : Array (Option Value)} {oc__law_reaches kV__law_reaches dc__law_reaches pm__law_reaches cd__law_reaches ct__law_reaches : Value} {f__law_lies : Addr} {od__law_lies an__law_lies : Option Addr} {sl__law_lies : Array (Option Value)} {oc__law_lies kV__law_lies dc__law_lies pm__law_lies cd__law_lies ct__law_lies : Value} {f__law_met : Addr} {od__law_met an__law_met : Option Addr} {sl__law_met : Array (Option Value)} {oc__law_met kV__law_met dc__law_met pm__law_met cd__law_met ct__law_met : Value} {od_law an_law : Option Addr} {sl_law : Array (Option Value)} {oc_law kV_law dc_law pm_law cd_law ct_law : Value} {f_law : Addr} {a_ZERO : Addr} {od_ZERO : Option Addr} {sl_ZERO : Array (Option Value)} {x_ZERO y_ZERO : Tok} {n_ZERO : Nat} {a_ONE : Addr} {od_ONE : Option Addr} {sl_ONE : Array (Option Value)} {x_ONE y_ONE : Tok} {n_ONE : Nat} (X : K.In h) (G : h.Ns mainGlobals mg) (hfa : mg "law" = some (.ref fa))
    (ac_Stretch : PySem.W.nsIn K mainGlobals "Stretch" = some (some (.ref c_Stretch)))
    (a_lowest : PySem.W.nsIn K mainGlobals "lowest" = some (some (.ref f_lowest)))
    (l_lowest : K.lookup f_lowest = some ⟨oc_lowest, od_lowest, .func (PySem.W.fnOf "lowest" "lowest" (defArgs s_lowest) (defBody s_lowest) (defScope s_lowest) .none kV_lowest dc_lowest pm_lowest an_lowest cd_lowest ct_lowest), sl_lowest⟩)
    (co_lowest : PySem.W.codeIn K cd_lowest "lowest" = true)
    (k_lowest : PySem.W.keepIn K (.ref f_lowest) = true)
    (a_as_number : PySem.W.nsIn K mainGlobals "as_number" = some (some (.ref f_as_number)))
    (l_as_number : K.lookup f_as_number = some ⟨oc_as_number, od_as_number, .func (PySem.W.fnOf "as_number" "as_number" (defArgs s_as_number) (defBody s_as_number) (defScope s_as_number) .none kV_as_number dc_as_number pm_as_number an_as_number cd_as_number ct_as_number), sl_as_number⟩)
    (co_as_number : PySem.W.codeIn K cd_as_number "as_number" = true)
    (k_as_number : PySem.W.keepIn K (.ref f_as_number) = true)
    (a_less : PySem.W.nsIn K mainGlobals "less" = some (some (.ref f_less)))
    (l_less : K.lookup f_less = some ⟨oc_less, od_less, .func (PySem.W.fnOf "less" "less" (defArgs s_less) (defBody s_less) (defScope s_less) .none kV_less dc_less pm_less an_less cd_less ct_less), sl_less⟩)
    (co_less : PySem.W.codeIn K cd_less "less" = true)
    (k_less : PySem.W.keepIn K (.ref f_less) = true)
    (a_may_stand : PySem.W.nsIn K mainGlobals "may_stand" = some (some (.ref f_may_stand)))
    (l_may_stand : K.lookup f_may_stand = some ⟨oc_may_stand, od_may_stand, .func (PySem.W.fnOf "may_stand" "may_stand" (defArgs s_may_stand) (defBody s_may_stand) (defScope s_may_stand) .none kV_may_stand dc_may_stand pm_may_stand an_may_stand cd_may_stand ct_may_stand), sl_may_stand⟩)
    (co_may_stand : PySem.W.codeIn K cd_may_stand "may_stand" = true)
    (k_may_stand : PySem.W.keepIn K (.ref f_may_stand) = true)
    (a_Stretch_ddinitdd : PySem.W.findIn K (.ref c_Stretch) "__init__" = some (some (.ref f_Stretch_ddinitdd)))
    (i_Stretch_ddinitdd : PySem.W.isFn K (.ref f_Stretch_ddinitdd) = true)
    (l_Stretch_ddinitdd : K.lookup f_Stretch_ddinitdd = some ⟨oc_Stretch_ddinitdd, od_Stretch_ddinitdd, .func (PySem.W.fnOf "__init__" "Stretch.__init__" (defArgs s_Stretch_ddinitdd) (defBody s_Stretch_ddinitdd) (defScope s_Stretch_ddinitdd) .none kV_Stretch_ddinitdd dc_Stretch_ddinitdd pm_Stretch_ddinitdd an_Stretch_ddinitdd cd_Stretch_ddinitdd ct_Stretch_ddinitdd), sl_Stretch_ddinitdd⟩)
    (co_Stretch_ddinitdd : PySem.W.codeIn K cd_Stretch_ddinitdd "Stretch.__init__" = true)
    (k_Stretch_ddinitdd : PySem.W.keepIn K (.ref f_Stretch_ddinitdd) = true)
    (a_starts_first : PySem.W.nsIn K mainGlobals "starts_first" = some (some (.ref f_starts_first)))
    (l_starts_first : K.lookup f_starts_first = some ⟨oc_starts_first, od_starts_first, .func (PySem.W.fnOf "starts_first" "starts_first" (defArgs s_starts_first) (defBody s_starts_first) (defScope s_starts_first) .none kV_starts_first dc_starts_first pm_starts_first an_starts_first cd_starts_first ct_starts_first), sl_starts_first⟩)
    (co_starts_first : PySem.W.codeIn K cd_starts_first "starts_first" = true)
    (k_starts_first : PySem.W.keepIn K (.ref f_starts_first) = true)
    (a_ends_last : PySem.W.nsIn K mainGlobals "ends_last" = some (some (.ref f_ends_last)))
    (l_ends_last : K.lookup f_ends_last = some ⟨oc_ends_last, od_ends_last, .func (PySem.W.fnOf "ends_last" "ends_last" (defArgs s_ends_last) (defBody s_ends_last) (defScope s_ends_last) .none kV_ends_last dc_ends_last pm_ends_last an_ends_last cd_ends_last ct_ends_last), sl_ends_last⟩)
    (co_ends_last : PySem.W.codeIn K cd_ends_last "ends_last" = true)
    (k_ends_last : PySem.W.keepIn K (.ref f_ends_last) = true)
    (a_Stretch_within : PySem.W.findIn K (.ref c_Stretch) "within" = some (some (.ref f_Stretch_within)))
    (i_Stretch_within : PySem.W.isFn K (.ref f_Stretch_within) = true)
    (l_Stretch_within : K.lookup f_Stretch_within = some ⟨oc_Stretch_within, od_Stretch_within, .func (PySem.W.fnOf "within" "Stretch.within" (defArgs s_Stretch_within) (defBody s_Stretch_within) (defScope s_Stretch_within) .none kV_Stretch_within dc_Stretch_within pm_Stretch_within an_Stretch_within cd_Stretch_within ct_Stretch_within), sl_Stretch_within⟩)
    (co_Stretch_within : PySem.W.codeIn K cd_Stretch_within "Stretch.within" = true)
    (k_Stretch_within : PySem.W.keepIn K (.ref f_Stretch_within) = true)
    (a_between : PySem.W.nsIn K mainGlobals "between" = some (some (.ref f_between)))
    (l_between : K.lookup f_between = some ⟨oc_between, od_between, .func (PySem.W.fnOf "between" "between" (defArgs s_between) (defBody s_between) (defScope s_between) .none kV_between dc_between pm_between an_between cd_between ct_between), sl_between⟩)
    (co_between : PySem.W.codeIn K cd_between "between" = true)
    (k_between : PySem.W.keepIn K (.ref f_between) = true)
    (a_Stretch_ddanddd : PySem.W.findIn K (.ref c_Stretch) "__and__" = some (some (.ref f_Stretch_ddanddd)))
    (i_Stretch_ddanddd : PySem.W.isFn K (.ref f_Stretch_ddanddd) = true)
    (l_Stretch_ddanddd : K.lookup f_Stretch_ddanddd = some ⟨oc_Stretch_ddanddd, od_Stretch_ddanddd, .func (PySem.W.fnOf "__and__" "Stretch.__and__" (defArgs s_Stretch_ddanddd) (defBody s_Stretch_ddanddd) (defScope s_Stretch_ddanddd) .none kV_Stretch_ddanddd dc_Stretch_ddanddd pm_Stretch_ddanddd an_Stretch_ddanddd cd_Stretch_ddanddd ct_Stretch_ddanddd), sl_Stretch_ddanddd⟩)
    (co_Stretch_ddanddd : PySem.W.codeIn K cd_Stretch_ddanddd "Stretch.__and__" = true)
    (k_Stretch_ddanddd : PySem.W.keepIn K (.ref f_Stretch_ddanddd) = true)
    (a_Stretch_ddcontainsdd : PySem.W.findIn K (.ref c_Stretch) "__contains__" = some (some (.ref f_Stretch_ddcontainsdd)))
    (i_Stretch_ddcontainsdd : PySem.W.isFn K (.ref f_Stretch_ddcontainsdd) = true)
    (l_Stretch_ddcontainsdd : K.lookup f_Stretch_ddcontainsdd = some ⟨oc_Stretch_ddcontainsdd, od_Stretch_ddcontainsdd, .func (PySem.W.fnOf "__contains__" "Stretch.__contains__" (defArgs s_Stretch_ddcontainsdd) (defBody s_Stretch_ddcontainsdd) (defScope s_Stretch_ddcontainsdd) .none kV_Stretch_ddcontainsdd dc_Stretch_ddcontainsdd pm_Stretch_ddcontainsdd an_Stretch_ddcontainsdd cd_Stretch_ddcontainsdd ct_Stretch_ddcontainsdd), sl_Stretch_ddcontainsdd⟩)
    (co_Stretch_ddcontainsdd : PySem.W.codeIn K cd_Stretch_ddcontainsdd "Stretch.__contains__" = true)
    (k_Stretch_ddcontainsdd : PySem.W.keepIn K (.ref f_Stretch_ddcontainsdd) = true)
    (a_Stretch_ddeqdd : PySem.W.findIn K (.ref c_Stretch) "__eq__" = some (some (.ref f_Stretch_ddeqdd)))
    (i_Stretch_ddeqdd : PySem.W.isFn K (.ref f_Stretch_ddeqdd) = true)
    (l_Stretch_ddeqdd : K.lookup f_Stretch_ddeqdd = some ⟨oc_Stretch_ddeqdd, od_Stretch_ddeqdd, .func (PySem.W.fnOf "__eq__" "Stretch.__eq__" (defArgs s_Stretch_ddeqdd) (defBody s_Stretch_ddeqdd) (defScope s_Stretch_ddeqdd) .none kV_Stretch_ddeqdd dc_Stretch_ddeqdd pm_Stretch_ddeqdd an_Stretch_ddeqdd cd_Stretch_ddeqdd ct_Stretch_ddeqdd), sl_Stretch_ddeqdd⟩)
    (co_Stretch_ddeqdd : PySem.W.codeIn K cd_Stretch_ddeqdd "Stretch.__eq__" = true)
    (k_Stretch_ddeqdd : PySem.W.keepIn K (.ref f_Stretch_ddeqdd) = true)
    (a__law_bag : PySem.W.nsIn K mainGlobals "_law_bag" = some (some (.ref f__law_bag)))
    (l__law_bag : K.lookup f__law_bag = some ⟨oc__law_bag, od__law_bag, .func (PySem.W.fnOf "_law_bag" "_law_bag" (defArgs s__law_bag) (defBody s__law_bag) (defScope s__law_bag) .none kV__law_bag dc__law_bag pm__law_bag an__law_bag cd__law_bag ct__law_bag), sl__law_bag⟩)
    (co__law_bag : PySem.W.codeIn K cd__law_bag "_law_bag" = true)
    (k__law_bag : PySem.W.keepIn K (.ref f__law_bag) = true)
    (a__law_draw : PySem.W.nsIn K mainGlobals "_law_draw" = some (some (.ref f__law_draw)))
    (l__law_draw : K.lookup f__law_draw = some ⟨oc__law_draw, od__law_draw, .func (PySem.W.fnOf "_law_draw" "_law_draw" (defArgs s__law_draw) (defBody s__law_draw) (defScope s__law_draw) .none kV__law_draw dc__law_draw pm__law_draw an__law_draw cd__law_draw ct__law_draw), sl__law_draw⟩)
    (co__law_draw : PySem.W.codeIn K cd__law_draw "_law_draw" = true)
    (k__law_draw : PySem.W.keepIn K (.ref f__law_draw) = true)
    (a__law_of : PySem.W.nsIn K mainGlobals "_law_of" = some (some (.ref f__law_of)))
    (l__law_of : K.lookup f__law_of = some ⟨oc__law_of, od__law_of, .func (PySem.W.fnOf "_law_of" "_law_of" (defArgs s__law_of) (defBody s__law_of) (defScope s__law_of) .none kV__law_of dc__law_of pm__law_of an__law_of cd__law_of ct__law_of), sl__law_of⟩)
    (co__law_of : PySem.W.codeIn K cd__law_of "_law_of" = true)
    (k__law_of : PySem.W.keepIn K (.ref f__law_of) = true)
    (a__law_like : PySem.W.nsIn K mainGlobals "_law_like" = some (some (.ref f__law_like)))
    (l__law_like : K.lookup f__law_like = some ⟨oc__law_like, od__law_like, .func (PySem.W.fnOf "_law_like" "_law_like" (defArgs s__law_like) (defBody s__law_like) (defScope s__law_like) .none kV__law_like dc__law_like pm__law_like an__law_like cd__law_like ct__law_like), sl__law_like⟩)
    (co__law_like : PySem.W.codeIn K cd__law_like "_law_like" = true)
    (k__law_like : PySem.W.keepIn K (.ref f__law_like) = true)
    (a__law_gcd : PySem.W.nsIn K mainGlobals "_law_gcd" = some (some (.ref f__law_gcd)))
    (l__law_gcd : K.lookup f__law_gcd = some ⟨oc__law_gcd, od__law_gcd, .func (PySem.W.fnOf "_law_gcd" "_law_gcd" (defArgs s__law_gcd) (defBody s__law_gcd) (defScope s__law_gcd) .none kV__law_gcd dc__law_gcd pm__law_gcd an__law_gcd cd__law_gcd ct__law_gcd), sl__law_gcd⟩)
    (co__law_gcd : PySem.W.codeIn K cd__law_gcd "_law_gcd" = true)
    (k__law_gcd : PySem.W.keepIn K (.ref f__law_gcd) = true)
    (a__law_frac : PySem.W.nsIn K mainGlobals "_law_frac" = some (some (.ref f__law_frac)))
    (l__law_frac : K.lookup f__law_frac = some ⟨oc__law_frac, od__law_frac, .func (PySem.W.fnOf "_law_frac" "_law_frac" (defArgs s__law_frac) (defBody s__law_frac) (defScope s__law_frac) .none kV__law_frac dc__law_frac pm__law_frac an__law_frac cd__law_frac ct__law_frac), sl__law_frac⟩)
    (co__law_frac : PySem.W.codeIn K cd__law_frac "_law_frac" = true)
    (k__law_frac : PySem.W.keepIn K (.ref f__law_frac) = true)
    (a__law_sign : PySem.W.nsIn K mainGlobals "_law_sign" = some (some (.ref f__law_sign)))
    (l__law_sign : K.lookup f__law_sign = some ⟨oc__law_sign, od__law_sign, .func (PySem.W.fnOf "_law_sign" "_law_sign" (defArgs s__law_sign) (defBody s__law_sign) (defScope s__law_sign) .none kV__law_sign dc__law_sign pm__law_sign an__law_sign cd__law_sign ct__law_sign), sl__law_sign⟩)
    (co__law_sign : PySem.W.codeIn K cd__law_sign "_law_sign" = true)
    (k__law_sign : PySem.W.keepIn K (.ref f__law_sign) = true)
    (a__law_form : PySem.W.nsIn K mainGlobals "_law_form" = some (some (.ref f__law_form)))
    (l__law_form : K.lookup f__law_form = some ⟨oc__law_form, od__law_form, .func (PySem.W.fnOf "_law_form" "_law_form" (defArgs s__law_form) (defBody s__law_form) (defScope s__law_form) .none kV__law_form dc__law_form pm__law_form an__law_form cd__law_form ct__law_form), sl__law_form⟩)
    (co__law_form : PySem.W.codeIn K cd__law_form "_law_form" = true)
    (k__law_form : PySem.W.keepIn K (.ref f__law_form) = true)
    (a__law_piece : PySem.W.nsIn K mainGlobals "_law_piece" = some (some (.ref f__law_piece)))
    (l__law_piece : K.lookup f__law_piece = some ⟨oc__law_piece, od__law_piece, .func (PySem.W.fnOf "_law_piece" "_law_piece" (defArgs s__law_piece) (defBody s__law_piece) (defScope s__law_piece) .none kV__law_piece dc__law_piece pm__law_piece an__law_piece cd__law_piece ct__law_piece), sl__law_piece⟩)
    (co__law_piece : PySem.W.codeIn K cd__law_piece "_law_piece" = true)
    (k__law_piece : PySem.W.keepIn K (.ref f__law_piece) = true)
    (a__law_stretch : PySem.W.nsIn K mainGlobals "_law_stretch" = some (some (.ref f__law_stretch)))
    (l__law_stretch : K.lookup f__law_stretch = some ⟨oc__law_stretch, od__law_stretch, .func (PySem.W.fnOf "_law_stretch" "_law_stretch" (defArgs s__law_stretch) (defBody s__law_stretch) (defScope s__law_stretch) .none kV__law_stretch dc__law_stretch pm__law_stretch an__law_stretch cd__law_stretch ct__law_stretch), sl__law_stretch⟩)
    (co__law_stretch : PySem.W.codeIn K cd__law_stretch "_law_stretch" = true)
    (k__law_stretch : PySem.W.keepIn K (.ref f__law_stretch) = true)
    (a__law_is : PySem.W.nsIn K mainGlobals "_law_is" = some (some (.ref f__law_is)))
    (l__law_is : K.lookup f__law_is = some ⟨oc__law_is, od__law_is, .func (PySem.W.fnOf "_law_is" "_law_is" (defArgs s__law_is) (defBody s__law_is) (defScope s__law_is) .none kV__law_is dc__law_is pm__law_is an__law_is cd__law_is ct__law_is), sl__law_is⟩)
    (co__law_is : PySem.W.codeIn K cd__law_is "_law_is" = true)
    (k__law_is : PySem.W.keepIn K (.ref f__law_is) = true)
    (a__law_common : PySem.W.nsIn K mainGlobals "_law_common" = some (some (.ref f__law_common)))
    (l__law_common : K.lookup f__law_common = some ⟨oc__law_common, od__law_common, .func (PySem.W.fnOf "_law_common" "_law_common" (defArgs s__law_common) (defBody s__law_common) (defScope s__law_common) .none kV__law_common dc__law_common pm__law_common an__law_common cd__law_common ct__law_common), sl__law_common⟩)
    (co__law_common : PySem.W.codeIn K cd__law_common "_law_common" = true)
    (k__law_common : PySem.W.keepIn K (.ref f__law_common) = true)
    (a__law_drawn : PySem.W.nsIn K mainGlobals "_law_drawn" = some (some (.ref f__law_drawn)))
    (l__law_drawn : K.lookup f__law_drawn = some ⟨oc__law_drawn, od__law_drawn, .func (PySem.W.fnOf "_law_drawn" "_law_drawn" (defArgs s__law_drawn) (defBody s__law_drawn) (defScope s__law_drawn) .none kV__law_drawn dc__law_drawn pm__law_drawn an__law_drawn cd__law_drawn ct__law_drawn), sl__law_drawn⟩)
    (co__law_drawn : PySem.W.codeIn K cd__law_drawn "_law_drawn" = true)
    (k__law_drawn : PySem.W.keepIn K (.ref f__law_drawn) = true)
    (a__law_reaches : PySem.W.nsIn K mainGlobals "_law_reaches" = some (some (.ref f__law_reaches)))
    (l__law_reaches : K.lookup f__law_reaches = some ⟨oc__law_reaches, od__law_reaches, .func (PySem.W.fnOf "_law_reaches" "_law_reaches" (defArgs s__law_reaches) (defBody s__law_reaches) (defScope s__law_reaches) .none kV__law_reaches dc__law_reaches pm__law_reaches an__law_reaches cd__law_reaches ct__law_reaches), sl__law_reaches⟩)
    (co__law_reaches : PySem.W.codeIn K cd__law_reaches "_law_reaches" = true)
    (k__law_reaches : PySem.W.keepIn K (.ref f__law_reaches) = true)
    (a__law_lies : PySem.W.nsIn K mainGlobals "_law_lies" = some (some (.ref f__law_lies)))
    (l__law_lies : K.lookup f__law_lies = some ⟨oc__law_lies, od__law_lies, .func (PySem.W.fnOf "_law_lies" "_law_lies" (defArgs s__law_lies) (defBody s__law_lies) (defScope s__law_lies) .none kV__law_lies dc__law_lies pm__law_lies an__law_lies cd__law_lies ct__law_lies), sl__law_lies⟩)
    (co__law_lies : PySem.W.codeIn K cd__law_lies "_law_lies" = true)
    (k__law_lies : PySem.W.keepIn K (.ref f__law_lies) = true)
    (a__law_met : PySem.W.nsIn K mainGlobals "_law_met" = some (some (.ref f__law_met)))
    (l__law_met : K.lookup f__law_met = some ⟨oc__law_met, od__law_met, .func (PySem.W.fnOf "_law_met" "_law_met" (defArgs s__law_met) (defBody s__law_met) (defScope s__law_met) .none kV__law_met dc__law_met pm__law_met an__law_met cd__law_met ct__law_met), sl__law_met⟩)
    (co__law_met : PySem.W.codeIn K cd__law_met "_law_met" = true)
    (k__law_met : PySem.W.keepIn K (.ref f__law_met) = true)
    (a_law : PySem.W.nsIn K mainGlobals "law" = some (some (.ref f_law)))
    (l_law : K.lookup f_law = some ⟨oc_law, od_law, .func (PySem.W.fnOf "law" "law" (defArgs s_law) (defBody s_law) (defScope s_law) .none kV_law dc_law pm_law an_law cd_law ct_law), sl_law⟩)
    (co_law : PySem.W.codeIn K cd_law "law" = true)
    (k_law : PySem.W.keepIn K (.ref f_law) = true)
    (pg_Stretch : PySem.W.plainGet K c_Stretch Str.empty = true)
    (hd_Stretch : PySem.W.hasDictIn K c_Stretch = true)
    (po_Stretch : PySem.W.plainOver K c_Stretch = true)
    (sa_Stretch : PySem.W.findIn K (.ref c_Stretch) "__setattr__" = some (some (.builtin "object.__setattr__")))
    (mk_Stretch : PySem.W.makesIn K c_Stretch = true)
    (kc_Stretch : PySem.W.keepIn K (.ref c_Stretch) = true)
    (sf_Stretch : PySem.W.selfFirst K c_Stretch = true)
    (ha_Stretch : PySem.W.findIn K (.ref c_Stretch) "__class__" = some (some (.builtin "object.__class__")))
    (mo_Stretch : PySem.W.mroIn K c_Stretch (.type "object") = some true)
    (ic_Stretch : PySem.W.isClsIn K c_Stretch = true)
    (tc_Stretch : PySem.W.typeIn K (.ref c_Stretch) = some (.type "type"))
    (nb_Stretch_NoneType : PySem.W.subIn K (.type "NoneType") (.ref c_Stretch) = some false)
    (bn_Stretch_NoneType : PySem.W.subIn K (.ref c_Stretch) (.type "NoneType") = some false)
    (nb_Stretch_bool : PySem.W.subIn K (.type "bool") (.ref c_Stretch) = some false)
    (bn_Stretch_bool : PySem.W.subIn K (.ref c_Stretch) (.type "bool") = some false)
    (nb_Stretch_int : PySem.W.subIn K (.type "int") (.ref c_Stretch) = some false)
    (bn_Stretch_int : PySem.W.subIn K (.ref c_Stretch) (.type "int") = some false)
    (nb_Stretch_str : PySem.W.subIn K (.type "str") (.ref c_Stretch) = some false)
    (bn_Stretch_str : PySem.W.subIn K (.ref c_Stretch) (.type "str") = some false)
    (nb_Stretch_tuple : PySem.W.subIn K (.type "tuple") (.ref c_Stretch) = some false)
    (bn_Stretch_tuple : PySem.W.subIn K (.ref c_Stretch) (.type "tuple") = some false)
    (nb_Stretch_list : PySem.W.subIn K (.type "list") (.ref c_Stretch) = some false)
    (bn_Stretch_list : PySem.W.subIn K (.ref c_Stretch) (.type "list") = some false)
    (bn_Stretch_dict : PySem.W.subIn K (.ref c_Stretch) (.type "dict") = some false)
    (na_Stretch_low : PySem.W.findIn K (.ref c_Stretch) "low" = some none)
    (na_Stretch_low_in : PySem.W.findIn K (.ref c_Stretch) "low_in" = some none)
    (na_Stretch_high : PySem.W.findIn K (.ref c_Stretch) "high" = some none)
    (na_Stretch_high_in : PySem.W.findIn K (.ref c_Stretch) "high_in" = some none)
    (hn : PySem.W.specialIn K (.builtin "object.__class__") "__get__" = some (some (.builtin "getset_descriptor.__get__")))
    (ht : PySem.W.takesIn K (.builtin "object.__class__") = some true)
    (z_len : PySem.W.nsIn K mainGlobals "len" = some none)
    (z_int : PySem.W.nsIn K mainGlobals "int" = some none)
    (z_abs : PySem.W.nsIn K mainGlobals "abs" = some none)
    (z_max : PySem.W.nsIn K mainGlobals "max" = some none)
    (z_min : PySem.W.nsIn K mainGlobals "min" = some none)
    (z_isinstance : PySem.W.nsIn K mainGlobals "isinstance" = some none)
    (z_bool : PySem.W.nsIn K mainGlobals "bool" = some none)
    (z_str : PySem.W.nsIn K mainGlobals "str" = some none)
    (z_list : PySem.W.nsIn K mainGlobals "list" = some none)
    (z_tuple : PySem.W.nsIn K mainGlobals "tuple" = some none)
    (z_range : PySem.W.nsIn K mainGlobals "range" = some none)
    (g_ZERO : PySem.W.nsIn K mainGlobals "ZERO" = some (some (.ref a_ZERO)))
    (l_ZERO : K.lookup a_ZERO = some ⟨.type "tuple", od_ZERO, .seq #[.int 0 x_ZERO, .int 1 y_ZERO] n_ZERO, sl_ZERO⟩)
    (g_ONE : PySem.W.nsIn K mainGlobals "ONE" = some (some (.ref a_ONE)))
    (l_ONE : K.lookup a_ONE = some ⟨.type "tuple", od_ONE, .seq #[.int 1 x_ONE, .int 1 y_ONE] n_ONE, sl_ONE⟩)
    (g_gcd : PySem.W.nsIn K mainGlobals "gcd" = some (some (.builtin "math.gcd")))
    : ∃ fd : FuncData, (∀ (s : Shared) (v : Value), BindsTo s fd ⟨[v], []⟩ [("script", v)]) ∧ ∀ base : Heap, K.In base → base.Ns mainGlobals mg → FnOk l.prog w K mg base CX0 9 fa fd ["script"] (SpP K 1 pre_law val_law) := by
  have e := hfa.symm.trans (PySem.W.mg_of X G a_law)
  cases e
  have F_lowest := fun_mk (st := s_lowest) l_lowest co_lowest k_lowest
  have b_lowest := F_lowest.binds (ps := p_lowest) fun _ _ _ _ _ _ us hl => match us, hl with | [_, _], _ => rfl
  have F_as_number := fun_mk (st := s_as_number) l_as_number co_as_number k_as_number
  have b_as_number := F_as_number.binds (ps := p_as_number) fun _ _ _ _ _ _ us hl => match us, hl with | [_], _ => rfl
  have F_less := fun_mk (st := s_less) l_less co_less k_less
  have b_less := F_less.binds (ps := p_less) fun _ _ _ _ _ _ us hl => match us, hl with | [_, _], _ => rfl
  have F_may_stand := fun_mk (st := s_may_stand) l_may_stand co_may_stand k_may_stand
  have b_may_stand := F_may_stand.binds (ps := p_may_stand) fun _ _ _ _ _ _ us hl => match us, hl with | [_, _, _, _], _ => rfl
  have F_Stretch_ddinitdd := fun_mk (st := s_Stretch_ddinitdd) l_Stretch_ddinitdd co_Stretch_ddinitdd k_Stretch_ddinitdd
  have b_Stretch_ddinitdd := F_Stretch_ddinitdd.binds (ps := p_Stretch_ddinitdd) fun _ _ _ _ _ _ us hl => match us, hl with | [_, _, _, _, _], _ => rfl
  have F_starts_first := fun_mk (st := s_starts_first) l_starts_first co_starts_first k_starts_first
  have b_starts_first := F_starts_first.binds (ps := p_starts_first) fun _ _ _ _ _ _ us hl => match us, hl with | [_, _], _ => rfl
  have F_ends_last := fun_mk (st := s_ends_last) l_ends_last co_ends_last k_ends_last
  have b_ends_last := F_ends_last.binds (ps := p_ends_last) fun _ _ _ _ _ _ us hl => match us, hl with | [_, _], _ => rfl
  have F_Stretch_within := fun_mk (st := s_Stretch_within) l_Stretch_within co_Stretch_within k_Stretch_within
  have b_Stretch_within := F_Stretch_within.binds (ps := p_Stretch_within) fun _ _ _ _ _ _ us hl => match us, hl with | [_, _], _ => rfl
  have bk_Stretch_within : KBinds K (PySem.W.fnOf "within" "Stretch.within" (defArgs s_Stretch_within) (defBody s_Stretch_within) (defScope s_Stretch_within) .none kV_Stretch_within dc_Stretch_within pm_Stretch_within an_Stretch_within cd_Stretch_within ct_Stretch_within) p_Stretch_within ["other"] g2 g2V := kb2 fun _ _ => rfl
  have F_between := fun_mk (st := s_between) l_between co_between k_between
  have b_between := F_between.binds (ps := p_between) fun _ _ _ _ _ _ us hl => match us, hl with | [_, _, _, _], _ => rfl
  have F_Stretch_ddanddd := fun_mk (st := s_Stretch_ddanddd) l_Stretch_ddanddd co_Stretch_ddanddd k_Stretch_ddanddd
  have b_Stretch_ddanddd := F_Stretch_ddanddd.binds (ps := p_Stretch_ddanddd) fun _ _ _ _ _ _ us hl => match us, hl with | [_, _], _ => rfl
  have F_Stretch_ddcontainsdd := fun_mk (st := s_Stretch_ddcontainsdd) l_Stretch_ddcontainsdd co_Stretch_ddcontainsdd k_Stretch_ddcontainsdd
  have b_Stretch_ddcontainsdd := F_Stretch_ddcontainsdd.binds (ps := p_Stretch_ddcontainsdd) fun _ _ _ _ _ _ us hl => match us, hl with | [_, _], _ => rfl
  have F_Stretch_ddeqdd := fun_mk (st := s_Stretch_ddeqdd) l_Stretch_ddeqdd co_Stretch_ddeqdd k_Stretch_ddeqdd
  have b_Stretch_ddeqdd := F_Stretch_ddeqdd.binds (ps := p_Stretch_ddeqdd) fun _ _ _ _ _ _ us hl => match us, hl with | [_, _], _ => rfl
  have F__law_bag := fun_mk (st := s__law_bag) l__law_bag co__law_bag k__law_bag
  have b__law_bag := F__law_bag.binds (ps := p__law_bag) fun _ _ _ _ _ _ us hl => match us, hl with | [_], _ => rfl
  have F__law_draw := fun_mk (st := s__law_draw) l__law_draw co__law_draw k__law_draw
  have b__law_draw := F__law_draw.binds (ps := p__law_draw) fun _ _ _ _ _ _ us hl => match us, hl with | [_, _], _ => rfl
  have F__law_of := fun_mk (st := s__law_of) l__law_of co__law_of k__law_of
  have b__law_of := F__law_of.binds (ps := p__law_of) fun _ _ _ _ _ _ us hl => match us, hl with | [_, _], _ => rfl
  have F__law_like := fun_mk (st := s__law_like) l__law_like co__law_like k__law_like
  have b__law_like := F__law_like.binds (ps := p__law_like) fun _ _ _ _ _ _ us hl => match us, hl with | [_, _], _ => rfl
  have F__law_gcd := fun_mk (st := s__law_gcd) l__law_gcd co__law_gcd k__law_gcd
  have b__law_gcd := F__law_gcd.binds (ps := p__law_gcd) fun _ _ _ _ _ _ us hl => match us, hl with | [_, _], _ => rfl
  have F__law_frac := fun_mk (st := s__law_frac) l__law_frac co__law_frac k__law_frac
  have b__law_frac := F__law_frac.binds (ps := p__law_frac) fun _ _ _ _ _ _ us hl => match us, hl with | [_, _], _ => rfl
  have F__law_sign := fun_mk (st := s__law_sign) l__law_sign co__law_sign k__law_sign
  have b__law_sign := F__law_sign.binds (ps := p__law_sign) fun _ _ _ _ _ _ us hl => match us, hl with | [_, _], _ => rfl
  have F__law_form := fun_mk (st := s__law_form) l__law_form co__law_form k__law_form
  have b__law_form := F__law_form.binds (ps := p__law_form) fun _ _ _ _ _ _ us hl => match us, hl with | [_, _], _ => rfl
  have F__law_piece := fun_mk (st := s__law_piece) l__law_piece co__law_piece k__law_piece
  have b__law_piece := F__law_piece.binds (ps := p__law_piece) fun _ _ _ _ _ _ us hl => match us, hl with | [_, _], _ => rfl
  have F__law_stretch := fun_mk (st := s__law_stretch) l__law_stretch co__law_stretch k__law_stretch
  have b__law_stretch := F__law_stretch.binds (ps := p__law_stretch) fun _ _ _ _ _ _ us hl => match us, hl with | [_, _], _ => rfl
  have F__law_is := fun_mk (st := s__law_is) l__law_is co__law_is k__law_is
  have b__law_is := F__law_is.binds (ps := p__law_is) fun _ _ _ _ _ _ us hl => match us, hl with | [_, _], _ => rfl
  have F__law_common := fun_mk (st := s__law_common) l__law_common co__law_common k__law_common
  have b__law_common := F__law_common.binds (ps := p__law_common) fun _ _ _ _ _ _ us hl => match us, hl with | [_, _], _ => rfl
  have F__law_drawn := fun_mk (st := s__law_drawn) l__law_drawn co__law_drawn k__law_drawn
  have b__law_drawn := F__law_drawn.binds (ps := p__law_drawn) fun _ _ _ _ _ _ us hl => match us, hl with | [_], _ => rfl
  have F__law_reaches := fun_mk (st := s__law_reaches) l__law_reaches co__law_reaches k__law_reaches
  have b__law_reaches := F__law_reaches.binds (ps := p__law_reaches) fun _ _ _ _ _ _ us hl => match us, hl with | [_, _], _ => rfl
  have F__law_lies := fun_mk (st := s__law_lies) l__law_lies co__law_lies k__law_lies
  have b__law_lies := F__law_lies.binds (ps := p__law_lies) fun _ _ _ _ _ _ us hl => match us, hl with | [_, _], _ => rfl
  have F__law_met := fun_mk (st := s__law_met) l__law_met co__law_met k__law_met
  have b__law_met := F__law_met.binds (ps := p__law_met) fun _ _ _ _ _ _ us hl => match us, hl with | [_, _, _], _ => rfl
  have F_law := fun_mk (st := s_law) l_law co_law k_law
  have b_law := F_law.binds (ps := p_law) fun _ _ _ _ _ _ us hl => match us, hl with | [_], _ => rfl
  have cl_Stretch : Cls K c_Stretch := ⟨pg_Stretch, hd_Stretch, po_Stretch, sa_Stretch⟩
  have kk_Stretch : KCls K c_Stretch := ⟨cl_Stretch, ha_Stretch, hn, ht, mo_Stretch, kit_own, List.forall_mem_cons.mpr ⟨kit_nb ic_Stretch tc_Stretch nb_Stretch_NoneType, List.forall_mem_cons.mpr ⟨kit_nb ic_Stretch tc_Stretch nb_Stretch_bool, List.forall_mem_cons.mpr ⟨kit_nb ic_Stretch tc_Stretch nb_Stretch_int, List.forall_mem_cons.mpr ⟨kit_nb ic_Stretch tc_Stretch nb_Stretch_str, List.forall_mem_cons.mpr ⟨kit_nb ic_Stretch tc_Stretch nb_Stretch_tuple, List.forall_mem_cons.mpr ⟨kit_nb ic_Stretch tc_Stretch nb_Stretch_list, List.forall_mem_nil _⟩⟩⟩⟩⟩⟩, List.forall_mem_cons.mpr ⟨kit_bn (by decide +kernel) bn_Stretch_NoneType, List.forall_mem_cons.mpr ⟨kit_bn (by decide +kernel) bn_Stretch_bool, List.forall_mem_cons.mpr ⟨kit_bn (by decide +kernel) bn_Stretch_int, List.forall_mem_cons.mpr ⟨kit_bn (by decide +kernel) bn_Stretch_str, List.forall_mem_cons.mpr ⟨kit_bn (by decide +kernel) bn_Stretch_tuple, List.forall_mem_cons.mpr ⟨kit_bn (by decide +kernel) bn_Stretch_list, List.forall_mem_cons.mpr ⟨kit_bn (by decide +kernel) bn_Stretch_dict, List.forall_mem_nil _⟩⟩⟩⟩⟩⟩⟩⟩
  have r_ZERO : ∀ Z, Rep K Z (.ref a_ZERO) (nm (0, 1)) := fun Z => .tup (vs := [.int 0, .int 1]) (.inr ⟨_, _, _, l_ZERO, rfl, rfl, (by show 2 ≤ sizeLine; decide), .cons ⟨_, rfl⟩ (.cons ⟨_, rfl⟩ .nil)⟩) (.cons (.int _) (.cons (.int _) .nil))
  have r_ONE : ∀ Z, Rep K Z (.ref a_ONE) (nm (1, 1)) := fun Z => .tup (vs := [.int 1, .int 1]) (.inr ⟨_, _, _, l_ONE, rfl, rfl, (by show 2 ≤ sizeLine; decide), .cons ⟨_, rfl⟩ (.cons ⟨_, rfl⟩ .nil)⟩) (.cons (.int _) (.cons (.int _) .nil))
  let T : Txt K mg := {
a_lowest := _, fd_lowest := _, F_lowest := F_lowest, b_lowest := b_lowest,
    g_lowest := PySem.W.mg_of X G a_lowest,
    a_as_number := _, fd_as_number := _, F_as_number := F_as_number, b_as_number := b_as_number,
    g_as_number := PySem.W.mg_of X G a_as_number,
    a_less := _, fd_less := _, F_less := F_less, b_less := b_less,
    g_less := PySem.W.mg_of X G a_less,
    a_may_stand := _, fd_may_stand := _, F_may_stand := F_may_stand, b_may_stand := b_may_stand,
    g_may_stand := PySem.W.mg_of X G a_may_stand,
    a_Stretch_ddinitdd := _, fd_Stretch_ddinitdd := _, F_Stretch_ddinitdd := F_Stretch_ddinitdd, b_Stretch_ddinitdd := b_Stretch_ddinitdd,
    a_starts_first := _, fd_starts_first := _, F_starts_first := F_starts_first, b_starts_first := b_starts_first,
    g_starts_first := PySem.W.mg_of X G a_starts_first,
    a_ends_last := _, fd_ends_last := _, F_ends_last := F_ends_last, b_ends_last := b_ends_last,
    g_ends_last := PySem.W.mg_of X G a_ends_last,
    a_Stretch_within := _, fd_Stretch_within := _, F_Stretch_within := F_Stretch_within, b_Stretch_within := b_Stretch_within,
    bk_Stretch_within := bk_Stretch_within,
    a_between := _, fd_between := _, F_between := F_between, b_between := b_between,
    g_between := PySem.W.mg_of X G a_between,
    a_Stretch_ddanddd := _, fd_Stretch_ddanddd := _, F_Stretch_ddanddd := F_Stretch_ddanddd, b_Stretch_ddanddd := b_Stretch_ddanddd,
    a_Stretch_ddcontainsdd := _, fd_Stretch_ddcontainsdd := _, F_Stretch_ddcontainsdd := F_Stretch_ddcontainsdd, b_Stretch_ddcontainsdd := b_Stretch_ddcontainsdd,
    a_Stretch_ddeqdd := _, fd_Stretch_ddeqdd := _, F_Stretch_ddeqdd := F_Stretch_ddeqdd, b_Stretch_ddeqdd := b_Stretch_ddeqdd,
    a__law_bag := _, fd__law_bag := _, F__law_bag := F__law_bag, b__law_bag := b__law_bag,
    g__law_bag := PySem.W.mg_of X G a__law_bag,
    a__law_draw := _, fd__law_draw := _, F__law_draw := F__law_draw, b__law_draw := b__law_draw,
    g__law_draw := PySem.W.mg_of X G a__law_draw,
    a__law_of := _, fd__law_of := _, F__law_of := F__law_of, b__law_of := b__law_of,
    g__law_of := PySem.W.mg_of X G a__law_of,
    a__law_like := _, fd__law_like := _, F__law_like := F__law_like, b__law_like := b__law_like,
    g__law_like := PySem.W.mg_of X G a__law_like,
    a__law_gcd := _, fd__law_gcd := _, F__law_gcd := F__law_gcd, b__law_gcd := b__law_gcd,
    g__law_gcd := PySem.W.mg_of X G a__law_gcd,
    a__law_frac := _, fd__law_frac := _, F__law_frac := F__law_frac, b__law_frac := b__law_frac,
    g__law_frac := PySem.W.mg_of X G a__law_frac,
    a__law_sign := _, fd__law_sign := _, F__law_sign := F__law_sign, b__law_sign := b__law_sign,
    g__law_sign := PySem.W.mg_of X G a__law_sign,
    a__law_form := _, fd__law_form := _, F__law_form := F__law_form, b__law_form := b__law_form,
    g__law_form := PySem.W.mg_of X G a__law_form,
    a__law_piece := _, fd__law_piece := _, F__law_piece := F__law_piece, b__law_piece := b__law_piece,
    g__law_piece := PySem.W.mg_of X G a__law_piece,
    a__law_stretch := _, fd__law_stretch := _, F__law_stretch := F__law_stretch, b__law_stretch := b__law_stretch,
    g__law_stretch := PySem.W.mg_of X G a__law_stretch,
    a__law_is := _, fd__law_is := _, F__law_is := F__law_is, b__law_is := b__law_is,
    g__law_is := PySem.W.mg_of X G a__law_is,
    a__law_common := _, fd__law_common := _, F__law_common := F__law_common, b__law_common := b__law_common,
    g__law_common := PySem.W.mg_of X G a__law_common,
    a__law_drawn := _, fd__law_drawn := _, F__law_drawn := F__law_drawn, b__law_drawn := b__law_drawn,
    g__law_drawn := PySem.W.mg_of X G a__law_drawn,
    a__law_reaches := _, fd__law_reaches := _, F__law_reaches := F__law_reaches, b__law_reaches := b__law_reaches,
    g__law_reaches := PySem.W.mg_of X G a__law_reaches,
    a__law_lies := _, fd__law_lies := _, F__law_lies := F__law_lies, b__law_lies := b__law_lies,
    g__law_lies := PySem.W.mg_of X G a__law_lies,
    a__law_met := _, fd__law_met := _, F__law_met := F__law_met, b__law_met := b__law_met,
    g__law_met := PySem.W.mg_of X G a__law_met,
    a_law := _, fd_law := _, F_law := F_law, b_law := b_law,
    g_law := PySem.W.mg_of X G a_law,
    c_Stretch := c_Stretch, gc_Stretch := PySem.W.mg_of X G ac_Stretch, kc_Stretch := kk_Stretch, sf_Stretch := sf_Stretch,
    mkk_Stretch := ⟨mk_Stretch, a_Stretch_ddinitdd, i_Stretch_ddinitdd, kc_Stretch⟩,
    m_Stretch_within := ⟨a_Stretch_within, i_Stretch_within, k_Stretch_within⟩,
    m_Stretch_ddanddd := ⟨a_Stretch_ddanddd, i_Stretch_ddanddd, k_Stretch_ddanddd⟩,
    m_Stretch_ddcontainsdd := ⟨a_Stretch_ddcontainsdd, i_Stretch_ddcontainsdd, k_Stretch_ddcontainsdd⟩,
    m_Stretch_ddeqdd := ⟨a_Stretch_ddeqdd, i_Stretch_ddeqdd, k_Stretch_ddeqdd⟩,
    na_Stretch_low := na_Stretch_low,
    na_Stretch_low_in := na_Stretch_low_in,
    na_Stretch_high := na_Stretch_high,
    na_Stretch_high_in := na_Stretch_high_in,
    z_len := PySem.W.mg_none_of X G z_len,
    z_int := PySem.W.mg_none_of X G z_int,
    z_abs := PySem.W.mg_none_of X G z_abs,
    z_max := PySem.W.mg_none_of X G z_max,
    z_min := PySem.W.mg_none_of X G z_min,
    z_isinstance := PySem.W.mg_none_of X G z_isinstance,
    z_bool := PySem.W.mg_none_of X G z_bool,
    z_str := PySem.W.mg_none_of X G z_str,
    z_list := PySem.W.mg_none_of X G z_list,
    z_tuple := PySem.W.mg_none_of X G z_tuple,
    z_range := PySem.W.mg_none_of X G z_range,
    aZERO := a_ZERO, gZERO := PySem.W.mg_of X G g_ZERO, rZERO := r_ZERO,
    aONE := a_ONE, gONE := PySem.W.mg_of X G g_ONE, rONE := r_ONE,
    z_gcd := PySem.W.mg_of X G g_gcd }
  exact ⟨_, fun s v => .of_eq rfl, fun base _ _ => ok_law T⟩
end
end K01
open PySem PySem.W PyProof.Rows
set_option maxRecDepth 100000 in
set_option maxHeartbeats 0 in
theorem PySem.Challenge.cw_driftsure_k01_stretches_cut_beside_tuple_holds : PySem.Challenge.rw_driftsure_k01_stretches_cut_beside_tuple.Holds := by
  w_on; o_law; k_head; (case hw => w_witness2)
  k_fill
  refine L2.walk_of (l := PySem.Challenge.rw_driftsure_k01_stretches_cut_beside_tuple) (n := 63) (k := 9) (x := "script") (CX := fun _ => L2.CX0) (sp := fun w => K01.spLaw _) rfl (by decide) rfl ⟨rfl, by decide, by decide⟩ (fun w h Y => PySem.W.kIn_of Y) ?F (fun _ H a ns hl _ hS => K01.spLaw_of hl hS) (fun _ _ _ _ _ h => h)
  case F =>
    intro w mg fa h KX G hmg
    refine' K01.all_mk KX G hmg ?ac_Stretch ?a_lowest ?l_lowest ?co_lowest ?k_lowest ?a_as_number ?l_as_number ?co_as_number ?k_as_number ?a_less ?l_less ?co_less ?k_less ?a_may_stand ?l_may_stand ?co_may_stand ?k_may_stand ?a_Stretch_ddinitdd ?i_Stretch_ddinitdd ?l_Stretch_ddinitdd ?co_Stretch_ddinitdd ?k_Stretch_ddinitdd ?a_starts_first ?l_starts_first ?co_starts_first ?k_starts_first ?a_ends_last ?l_ends_last ?co_ends_last ?k_ends_last ?a_Stretch_within ?i_Stretch_within ?l_Stretch_within ?co_Stretch_within ?k_Stretch_within ?a_between ?l_between ?co_between ?k_between ?a_Stretch_ddanddd ?i_Stretch_ddanddd ?l_Stretch_ddanddd ?co_Stretch_ddanddd ?k_Stretch_ddanddd ?a_Stretch_ddcontainsdd ?i_Stretch_ddcontainsdd ?l_Stretch_ddcontainsdd ?co_Stretch_ddcontainsdd ?k_Stretch_ddcontainsdd ?a_Stretch_ddeqdd ?i_Stretch_ddeqdd ?l_Stretch_ddeqdd ?co_Stretch_ddeqdd ?k_Stretch_ddeqdd ?a__law_bag ?l__law_bag ?co__law_bag ?k__law_bag ?a__law_draw ?l__law_draw ?co__law_draw ?k__law_draw ?a__law_of ?l__law_of ?co__law_of ?k__law_of ?a__law_like ?l__law_like ?co__law_like ?k__law_like ?a__law_gcd ?l__law_gcd ?co__law_gcd ?k__law_gcd ?a__law_frac ?l__law_frac ?co__law_frac ?k__law_frac ?a__law_sign ?l__law_sign ?co__law_sign ?k__law_sign ?a__law_form ?l__law_form ?co__law_form ?k__law_form ?a__law_piece ?l__law_piece ?co__law_piece ?k__law_piece ?a__law_stretch ?l__law_stretch ?co__law_stretch ?k__law_stretch ?a__law_is ?l__law_is ?co__law_is ?k__law_is ?a__law_common ?l__law_common ?co__law_common ?k__law_common ?a__law_drawn ?l__law_drawn ?co__law_drawn ?k__law_drawn ?a__law_reaches ?l__law_reaches ?co__law_reaches ?k__law_reaches ?a__law_lies ?l__law_lies ?co__law_lies ?k__law_lies ?a__law_met ?l__law_met ?co__law_met ?k__law_met ?a_law ?l_law ?co_law ?k_law ?pg_Stretch ?hd_Stretch ?po_Stretch ?sa_Stretch ?mk_Stretch ?kc_Stretch ?sf_Stretch ?ha_Stretch ?mo_Stretch ?ic_Stretch ?tc_Stretch ?nb_Stretch_NoneType ?bn_Stretch_NoneType ?nb_Stretch_bool ?bn_Stretch_bool ?nb_Stretch_int ?bn_Stretch_int ?nb_Stretch_str ?bn_Stretch_str ?nb_Stretch_tuple ?bn_Stretch_tuple ?nb_Stretch_list ?bn_Stretch_list ?bn_Stretch_dict ?na_Stretch_low ?na_Stretch_low_in ?na_Stretch_high ?na_Stretch_high_in ?hn ?ht ?z_len ?z_int ?z_abs ?z_max ?z_min ?z_isinstance ?z_bool ?z_str ?z_list ?z_tuple ?z_range ?g_ZERO ?l_ZERO ?g_ONE ?l_ONE ?g_gcd
    (case ac_Stretch => k_is)
    (case a_lowest => k_is)
    (case l_lowest => k_is)
    (case co_lowest => k_is)
    (case k_lowest => k_is)
    (case a_as_number => k_is)
    (case l_as_number => k_is)
    (case co_as_number => k_is)
    (case k_as_number => k_is)
    (case a_less => k_is)
    (case l_less => k_is)
    (case co_less => k_is)
    (case k_less => k_is)
    (case a_may_stand => k_is)
    (case l_may_stand => k_is)
    (case co_may_stand => k_is)
    (case k_may_stand => k_is)
    (case a_Stretch_ddinitdd => k_is)
    (case i_Stretch_ddinitdd => k_is)
    (case l_Stretch_ddinitdd => k_is)
    (case co_Stretch_ddinitdd => k_is)
    (case k_Stretch_ddinitdd => k_is)
    (case a_starts_first => k_is)
    (case l_starts_first => k_is)
    (case co_starts_first => k_is)
    (case k_starts_first => k_is)
    (case a_ends_last => k_is)
    (case l_ends_last => k_is)
    (case co_ends_last => k_is)
    (case k_ends_last => k_is)
    (case a_Stretch_within => k_is)
    (case i_Stretch_within => k_is)
    (case l_Stretch_within => k_is)
    (case co_Stretch_within => k_is)
    (case k_Stretch_within => k_is)
    (case a_between => k_is)
    (case l_between => k_is)
    (case co_between => k_is)
    (case k_between => k_is)
    (case a_Stretch_ddanddd => k_is)
    (case i_Stretch_ddanddd => k_is)
    (case l_Stretch_ddanddd => k_is)
    (case co_Stretch_ddanddd => k_is)
    (case k_Stretch_ddanddd => k_is)
    (case a_Stretch_ddcontainsdd => k_is)
    (case i_Stretch_ddcontainsdd => k_is)
    (case l_Stretch_ddcontainsdd => k_is)
    (case co_Stretch_ddcontainsdd => k_is)
    (case k_Stretch_ddcontainsdd => k_is)
    (case a_Stretch_ddeqdd => k_is)
    (case i_Stretch_ddeqdd => k_is)
    (case l_Stretch_ddeqdd => k_is)
    (case co_Stretch_ddeqdd => k_is)
    (case k_Stretch_ddeqdd => k_is)
    (case a__law_bag => k_is)
    (case l__law_bag => k_is)
    (case co__law_bag => k_is)
    (case k__law_bag => k_is)
    (case a__law_draw => k_is)
    (case l__law_draw => k_is)
    (case co__law_draw => k_is)
    (case k__law_draw => k_is)
    (case a__law_of => k_is)
    (case l__law_of => k_is)
    (case co__law_of => k_is)
    (case k__law_of => k_is)
    (case a__law_like => k_is)
    (case l__law_like => k_is)
    (case co__law_like => k_is)
    (case k__law_like => k_is)
    (case a__law_gcd => k_is)
    (case l__law_gcd => k_is)
    (case co__law_gcd => k_is)
    (case k__law_gcd => k_is)
    (case a__law_frac => k_is)
    (case l__law_frac => k_is)
    (case co__law_frac => k_is)
    (case k__law_frac => k_is)
    (case a__law_sign => k_is)
    (case l__law_sign => k_is)
    (case co__law_sign => k_is)
    (case k__law_sign => k_is)
    (case a__law_form => k_is)
    (case l__law_form => k_is)
    (case co__law_form => k_is)
    (case k__law_form => k_is)
    (case a__law_piece => k_is)
    (case l__law_piece => k_is)
    (case co__law_piece => k_is)
    (case k__law_piece => k_is)
    (case a__law_stretch => k_is)
    (case l__law_stretch => k_is)
    (case co__law_stretch => k_is)
    (case k__law_stretch => k_is)
    (case a__law_is => k_is)
    (case l__law_is => k_is)
    (case co__law_is => k_is)
    (case k__law_is => k_is)
    (case a__law_common => k_is)
    (case l__law_common => k_is)
    (case co__law_common => k_is)
    (case k__law_common => k_is)
    (case a__law_drawn => k_is)
    (case l__law_drawn => k_is)
    (case co__law_drawn => k_is)
    (case k__law_drawn => k_is)
    (case a__law_reaches => k_is)
    (case l__law_reaches => k_is)
    (case co__law_reaches => k_is)
    (case k__law_reaches => k_is)
    (case a__law_lies => k_is)
    (case l__law_lies => k_is)
    (case co__law_lies => k_is)
    (case k__law_lies => k_is)
    (case a__law_met => k_is)
    (case l__law_met => k_is)
    (case co__law_met => k_is)
    (case k__law_met => k_is)
    (case a_law => k_is)
    (case l_law => k_is)
    (case co_law => k_is)
    (case k_law => k_is)
    (case pg_Stretch => k_is)
    (case hd_Stretch => k_is)
    (case po_Stretch => k_is)
    (case sa_Stretch => k_is)
    (case mk_Stretch => k_is)
    (case kc_Stretch => k_is)
    (case sf_Stretch => k_is)
    (case ha_Stretch => k_is)
    (case mo_Stretch => k_is)
    (case ic_Stretch => k_is)
    (case tc_Stretch => k_is)
    (case nb_Stretch_NoneType => k_is)
    (case bn_Stretch_NoneType => k_is)
    (case nb_Stretch_bool => k_is)
    (case bn_Stretch_bool => k_is)
    (case nb_Stretch_int => k_is)
    (case bn_Stretch_int => k_is)
    (case nb_Stretch_str => k_is)
    (case bn_Stretch_str => k_is)
    (case nb_Stretch_tuple => k_is)
    (case bn_Stretch_tuple => k_is)
    (case nb_Stretch_list => k_is)
    (case bn_Stretch_list => k_is)
    (case bn_Stretch_dict => k_is)
    (case na_Stretch_low => k_is)
    (case na_Stretch_low_in => k_is)
    (case na_Stretch_high => k_is)
    (case na_Stretch_high_in => k_is)
    (case hn => k_is)
    (case ht => k_is)
    (case z_len => k_is)
    (case z_int => k_is)
    (case z_abs => k_is)
    (case z_max => k_is)
    (case z_min => k_is)
    (case z_isinstance => k_is)
    (case z_bool => k_is)
    (case z_str => k_is)
    (case z_list => k_is)
    (case z_tuple => k_is)
    (case z_range => k_is)
    (case g_ZERO => k_is)
    (case l_ZERO => k_is)
    (case g_ONE => k_is)
    (case l_ONE => k_is)
    (case g_gcd => k_is)
