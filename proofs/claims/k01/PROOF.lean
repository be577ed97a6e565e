import PyProof.Rows.All
import HandS.ForMost
import HandS.IsInst
import HandS.Deep
import HandS.Conv
import HandS.Zip
import HandS.TupAny
import HandS.TupMul
import HandS.More
import HandS.Strs
import PyProof.ListStr
import PyProof.TupleOfStr
import PySem.Challenge.RW_delaygates_k01_names_known
set_option Elab.async false
set_option linter.all false
set_option maxRecDepth 100000
/-! Dv: data in the place of heaps. -/
namespace Dv
open PySem PySem.Spec L2

def kD : Key → PyData
  | .inl i => .int i
  | .inr x => .str x

mutual
/-- a value stands for a datum, by a part F of the heap that stays -/
inductive Rep (K : PySem.W.Frag) (F : Hp) : V → PyData → Prop
  | non : Rep K F .non .none
  | bl (b : Bool) : Rep K F (.bl b) (.bool b)
  | int (i : Int) : Rep K F (.int i) (.int i)
  | str (x : Str) : Rep K F (.str x) (.str x)
  | lst {a : Addr} {xs : List V} {ds : List PyData} : SqL K F a xs → RepAll K F xs ds → Rep K F (.ref a) (.list ds)
  | tup {a : Addr} {xs : List V} {ds : List PyData} : SqT K F a xs → RepAll K F xs ds → Rep K F (.ref a) (.tuple ds)
  | dct {a : Addr} {kvs : List (Key × V)} {ds : List (PyData × PyData)} : F a = some (.dK kvs) → RepKV K F kvs ds → Rep K F (.ref a) (.dict ds)
inductive RepAll (K : PySem.W.Frag) (F : Hp) : List V → List PyData → Prop
  | nil : RepAll K F [] []
  | cons {v : V} {vs : List V} {d : PyData} {ds : List PyData} : Rep K F v d → RepAll K F vs ds → RepAll K F (v :: vs) (d :: ds)
inductive RepKV (K : PySem.W.Frag) (F : Hp) : List (Key × V) → List (PyData × PyData) → Prop
  | nil : RepKV K F [] []
  | cons {k : Key} {v : V} {vs : List (Key × V)} {d : PyData} {ds : List (PyData × PyData)} : Rep K F v d → RepKV K F vs ds → RepKV K F ((k, v) :: vs) ((kD k, d) :: ds)
end

section
variable {K : PySem.W.Frag} {F F' H H' : Hp}
theorem sqL_mono {a : Addr} {xs : List V} (e : Same F F') (h : SqL K F a xs) : SqL K F' a xs := e.seq h
theorem rd_mono {a : Addr} {u : HO} (e : Same F F') (h : Rd F a u) : Rd F' a u := by
  rcases h with h | ⟨o, h⟩
  · exact .inl (e _ _ h)
  · exact .inr ⟨o, e _ _ h⟩
theorem sqT_mono {a : Addr} {xs : List V} (e : Same F F') (h : SqT K F a xs) : SqT K F' a xs := by
  rcases h with (h | ⟨o, h⟩) | h
  · exact .inl (.inl (e _ _ h))
  · exact .inl (.inr ⟨o, e _ _ h⟩)
  · exact .inr h
mutual
theorem Rep.mono (e : Same F F') : ∀ {v : V} {d : PyData}, Rep K F v d → Rep K F' v d
  | _, _, .non => .non
  | _, _, .bl b => .bl b
  | _, _, .int i => .int i
  | _, _, .str x => .str x
  | _, _, .lst h r => .lst (sqL_mono e h) (RepAll.mono e r)
  | _, _, .tup h r => .tup (sqT_mono e h) (RepAll.mono e r)
  | _, _, .dct h r => .dct (e _ _ h) (RepKV.mono e r)
theorem RepAll.mono (e : Same F F') : ∀ {vs : List V} {ds : List PyData}, RepAll K F vs ds → RepAll K F' vs ds
  | _, _, .nil => .nil
  | _, _, .cons h r => .cons (Rep.mono e h) (RepAll.mono e r)
theorem RepKV.mono (e : Same F F') : ∀ {vs : List (Key × V)} {ds : List (PyData × PyData)}, RepKV K F vs ds → RepKV K F' vs ds
  | _, _, .nil => .nil
  | _, _, .cons h r => .cons (Rep.mono e h) (RepKV.mono e r)
end
theorem RepAll.length : ∀ {vs : List V} {ds : List PyData}, RepAll K F vs ds → vs.length = ds.length
  | _, _, .nil => rfl
  | _, _, .cons _ r => by simp [RepAll.length r]
theorem RepAll.get : ∀ {vs : List V} {ds : List PyData} {i : Nat} {d : PyData}, RepAll K F vs ds → ds[i]? = some d → ∃ v, vs[i]? = some v ∧ Rep K F v d
  | _, _, _, _, .nil, e => by simp at e
  | _, _, 0, _, .cons r _, e => by simp at e; subst e; exact ⟨_, rfl, r⟩
  | _, _, i + 1, x, .cons _ t, e => by
    obtain ⟨u, h1, h2⟩ := RepAll.get (i := i) (d := x) t (by simpa using e)
    exact ⟨u, by simpa using h1, h2⟩
theorem RepAll.append : ∀ {xs ys : List V} {us ws : List PyData}, RepAll K F xs us → RepAll K F ys ws → RepAll K F (xs ++ ys) (us ++ ws)
  | _, _, _, _, .nil, s => s
  | _, _, _, _, .cons r t, s => .cons r (RepAll.append t s)
theorem RepAll.take : ∀ {xs : List V} {us : List PyData} (n : Nat), RepAll K F xs us → RepAll K F (xs.take n) (us.take n)
  | _, _, 0, _ => .nil
  | _, _, _ + 1, .nil => .nil
  | _, _, n + 1, .cons r t => .cons r (RepAll.take n t)
theorem RepAll.drop : ∀ {xs : List V} {us : List PyData} (n : Nat), RepAll K F xs us → RepAll K F (xs.drop n) (us.drop n)
  | _, _, 0, r => r
  | _, _, _ + 1, .nil => .nil
  | _, _, n + 1, .cons _ t => RepAll.drop n t
theorem RepAll.set {x : V} {u : PyData} (r : Rep K F x u) : ∀ {xs : List V} {us : List PyData} (i : Nat), RepAll K F xs us → RepAll K F (xs.set i x) (us.set i u)
  | _, _, _, .nil => .nil
  | _, _, 0, .cons _ t => .cons r t
  | _, _, i + 1, .cons q t => .cons q (RepAll.set r i t)
theorem RepAll.reverse {xs : List V} {us : List PyData} (h : RepAll K F xs us) : RepAll K F xs.reverse us.reverse := by
  induction xs generalizing us with
  | nil => cases h; exact .nil
  | cons x xs ih =>
    cases h with
    | cons r t => rw [List.reverse_cons, List.reverse_cons]; exact RepAll.append (ih t) (.cons r .nil)
theorem RepAll.dropLast {xs : List V} {us : List PyData} (h : RepAll K F xs us) : RepAll K F xs.dropLast us.dropLast := by
  rw [List.dropLast_eq_take, List.dropLast_eq_take, h.length]; exact h.take _
theorem RepAll.eraseIdx : ∀ {xs : List V} {us : List PyData} (i : Nat), RepAll K F xs us → RepAll K F (xs.eraseIdx i) (us.eraseIdx i)
  | _, _, _, .nil => .nil
  | _, _, 0, .cons _ t => t
  | _, _, i + 1, .cons q t => .cons q (RepAll.eraseIdx i t)
theorem RepAll.ints : ∀ {vs : List V} {ns : List Int}, RepAll K F vs (ns.map PyData.int) → vs = ns.map V.int
  | _, [], .nil => rfl
  | _, n :: ns, h => by
    cases h with
    | cons r t => cases r; rw [List.map_cons, RepAll.ints t]
theorem RepAll.strs : ∀ {vs : List V} {ns : List Str}, RepAll K F vs (ns.map PyData.str) → vs = ns.map V.str
  | _, [], .nil => rfl
  | _, n :: ns, h => by
    cases h with
    | cons r t => cases r; rw [List.map_cons, RepAll.strs t]
theorem RepAll.bls : ∀ {vs : List V} {ns : List Bool}, RepAll K F vs (ns.map PyData.bool) → vs = ns.map V.bl
  | _, [], .nil => rfl
  | _, n :: ns, h => by
    cases h with
    | cons r t => cases r; rw [List.map_cons, RepAll.bls t]
theorem repAll_ints : ∀ (ns : List Int), RepAll K F (ns.map V.int) (ns.map PyData.int)
  | [] => .nil
  | n :: ns => .cons (.int n) (repAll_ints ns)
theorem repAll_strs : ∀ (ns : List Str), RepAll K F (ns.map V.str) (ns.map PyData.str)
  | [] => .nil
  | n :: ns => .cons (.str n) (repAll_strs ns)
end

/-- the heap and its staying part grow -/
structure Gr (F H F' H' : Hp) : Prop where
  f : Same F F'
  h : Same H H'
  s : Same F' H'
  n : ∀ b, F' b ≠ none → F b ≠ none ∨ H b = none
theorem Gr.refl {F H : Hp} (s : Same F H) : Gr F H F H := ⟨Same.refl F, Same.refl H, s, fun _ h => .inl h⟩
theorem Gr.trans {F H F1 H1 F2 H2 : Hp} (a : Gr F H F1 H1) (b : Gr F1 H1 F2 H2) : Gr F H F2 H2 :=
  ⟨a.f.trans b.f, a.h.trans b.h, b.s, fun c h => by
    rcases b.n c h with z | z
    · exact a.n c z
    · exact .inr (a.h.free z)⟩
theorem same_upd {H : Hp} {p : Addr} {o : HO} (h : H p = none) : Same H (upd H p o) := fun b x e => by
  rw [upd_ne (ne_of_none e h)]
  exact e
theorem same_upd2 {F H : Hp} {p : Addr} {o : HO} (s : Same F H) : Same (upd F p o) (upd H p o) := fun b x e => by
  by_cases hb : b = p
  · subst hb; rw [upd_same] at e ⊢; exact e
  · rw [upd_ne hb] at e ⊢; exact s b x e
/-- a new object, laid into the staying part -/
theorem Gr.new {F H : Hp} {p : Addr} {o : HO} (s : Same F H) (h : H p = none) : Gr F H (upd F p o) (upd H p o) :=
  ⟨same_upd (s.free h), same_upd h, same_upd2 s, fun b e => by
    by_cases hb : b = p
    · subst hb; exact .inr h
    · rw [upd_ne hb] at e; exact .inl e⟩

/-! ### environments -/
inductive SV where
  | frz (d : PyData)
  | own (d : PyData)
abbrev DEnv := List (Option SV)
/-- what an expression gives: a datum, or a slot that owns one -/
inductive Opd where
  | val (d : PyData)
  | slot (i : Nat)

/-- an owned object: a list or a dict that nobody else holds -/
def Own (K : PySem.W.Frag) (F H : Hp) (a : Addr) : PyData → Prop
  | .list ds => ∃ xs, H a = some (.lst xs) ∧ RepAll K F xs ds
  | .dict ds => ∃ kvs, H a = some (.dK kvs) ∧ RepKV K F kvs ds
  | _ => False
theorem Own.there {K : PySem.W.Frag} {F H : Hp} {a : Addr} {d : PyData} (h : Own K F H a d) : ∃ o, H a = some o := by
  cases d with
  | list ds => obtain ⟨xs, e, _⟩ := h; exact ⟨_, e⟩
  | dict ds => obtain ⟨xs, e, _⟩ := h; exact ⟨_, e⟩
  | _ => exact h.elim
theorem Own.mono {K : PySem.W.Frag} {F H F' H' : Hp} {a : Addr} {d : PyData} (f : Same F F') (hh : ∀ o, H a = some o → H' a = some o) (h : Own K F H a d) : Own K F' H' a d := by
  cases d with
  | list ds => obtain ⟨xs, e, r⟩ := h; exact ⟨xs, hh _ e, r.mono f⟩
  | dict ds => obtain ⟨xs, e, r⟩ := h; exact ⟨xs, hh _ e, r.mono f⟩
  | _ => exact h.elim

/-- a def that runs: the module's part, the heap at its entry, the owned parameters -/
structure FC where
  F0 : Hp
  H0 : Hp
  pa : List (Option Addr)
  pn : Hp
def FC.isP (C : FC) (i : Nat) : Prop := ∃ a, C.pa[i]? = some (some a)

structure Sim (K : PySem.W.Frag) (C : FC) (F H : Hp) (ρ : DEnv) (σ : St) : Prop where
  len : ρ.length = σ.length
  sub : Same F H
  frz : ∀ (i : Nat) (d : PyData), ρ[i]? = some (some (.frz d)) → ∃ v, σ[i]? = some (some v) ∧ Rep K F v d
  own : ∀ (i : Nat) (d : PyData), ρ[i]? = some (some (.own d)) → ∃ a, σ[i]? = some (some (.ref a)) ∧ F a = none ∧ Own K F H a d ∧ (C.H0 a = none ∨ C.pa[i]? = some (some a))
  ne : ∀ (i j : Nat) (a : Addr) (d e : PyData), ρ[i]? = some (some (.own d)) → ρ[j]? = some (some (.own e)) → σ[i]? = some (some (.ref a)) → σ[j]? = some (some (.ref a)) → i = j
  par : ∀ (i : Nat) (a : Addr), C.pa[i]? = some (some a) → ∃ d, ρ[i]? = some (some (.own d)) ∧ σ[i]? = some (some (.ref a))
  f0 : Same C.F0 F
  h0 : ∀ b o, C.H0 b = some o → some b ∉ C.pa → H b = some o
  new : ∀ b, F b ≠ none → C.F0 b ≠ none ∨ C.H0 b = none
  pin : ∀ b o, C.pn b = some o → H b = some o ∧ F b = none ∧ ∀ (j : Nat) (e : PyData), ρ[j]? = some (some (.own e)) → σ[j]? ≠ some (some (.ref b))

section
variable {K : PySem.W.Frag} {C : FC} {F H F' H' : Hp} {ρ : DEnv} {σ : St}
theorem Sim.h0none (S : Sim K C F H ρ σ) {b : Addr} (h : H b = none) : C.H0 b = none := by
  cases e : C.H0 b with
  | none => rfl
  | some o =>
    by_cases hp : some b ∈ C.pa
    · obtain ⟨i, hi⟩ := List.mem_iff_getElem?.mp hp
      obtain ⟨d, r, q⟩ := S.par i b hi
      obtain ⟨a, e1, _, ow, _⟩ := S.own i d r
      rw [q] at e1; cases e1
      obtain ⟨o', e2⟩ := ow.there
      rw [h] at e2; cases e2
    · rw [S.h0 b o e hp] at h; cases h
theorem Sim.grow (S : Sim K C F H ρ σ) (g : Gr F H F' H') : Sim K C F' H' ρ σ where
  len := S.len
  sub := g.s
  frz := fun i d e => let ⟨v, h1, h2⟩ := S.frz i d e; ⟨v, h1, h2.mono g.f⟩
  own := fun i d e => by
    obtain ⟨a, h1, h2, h3, h4⟩ := S.own i d e
    refine ⟨a, h1, ?_, h3.mono g.f fun o q => g.h a o q, h4⟩
    cases q : F' a with
    | none => rfl
    | some o =>
      rcases g.n a (by rw [q]; intro z; cases z) with z | z
      · exact absurd h2 z
      · obtain ⟨o', e'⟩ := h3.there
        rw [z] at e'; cases e'
  ne := S.ne
  par := S.par
  f0 := S.f0.trans g.f
  h0 := fun b o e hb => g.h b o (S.h0 b o e hb)
  new := fun b e => by
    rcases g.n b e with z | z
    · exact S.new b z
    · exact .inr (S.h0none z)
  pin := fun b o e => by
    obtain ⟨h1, h2, h3⟩ := S.pin b o e
    refine ⟨g.h b o h1, ?_, h3⟩
    cases q : F' b with
    | none => rfl
    | some u =>
      rcases g.n b (by rw [q]; intro z; cases z) with z | z
      · exact absurd h2 z
      · rw [z] at h1; cases h1
theorem get_set {α : Type} {l : List α} {i j : Nat} {x : α} (h : i < l.length) : (l.set i x)[j]? = if j = i then some x else l[j]? := by
  by_cases e : j = i
  · subst e; rw [if_pos rfl, List.getElem?_set_self h]
  · rw [if_neg e, List.getElem?_set_ne (Ne.symm e)]
/-- a name is bound to a datum -/
theorem Sim.setF (S : Sim K C F H ρ σ) {i : Nat} {v : V} {d : PyData} (hi : i < σ.length) (hp : ¬ C.isP i) (r : Rep K F v d) : Sim K C F H (ρ.set i (some (.frz d))) (σ.set i (some v)) where
  len := by simp [S.len]
  sub := S.sub
  frz := fun j e h => by
    rw [get_set (S.len ▸ hi)] at h
    rw [get_set hi]
    split at h
    · rename_i q; cases h; rw [if_pos q]; exact ⟨v, rfl, r⟩
    · rename_i q; rw [if_neg q]; exact S.frz j e h
  own := fun j e h => by
    rw [get_set (S.len ▸ hi)] at h
    rw [get_set hi]
    split at h
    · cases h
    · rename_i q; rw [if_neg q]; exact S.own j e h
  ne := fun j k a e e' h1 h2 h3 h4 => by
    rw [get_set (S.len ▸ hi)] at h1 h2
    split at h1
    · cases h1
    · rename_i q1
      split at h2
      · cases h2
      · rename_i q2
        rw [get_set hi, if_neg q1] at h3
        rw [get_set hi, if_neg q2] at h4
        exact S.ne j k a e e' h1 h2 h3 h4
  par := fun j a h => by
    have q : j ≠ i := fun z => hp ⟨a, z ▸ h⟩
    rw [get_set (S.len ▸ hi), get_set hi, if_neg q, if_neg q]
    exact S.par j a h
  f0 := S.f0
  h0 := S.h0
  new := S.new
  pin := fun b o e => by
    obtain ⟨h1, h2, h3⟩ := S.pin b o e
    refine ⟨h1, h2, fun j x h => ?_⟩
    rw [get_set (S.len ▸ hi)] at h
    split at h
    · cases h
    · rename_i q; rw [get_set hi, if_neg q]; exact h3 j x h
/-- a name is bound to a new owned object -/
theorem Sim.setO (S : Sim K C F H ρ σ) {i : Nat} {a : Addr} {d : PyData} (hi : i < σ.length) (hp : ¬ C.isP i) (hF : F a = none) (hO : Own K F H a d) (h0 : C.H0 a = none) (hpn : C.pn a = none)
    (hn : ∀ (j : Nat) (e : PyData), ρ[j]? = some (some (.own e)) → σ[j]? ≠ some (some (.ref a))) : Sim K C F H (ρ.set i (some (.own d))) (σ.set i (some (.ref a))) where
  len := by simp [S.len]
  sub := S.sub
  frz := fun j e h => by
    rw [get_set (S.len ▸ hi)] at h
    rw [get_set hi]
    split at h
    · cases h
    · rename_i q; rw [if_neg q]; exact S.frz j e h
  own := fun j e h => by
    rw [get_set (S.len ▸ hi)] at h
    rw [get_set hi]
    split at h
    · rename_i q; cases h; rw [if_pos q]; exact ⟨a, rfl, hF, hO, .inl h0⟩
    · rename_i q; rw [if_neg q]; exact S.own j e h
  ne := fun j k b e e' h1 h2 h3 h4 => by
    rw [get_set (S.len ▸ hi)] at h1 h2
    rw [get_set hi] at h3 h4
    by_cases q1 : j = i
    · by_cases q2 : k = i
      · rw [q1, q2]
      · rw [if_pos q1] at h3
        rw [if_neg q2] at h2 h4
        cases h3
        exact absurd h4 (hn k e' h2)
    · by_cases q2 : k = i
      · rw [if_pos q2] at h4
        rw [if_neg q1] at h1 h3
        cases h4
        exact absurd h3 (hn j e h1)
      · rw [if_neg q1] at h1 h3
        rw [if_neg q2] at h2 h4
        exact S.ne j k b e e' h1 h2 h3 h4
  par := fun j b h => by
    have q : j ≠ i := fun z => hp ⟨b, z ▸ h⟩
    rw [get_set (S.len ▸ hi), get_set hi, if_neg q, if_neg q]
    exact S.par j b h
  f0 := S.f0
  h0 := S.h0
  new := S.new
  pin := fun b o e => by
    obtain ⟨h1, h2, h3⟩ := S.pin b o e
    refine ⟨h1, h2, fun j x h => ?_⟩
    rw [get_set (S.len ▸ hi)] at h
    rw [get_set hi]
    split at h
    · rename_i q; rw [if_pos q]; intro z; cases z; rw [hpn] at e; cases e
    · rename_i q; rw [if_neg q]; exact h3 j x h
/-- an owned object turns -/
theorem Sim.turn (S : Sim K C F H ρ σ) {i : Nat} {a : Addr} {d d' : PyData} {o : HO} (hi : ρ[i]? = some (some (.own d))) (ha : σ[i]? = some (some (.ref a))) (hO : Own K F (upd H a o) a d') :
    Sim K C F (upd H a o) (ρ.set i (some (.own d'))) σ := by
  obtain ⟨a', e1, hF, hOw, hor⟩ := S.own i d hi
  rw [ha] at e1; cases e1
  have hl : i < ρ.length := (List.getElem?_eq_some_iff.mp hi).1
  refine ⟨by simp [S.len], fun b x e => ?_, fun j e h => ?_, fun j e h => ?_, fun j k b e e' h1 h2 h3 h4 => ?_, fun j b h => ?_, S.f0, fun b x e hb => ?_, S.new, fun b x e => ?_⟩
  · rw [upd_ne (ne_of_none e hF)]; exact S.sub b x e
  · rw [get_set hl] at h
    split at h
    · cases h
    · exact S.frz j e h
  · rw [get_set hl] at h
    split at h
    · rename_i q; subst q; cases h; exact ⟨a, ha, hF, hO, hor⟩
    · rename_i q
      obtain ⟨b, h1, h2, h3, h4⟩ := S.own j e h
      have nb : b ≠ a := fun z => q (S.ne j i b e d h hi h1 (z ▸ ha))
      exact ⟨b, h1, h2, h3.mono (Same.refl F) fun x y => by rw [upd_ne nb]; exact y, h4⟩
  · have g : ∀ (m : Nat) (x : PyData), (ρ.set i (some (.own d')))[m]? = some (some (.own x)) → ∃ y, ρ[m]? = some (some (.own y)) := fun m x z => by
      rw [get_set hl] at z
      split at z
      · rename_i q; subst q; exact ⟨d, hi⟩
      · exact ⟨x, z⟩
    obtain ⟨y1, g1⟩ := g j e h1
    obtain ⟨y2, g2⟩ := g k e' h2
    exact S.ne j k b y1 y2 g1 g2 h3 h4
  · obtain ⟨x, h1, h2⟩ := S.par j b h
    rw [get_set hl]
    by_cases q : j = i
    · rw [if_pos q]; exact ⟨d', rfl, h2⟩
    · rw [if_neg q]; exact ⟨x, h1, h2⟩
  · have nb : b ≠ a := fun z => by
      subst z
      rcases hor with q | q
      · rw [q] at e; cases e
      · exact hb (List.mem_of_getElem? q)
    rw [upd_ne nb]; exact S.h0 b x e hb
  · obtain ⟨h1, h2, h3⟩ := S.pin b x e
    have nb : b ≠ a := fun z => h3 i d hi (z ▸ ha)
    refine ⟨by rw [upd_ne nb]; exact h1, h2, fun j y h => ?_⟩
    rw [get_set hl] at h
    split at h
    · rename_i q; subst q; exact h3 j d hi
    · exact h3 j y h
/-- an owned object is left as it is from now on -/
theorem Sim.freeze (S : Sim K C F H ρ σ) {i : Nat} {a : Addr} {d : PyData} (hi : ρ[i]? = some (some (.own d))) (ha : σ[i]? = some (some (.ref a))) (hp : ¬ C.isP i) :
    ∃ F', Same F F' ∧ Rep K F' (.ref a) d ∧ Sim K C F' H (ρ.set i (some (.frz d))) σ := by
  obtain ⟨a', e1, hF, hOw, hor⟩ := S.own i d hi
  rw [ha] at e1; cases e1
  have hl : i < ρ.length := (List.getElem?_eq_some_iff.mp hi).1
  have h0 : C.H0 a = none := by
    rcases hor with q | q
    · exact q
    · exact absurd ⟨a, q⟩ hp
  obtain ⟨o, ho⟩ := hOw.there
  have sF : Same F (upd F a o) := same_upd hF
  have rp : Rep K (upd F a o) (.ref a) d := by
    cases d with
    | list ds =>
      obtain ⟨xs, e, r⟩ := hOw
      rw [ho] at e; cases e
      exact .lst (SqL.of upd_same) (r.mono sF)
    | dict ds =>
      obtain ⟨xs, e, r⟩ := hOw
      rw [ho] at e; cases e
      exact .dct upd_same (r.mono sF)
    | _ => exact hOw.elim
  refine ⟨upd F a o, sF, rp, ⟨by simp [S.len], fun b x e => ?_, fun j e h => ?_, fun j e h => ?_, fun j k b e e' h1 h2 h3 h4 => ?_, fun j b h => ?_, S.f0.trans sF, S.h0, fun b e => ?_, fun b x e => ?_⟩⟩
  · by_cases hb : b = a
    · subst hb; rw [upd_same] at e; cases e; exact ho
    · rw [upd_ne hb] at e; exact S.sub b x e
  · rw [get_set hl] at h
    split at h
    · rename_i q; subst q; cases h; exact ⟨_, ha, rp⟩
    · obtain ⟨v, h1, h2⟩ := S.frz j e h
      exact ⟨v, h1, h2.mono sF⟩
  · rw [get_set hl] at h
    split at h
    · cases h
    · rename_i q
      obtain ⟨b, h1, h2, h3, h4⟩ := S.own j e h
      have nb : b ≠ a := fun z => q (S.ne j i b e d h hi h1 (z ▸ ha))
      exact ⟨b, h1, by rw [upd_ne nb]; exact h2, h3.mono sF fun x y => y, h4⟩
  · rw [get_set hl] at h1 h2
    split at h1
    · cases h1
    · split at h2
      · cases h2
      · exact S.ne j k b e e' h1 h2 h3 h4
  · have q : j ≠ i := fun z => hp ⟨b, z ▸ h⟩
    rw [get_set hl, if_neg q]
    exact S.par j b h
  · by_cases hb : b = a
    · subst hb; exact .inr h0
    · rw [upd_ne hb] at e; exact S.new b e
  · obtain ⟨h1, h2, h3⟩ := S.pin b x e
    have nb : b ≠ a := fun z => h3 i d hi (z ▸ ha)
    refine ⟨h1, by rw [upd_ne nb]; exact h2, fun j y h => ?_⟩
    rw [get_set hl] at h
    split at h
    · cases h
    · exact h3 j y h
end
end Dv

set_option Elab.async false
set_option linter.all false
set_option maxRecDepth 100000
namespace Dv
open PySem PySem.Spec L2

abbrev DE := DEnv → (Opd → DEnv → Prop) → Prop
abbrev DT := DEnv → (Bool → DEnv → Prop) → Prop
abbrev DA := DEnv → (List Opd → DEnv → Prop) → Prop

/-- what a value is: a datum by the staying part, or what a slot holds -/
def Den (K : PySem.W.Frag) (F : Hp) (σ : L2.St) (v : V) : Opd → Prop
  | .val d => Rep K F v d
  | .slot i => σ[i]? = some (some v)
theorem Den.mono {K : PySem.W.Frag} {F F' : Hp} {σ : L2.St} {v : V} {o : Opd} (e : Same F F') (h : Den K F σ v o) : Den K F' σ v o := by
  cases o with
  | val d => exact Rep.mono e h
  | slot i => exact h
inductive DenAll (K : PySem.W.Frag) (F : Hp) (σ : L2.St) : List V → List Opd → Prop
  | nil : DenAll K F σ [] []
  | cons {v : V} {vs : List V} {o : Opd} {os : List Opd} : Den K F σ v o → DenAll K F σ vs os → DenAll K F σ (v :: vs) (o :: os)
theorem DenAll.mono {K : PySem.W.Frag} {F F' : Hp} {σ : L2.St} (e : Same F F') : ∀ {vs : List V} {os : List Opd}, DenAll K F σ vs os → DenAll K F' σ vs os
  | _, _, .nil => .nil
  | _, _, .cons h r => .cons (h.mono e) (DenAll.mono e r)
theorem DenAll.length {K : PySem.W.Frag} {F : Hp} {σ : L2.St} : ∀ {vs : List V} {os : List Opd}, DenAll K F σ vs os → vs.length = os.length
  | _, _, .nil => rfl
  | _, _, .cons _ r => by simp [DenAll.length r]

/-- the datum of an operand -/
def withO (ρ : DEnv) (o : Opd) (k : PyData → Prop) : Prop :=
  match o with
  | .val d => k d
  | .slot i => match ρ[i]? with
    | some (some (.own d)) => k d
    | some (some (.frz d)) => k d
    | _ => False
def withAll (ρ : DEnv) : List Opd → (List PyData → Prop) → Prop
  | [], k => k []
  | o :: os, k => withO ρ o fun d => withAll ρ os fun ds => k (d :: ds)
@[simp] theorem withO_val {ρ : DEnv} {d : PyData} {k : PyData → Prop} : withO ρ (.val d) k = k d := rfl

/-- a value seen: its top may be an owned object -/
def View (K : PySem.W.Frag) (F H : Hp) (v : V) : PyData → Prop
  | .list ds => ∃ a xs, v = .ref a ∧ SqL K H a xs ∧ RepAll K F xs ds
  | .dict ds => ∃ a kvs, v = .ref a ∧ H a = some (.dK kvs) ∧ RepKV K F kvs ds
  | d => Rep K F v d
theorem Rep.view {K : PySem.W.Frag} {F H : Hp} {v : V} {d : PyData} (s : Same F H) (h : Rep K F v d) : View K F H v d := by
  cases h with
  | non => exact .non
  | bl b => exact .bl b
  | int i => exact .int i
  | str x => exact .str x
  | lst h r => exact ⟨_, _, rfl, sqL_mono s h, r⟩
  | tup h r => exact .tup h r
  | dct h r => exact ⟨_, _, rfl, s _ _ h, r⟩
inductive ViewAll (K : PySem.W.Frag) (F H : Hp) : List V → List PyData → Prop
  | nil : ViewAll K F H [] []
  | cons {v : V} {vs : List V} {d : PyData} {ds : List PyData} : View K F H v d → ViewAll K F H vs ds → ViewAll K F H (v :: vs) (d :: ds)
theorem ViewAll.length {K : PySem.W.Frag} {F H : Hp} : ∀ {vs : List V} {ds : List PyData}, ViewAll K F H vs ds → vs.length = ds.length
  | _, _, .nil => rfl
  | _, _, .cons _ r => by simp [ViewAll.length r]
section
variable {K : PySem.W.Frag} {C : FC} {F H : Hp} {ρ : DEnv} {σ : L2.St}
theorem Sim.see (S : Sim K C F H ρ σ) {v : V} {o : Opd} {k : PyData → Prop} (h : Den K F σ v o) (w : withO ρ o k) : ∃ d, View K F H v d ∧ k d := by
  cases o with
  | val d => exact ⟨d, Rep.view S.sub h, w⟩
  | slot i =>
    unfold withO at w
    dsimp only at w
    cases e : ρ[i]? with
    | none => rw [e] at w; exact w.elim
    | some x =>
      cases x with
      | none => rw [e] at w; exact w.elim
      | some y =>
        cases y with
        | frz d =>
          rw [e] at w
          obtain ⟨v', h1, h2⟩ := S.frz i d e
          have h' : σ[i]? = some (some v) := h
          rw [h1] at h'; cases h'
          exact ⟨d, Rep.view S.sub h2, w⟩
        | own d =>
          rw [e] at w
          obtain ⟨a, h1, h2, h3, _⟩ := S.own i d e
          have h' : σ[i]? = some (some v) := h
          rw [h1] at h'; cases h'
          refine ⟨d, ?_, w⟩
          cases d with
          | list ds => obtain ⟨xs, e1, r⟩ := h3; exact ⟨a, xs, rfl, SqL.of e1, r⟩
          | dict ds => obtain ⟨xs, e1, r⟩ := h3; exact ⟨a, xs, rfl, e1, r⟩
          | _ => exact h3.elim
theorem Sim.seeAll (S : Sim K C F H ρ σ) : ∀ {vs : List V} {os : List Opd} {k : List PyData → Prop}, DenAll K F σ vs os → withAll ρ os k → ∃ ds, ViewAll K F H vs ds ∧ k ds
  | _, _, _, .nil, w => ⟨[], .nil, w⟩
  | _, _, _, .cons h r, w => by
    obtain ⟨d, v1, w1⟩ := S.see h w
    obtain ⟨ds, v2, w2⟩ := Sim.seeAll S r w1
    exact ⟨d :: ds, .cons v1 v2, w2⟩
end

/-! ### the judgements -/
def lE (K : PySem.W.Frag) (C : FC) (t : DE) : TE := fun σ H Q => ∃ F ρ q, Sim K C F H ρ σ ∧ t ρ q ∧ ∀ o ρ' F' H' v, q o ρ' → Sim K C F' H' ρ' σ → Same F F' → Den K F' σ v o → Q v H'
def lT (K : PySem.W.Frag) (C : FC) (t : DT) : TT := fun σ H Q => ∃ F ρ q, Sim K C F H ρ σ ∧ t ρ q ∧ ∀ b ρ' F' H', q b ρ' → Sim K C F' H' ρ' σ → Same F F' → Q b H'
def lA (K : PySem.W.Frag) (C : FC) (t : DA) : TA := fun σ H Q => ∃ F ρ q, Sim K C F H ρ σ ∧ t ρ q ∧ ∀ os ρ' F' H' vs, q os ρ' → Sim K C F' H' ρ' σ → Same F F' → DenAll K F' σ vs os → Q vs H'
structure QE (X : Cx) (C : FC) (e : Expr) (t : DE) : Prop where
  pe : PE X e (lE X.K C t)
structure QT (X : Cx) (C : FC) (e : Expr) (t : DT) : Prop where
  pt : PT X e (lT X.K C t)
structure QW (X : Cx) (C : FC) (e : Expr) (t : DT) : Prop where
  pw : PW X e (lT X.K C t)
structure QA (X : Cx) (C : FC) (es : List Expr) (t : DA) : Prop where
  pa : PA X es (lA X.K C t)
section
variable {X : Cx} {C : FC} {a b c e : Expr} {es : List Expr} {pos : Pos} {ta tb tc : DE}
theorem QE.of {t' : TE} {t : DE} (h : PE X e t') (w : ∀ σ H Q, lE X.K C t σ H Q → t' σ H Q) : QE X C e t := ⟨⟨fun pins s σ H Q I hq => h.run pins s σ H Q I (w σ H Q hq)⟩⟩
theorem QT.of {t' : TT} {t : DT} (h : PT X e t') (w : ∀ σ H Q, lT X.K C t σ H Q → t' σ H Q) : QT X C e t := ⟨⟨fun pins s σ H Q I hq => h.run pins s σ H Q I (w σ H Q hq)⟩⟩
theorem QW.of {t' : TT} {t : DT} (h : PW X e t') (w : ∀ σ H Q, lT X.K C t σ H Q → t' σ H Q) : QW X C e t := ⟨⟨fun wh pins s σ H Q I hq => h.run wh pins s σ H Q I (w σ H Q hq)⟩⟩
theorem QA.of {t' : TA} {t : DA} (h : PA X es t') (w : ∀ σ H Q, lA X.K C t σ H Q → t' σ H Q) : QA X C es t := ⟨⟨fun pos pins s σ H Q I hq => h.run pos pins s σ H Q I (w σ H Q hq)⟩⟩

/-! ### names, constants -/
def dVar (i : Nat) : DE := fun ρ Q => match ρ[i]? with
  | some (some (.frz d)) => Q (.val d) ρ
  | some (some (.own _)) => Q (.slot i) ρ
  | _ => False
def dC (d : PyData) : DE := fun ρ Q => Q (.val d) ρ
theorem q_var (i : Nat) {x : Str} (h : PE X (.Name x pos) (tVar i)) : QE X C (.Name x pos) (dVar i) := by
  refine QE.of h fun σ H Q hq => ?_
  obtain ⟨F, ρ, q, S, ht, k⟩ := hq
  unfold dVar at ht
  cases e : ρ[i]? with
  | none => rw [e] at ht; exact ht.elim
  | some y =>
    cases y with
    | none => rw [e] at ht; exact ht.elim
    | some z =>
      cases z with
      | frz d =>
        rw [e] at ht
        obtain ⟨v, h1, h2⟩ := S.frz i d e
        exact ⟨v, h1, k _ _ _ _ _ ht S (Same.refl F) h2⟩
      | own d =>
        rw [e] at ht
        obtain ⟨a, h1, _⟩ := S.own i d e
        exact ⟨.ref a, h1, k _ _ _ _ _ ht S (Same.refl F) h1⟩
theorem qv (i : Nat) {x : Str} {pos : Pos} (hN : X.N[i]? = some x := by rfl) (hv : Vis X.env.scope x := by first | exact Or.inl rfl | exact Or.inr (Or.inl rfl) | exact Or.inr (Or.inr rfl)) (hd : (x == ("__debug__" : Str)) = false := by decide)
    (hcd : (x == ("__classdict__" : Str)) = false := by decide) : QE X C (.Name x pos) (dVar i) := q_var i (pe_var hN hv hd hcd)
theorem q_const {v : V} {d : PyData} (h : PE X e (tC v)) (r : ∀ F, Rep X.K F v d) : QE X C e (dC d) := by
  refine QE.of h fun σ H Q hq => ?_
  obtain ⟨F, ρ, q, S, ht, k⟩ := hq
  exact k _ _ _ _ _ ht S (Same.refl F) (r F)
theorem q_int {i j pos} : QE X C (.Constant (.int i) j pos) (dC (.int i)) := q_const pe_int fun _ => .int i
theorem q_bl {i j pos} : QE X C (.Constant (.bool i) j pos) (dC (.bool i)) := q_const pe_bl fun _ => .bl i
theorem q_non {j pos} : QE X C (.Constant .none j pos) (dC .none) := q_const pe_non fun _ => .non
theorem q_str {x j pos} : QE X C (.Constant (.str x) j pos) (dC (.str x)) := q_const pe_str fun _ => .str x

/-! ### operators -/
abbrev Op2 := PyData → PyData → (PyData → Prop) → Prop
abbrev Op1 := PyData → (PyData → Prop) → Prop
abbrev OpN := List PyData → (PyData → Prop) → Prop
def Kont (K : PySem.W.Frag) (F H : Hp) (q : PyData → Prop) (Q : VK) : Prop := ∀ g F' H' v, q g → Gr F H F' H' → Rep K F' v g → Q v H'
def OpOk (X : Cx) (r : R2) (f : Op2) : Prop := ∀ F H x y d e q Q, Same F H → View X.K F H x d → View X.K F H y e → f d e q → Kont X.K F H q Q → r x y H Q
def CallOk (X : Cx) (r : List V → Hp → VK → Prop) (f : OpN) : Prop := ∀ F H vs ds q Q, Same F H → ViewAll X.K F H vs ds → f ds q → Kont X.K F H q Q → r vs H Q
/-- behind an operation -/
theorem kont_of {F F1 F2 H1 H2 : Hp} {ρ1 ρ2 : DEnv} {σ : L2.St} {q : Opd → DEnv → Prop} {Q : VK} (S2 : Sim X.K C F2 H2 ρ2 σ) (s : Same F F2) (k : ∀ o ρ' F' H' v, q o ρ' → Sim X.K C F' H' ρ' σ → Same F F' → Den X.K F' σ v o → Q v H') :
    Kont X.K F2 H2 (fun g => q (.val g) ρ2) Q := fun g F' H' v hq gr r => k _ _ _ _ _ hq (S2.grow gr) (s.trans gr.f) r
def dBin (f : Op2) (a b : DE) : DE := fun ρ Q => a ρ fun o1 ρ1 => b ρ1 fun o2 ρ2 => withO ρ2 o1 fun d => withO ρ2 o2 fun e => f d e fun g => Q (.val g) ρ2
theorem lE_op {r : R2} {f : Op2} (ok : OpOk X r f) {σ : L2.St} {H : Hp} {Q : VK} (h : lE X.K C (dBin f ta tb) σ H Q) : tOp r (lE X.K C ta) (lE X.K C tb) σ H Q := by
  obtain ⟨F, ρ, q, S, ht, k⟩ := h
  refine ⟨F, ρ, _, S, ht, fun o1 ρ1 F1 H1 x h1 S1 s1 d1 => ?_⟩
  refine ⟨F1, ρ1, _, S1, h1, fun o2 ρ2 F2 H2 y h2 S2 s2 d2 => ?_⟩
  obtain ⟨d, v1, w1⟩ := S2.see (d1.mono s2) h2
  obtain ⟨e, v2, w2⟩ := S2.see d2 w1
  exact ok F2 H2 x y d e _ Q S2.sub v1 v2 w2 (kont_of (ρ1 := ρ1) (F1 := F1) (H1 := H1) S2 (s1.trans s2) k)
theorem q_bin {op : Operator} {r : R2} {f : Op2} (ho : OpR X (binaryOp op) r) (ok : OpOk X r f) (ha : QE X C a ta) (hb : QE X C b tb) : QE X C (.BinOp a op b pos) (dBin f ta tb) :=
  QE.of (pe_op ho ha.pe hb.pe) fun _ _ _ h => lE_op ok h
theorem q_cmp {op : CmpOp} {r : R2} {f : Op2} (ho : OpR X (compareOp op) r) (ok : OpOk X r f) (ha : QE X C a ta) (hb : QE X C b tb) (hm : behindInMarks op b = false := by first | exact nomark _ | rfl) : QE X C (.Compare a [op] [b] pos) (dBin f ta tb) :=
  QE.of (pe_cmpR ho ha.pe hb.pe hm) fun _ _ _ h => lE_op ok h
theorem q_ix {r : R2} {f : Op2} (ho : IxR X r) (ok : OpOk X r f) (ha : QE X C a ta) (hb : QE X C b tb) (hs : PlainIx b := by exact fun _ _ => rfl) : QE X C (.Subscript a b pos) (dBin f ta tb) :=
  QE.of (pe_ix ho ha.pe hb.pe hs) fun _ _ _ h => lE_op ok h
/-! ### tests -/
/-- an expression that gives a bool, as a test -/
def dTest (t : DE) : DT := fun ρ Q => t ρ fun o ρ' => match o with
  | .val (.bool b) => Q b ρ'
  | _ => False
theorem lT_test {t : DE} {σ : L2.St} {H : Hp} {Q : Bool → Hp → Prop} (h : lT X.K C (dTest t) σ H Q) : lE X.K C t σ H fun x H' => ∃ k, x = .bl k ∧ Q k H' := by
  obtain ⟨F, ρ, q, S, ht, k⟩ := h
  refine ⟨F, ρ, _, S, ht, fun o ρ1 F1 H1 v h1 S1 s1 d1 => ?_⟩
  cases o with
  | slot i => exact h1.elim
  | val d =>
    cases d with
    | bool b => cases (show Rep X.K F1 v (.bool b) from d1); exact ⟨b, rfl, k _ _ _ _ h1 S1 s1⟩
    | _ => exact h1.elim
theorem t_val {t : DE} (h : QE X C e t) (he : ∀ whole, isTrue e X.env whole = (do let v ← whole; standAt e.pos; holding [v] (truthy v)) := by intro _; rfl) : QT X C e (dTest t) :=
  QT.of (pt_val h.pe he) fun _ _ _ h => lT_test h
theorem t_cmp {op : CmpOp} {r : R2} {f : Op2} (ho : OpR X (compareOp op) r) (ok : OpOk X r f) (ha : QE X C a ta) (hb : QE X C b tb) (hm : behindInMarks op b = false := by first | exact nomark _ | rfl) : QT X C (.Compare a [op] [b] pos) (dTest (dBin f ta tb)) :=
  QT.of (pt_cmpR ho ha.pe hb.pe hm) fun σ H Q h => by
    obtain ⟨F, ρ, q, S, ht, k⟩ := lT_test h
    exact lE_op ok ⟨F, ρ, q, S, ht, k⟩
/-- a way by a bool -/
def by2 (c : Bool) (a b : Prop) : Prop := match c with
  | true => a
  | false => b
def dAnd (t u : DT) : DT := fun ρ Q => t ρ fun c ρ1 => by2 c (u ρ1 Q) (Q false ρ1)
def dOr (t u : DT) : DT := fun ρ Q => t ρ fun c ρ1 => by2 c (Q true ρ1) (u ρ1 Q)
def dNot (t : DT) : DT := fun ρ Q => t ρ fun c ρ1 => Q (!c) ρ1
variable {t u : DT} {rest : List Expr}
theorem w_and1 (h : QT X C a t) : QW X C (.BoolOp .And [a] pos) t := ⟨pw_and1 h.pt⟩
theorem w_or1 (h : QT X C a t) : QW X C (.BoolOp .Or [a] pos) t := ⟨pw_or1 h.pt⟩
theorem w_and (h : QT X C a t) (h2 : QW X C (.BoolOp .And (b :: rest) pos) u) : QW X C (.BoolOp .And (a :: b :: rest) pos) (dAnd t u) :=
  QW.of (pw_and h.pt h2.pw) fun σ H Q hq => by
    obtain ⟨F, ρ, q, S, ht, k⟩ := hq
    refine ⟨F, ρ, _, S, ht, fun c ρ1 F1 H1 h1 S1 s1 => ?_⟩
    cases c with
    | true => rw [if_pos rfl]; exact ⟨F1, ρ1, _, S1, h1, fun b' ρ2 F2 H2 h2 S2 s2 => k _ _ _ _ h2 S2 (s1.trans s2)⟩
    | false => rw [if_neg Bool.false_ne_true]; exact k _ _ _ _ h1 S1 s1
theorem w_or (h : QT X C a t) (h2 : QW X C (.BoolOp .Or (b :: rest) pos) u) : QW X C (.BoolOp .Or (a :: b :: rest) pos) (dOr t u) :=
  QW.of (pw_or h.pt h2.pw) fun σ H Q hq => by
    obtain ⟨F, ρ, q, S, ht, k⟩ := hq
    refine ⟨F, ρ, _, S, ht, fun c ρ1 F1 H1 h1 S1 s1 => ?_⟩
    cases c with
    | false => rw [if_neg Bool.false_ne_true]; exact ⟨F1, ρ1, _, S1, h1, fun b' ρ2 F2 H2 h2 S2 s2 => k _ _ _ _ h2 S2 (s1.trans s2)⟩
    | true => rw [if_pos rfl]; exact k _ _ _ _ h1 S1 s1
theorem t_w (h : QW X C e t) : QT X C e t := ⟨h.pw.pt⟩
theorem t_not (h : QT X C a t) : QT X C (.UnaryOp .Not a pos) (dNot t) :=
  QT.of (pt_not h.pt) fun σ H Q hq => by
    obtain ⟨F, ρ, q, S, ht, k⟩ := hq
    exact ⟨F, ρ, _, S, ht, fun c ρ1 F1 H1 h1 S1 s1 => k _ _ _ _ h1 S1 s1⟩
/-- and, or, not as values (bools) -/
def dAndV (a b : DE) : DE := fun ρ Q => a ρ fun o ρ1 => match o with
  | .val (.bool c) => by2 c (b ρ1 Q) (Q (.val (.bool false)) ρ1)
  | _ => False
def dOrV (a b : DE) : DE := fun ρ Q => a ρ fun o ρ1 => match o with
  | .val (.bool c) => by2 c (Q (.val (.bool true)) ρ1) (b ρ1 Q)
  | _ => False
def dNotV (a : DE) : DE := fun ρ Q => a ρ fun o ρ1 => match o with
  | .val (.bool c) => Q (.val (.bool (!c))) ρ1
  | _ => False
theorem q_one {op} (h : QE X C a ta) : QE X C (.BoolOp op [a] pos) ta := ⟨pe_one h.pe⟩
theorem q_and (h : QE X C a ta) (h2 : QE X C (.BoolOp .And (b :: rest) pos) tb) : QE X C (.BoolOp .And (a :: b :: rest) pos) (dAndV ta tb) :=
  QE.of (pe_and h.pe h2.pe) fun σ H Q hq => by
    obtain ⟨F, ρ, q, S, ht, k⟩ := hq
    refine ⟨F, ρ, _, S, ht, fun o ρ1 F1 H1 v h1 S1 s1 d1 => ?_⟩
    cases o with
    | slot i => exact h1.elim
    | val d =>
      cases d with
      | bool c =>
        cases (show Rep X.K F1 v (.bool c) from d1)
        refine ⟨c, rfl, ?_⟩
        cases c with
        | true => rw [if_pos rfl]; exact ⟨F1, ρ1, q, S1, h1, fun o2 ρ2 F2 H2 v2 h2 S2 s2 d2 => k _ _ _ _ _ h2 S2 (s1.trans s2) d2⟩
        | false => rw [if_neg Bool.false_ne_true]; exact k _ _ _ _ _ h1 S1 s1 (.bl false)
      | _ => exact h1.elim
theorem q_or (h : QE X C a ta) (h2 : QE X C (.BoolOp .Or (b :: rest) pos) tb) : QE X C (.BoolOp .Or (a :: b :: rest) pos) (dOrV ta tb) :=
  QE.of (pe_or h.pe h2.pe) fun σ H Q hq => by
    obtain ⟨F, ρ, q, S, ht, k⟩ := hq
    refine ⟨F, ρ, _, S, ht, fun o ρ1 F1 H1 v h1 S1 s1 d1 => ?_⟩
    cases o with
    | slot i => exact h1.elim
    | val d =>
      cases d with
      | bool c =>
        cases (show Rep X.K F1 v (.bool c) from d1)
        refine ⟨c, rfl, ?_⟩
        cases c with
        | false => rw [if_neg Bool.false_ne_true]; exact ⟨F1, ρ1, q, S1, h1, fun o2 ρ2 F2 H2 v2 h2 S2 s2 d2 => k _ _ _ _ _ h2 S2 (s1.trans s2) d2⟩
        | true => rw [if_pos rfl]; exact k _ _ _ _ _ h1 S1 s1 (.bl true)
      | _ => exact h1.elim
theorem q_not (h : QE X C a ta) : QE X C (.UnaryOp .Not a pos) (dNotV ta) :=
  QE.of (pe_not h.pe) fun σ H Q hq => by
    obtain ⟨F, ρ, q, S, ht, k⟩ := hq
    refine ⟨F, ρ, _, S, ht, fun o ρ1 F1 H1 v h1 S1 s1 d1 => ?_⟩
    cases o with
    | slot i => exact h1.elim
    | val d =>
      cases d with
      | bool c =>
        cases (show Rep X.K F1 v (.bool c) from d1)
        exact ⟨c, rfl, k _ _ _ _ _ h1 S1 s1 (.bl _)⟩
      | _ => exact h1.elim
/-- a if t else b -/
def dIfE (t : DT) (a b : DE) : DE := fun ρ Q => t ρ fun c ρ1 => by2 c (a ρ1 Q) (b ρ1 Q)
theorem q_ifExp (hc : QT X C c t) (h : QE X C a ta) (h2 : QE X C b tb) : QE X C (.IfExp c a b pos) (dIfE t ta tb) :=
  QE.of (pe_ifExp hc.pt h.pe h2.pe) fun σ H Q hq => by
    obtain ⟨F, ρ, q, S, ht, k⟩ := hq
    refine ⟨F, ρ, _, S, ht, fun c ρ1 F1 H1 h1 S1 s1 => ?_⟩
    cases c with
    | true => rw [if_pos rfl]; exact ⟨F1, ρ1, q, S1, h1, fun o2 ρ2 F2 H2 v2 h2 S2 s2 d2 => k _ _ _ _ _ h2 S2 (s1.trans s2) d2⟩
    | false => rw [if_neg Bool.false_ne_true]; exact ⟨F1, ρ1, q, S1, h1, fun o2 ρ2 F2 H2 v2 h2 S2 s2 d2 => k _ _ _ _ _ h2 S2 (s1.trans s2) d2⟩
/-- a op b op' c -/
def dChain (f g : Op2) (a b c : DE) : DE := fun ρ Q => a ρ fun o1 ρ1 => b ρ1 fun o2 ρ2 => withO ρ2 o1 fun d => withO ρ2 o2 fun e => f d e fun z => match z with
  | .bool b => by2 b (c ρ2 fun o3 ρ3 => withO ρ3 o2 fun e => withO ρ3 o3 fun d3 => g e d3 fun z => Q (.val z) ρ3) (Q (.val (.bool false)) ρ2)
  | _ => False

/-! ### arguments, displays -/
def dNil : DA := fun ρ Q => Q [] ρ
def dCons (a : DE) (r : DA) : DA := fun ρ Q => a ρ fun o ρ1 => r ρ1 fun os ρ2 => Q (o :: os) ρ2
theorem a_nil : QA X C [] dNil := QA.of pa_nil fun σ H Q hq => by
  obtain ⟨F, ρ, q, S, ht, k⟩ := hq
  exact k _ _ _ _ _ ht S (Same.refl F) .nil
theorem a_cons {r : DA} (h : QE X C e ta) (h2 : QA X C es r) (hs : starEach (e :: es) X.env = (false, eval e X.env) :: starEach es X.env := by rfl) : QA X C (e :: es) (dCons ta r) :=
  QA.of (pa_cons h.pe h2.pa hs) fun σ H Q hq => by
    obtain ⟨F, ρ, q, S, ht, k⟩ := hq
    refine ⟨F, ρ, _, S, ht, fun o ρ1 F1 H1 v h1 S1 s1 d1 => ?_⟩
    exact ⟨F1, ρ1, _, S1, h1, fun os ρ2 F2 H2 vs h2 S2 s2 d2 => k _ _ _ _ _ h2 S2 (s1.trans s2) (.cons (d1.mono s2) d2)⟩
end
end Dv

set_option Elab.async false
set_option linter.all false
set_option maxRecDepth 100000
namespace Dv
open PySem PySem.Spec L2

abbrev big : Nat := 16777216
theorem le_line {n : Nat} (h : n ≤ big) : n ≤ sizeLine := by rw [sizeLine_eq]; exact h
theorem lt_line {n : Nat} (h : n < big) : n < sizeLine := by rw [sizeLine_eq]; exact h

/-- which parameters are owned -/
def FC.Tags (C : FC) (P : List Bool) : Prop := ∀ i, C.isP i → P[i]? = some true
/-- an operand is shared: from now on it stays as it is -/
def share (P : List Bool) (ρ : DEnv) (o : Opd) (k : PyData → DEnv → Prop) : Prop :=
  match o with
  | .val d => k d ρ
  | .slot i => match ρ[i]? with
    | some (some (.frz d)) => k d ρ
    | some (some (.own d)) => P[i]? ≠ some true ∧ k d (ρ.set i (some (.frz d)))
    | _ => False
def shareAll (P : List Bool) : DEnv → List Opd → (List PyData → DEnv → Prop) → Prop
  | ρ, [], k => k [] ρ
  | ρ, o :: os, k => share P ρ o fun d ρ1 => shareAll P ρ1 os fun ds ρ2 => k (d :: ds) ρ2
section
variable {K : PySem.W.Frag} {C : FC} {P : List Bool} {F H : Hp} {ρ : DEnv} {σ : L2.St}
theorem Sim.share (S : Sim K C F H ρ σ) (hP : C.Tags P) {v : V} {o : Opd} {k : PyData → DEnv → Prop} (h : Den K F σ v o) (w : share P ρ o k) :
    ∃ d ρ' F', k d ρ' ∧ Sim K C F' H ρ' σ ∧ Same F F' ∧ Rep K F' v d := by
  cases o with
  | val d => exact ⟨d, ρ, F, w, S, Same.refl F, h⟩
  | slot i =>
    unfold Dv.share at w
    dsimp only at w
    have h' : σ[i]? = some (some v) := h
    cases e : ρ[i]? with
    | none => rw [e] at w; exact w.elim
    | some x =>
      cases x with
      | none => rw [e] at w; exact w.elim
      | some y =>
        cases y with
        | frz d =>
          rw [e] at w
          obtain ⟨v', h1, h2⟩ := S.frz i d e
          rw [h1] at h'; cases h'
          exact ⟨d, ρ, F, w, S, Same.refl F, h2⟩
        | own d =>
          rw [e] at w
          obtain ⟨a, h1, _⟩ := S.own i d e
          rw [h1] at h'; cases h'
          obtain ⟨F', s, r, S'⟩ := S.freeze e h1 fun z => w.1 (hP i z)
          exact ⟨d, _, F', w.2, S', s, r⟩
theorem Sim.shareAll (hP : C.Tags P) : ∀ {vs : List V} {os : List Opd} {F : Hp} {ρ : DEnv} {k : List PyData → DEnv → Prop}, Sim K C F H ρ σ → DenAll K F σ vs os → shareAll P ρ os k →
    ∃ ds ρ' F', k ds ρ' ∧ Sim K C F' H ρ' σ ∧ Same F F' ∧ RepAll K F' vs ds
  | _, _, F, ρ, k, S, .nil, w => ⟨[], ρ, F, w, S, Same.refl F, .nil⟩
  | _, _, F, ρ, k, S, .cons h r, w => by
    obtain ⟨d, ρ1, F1, w1, S1, s1, r1⟩ := S.share hP h w
    obtain ⟨ds, ρ2, F2, w2, S2, s2, r2⟩ := Sim.shareAll hP S1 (r.mono s1) w1
    exact ⟨d :: ds, ρ2, F2, w2, S2, s1.trans s2, .cons (r1.mono s2) r2⟩
end

/-! ### a new owned object -/
structure Fresh (K : PySem.W.Frag) (C : FC) (F H : Hp) (ρ : DEnv) (σ : L2.St) (a : Addr) (d : PyData) : Prop where
  f : F a = none
  o : Own K F H a d
  h0 : C.H0 a = none
  pn : C.pn a = none
  ne : ∀ (j : Nat) (e : PyData), ρ[j]? = some (some (.own e)) → σ[j]? ≠ some (some (.ref a))
abbrev DO := DEnv → (PyData → DEnv → Prop) → Prop
def lO (K : PySem.W.Frag) (C : FC) (t : DO) : TE := fun σ H Q => ∃ F ρ q, Sim K C F H ρ σ ∧ t ρ q ∧ ∀ d ρ' F' H' a, q d ρ' → Sim K C F' H' ρ' σ → Same F F' → Fresh K C F' H' ρ' σ a d → Q (.ref a) H'
structure QO (X : Cx) (C : FC) (e : Expr) (t : DO) : Prop where
  pe : PE X e (lO X.K C t)
theorem QO.of {X : Cx} {C : FC} {e : Expr} {t' : TE} {t : DO} (h : PE X e t') (w : ∀ σ H Q, lO X.K C t σ H Q → t' σ H Q) : QO X C e t := ⟨⟨fun pins s σ H Q I hq => h.run pins s σ H Q I (w σ H Q hq)⟩⟩
section
variable {K : PySem.W.Frag} {C : FC} {F H : Hp} {ρ : DEnv} {σ : L2.St}
theorem Sim.pnone (S : Sim K C F H ρ σ) {b : Addr} (h : H b = none) : C.pn b = none := by
  cases e : C.pn b with
  | none => rfl
  | some o => rw [(S.pin b o e).1] at h; cases h
/-- an object laid at a free place is a new owned one -/
theorem Sim.lay (S : Sim K C F H ρ σ) {p : Addr} (hp : H p = none) {o : HO} : Sim K C F (upd H p o) ρ σ ∧ F p = none ∧ C.H0 p = none ∧ C.pn p = none ∧ ∀ (j : Nat) (e : PyData), ρ[j]? = some (some (.own e)) → σ[j]? ≠ some (some (.ref p)) := by
  have hF : F p = none := S.sub.free hp
  refine ⟨S.grow ⟨Same.refl F, Dv.same_upd hp, S.sub.trans (Dv.same_upd hp), fun _ h => .inl h⟩, hF, S.h0none hp, S.pnone hp, fun j e h1 h2 => ?_⟩
  obtain ⟨a, h3, _, h4, _⟩ := S.own j e h1
  rw [h3] at h2; cases h2
  obtain ⟨o, h5⟩ := h4.there
  rw [hp] at h5; cases h5
theorem Sim.layL (S : Sim K C F H ρ σ) {p : Addr} (hp : H p = none) {xs : List V} {ds : List PyData} (r : RepAll K F xs ds) : Sim K C F (upd H p (.lst xs)) ρ σ ∧ Fresh K C F (upd H p (.lst xs)) ρ σ p (.list ds) := by
  obtain ⟨a, b, c, c', d⟩ := S.lay hp (o := .lst xs)
  exact ⟨a, b, ⟨xs, upd_same, r⟩, c, c', d⟩
theorem Sim.layD (S : Sim K C F H ρ σ) {p : Addr} (hp : H p = none) {xs : List (Key × V)} {ds : List (PyData × PyData)} (r : RepKV K F xs ds) : Sim K C F (upd H p (.dK xs)) ρ σ ∧ Fresh K C F (upd H p (.dK xs)) ρ σ p (.dict ds) := by
  obtain ⟨a, b, c, c', d⟩ := S.lay hp (o := .dK xs)
  exact ⟨a, b, ⟨xs, upd_same, r⟩, c, c', d⟩
/-- .. and may be frozen at once -/
theorem Sim.froze (S : Sim K C F H ρ σ) {a : Addr} {d : PyData} (fr : Fresh K C F H ρ σ a d) : ∃ F', Same F F' ∧ Sim K C F' H ρ σ ∧ Rep K F' (.ref a) d := by
  obtain ⟨o, ho⟩ := fr.o.there
  have sF : Same F (upd F a o) := Dv.same_upd fr.f
  refine ⟨upd F a o, sF, ⟨S.len, fun b x e => ?_, fun j e h => ?_, fun j e h => ?_, S.ne, S.par, S.f0.trans sF, S.h0, fun b e => ?_, fun b x e => ?_⟩, ?_⟩
  · by_cases hb : b = a
    · subst hb; rw [upd_same] at e; cases e; exact ho
    · rw [upd_ne hb] at e; exact S.sub b x e
  · obtain ⟨v, h1, h2⟩ := S.frz j e h
    exact ⟨v, h1, h2.mono sF⟩
  · obtain ⟨b, h1, h2, h3, h4⟩ := S.own j e h
    have nb : b ≠ a := fun z => fr.ne j e h (z ▸ h1)
    exact ⟨b, h1, by rw [upd_ne nb]; exact h2, h3.mono sF fun x y => y, h4⟩
  · by_cases hb : b = a
    · subst hb; exact .inr fr.h0
    · rw [upd_ne hb] at e; exact S.new b e
  · obtain ⟨h1, h2, h3⟩ := S.pin b x e
    have nb : b ≠ a := fun z => by
      subst z
      rw [fr.pn] at e; cases e
    exact ⟨h1, by rw [upd_ne nb]; exact h2, h3⟩
  · have hO := fr.o
    cases d with
    | list ds =>
      obtain ⟨xs, e, r⟩ := hO
      rw [ho] at e; cases e
      exact .lst (SqL.of upd_same) (r.mono sF)
    | dict ds =>
      obtain ⟨xs, e, r⟩ := hO
      rw [ho] at e; cases e
      exact .dct upd_same (r.mono sF)
    | _ => exact hO.elim
end
section
variable {X : Cx} {C : FC} {P : List Bool} {a b c e : Expr} {es : List Expr} {pos : Pos} {ta tb tc : DE}
def dFroz (t : DO) : DE := fun ρ Q => t ρ fun d ρ' => Q (.val d) ρ'
theorem q_froz {t : DO} (h : QO X C e t) : QE X C e (dFroz t) := QE.of h.pe fun σ H Q hq => by
  obtain ⟨F, ρ, q, S, ht, k⟩ := hq
  refine ⟨F, ρ, _, S, ht, fun d ρ' F' H' a hq S' s' fr => ?_⟩
  obtain ⟨F2, s2, S2, r⟩ := S'.froze fr
  exact k _ _ _ _ _ hq S2 (s'.trans s2) r

/-! ### displays -/
def dTup (P : List Bool) (t : DA) : DE := fun ρ Q => t ρ fun os ρ1 => os.length ≤ big ∧ shareAll P ρ1 os fun ds ρ2 => Q (.val (.tuple ds)) ρ2
def dLst (P : List Bool) (t : DA) : DO := fun ρ Q => t ρ fun os ρ1 => os.length ≤ big ∧ shareAll P ρ1 os fun ds ρ2 => Q (.list ds) ρ2
theorem q_tup {t : DA} {x1} (hP : C.Tags P) (h : QA X C es t) : QE X C (.Tuple es x1 pos) (dTup P t) := QE.of (pe_tup h.pa) fun σ H Q hq => by
  obtain ⟨F, ρ, q, S, ht, k⟩ := hq
  refine ⟨F, ρ, _, S, ht, fun os ρ1 F1 H1 vs hq S1 s1 d1 => ⟨?_, fun p hp => ?_⟩⟩
  · rw [d1.length]; exact le_line hq.1
  · obtain ⟨ds, ρ2, F2, w, S2, s2, r⟩ := Sim.shareAll hP S1 d1 hq.2
    have g := Gr.new (o := .tup vs) S2.sub hp
    exact k _ _ _ _ _ w (S2.grow g) ((s1.trans s2).trans g.f) (.tup (SqT.of upd_same) (r.mono g.f))
theorem o_lst {t : DA} (hP : C.Tags P) (h : QA X C es t) : QO X C (.List es pos) (dLst P t) := QO.of (pe_lst h.pa) fun σ H Q hq => by
  obtain ⟨F, ρ, q, S, ht, k⟩ := hq
  refine ⟨F, ρ, _, S, ht, fun os ρ1 F1 H1 vs hq S1 s1 d1 => ⟨?_, fun p hp => ?_⟩⟩
  · rw [d1.length]; exact le_line hq.1
  · obtain ⟨ds, ρ2, F2, w, S2, s2, r⟩ := Sim.shareAll hP S1 d1 hq.2
    obtain ⟨S3, fr⟩ := S2.layL hp r
    exact k _ _ _ _ _ w S3 (s1.trans s2) fr

/-! ### built-ins -/
def dCB (f : OpN) (t : DA) : DE := fun ρ Q => t ρ fun os ρ1 => withAll ρ1 os fun ds => f ds fun g => Q (.val g) ρ1
theorem lE_call {r : List V → Hp → VK → Prop} {f : OpN} {t : DA} (ok : CallOk X r f) {σ : L2.St} {H : Hp} {Q : VK} (h : lE X.K C (dCB f t) σ H Q) : tCB r (lA X.K C t) σ H Q := by
  obtain ⟨F, ρ, q, S, ht, k⟩ := h
  refine ⟨F, ρ, _, S, ht, fun os ρ1 F1 H1 vs h1 S1 s1 d1 => ?_⟩
  obtain ⟨ds, v1, w1⟩ := S1.seeAll d1 h1
  exact ok F1 H1 vs ds _ Q S1.sub v1 w1 (kont_of (ρ1 := ρ1) (F1 := F1) (H1 := H1) S1 s1 k)
section
variable {id : String} {x : Str} {p : Pos} {T : String}
theorem q_callB {r : List V → Hp → VK → Prop} {f : OpN} {t : DA} (hc : CallR X (.builtin id) r) (ok : CallOk X r f) (hm : X.mg x = none) (hv : bootBuiltins x = some (.builtin id)) (ha : QA X C (e :: es) t) (hg : Gl X x := by rfl) (hn : x ≠ "__name__" := by decide) (hdb : (x == ("__debug__" : Str)) = false := by decide)
    (he : starEach (e :: es) X.env = (false, eval e X.env) :: starEach es X.env := by rfl) (hpl : (backTo pos (starEach es X.env)).any (·.1) = false := by rfl) : QE X C (.Call (.Name x p) (e :: es) [] pos) (dCB f t) :=
  QE.of (pe_callB hc hg hm hv ha.pa hn hdb he hpl) fun _ _ _ h => lE_call ok h
theorem q_callTy {r : List V → Hp → VK → Prop} {f : OpN} {t : DA} (hc : CallR X (.type T) r) (ok : CallOk X r f) (hm : X.mg x = none) (hv : bootBuiltins x = some (.type T)) (ha : QA X C (e :: es) t) (hg : Gl X x := by rfl) (hn : x ≠ "__name__" := by decide) (hdb : (x == ("__debug__" : Str)) = false := by decide)
    (he : starEach (e :: es) X.env = (false, eval e X.env) :: starEach es X.env := by rfl) (hpl : (backTo pos (starEach es X.env)).any (·.1) = false := by rfl) : QE X C (.Call (.Name x p) (e :: es) [] pos) (dCB f t) :=
  QE.of (pe_callTy hc hg hm hv ha.pa hn hdb he hpl) fun _ _ _ h => lE_call ok h
end
/-- .. that give a new list -/
def KontL (K : PySem.W.Frag) (F H : Hp) (q : List PyData → Prop) (Q : VK) : Prop := ∀ ds xs p, q ds → H p = none → RepAll K F xs ds → Q (.ref p) (upd H p (.lst xs))
abbrev OpNL := List PyData → (List PyData → Prop) → Prop
def CallOkL (X : Cx) (r : List V → Hp → VK → Prop) (f : OpNL) : Prop := ∀ F H vs ds q Q, Same F H → ViewAll X.K F H vs ds → f ds q → KontL X.K F H q Q → r vs H Q
def dCBL (f : OpNL) (t : DA) : DO := fun ρ Q => t ρ fun os ρ1 => withAll ρ1 os fun ds => f ds fun g => Q (.list g) ρ1
theorem lO_call {r : List V → Hp → VK → Prop} {f : OpNL} {t : DA} (ok : CallOkL X r f) {σ : L2.St} {H : Hp} {Q : VK} (h : lO X.K C (dCBL f t) σ H Q) : tCB r (lA X.K C t) σ H Q := by
  obtain ⟨F, ρ, q, S, ht, k⟩ := h
  refine ⟨F, ρ, _, S, ht, fun os ρ1 F1 H1 vs h1 S1 s1 d1 => ?_⟩
  obtain ⟨ds, v1, w1⟩ := S1.seeAll d1 h1
  refine ok F1 H1 vs ds _ Q S1.sub v1 w1 fun g xs p hq hp hr => ?_
  obtain ⟨S3, fr⟩ := S1.layL hp hr
  exact k _ _ _ _ _ hq S3 s1 fr
section
variable {id : String} {x : Str} {p : Pos} {T : String}
theorem o_callB {r : List V → Hp → VK → Prop} {f : OpNL} {t : DA} (hc : CallR X (.builtin id) r) (ok : CallOkL X r f) (hm : X.mg x = none) (hv : bootBuiltins x = some (.builtin id)) (ha : QA X C (e :: es) t) (hg : Gl X x := by rfl) (hn : x ≠ "__name__" := by decide) (hdb : (x == ("__debug__" : Str)) = false := by decide)
    (he : starEach (e :: es) X.env = (false, eval e X.env) :: starEach es X.env := by rfl) (hpl : (backTo pos (starEach es X.env)).any (·.1) = false := by rfl) : QO X C (.Call (.Name x p) (e :: es) [] pos) (dCBL f t) :=
  QO.of (pe_callB hc hg hm hv ha.pa hn hdb he hpl) fun _ _ _ h => lO_call ok h
theorem o_callTy {r : List V → Hp → VK → Prop} {f : OpNL} {t : DA} (hc : CallR X (.type T) r) (ok : CallOkL X r f) (hm : X.mg x = none) (hv : bootBuiltins x = some (.type T)) (ha : QA X C (e :: es) t) (hg : Gl X x := by rfl) (hn : x ≠ "__name__" := by decide) (hdb : (x == ("__debug__" : Str)) = false := by decide)
    (he : starEach (e :: es) X.env = (false, eval e X.env) :: starEach es X.env := by rfl) (hpl : (backTo pos (starEach es X.env)).any (·.1) = false := by rfl) : QO X C (.Call (.Name x p) (e :: es) [] pos) (dCBL f t) :=
  QO.of (pe_callTy hc hg hm hv ha.pa hn hdb he hpl) fun _ _ _ h => lO_call ok h
end
/-- a binary operator that gives a new list -/
abbrev Op2L := PyData → PyData → (List PyData → Prop) → Prop
def OpOkL (X : Cx) (r : R2) (f : Op2L) : Prop := ∀ F H x y d e q Q, Same F H → View X.K F H x d → View X.K F H y e → f d e q → KontL X.K F H q Q → r x y H Q
def dBinL (f : Op2L) (a b : DE) : DO := fun ρ Q => a ρ fun o1 ρ1 => b ρ1 fun o2 ρ2 => withO ρ2 o1 fun d => withO ρ2 o2 fun e => f d e fun g => Q (.list g) ρ2
theorem o_bin {op : Operator} {r : R2} {f : Op2L} (ho : OpR X (binaryOp op) r) (ok : OpOkL X r f) (ha : QE X C a ta) (hb : QE X C b tb) : QO X C (.BinOp a op b pos) (dBinL f ta tb) :=
  QO.of (pe_op ho ha.pe hb.pe) fun σ H Q h => by
    obtain ⟨F, ρ, q, S, ht, k⟩ := h
    refine ⟨F, ρ, _, S, ht, fun o1 ρ1 F1 H1 x h1 S1 s1 d1 => ?_⟩
    refine ⟨F1, ρ1, _, S1, h1, fun o2 ρ2 F2 H2 y h2 S2 s2 d2 => ?_⟩
    obtain ⟨d, v1, w1⟩ := S2.see (d1.mono s2) h2
    obtain ⟨e, v2, w2⟩ := S2.see d2 w1
    refine ok F2 H2 x y d e _ Q S2.sub v1 v2 w2 fun g xs p hq hp hr => ?_
    obtain ⟨S3, fr⟩ := S2.layL hp hr
    exact k _ _ _ _ _ hq S3 (s1.trans s2) fr
/-! ### chains -/
theorem q_chain {op op' : CmpOp} {r r' : R2} {f g : Op2} (ho : OpR X (compareOp op) r) (ok : OpOk X r f) (ho' : OpR X (compareOp op') r') (ok' : OpOk X r' g) (ha : QE X C a ta) (hb : QE X C b tb) (hc : QE X C c tc)
    (h : PE X (.Compare a [op, op'] [b, c] pos) (tChain r r' (lE X.K C ta) (lE X.K C tb) (lE X.K C tc))) : QE X C (.Compare a [op, op'] [b, c] pos) (dChain f g ta tb tc) :=
  QE.of h fun σ H Q h => by
    obtain ⟨F, ρ, q, S, ht, k⟩ := h
    refine ⟨F, ρ, _, S, ht, fun o1 ρ1 F1 H1 x h1 S1 s1 d1 => ?_⟩
    refine ⟨F1, ρ1, _, S1, h1, fun o2 ρ2 F2 H2 y h2 S2 s2 d2 => ?_⟩
    obtain ⟨d, v1, w1⟩ := S2.see (d1.mono s2) h2
    obtain ⟨e, v2, w2⟩ := S2.see d2 w1
    refine ok F2 H2 x y d e _ _ S2.sub v1 v2 w2 fun z F3 H3 zv hz gr rz => ?_
    have S3 := S2.grow gr
    cases z with
    | bool bz =>
      cases rz
      refine ⟨bz, rfl, ?_⟩
      cases bz with
      | true =>
        refine ⟨F3, ρ2, _, S3, hz, fun o3 ρ3 F4 H4 w h4 S4 s4 d4 => ?_⟩
        obtain ⟨e', v3, w3⟩ := S4.see (d2.mono (gr.f.trans s4)) h4
        obtain ⟨d3, v4, w4⟩ := S4.see d4 w3
        exact ok' F4 H4 y w e' d3 _ Q S4.sub v3 v4 w4 (kont_of (ρ1 := ρ1) (F1 := F1) (H1 := H1) S4 (((s1.trans s2).trans gr.f).trans s4) k)
      | false => exact k _ _ _ _ _ hz S3 ((s1.trans s2).trans gr.f) (.bl false)
    | _ => exact hz.elim
end
end Dv

set_option Elab.async false
set_option linter.all false
set_option maxRecDepth 100000
namespace Dv
open PySem PySem.Spec L2

/-! ### statements -/
structure DEnds where
  nx : DEnv → Prop
  rt : SV → DEnv → Prop
  bk : DEnv → Prop := fun _ => False
  ct : DEnv → Prop := fun _ => False
abbrev DS := DEnds → DEnv → Prop
/-- what is given back: a datum, or a new owned object -/
def RepR (K : PySem.W.Frag) (C : FC) (F H : Hp) (v : V) : SV → Prop
  | .frz d => Rep K F v d
  | .own d => ∃ a, v = .ref a ∧ F a = none ∧ Own K F H a d ∧ C.H0 a = none
structure EndsOk (K : PySem.W.Frag) (C : FC) (F : Hp) (E : DEnds) (D : Ends) : Prop where
  nx : ∀ ρ' F' H' σ', E.nx ρ' → Sim K C F' H' ρ' σ' → Same F F' → D.nx σ' H'
  rt : ∀ r ρ' F' H' σ' v, E.rt r ρ' → Sim K C F' H' ρ' σ' → Same F F' → RepR K C F' H' v r → D.rt v H'
  bk : ∀ ρ' F' H' σ', E.bk ρ' → Sim K C F' H' ρ' σ' → Same F F' → D.bk σ' H'
  ct : ∀ ρ' F' H' σ', E.ct ρ' → Sim K C F' H' ρ' σ' → Same F F' → D.ct σ' H'
theorem EndsOk.mono {K : PySem.W.Frag} {C : FC} {F F' : Hp} {E : DEnds} {D : Ends} (e : Same F F') (h : EndsOk K C F E D) : EndsOk K C F' E D :=
  ⟨fun _ _ _ _ a b c => h.nx _ _ _ _ a b (e.trans c), fun _ _ _ _ _ _ a b c d => h.rt _ _ _ _ _ _ a b (e.trans c) d, fun _ _ _ _ a b c => h.bk _ _ _ _ a b (e.trans c), fun _ _ _ _ a b c => h.ct _ _ _ _ a b (e.trans c)⟩
def lS (K : PySem.W.Frag) (C : FC) (t : DS) : TS := fun D σ H => ∃ F ρ E, Sim K C F H ρ σ ∧ t E ρ ∧ EndsOk K C F E D
structure QS (X : Cx) (C : FC) (s : Stmt) (t : DS) : Prop where
  ps : PS X s (lS X.K C t)
structure QSs (X : Cx) (C : FC) (s : List Stmt) (t : DS) : Prop where
  pss : PSs X s (lS X.K C t)
section
variable {X : Cx} {C : FC} {P : List Bool} {st : Stmt} {rest body : List Stmt} {a b c e : Expr} {es : List Expr} {pos : Pos} {ta tb tc : DE} {t u : DS}
theorem QS.of {t' : TS} (h : PS X st t') (w : ∀ D σ H, lS X.K C t D σ H → t' D σ H) : QS X C st t := ⟨⟨fun pins s σ H D I hq => h.run pins s σ H D I (w D σ H hq)⟩⟩
theorem QSs.of {t' : TS} (h : PSs X rest t') (w : ∀ D σ H, lS X.K C t D σ H → t' D σ H) : QSs X C rest t := ⟨⟨fun pins s σ H D I hq => h.run pins s σ H D I (w D σ H hq)⟩⟩
def dNext : DS := fun E ρ => E.nx ρ
def dSeq (t u : DS) : DS := fun E ρ => t { E with nx := u E } ρ
theorem s_nil : QSs X C [] dNext := QSs.of pss_nil fun D σ H ⟨F, ρ, E, S, ht, ok⟩ => ok.nx _ _ _ _ ht S (Same.refl F)
theorem lS_seq {D : Ends} {σ : L2.St} {H : Hp} (h : lS X.K C (dSeq t u) D σ H) : lS X.K C t { D with nx := lS X.K C u D } σ H := by
  obtain ⟨F, ρ, E, S, ht, ok⟩ := h
  exact ⟨F, ρ, _, S, ht, ⟨fun ρ' F' H' σ' h1 S1 s1 => ⟨F', ρ', E, S1, h1, ok.mono s1⟩, ok.rt, ok.bk, ok.ct⟩⟩
theorem s_cons (h1 : QS X C st t) (h2 : QSs X C rest u) : QSs X C (st :: rest) (dSeq t u) := QSs.of (pss_cons h1.ps h2.pss) fun _ _ _ h => lS_seq h
theorem s_one (h1 : QS X C st t) : QSs X C [st] t := ⟨pss_one h1.ps⟩
theorem s_pass : QS X C (.Pass pos) dNext := QS.of ps_pass fun D σ H ⟨F, ρ, E, S, ht, ok⟩ => ok.nx _ _ _ _ ht S (Same.refl F)
def dBreak : DS := fun E ρ => E.bk ρ
theorem s_break : QS X C (.Break pos) dBreak := QS.of ps_break fun D σ H ⟨F, ρ, E, S, ht, ok⟩ => ok.bk _ _ _ _ ht S (Same.refl F)
/-- an expression whose value is dropped -/
def dDrop (t : DE) : DS := fun E ρ => t ρ fun _ ρ' => E.nx ρ'
theorem s_expr (he : QE X C e ta) (hs : swapsWith e none pos.line X.env = pure false := by rfl) : QS X C (.Expr e pos) (dDrop ta) := QS.of (ps_expr he.pe hs) fun D σ H ⟨F, ρ, E, S, ht, ok⟩ =>
  ⟨F, ρ, _, S, ht, fun o ρ' F' H' v hq S' s' _ => ok.nx _ _ _ _ hq S' s'⟩
/-- return e -/
def dRet (P : List Bool) (t : DE) : DS := fun E ρ => t ρ fun o ρ' => match o with
  | .val d => E.rt (.frz d) ρ'
  | .slot i => match ρ'[i]? with
    | some (some (.own d)) => P[i]? ≠ some true ∧ E.rt (.own d) ρ'
    | _ => False
theorem s_ret (hP : C.Tags P) (he : QE X C e ta) : QS X C (.Return (some e) pos) (dRet P ta) := QS.of (ps_ret he.pe) fun D σ H ⟨F, ρ, E, S, ht, ok⟩ => by
  refine ⟨F, ρ, _, S, ht, fun o ρ' F' H' v hq S' s' d' => ?_⟩
  cases o with
  | val d => exact ok.rt _ _ _ _ _ _ hq S' s' d'
  | slot i =>
    dsimp only at hq
    cases q : ρ'[i]? with
    | none => rw [q] at hq; exact hq.elim
    | some x =>
      cases x with
      | none => rw [q] at hq; exact hq.elim
      | some y =>
        cases y with
        | frz d => rw [q] at hq; exact hq.elim
        | own d =>
          rw [q] at hq
          obtain ⟨a, h1, h2, h3, h4⟩ := S'.own i d q
          have d'' : σ[i]? = some (some v) := d'
          rw [h1] at d''; cases d''
          refine ok.rt _ _ _ _ _ _ hq.2 S' s' ⟨a, rfl, h2, h3, ?_⟩
          rcases h4 with z | z
          · exact z
          · exact absurd (hP i ⟨a, z⟩) hq.1
/-- return a new object -/
def dRetO (t : DO) : DS := fun E ρ => t ρ fun d ρ' => E.rt (.own d) ρ'
theorem s_retO {t : DO} (he : QO X C e t) : QS X C (.Return (some e) pos) (dRetO t) := QS.of (ps_ret he.pe) fun D σ H ⟨F, ρ, E, S, ht, ok⟩ =>
  ⟨F, ρ, _, S, ht, fun d ρ' F' H' a hq S' s' fr => ok.rt _ _ _ _ _ _ hq S' s' ⟨a, rfl, fr.f, fr.o, fr.h0⟩⟩
def dRetN : DS := fun E ρ => E.rt (.frz .none) ρ
theorem s_retN : QS X C (.Return none pos) dRetN := QS.of ps_retN fun D σ H ⟨F, ρ, E, S, ht, ok⟩ => ok.rt _ _ _ _ _ _ ht S (Same.refl F) .non
/-- if -/
def dIf (c : DT) (t u : DS) : DS := fun E ρ => c ρ fun b ρ1 => by2 b (t E ρ1) (u E ρ1)
theorem s_if {tc : DT} (hc : QT X C c tc) (ha : QSs X C body t) (hb : QSs X C rest u) : QS X C (.If c body rest pos) (dIf tc t u) := QS.of (ps_if hc.pt ha.pss hb.pss) fun D σ H ⟨F, ρ, E, S, ht, ok⟩ => by
  refine ⟨F, ρ, _, S, ht, fun b ρ1 F1 H1 h1 S1 s1 => ?_⟩
  cases b with
  | true => rw [if_pos rfl]; exact ⟨F1, ρ1, E, S1, h1, ok.mono s1⟩
  | false => rw [if_neg Bool.false_ne_true]; exact ⟨F1, ρ1, E, S1, h1, ok.mono s1⟩

/-! ### targets -/
abbrev DG := PyData → DEnv → (DEnv → Prop) → Prop
abbrev DGs := List PyData → DEnv → (DEnv → Prop) → Prop
def lG (K : PySem.W.Frag) (C : FC) (t : DG) : TG := fun v σ H Q => ∃ F ρ d q, Sim K C F H ρ σ ∧ Rep K F v d ∧ t d ρ q ∧ ∀ ρ' F' H' σ', q ρ' → Sim K C F' H' ρ' σ' → Same F F' → Q σ' H'
def lGs (K : PySem.W.Frag) (C : FC) (t : DGs) : TGs := fun v σ H Q => ∃ F ρ d q, Sim K C F H ρ σ ∧ RepAll K F v d ∧ t d ρ q ∧ ∀ ρ' F' H' σ', q ρ' → Sim K C F' H' ρ' σ' → Same F F' → Q σ' H'
structure QG (X : Cx) (C : FC) (tg : Expr) (t : DG) : Prop where
  pg : PG X tg (lG X.K C t)
structure QGs (X : Cx) (C : FC) (tg : List Expr) (t : DGs) : Prop where
  pgs : PGs X tg (lGs X.K C t)
theorem QG.of {tg : Expr} {t' : TG} {t : DG} (h : PG X tg t') (w : ∀ v σ H Q, lG X.K C t v σ H Q → t' v σ H Q) : QG X C tg t := ⟨⟨fun pins s σ H v u Q I r hq => h.run pins s σ H v u Q I r (w v σ H Q hq)⟩⟩
theorem QGs.of {tg : List Expr} {t' : TGs} {t : DGs} (h : PGs X tg t') (w : ∀ v σ H Q, lGs X.K C t v σ H Q → t' v σ H Q) : QGs X C tg t := ⟨⟨fun pins s σ H v u Q I r hq => h.run pins s σ H v u Q I r (w v σ H Q hq)⟩⟩
/-- setting a slot, whatever its place -/
theorem setF' {K : PySem.W.Frag} {F H : Hp} {ρ : DEnv} {σ : L2.St} (S : Sim K C F H ρ σ) {i : Nat} {v : V} {d : PyData} (hp : ¬ C.isP i) (r : Rep K F v d) : Sim K C F H (ρ.set i (some (.frz d))) (σ.set i (some v)) := by
  by_cases hi : i < σ.length
  · exact S.setF hi hp r
  · rw [List.set_eq_of_length_le (by rw [S.len]; omega), List.set_eq_of_length_le (by omega)]; exact S
theorem setO' {K : PySem.W.Frag} {F H : Hp} {ρ : DEnv} {σ : L2.St} (S : Sim K C F H ρ σ) {i : Nat} {a : Addr} {d : PyData} (hp : ¬ C.isP i) (fr : Fresh K C F H ρ σ a d) : Sim K C F H (ρ.set i (some (.own d))) (σ.set i (some (.ref a))) := by
  by_cases hi : i < σ.length
  · exact S.setO hi hp fr.f fr.o fr.h0 fr.pn fr.ne
  · rw [List.set_eq_of_length_le (by rw [S.len]; omega), List.set_eq_of_length_le (by omega)]; exact S
theorem noP (hP : C.Tags P) {i : Nat} (h : P[i]? ≠ some true) : ¬ C.isP i := fun z => h (hP i z)
def gN (i : Nat) : DG := fun d ρ Q => Q (ρ.set i (some (.frz d)))
theorem g_name {i : Nat} {x : Str} (hP : C.Tags P) (hN : X.N.Nodup) (hi : X.N[i]? = some x := by rfl) (hx : Loc X.env.scope x := by first | exact .inl rfl | exact .inr rfl) (hp : P[i]? ≠ some true := by decide)
    (hf : X.fn x = true ∨ X.env.scope.names.lookup x = some .local := by first | exact .inl rfl | exact .inr rfl | assumption) : QG X C (.Name x pos) (gN i) :=
  QG.of (pg_name hN hi hx hf) fun v σ H Q ⟨F, ρ, d, q, S, r, ht, k⟩ => k _ _ _ _ ht (setF' S (noP hP hp) r) (Same.refl F)
def gNil' : DGs := fun ds ρ Q => match ds with
  | [] => Q ρ
  | _ => False
def gCons' (t : DG) (u : DGs) : DGs := fun ds ρ Q => match ds with
  | d :: r => t d ρ fun ρ' => u r ρ' Q
  | [] => False
theorem gs_nil : QGs X C [] gNil' := QGs.of pgs_nil fun v σ H Q ⟨F, ρ, d, q, S, r, ht, k⟩ => by
  cases r with
  | nil => exact ⟨rfl, k _ _ _ _ ht S (Same.refl F)⟩
  | cons _ _ => exact ht.elim
theorem gs_cons {tg : Expr} {tgs : List Expr} {t : DG} {u : DGs} (h1 : QG X C tg t) (h2 : QGs X C tgs u) (hs : (assignEach (tg :: tgs) X.env).map (·.2) = assign tg X.env :: (assignEach tgs X.env).map (·.2) := by rfl) : QGs X C (tg :: tgs) (gCons' t u) :=
  QGs.of (pgs_cons h1.pg h2.pgs hs) fun v σ H Q ⟨F, ρ, d, q, S, r, ht, k⟩ => by
    cases r with
    | nil => exact ht.elim
    | cons r1 r2 => exact ⟨_, _, rfl, F, ρ, _, _, S, r1, ht, fun ρ' F' H' σ' h1 S1 s1 => ⟨F', ρ', _, q, S1, r2.mono s1, h1, fun ρ2 F2 H2 σ2 h2 S2 s2 => k _ _ _ _ h2 S2 (s1.trans s2)⟩⟩
def gTup' (n : Nat) (t : DGs) : DG := fun d ρ Q => match d with
  | .tuple ds => ds.length = n ∧ t ds ρ Q
  | _ => False
theorem g_tup {tgs : List Expr} {k : Nat} {t : DGs} {n : Nat} (hc : X.calm = true) (h : QGs X C tgs t) (hn : (assignEach tgs X.env).length = n := by rfl) (hst : (assignEach tgs X.env).findIdx? (·.1) = none := by rfl) : QG X C (.Tuple tgs k pos) (gTup' n t) :=
  QG.of (pg_tup hc h.pgs hn hst) fun v σ H Q ⟨F, ρ, d, q, S, r, ht, k⟩ => by
    cases r with
    | tup hs hr => exact ⟨_, _, rfl, sqT_mono S.sub hs, by rw [hr.length]; exact ht.1, F, ρ, _, q, S, hr, ht.2, k⟩
    | _ => exact ht.elim
/-- target = value -/
def dAsg (P : List Bool) (t : DE) (g : DG) : DS := fun E ρ => t ρ fun o ρ1 => share P ρ1 o fun d ρ2 => g d ρ2 E.nx
theorem s_asg {tg : Expr} {g : DG} (hP : C.Tags P) (he : QE X C e ta) (hg : QG X C tg g) (hs : swapsWithSole [tg] e pos.line X.env = pure false := by rfl) (hw : swappedStores [tg] e X.env = pure none := by rfl)
    (h1 : (assignEach [tg] X.env).map (·.2) = [assign tg X.env] := by rfl) : QS X C (.Assign [tg] e pos) (dAsg P ta g) :=
  QS.of (ps_asg he.pe hg.pg hs hw h1) fun D σ H ⟨F, ρ, E, S, ht, ok⟩ => by
    refine ⟨F, ρ, _, S, ht, fun o ρ1 F1 H1 v hq S1 s1 d1 => ?_⟩
    obtain ⟨d, ρ2, F2, w, S2, s2, r⟩ := S1.share hP d1 hq
    exact ⟨F2, ρ2, d, _, S2, r, w, fun ρ' F' H' σ' h' S' s' => ok.nx _ _ _ _ h' S' ((s1.trans s2).trans s')⟩
def dSet (P : List Bool) (i : Nat) (t : DE) : DS := fun E ρ => t ρ fun o ρ1 => share P ρ1 o fun d ρ2 => E.nx (ρ2.set i (some (.frz d)))
theorem s_set {i : Nat} {x : Str} {pos' : Pos} (hP : C.Tags P) (hN : X.N.Nodup) (he : QE X C e ta) (hi : X.N[i]? = some x := by rfl) (hx : Loc X.env.scope x := by first | exact .inl rfl | exact .inr rfl) (hp : P[i]? ≠ some true := by decide)
    (hs : swapsWith e (some (.Name x pos')) pos.line X.env = pure false := by rfl) (hf : X.fn x = true ∨ X.env.scope.names.lookup x = some .local := by first | exact .inl rfl | exact .inr rfl | assumption) :
    QS X C (.Assign [.Name x pos'] e pos) (dSet P i ta) := QS.of (ps_set hN hi hx he.pe hs hf) fun D σ H ⟨F, ρ, E, S, ht, ok⟩ => by
  refine ⟨F, ρ, _, S, ht, fun o ρ1 F1 H1 v hq S1 s1 d1 => ?_⟩
  obtain ⟨d, ρ2, F2, w, S2, s2, r⟩ := S1.share hP d1 hq
  exact ok.nx _ _ _ _ w (setF' S2 (noP hP hp) r) (s1.trans s2)
def dSetO (i : Nat) (t : DO) : DS := fun E ρ => t ρ fun d ρ1 => E.nx (ρ1.set i (some (.own d)))
theorem s_setO {i : Nat} {x : Str} {pos' : Pos} {t : DO} (hP : C.Tags P) (hN : X.N.Nodup) (he : QO X C e t) (hi : X.N[i]? = some x := by rfl) (hx : Loc X.env.scope x := by first | exact .inl rfl | exact .inr rfl) (hp : P[i]? ≠ some true := by decide)
    (hs : swapsWith e (some (.Name x pos')) pos.line X.env = pure false := by rfl) (hf : X.fn x = true ∨ X.env.scope.names.lookup x = some .local := by first | exact .inl rfl | exact .inr rfl | assumption) :
    QS X C (.Assign [.Name x pos'] e pos) (dSetO i t) := QS.of (ps_set hN hi hx he.pe hs hf) fun D σ H ⟨F, ρ, E, S, ht, ok⟩ =>
  ⟨F, ρ, _, S, ht, fun d ρ1 F1 H1 a hq S1 s1 fr => ok.nx _ _ _ _ hq (setO' S1 (noP hP hp) fr) s1⟩

/-! ### while -/
def dWhile (c : DT) (b : DS) : DS := fun E ρ => ∃ W : Nat → DEnv → Prop, (∃ m, W m ρ) ∧ ∀ m ρ, W m ρ → c ρ fun x ρ1 => by2 x (b { E with nx := fun ρ' => ∃ m', m' < m ∧ W m' ρ', ct := fun ρ' => ∃ m', m' < m ∧ W m' ρ', bk := E.nx } ρ1) (E.nx ρ1)
theorem s_while {tc : DT} (hp : PassesOwn (model X.prog X.w) X.A X.env X.xe) (hc : QT X C c tc) (hb : QSs X C body t) : QS X C (.While c body [] pos) (dWhile tc t) := QS.of (ps_while hp hc.pt hb.pss) fun D σ H ⟨F, ρ, E, S, ⟨W, ⟨m0, w0⟩, turn⟩, ok⟩ => by
  refine ⟨fun m σ H => ∃ F' ρ', Sim X.K C F' H ρ' σ ∧ Same F F' ∧ W m ρ', ⟨m0, F, ρ, S, Same.refl F, w0⟩, fun m σ H ⟨F1, ρ1, S1, s1, w1⟩ => ?_⟩
  refine ⟨F1, ρ1, _, S1, turn m ρ1 w1, fun b ρ2 F2 H2 h2 S2 s2 => ?_⟩
  cases b with
  | true =>
    rw [if_pos rfl]
    refine ⟨fun σ' H' => ∃ m', m' < m ∧ ∃ F' ρ', Sim X.K C F' H' ρ' σ' ∧ Same F F' ∧ W m' ρ', fun σ' H' h => h, F2, ρ2, _, S2, h2, ⟨?_, ?_, ?_, ?_⟩⟩
    · rintro ρ' F' H' σ' ⟨m', hm, w'⟩ S' s'
      exact ⟨m', hm, F', ρ', S', (s1.trans s2).trans s', w'⟩
    · intro r ρ' F' H' σ' v h S' s' rr
      exact ok.rt _ _ _ _ _ _ h S' ((s1.trans s2).trans s') rr
    · intro ρ' F' H' σ' h S' s'
      exact ok.nx _ _ _ _ h S' ((s1.trans s2).trans s')
    · rintro ρ' F' H' σ' ⟨m', hm, w'⟩ S' s'
      exact ⟨m', hm, F', ρ', S', (s1.trans s2).trans s', w'⟩
  | false =>
    rw [if_neg Bool.false_ne_true]
    exact ok.nx _ _ _ _ h2 S2 (s1.trans s2)

/-! ### what is walked -/
def ItOk (K : PySem.W.Frag) (J : It) (F0 : Hp) (ds : List PyData) : Prop := ∀ F H, Same F0 F → Same F H → J.stop ds.length H ∧ ∀ (i : Nat) d, ds[i]? = some d → J.go i H ∧ ∀ x H', J.yld i H x H' → ∃ F', Gr F H F' H' ∧ Rep K F' x d
abbrev DI := DEnv → (List PyData → DEnv → Prop) → Prop
def lI (K : PySem.W.Frag) (C : FC) (t : DI) : TI := fun σ H R => ∃ F ρ q, Sim K C F H ρ σ ∧ t ρ q ∧ ∀ ds ρ' F' H' J, q ds ρ' → Sim K C F' H' ρ' σ → Same F F' → ItOk K J F' ds → R J H'
structure QI (X : Cx) (C : FC) (tg it : Expr) (t : DI) : Prop where
  pi : PI X tg it (lI X.K C t)
theorem QI.of {tg it : Expr} {t' : TI} {t : DI} (h : PI X tg it t') (w : ∀ σ H R, lI X.K C t σ H R → t' σ H R) : QI X C tg it t := ⟨⟨fun pins s σ H R I hq => h.run pins s σ H R I (w σ H R hq)⟩⟩
def dLoop (g : DG) (b : DS) (E : DEnds) : List PyData → DEnv → Prop
  | [], ρ => E.nx ρ
  | d :: ds, ρ => g d ρ fun ρ1 => b { E with nx := dLoop g b E ds, ct := dLoop g b E ds, bk := E.nx } ρ1
def dFor (it : DI) (g : DG) (b : DS) : DS := fun E ρ => it ρ fun ds ρ1 => dLoop g b E ds ρ1
theorem s_for {tg it : Expr} {ti : DI} {g : DG} (hp : PassesOwn (model X.prog X.w) X.A X.env X.xe) (hc : X.calm = true) (hi : QI X C tg it ti) (hg : QG X C tg g) (hb : QSs X C body t) (hs : ∀ x, foldedSetIterable it X.env x = pure x := by intro _; rfl) :
    QS X C (.For tg it body [] pos) (dFor ti g t) := QS.of (ps_for hp hc hi.pi hg.pg hb.pss hs) fun D σ H ⟨F, ρ, E, S, ht, ok⟩ => by
  refine ⟨F, ρ, _, S, ht, fun ds ρ1 F1 H1 J h1 S1 s1 iok => ?_⟩
  refine ⟨fun i m σ H => m + i = ds.length ∧ ∃ F' ρ', Sim X.K C F' H ρ' σ ∧ Same F1 F' ∧ dLoop g t E (ds.drop i) ρ', ⟨ds.length, rfl, F1, ρ1, S1, Same.refl F1, h1⟩, fun i m σ H ⟨hm, F2, ρ2, S2, s2, w2⟩ => ?_⟩
  obtain ⟨st, go⟩ := iok F2 H s2 S2.sub
  by_cases hi : i < ds.length
  · rw [List.drop_eq_getElem_cons hi] at w2
    obtain ⟨g1, y1⟩ := go i ds[i] (List.getElem?_eq_getElem hi)
    refine .inr ⟨g1, fun σ' H' => ∃ F' ρ', Sim X.K C F' H' ρ' σ' ∧ Same F1 F' ∧ dLoop g t E (ds.drop (i + 1)) ρ', fun σ' H' h => ⟨m - 1, by omega, by omega, h⟩, fun x H' hy => ?_⟩
    obtain ⟨F3, gr, r⟩ := y1 x H' hy
    refine ⟨F3, ρ2, ds[i], _, S2.grow gr, r, w2, fun ρ4 F4 H4 σ4 h4 S4 s4 => ?_⟩
    have s14 := (s2.trans gr.f).trans s4
    refine ⟨F4, ρ4, _, S4, h4, ⟨?_, ?_, ?_, ?_⟩⟩
    · intro ρ' F' H' σ' h S' s'
      exact ⟨F', ρ', S', s14.trans s', h⟩
    · intro r ρ' F' H' σ' v h S' s' rr
      exact ok.rt _ _ _ _ _ _ h S' (s1.trans (s14.trans s')) rr
    · intro ρ' F' H' σ' h S' s'
      exact ok.nx _ _ _ _ h S' (s1.trans (s14.trans s'))
    · intro ρ' F' H' σ' h S' s'
      exact ⟨F', ρ', S', s14.trans s', h⟩
  · rw [List.drop_eq_nil_of_le (by omega)] at w2
    have e : i = ds.length := by omega
    subst e
    exact .inl ⟨st, ok.nx _ _ _ _ w2 S2 (s1.trans s2)⟩
end
end Dv

set_option Elab.async false
set_option linter.all false
set_option maxRecDepth 100000
set_option autoImplicit false
namespace Dv
open PySem PySem.Spec L2

/-! ### a def's promise over data -/
abbrev Outs := List (Option PyData)
abbrev SpD := List PyData → (SV → Outs → Prop) → Prop
def SV.d : SV → PyData
  | .frz d => d
  | .own d => d
def isT : Option Bool → Bool
  | some true => true
  | _ => false
structure Args (K : PySem.W.Frag) (F H : Hp) (P : List Bool) (vs : List V) (ds : List PyData) : Prop where
  len : vs.length = ds.length
  lenP : P.length = ds.length
  frz : ∀ (i : Nat) (v : V) (d : PyData), vs[i]? = some v → ds[i]? = some d → P[i]? = some false → Rep K F v d
  own : ∀ (i : Nat) (v : V) (d : PyData), vs[i]? = some v → ds[i]? = some d → P[i]? = some true → ∃ a, v = .ref a ∧ F a = none ∧ Own K F H a d
  ne : ∀ (i j : Nat) (a : Addr), P[i]? = some true → P[j]? = some true → vs[i]? = some (.ref a) → vs[j]? = some (.ref a) → i = j
structure Post (K : PySem.W.Frag) (P : List Bool) (F H : Hp) (vs : List V) (F' H' : Hp) (outs : Outs) (r : SV) (v : V) : Prop where
  s : Same F' H'
  f : Same F F'
  n : ∀ b, F' b ≠ none → F b ≠ none ∨ H b = none
  h : ∀ b o, H b = some o → (∀ (i : Nat), P[i]? = some true → vs[i]? ≠ some (.ref b)) → H' b = some o
  o : ∀ (i : Nat) (a : Addr), P[i]? = some true → vs[i]? = some (.ref a) → ∃ d, outs[i]? = some (some d) ∧ F' a = none ∧ Own K F' H' a d
  oN : ∀ (i : Nat) (d : PyData), outs[i]? = some (some d) → P[i]? = some true
  res : match r with
    | .frz d => Rep K F' v d
    | .own d => ∃ a, v = .ref a ∧ F' a = none ∧ Own K F' H' a d ∧ H a = none
def spOf (K : PySem.W.Frag) (P : List Bool) (S : SpD) : Sp := fun vs H Q _ => ∃ F ds q, Same F H ∧ Args K F H P vs ds ∧ S ds q ∧ ∀ r outs F' H' v, q r outs → Post K P F H vs F' H' outs r v → Q v H'

/-! ### its body -/
def startE (n : Nat) : List Bool → List PyData → DEnv
  | b :: P, d :: ds => some (if b then .own d else .frz d) :: startE (n - 1) P ds
  | _, _ => List.replicate n none
def outE : Bool → Option SV → Option PyData
  | true, some (.own d) => some d
  | _, _ => none
def outsOf : List Bool → DEnv → Outs
  | b :: P, x :: ρ => outE b x :: outsOf P ρ
  | _, _ => []
theorem outsOf_at : ∀ {P : List Bool} {ρ : DEnv} {i : Nat} {d : PyData}, P[i]? = some true → ρ[i]? = some (some (.own d)) → (outsOf P ρ)[i]? = some (some d)
  | [], _, _, _, h, _ => by simp at h
  | _ :: _, [], _, _, _, h => by simp at h
  | b :: P, x :: ρ, 0, d, h1, h2 => by
    simp at h1 h2
    subst h1 h2
    rfl
  | b :: P, x :: ρ, i + 1, d, h1, h2 => by
    have ih := outsOf_at (P := P) (ρ := ρ) (i := i) (d := d) (by simpa using h1) (by simpa using h2)
    simpa [outsOf] using ih
theorem outsOf_true : ∀ {P : List Bool} {ρ : DEnv} {i : Nat} {d : PyData}, (outsOf P ρ)[i]? = some (some d) → P[i]? = some true
  | [], _, _, _, h => by simp [outsOf] at h
  | _ :: _, [], _, _, h => by simp [outsOf] at h
  | b :: P, x :: ρ, 0, d, h => by
    simp [outsOf] at h
    cases b with
    | true => rfl
    | false => simp [outE] at h
  | b :: P, x :: ρ, i + 1, d, h => by
    simp [outsOf] at h
    simpa using outsOf_true h
theorem startE_get : ∀ {n : Nat} {P : List Bool} {ds : List PyData} {i : Nat}, P.length = ds.length → (startE n P ds)[i]? = match P[i]?, ds[i]? with
    | some b, some d => some (some (if b then .own d else .frz d))
    | _, _ => if i < ds.length + (n - ds.length) then some none else none
  | n, [], [], i, _ => by
    simp [startE, List.getElem?_replicate]
  | n, b :: P, d :: ds, 0, h => by simp [startE]
  | n, b :: P, d :: ds, i + 1, h => by
    have ih := startE_get (n := n - 1) (P := P) (ds := ds) (i := i) (by simpa using h)
    simp only [startE, List.getElem?_cons_succ, List.length_cons]
    rw [ih]
    have e : (i < ds.length + (n - 1 - ds.length)) = (i + 1 < ds.length + 1 + (n - (ds.length + 1))) := by
      rw [Nat.sub_sub, Nat.add_comm 1 ds.length]
      apply propext; constructor <;> intro <;> omega
    simp only [e]
  | n, [], _ :: _, _, h => by simp at h
  | n, _ :: _, [], _, h => by simp at h
theorem startE_length : ∀ {n : Nat} {P : List Bool} {ds : List PyData}, P.length = ds.length → ds.length ≤ n → (startE n P ds).length = n
  | n, [], [], _, _ => by simp [startE]
  | n, b :: P, d :: ds, h, hn => by
    simp only [startE, List.length_cons] at hn ⊢
    rw [startE_length (n := n - 1) (by simpa using h) (by omega)]
    omega
  | n, [], _ :: _, h, _ => by simp at h
  | n, _ :: _, [], h, _ => by simp at h
def paE : Bool → V → Option Addr
  | true, .ref a => some a
  | _, _ => none
def paOf : List Bool → List V → List (Option Addr)
  | b :: P, v :: vs => paE b v :: paOf P vs
  | _, _ => []
theorem paE_some {b : Bool} {v : V} {a : Addr} : paE b v = some a ↔ b = true ∧ v = .ref a := by
  cases b <;> cases v <;> simp [paE]
theorem paOf_get : ∀ {P : List Bool} {vs : List V} {i : Nat} {a : Addr}, (paOf P vs)[i]? = some (some a) ↔ P[i]? = some true ∧ vs[i]? = some (.ref a)
  | [], _, _, _ => by simp [paOf]
  | _ :: _, [], _, _ => by simp [paOf]
  | b :: P, v :: vs, 0, a => by simp [paOf, paE_some]
  | b :: P, v :: vs, i + 1, a => by simpa [paOf] using paOf_get
theorem start_get {N : List Str} {vs : List V} {i : Nat} {v : V} : (L2.start N vs)[i]? = some (some v) ↔ vs[i]? = some v := by
  unfold L2.start
  by_cases h : i < vs.length
  · rw [List.getElem?_append_left (by simpa using h), List.getElem?_map, List.getElem?_eq_getElem h]; simp
  · rw [List.getElem?_append_right (by simpa using h), List.getElem?_replicate, List.getElem?_eq_none (l := vs) (by omega)]
    constructor
    · intro z; split at z <;> cases z
    · intro z; cases z
section
variable {K : PySem.W.Frag} {F H : Hp} {P : List Bool} {vs : List V} {ds : List PyData} {N : List Str}
def fcOf (F H : Hp) (P : List Bool) (vs : List V) : FC := ⟨F, H, paOf P vs, fun _ => none⟩
theorem fc_tags : (fcOf F H P vs).Tags P := fun i ⟨a, h⟩ => (paOf_get.mp h).1
theorem sim_start (s : Same F H) (A : Args K F H P vs ds) (hN : ds.length ≤ N.length) : Sim K (fcOf F H P vs) F H (startE N.length P ds) (L2.start N vs) where
  len := by
    rw [startE_length A.lenP hN]; unfold L2.start
    have := A.len
    simp; omega
  sub := s
  frz := fun i d h => by
    rw [startE_get A.lenP] at h
    split at h
    · rename_i b e h1 h2
      cases b with
      | true => cases h
      | false =>
        cases h
        have hl : i < vs.length := by rw [A.len]; exact (List.getElem?_eq_some_iff.mp h2).1
        exact ⟨vs[i], start_get.mpr (List.getElem?_eq_getElem hl), A.frz i _ _ (List.getElem?_eq_getElem hl) h2 h1⟩
    · split at h <;> cases h
  own := fun i d h => by
    rw [startE_get A.lenP] at h
    split at h
    · rename_i b e h1 h2
      cases b with
      | false => cases h
      | true =>
        cases h
        have hl : i < vs.length := by rw [A.len]; exact (List.getElem?_eq_some_iff.mp h2).1
        obtain ⟨a, e1, e2, e3⟩ := A.own i _ _ (List.getElem?_eq_getElem hl) h2 h1
        have hv : vs[i]? = some (.ref a) := by rw [List.getElem?_eq_getElem hl, e1]
        exact ⟨a, start_get.mpr hv, e2, e3, .inr (paOf_get.mpr ⟨h1, hv⟩)⟩
    · split at h <;> cases h
  ne := fun i j a d e h1 h2 h3 h4 => by
    rw [startE_get A.lenP] at h1 h2
    split at h1
    · rename_i b1 _ p1 _
      cases b1 with
      | false => cases h1
      | true =>
        split at h2
        · rename_i b2 _ p2 _
          cases b2 with
          | false => cases h2
          | true => exact A.ne i j a p1 p2 (start_get.mp h3) (start_get.mp h4)
        · split at h2 <;> cases h2
    · split at h1 <;> cases h1
  par := fun i a h => by
    obtain ⟨h1, h2⟩ := paOf_get.mp h
    have hl : i < ds.length := by rw [← A.len]; exact (List.getElem?_eq_some_iff.mp h2).1
    refine ⟨ds[i], ?_, start_get.mpr h2⟩
    rw [startE_get A.lenP, h1, List.getElem?_eq_getElem hl]
    rfl
  f0 := Same.refl F
  h0 := fun b o e _ => e
  new := fun b e => .inl e
  pin := fun b o e => nomatch e
/-- what is wanted behind the body -/
def endsOf (P : List Bool) (q : SV → Outs → Prop) : DEnds := { nx := fun ρ => q (.frz .none) (outsOf P ρ), rt := fun r ρ => q r (outsOf P ρ) }
theorem post_of {F' H' : Hp} {ρ' : DEnv} {σ' : L2.St} {r : SV} {v : V} (S : Sim K (fcOf F H P vs) F' H' ρ' σ') (rr : RepR K (fcOf F H P vs) F' H' v r) : Post K P F H vs F' H' (outsOf P ρ') r v where
  s := S.sub
  f := S.f0
  n := S.new
  h := fun b o e hb => S.h0 b o e fun z => by
    obtain ⟨i, hi⟩ := List.mem_iff_getElem?.mp z
    obtain ⟨h1, h2⟩ := paOf_get.mp hi
    exact hb i h1 h2
  o := fun i a h1 h2 => by
    obtain ⟨d, e1, e2⟩ := S.par i a (paOf_get.mpr ⟨h1, h2⟩)
    obtain ⟨a', e3, e4, e5, _⟩ := S.own i d e1
    rw [e2] at e3; cases e3
    exact ⟨d, outsOf_at h1 e1, e4, e5⟩
  oN := fun i d h => outsOf_true h
  res := by
    cases r with
    | frz d => exact rr
    | own d => obtain ⟨a, h1, h2, h3, h4⟩ := rr; exact ⟨a, h1, h2, h3, h4⟩
end
/-- THE RULE for a def -/
theorem fn_ok {Pg : Program} {w : World} {K : PySem.W.Frag} {mg : Str → Option Value} {base : Heap} {x qual : Str} {st : Stmt} {f : Addr} {fd : FuncData} {N ps : List Str} {k : Nat} {P : List Bool} {S : SpD} {g : DS}
    (F : Fun K x qual st f fd) (Sc : FnScope N ps (defScope st)) (hl : P.length = ps.length) (hN : ps.length ≤ N.length)
    (der : ∀ (cdv : Value) (A : Around) (outer : List Env) (s : Shared) (H : Hp) (E : XK) (C : FC), Room k (A.deeper (PyProof.Rows.envOfC qual (defScope st) s.heap.objs.size f cdv)) → C.Tags P → QSs (cxOf CX0 Pg w K mg base N qual (defScope st) f cdv A outer s H E).nox C (defBody st) g)
    (pure : ∀ ds q, S ds q → ds.length = P.length → g (endsOf P q) (startE N.length P ds)) : FnOk Pg w K mg base CX0 (k + 1) f fd ps (spOf K P S) := by
  refine F.ok Sc (fun vs H Q E h => ?_) (fun cdv A outer s H vs Q E hr h => ?_)
  · obtain ⟨F, ds, q, _, A, _⟩ := h
    rw [A.len, ← A.lenP, hl]
  · obtain ⟨F1, ds, q, sF, Ar, hS, k1⟩ := h
    refine ⟨_, (der cdv A outer s H E (fcOf F1 H P vs) hr fc_tags).pss, F1, startE N.length P ds, endsOf P q, sim_start sF Ar (by rw [← Ar.lenP, hl]; exact hN), pure ds q hS Ar.lenP.symm, ⟨?_, ?_, ?_, ?_⟩⟩
    · intro ρ' F' H' σ' h S' s'
      exact k1 _ _ _ _ _ h (post_of S' Rep.non)
    · intro r ρ' F' H' σ' v h S' s' rr
      exact k1 _ _ _ _ _ h (post_of S' rr)
    · intro _ _ _ _ h
      exact h.elim
    · intro _ _ _ _ h
      exact h.elim
end Dv

set_option Elab.async false
set_option linter.all false
set_option maxRecDepth 100000
set_option autoImplicit false
namespace Dv
open PySem PySem.Spec L2

/-! ### calls -/
/-- the arguments that are not owned are shared -/
def shareSel (P : List Bool) : List Bool → DEnv → List Opd → (DEnv → Prop) → Prop
  | false :: ts, ρ, o :: os, k => share P ρ o fun _ ρ1 => shareSel P ts ρ1 os k
  | true :: ts, ρ, _ :: os, k => shareSel P ts ρ os k
  | _, ρ, _, k => k ρ
def selOk : List Bool → DEnv → List Opd → Prop
  | false :: ts, ρ, .val _ :: os => selOk ts ρ os
  | false :: ts, ρ, .slot i :: os => (match ρ[i]? with
    | some (some (.frz _)) => True
    | _ => False) ∧ selOk ts ρ os
  | true :: ts, ρ, .slot i :: os => (match ρ[i]? with
    | some (some (.own _)) => True
    | _ => False) ∧ selOk ts ρ os
  | [], _, [] => True
  | _, _, _ => False
def selSlots : List Bool → List Opd → List Nat
  | true :: ts, .slot i :: os => i :: selSlots ts os
  | _ :: ts, _ :: os => selSlots ts os
  | _, _ => []
def wb1 : Opd → Option PyData → DEnv → DEnv
  | .slot i, some d, ρ => ρ.set i (some (.own d))
  | _, _, ρ => ρ
def wb : List Opd → Outs → DEnv → DEnv
  | o :: os, x :: xs, ρ => wb os xs (wb1 o x ρ)
  | _, _, ρ => ρ
theorem wb1_length (o : Opd) (x : Option PyData) (ρ : DEnv) : (wb1 o x ρ).length = ρ.length := by
  cases o <;> cases x <;> simp [wb1]
theorem wb_length : ∀ (os : List Opd) (xs : Outs) (ρ : DEnv), (wb os xs ρ).length = ρ.length
  | [], _, _ => by simp [wb]
  | _ :: _, [], _ => by simp [wb]
  | o :: os, x :: xs, ρ => by rw [wb, wb_length os xs, wb1_length]
/-- the slots that are written -/
theorem wb_out : ∀ {os : List Opd} {xs : Outs} {ρ : DEnv} {i : Nat}, (∀ (j : Nat) d, os[j]? = some (.slot i) → xs[j]? ≠ some (some d)) → (wb os xs ρ)[i]? = ρ[i]?
  | [], _, _, _, _ => by simp [wb]
  | _ :: _, [], _, _, _ => by simp [wb]
  | o :: os, x :: xs, ρ, i, h => by
    rw [wb, wb_out (fun j d e => by simpa using h (j + 1) d (by simpa using e))]
    cases o with
    | val d => rfl
    | slot k =>
      cases x with
      | none => rfl
      | some d =>
        have : k ≠ i := fun z => h 0 d (by simp [z]) (by simp)
        simp [wb1, List.getElem?_set_ne this]
theorem selSlots_mem : ∀ {ts : List Bool} {os : List Opd} {i : Nat}, i ∈ selSlots ts os ↔ ∃ (j : Nat), ts[j]? = some true ∧ os[j]? = some (.slot i)
  | [], _, _ => by simp [selSlots]
  | t :: ts, [], _ => by cases t <;> simp [selSlots]
  | t :: ts, o :: os, i => by
    have ih := selSlots_mem (ts := ts) (os := os) (i := i)
    have shift : (∃ (j : Nat), (t :: ts)[j]? = some true ∧ (o :: os)[j]? = some (.slot i)) ↔ (t = true ∧ o = .slot i) ∨ ∃ (j : Nat), ts[j]? = some true ∧ os[j]? = some (.slot i) := by
      constructor
      · rintro ⟨j, h1, h2⟩
        cases j with
        | zero => simp at h1 h2; exact .inl ⟨h1, h2⟩
        | succ j => simp at h1 h2; exact .inr ⟨j, h1, h2⟩
      · rintro (⟨h1, h2⟩ | ⟨j, h1, h2⟩)
        · exact ⟨0, by simp [h1], by simp [h2]⟩
        · exact ⟨j + 1, by simpa using h1, by simpa using h2⟩
    rw [shift, ← ih]
    cases t <;> cases o <;> simp [selSlots, eq_comm]
theorem wb_in : ∀ {ts : List Bool} {os : List Opd} {xs : Outs} {ρ : DEnv} {i j : Nat} {d : PyData}, (selSlots ts os).Nodup → (∀ (j : Nat) d, xs[j]? = some (some d) → ts[j]? = some true) → i < ρ.length → ts[j]? = some true → os[j]? = some (.slot i) → xs[j]? = some (some d) →
    (wb os xs ρ)[i]? = some (some (.own d))
  | [], _, _, _, _, _, _, _, _, _, h, _, _ => by simp at h
  | _ :: _, [], _, _, _, _, _, _, _, _, _, h, _ => by simp at h
  | _ :: _, _ :: _, [], _, _, _, _, _, _, _, _, _, h => by simp at h
  | t :: ts, o :: os, x :: xs, ρ, i, 0, d, nd, ht, hl, h1, h2, h3 => by
    simp at h1 h2 h3
    subst h1 h2 h3
    simp only [selSlots, List.nodup_cons] at nd
    rw [wb, wb_out fun j d' e z => nd.1 (selSlots_mem.mpr ⟨j, by simpa using ht (j + 1) d' (by simpa using z), e⟩)]
    simp [wb1, List.getElem?_set_self hl]
  | t :: ts, o :: os, x :: xs, ρ, i, j + 1, d, nd, ht, hl, h1, h2, h3 => by
    rw [wb]
    refine wb_in (ts := ts) (j := j) ?_ (fun j d e => by simpa using ht (j + 1) d (by simpa using e)) (by rw [wb1_length]; exact hl) (by simpa using h1) (by simpa using h2) (by simpa using h3)
    cases t with
    | false => simpa [selSlots] using nd
    | true =>
      cases o with
      | val _ => simpa [selSlots] using nd
      | slot _ => simp only [selSlots, List.nodup_cons] at nd; exact nd.2
section
variable {K : PySem.W.Frag} {C : FC} {P : List Bool} {F H F' H' : Hp} {ρ ρ' : DEnv} {σ : L2.St}
/-- behind a call that turns the objects of the slots sl -/
theorem Sim.after (S : Sim K C F H ρ σ) (sl : List Nat) (f : Same F F') (s : Same F' H') (n : ∀ b, F' b ≠ none → F b ≠ none ∨ H b = none)
    (h : ∀ b o, H b = some o → (∀ i ∈ sl, σ[i]? ≠ some (some (.ref b))) → H' b = some o) (len : ρ'.length = ρ.length)
    (was : ∀ i ∈ sl, ∃ d, ρ[i]? = some (some (.own d))) (out : ∀ i, i ∉ sl → ρ'[i]? = ρ[i]?)
    (o : ∀ i ∈ sl, ∃ a d, σ[i]? = some (some (.ref a)) ∧ ρ'[i]? = some (some (.own d)) ∧ F' a = none ∧ Own K F' H' a d) : Sim K C F' H' ρ' σ := by
  have wasOwn : ∀ (i : Nat) d, ρ'[i]? = some (some (.own d)) → ∃ e, ρ[i]? = some (some (.own e)) := fun i d e => by
    by_cases hi : i ∈ sl
    · exact was i hi
    · exact ⟨d, by rw [← out i hi]; exact e⟩
  have keepF : ∀ b x, H b = some x → F b = none → F' b = none := fun b x e1 e2 => by
    cases q : F' b with
    | none => rfl
    | some u =>
      rcases n b (by rw [q]; intro z; cases z) with z | z
      · exact absurd e2 z
      · rw [z] at e1; cases e1
  refine ⟨by rw [len, S.len], s, fun i d e => ?_, fun i d e => ?_, fun i j a d e h1 h2 h3 h4 => ?_, fun i a e => ?_, S.f0.trans f, fun b x e hb => ?_, fun b e => ?_, fun b x e => ?_⟩
  · by_cases hi : i ∈ sl
    · obtain ⟨_, _, _, z, _⟩ := o i hi
      rw [z] at e; cases e
    · rw [out i hi] at e
      obtain ⟨v, h1, h2⟩ := S.frz i d e
      exact ⟨v, h1, h2.mono f⟩
  · by_cases hi : i ∈ sl
    · obtain ⟨a, d', h1, h2, h3, h4⟩ := o i hi
      rw [h2] at e; cases e
      obtain ⟨e0, he0⟩ := was i hi
      obtain ⟨a', g1, _, _, g4⟩ := S.own i e0 he0
      rw [h1] at g1; cases g1
      exact ⟨a, h1, h3, h4, g4⟩
    · rw [out i hi] at e
      obtain ⟨a, h1, h2, h3, h4⟩ := S.own i d e
      obtain ⟨x, hx⟩ := h3.there
      have na : ∀ j ∈ sl, σ[j]? ≠ some (some (.ref a)) := fun j hj z => by
        obtain ⟨e0, he0⟩ := was j hj
        exact hi (S.ne j i a e0 d he0 e z h1 ▸ hj)
      exact ⟨a, h1, keepF a x hx h2, h3.mono f fun y hy => h a y hy na, h4⟩
  · obtain ⟨x1, g1⟩ := wasOwn i d h1
    obtain ⟨x2, g2⟩ := wasOwn j e h2
    exact S.ne i j a x1 x2 g1 g2 h3 h4
  · obtain ⟨d, h1, h2⟩ := S.par i a e
    by_cases hi : i ∈ sl
    · obtain ⟨a', d', g1, g2, _⟩ := o i hi
      exact ⟨d', g2, h2⟩
    · exact ⟨d, by rw [out i hi]; exact h1, h2⟩
  · refine h b x (S.h0 b x e hb) fun i hi z => ?_
    obtain ⟨e0, he0⟩ := was i hi
    obtain ⟨a', g1, _, _, g4⟩ := S.own i e0 he0
    rw [z] at g1; cases g1
    rcases g4 with q | q
    · rw [q] at e; cases e
    · exact hb (List.mem_of_getElem? q)
  · rcases n b e with z | z
    · exact S.new b z
    · exact .inr (S.h0none z)
  · obtain ⟨h1, h2, h3⟩ := S.pin b x e
    refine ⟨h b x h1 fun i hi z => ?_, keepF b x h1 h2, fun j y hy => ?_⟩
    · obtain ⟨e0, he0⟩ := was i hi
      exact h3 i e0 he0 z
    · obtain ⟨x1, g1⟩ := wasOwn j y hy
      exact h3 j x1 g1
theorem Sim.shareSel (hP : C.Tags P) : ∀ {ts : List Bool} {vs : List V} {os : List Opd} {F : Hp} {ρ : DEnv} {k : DEnv → Prop}, Sim K C F H ρ σ → DenAll K F σ vs os → shareSel P ts ρ os k → ∃ ρ' F', k ρ' ∧ Sim K C F' H ρ' σ ∧ Same F F'
  | [], _, _, F, ρ, k, S, _, w => by
    unfold Dv.shareSel at w
    exact ⟨ρ, F, w, S, Same.refl F⟩
  | t :: ts, _, _, F, ρ, k, S, .nil, w => by
    unfold Dv.shareSel at w
    cases t <;> exact ⟨ρ, F, w, S, Same.refl F⟩
  | true :: ts, _, _, F, ρ, k, S, .cons h r, w => Sim.shareSel hP S r (by unfold Dv.shareSel at w; exact w)
  | false :: ts, _, _, F, ρ, k, S, .cons h r, w => by
    unfold Dv.shareSel at w
    obtain ⟨d, ρ1, F1, w1, S1, s1, r1⟩ := S.share hP h w
    obtain ⟨ρ2, F2, w2, S2, s2⟩ := Sim.shareSel hP S1 (r.mono s1) w1
    exact ⟨ρ2, F2, w2, S2, s1.trans s2⟩
theorem selOk_at : ∀ {ts : List Bool} {ρ : DEnv} {os : List Opd} {i : Nat} {b : Bool} {o : Opd}, selOk ts ρ os → ts[i]? = some b → os[i]? = some o →
    match b, o with
    | false, .val _ => True
    | false, .slot j => ∃ d, ρ[j]? = some (some (.frz d))
    | true, .slot j => ∃ d, ρ[j]? = some (some (.own d))
    | true, .val _ => False
  | [], _, _, _, _, _, _, h, _ => by simp at h
  | _ :: _, _, [], _, _, _, _, _, h => by simp at h
  | t :: ts, ρ, o :: os, 0, b, o', h, h1, h2 => by
    simp at h1 h2
    subst h1 h2
    cases t <;> cases o
    · trivial
    · simp only [selOk] at h
      rename_i j
      cases q : ρ[j]? with
      | none => rw [q] at h; exact h.1.elim
      | some x =>
        cases x with
        | none => rw [q] at h; exact h.1.elim
        | some y =>
          cases y with
          | frz d => exact ⟨d, q⟩
          | own d => rw [q] at h; exact h.1.elim
    · exact h
    · simp only [selOk] at h
      rename_i j
      cases q : ρ[j]? with
      | none => rw [q] at h; exact h.1.elim
      | some x =>
        cases x with
        | none => rw [q] at h; exact h.1.elim
        | some y =>
          cases y with
          | own d => exact ⟨d, q⟩
          | frz d => rw [q] at h; exact h.1.elim
  | t :: ts, ρ, o :: os, i + 1, b, o', h, h1, h2 => by
    refine selOk_at (ts := ts) (ρ := ρ) (os := os) (i := i) ?_ (by simpa using h1) (by simpa using h2)
    cases t <;> cases o
    · exact h
    · exact h.2
    · exact h.elim
    · exact h.2
theorem selOk_len : ∀ {ts : List Bool} {ρ : DEnv} {os : List Opd}, selOk ts ρ os → ts.length = os.length
  | [], _, [], _ => rfl
  | [], _, _ :: _, h => h.elim
  | true :: _, _, [], h => h.elim
  | false :: _, _, [], h => h.elim
  | t :: ts, ρ, o :: os, h => by
    have : selOk ts ρ os := by
      cases t <;> cases o
      · exact h
      · exact h.2
      · exact h.elim
      · exact h.2
    simp [selOk_len this]
theorem withAll_get : ∀ {os : List Opd} {ρ : DEnv} {k : List PyData → Prop}, withAll ρ os k → ∃ ds, k ds ∧ ds.length = os.length ∧ ∀ (i : Nat) (o : Opd), os[i]? = some o → ∃ d, ds[i]? = some d ∧ withO ρ o fun e => e = d
  | [], ρ, k, h => ⟨[], h, rfl, fun i o e => by simp at e⟩
  | o :: os, ρ, k, h => by
    have h1 : withO ρ o fun d => withAll ρ os fun ds => k (d :: ds) := h
    have : ∃ d, (withO ρ o fun e => e = d) ∧ withAll ρ os fun ds => k (d :: ds) := by
      cases o with
      | val d => exact ⟨d, rfl, h1⟩
      | slot i =>
        unfold withO at h1 ⊢
        dsimp only at h1 ⊢
        cases q : ρ[i]? with
        | none => rw [q] at h1; exact h1.elim
        | some x =>
          cases x with
          | none => rw [q] at h1; exact h1.elim
          | some y =>
            cases y with
            | frz d => rw [q] at h1; exact ⟨d, rfl, h1⟩
            | own d => rw [q] at h1; exact ⟨d, rfl, h1⟩
    obtain ⟨d, w, h2⟩ := this
    obtain ⟨ds, k2, l2, g2⟩ := withAll_get h2
    refine ⟨d :: ds, k2, by simp [l2], fun i o' e => ?_⟩
    cases i with
    | zero => simp at e; subst e; exact ⟨d, rfl, w⟩
    | succ i => simp at e ⊢; exact g2 i o' e
theorem DenAll.get : ∀ {vs : List V} {os : List Opd} {i : Nat} {o : Opd}, DenAll K F σ vs os → os[i]? = some o → ∃ v, vs[i]? = some v ∧ Den K F σ v o
  | _, _, _, _, .nil, e => by simp at e
  | _, _, 0, _, .cons r _, e => by simp at e; subst e; exact ⟨_, rfl, r⟩
  | _, _, i + 1, o, .cons _ t, e => by
    obtain ⟨v, h1, h2⟩ := DenAll.get (i := i) (o := o) t (by simpa using e)
    exact ⟨v, by simpa using h1, h2⟩
end
def dCallS (P ts : List Bool) (S : SpD) (a : DA) (ρ : DEnv) (Q : SV → DEnv → Prop) : Prop := a ρ fun os ρ1 => shareSel P ts ρ1 os fun ρ2 => selOk ts ρ2 os ∧ (selSlots ts os).Nodup ∧ withAll ρ2 os fun ds => S ds fun r outs => Q r (wb os outs ρ2)
section
variable {X : Cx} {C : FC} {P ts : List Bool} {S : SpD} {ta : DA}
theorem call_low (hP : C.Tags P) {σ : L2.St} {H : Hp} {Q : VK} {F : Hp} {ρ : DEnv} {q : SV → DEnv → Prop} (Sm : Sim X.K C F H ρ σ) (h : dCallS P ts S ta ρ q)
    (k : ∀ r ρ' F' H' v, q r ρ' → Sim X.K C F' H' ρ' σ → Same F F' → (match r with
      | .frz d => Rep X.K F' v d
      | .own d => ∃ a, v = .ref a ∧ Fresh X.K C F' H' ρ' σ a d) → Q v H') : tCall (spOf X.K ts S) [] E0 (lA X.K C ta) σ H Q := by
  refine ⟨F, ρ, _, Sm, h, fun os ρ1 F1 H1 vs h1 S1 s1 d1 => ?_⟩
  obtain ⟨ρ2, F2, ⟨sok, nd, h2⟩, S2, s2⟩ := Sim.shareSel hP S1 d1 h1
  obtain ⟨ds, hS, hl, hget⟩ := withAll_get h2
  have d2 := d1.mono s2
  have lts := selOk_len sok
  rw [List.append_nil]
  have osAt : ∀ (i : Nat) b, ts[i]? = some b → ∃ o, os[i]? = some o := fun i b e => by
    have : i < os.length := by rw [← lts]; exact (List.getElem?_eq_some_iff.mp e).1
    exact ⟨os[i], List.getElem?_eq_getElem this⟩
  -- an owned argument stands in a slot
  have ownAt : ∀ (i : Nat), ts[i]? = some true → ∃ j e, os[i]? = some (.slot j) ∧ ρ2[j]? = some (some (.own e)) ∧ ds[i]? = some e ∧ vs[i]? = (σ[j]?).join := fun i e => by
    obtain ⟨o, ho⟩ := osAt i true e
    have z := selOk_at sok e ho
    cases o with
    | val _ => exact z.elim
    | slot j =>
      obtain ⟨x, hx⟩ := z
      obtain ⟨d, hd, wd⟩ := hget i _ ho
      unfold withO at wd
      dsimp only at wd
      rw [hx] at wd
      subst wd
      obtain ⟨v, hv, dv⟩ := d2.get ho
      have dv' : σ[j]? = some (some v) := dv
      exact ⟨j, _, ho, hx, hd, by rw [dv', hv]; rfl⟩
  refine ⟨F2, ds, _, S2.sub, ⟨by rw [d2.length, hl], by rw [lts, hl], fun i v d hv hd ht => ?_, fun i v d hv hd ht => ?_, fun i j a hi hj hvi hvj => ?_⟩, hS, fun r outs F' H' v hq post => ?_⟩
  · obtain ⟨o, ho⟩ := osAt i false ht
    have z := selOk_at sok ht ho
    obtain ⟨d', hd', wd⟩ := hget i _ ho
    rw [hd] at hd'; cases hd'
    obtain ⟨v', hv', dv⟩ := d2.get ho
    rw [hv] at hv'; cases hv'
    cases o with
    | val e => have : e = d := wd; subst this; exact dv
    | slot j =>
      obtain ⟨x, hx⟩ := z
      unfold withO at wd
      dsimp only at wd
      rw [hx] at wd
      subst wd
      obtain ⟨v', g1, g2⟩ := S2.frz j _ hx
      have dv' : σ[j]? = some (some v) := dv
      rw [g1] at dv'; cases dv'
      exact g2
  · obtain ⟨j, e, ho, hx, he, hvj⟩ := ownAt i ht
    rw [hd] at he; cases he
    obtain ⟨a, g1, g2, g3, _⟩ := S2.own j d hx
    rw [hv, g1] at hvj
    exact ⟨a, Option.some.inj hvj, g2, g3⟩
  · obtain ⟨j1, e1, ho1, hx1, _, hv1⟩ := ownAt i hi
    obtain ⟨j2, e2, ho2, hx2, _, hv2⟩ := ownAt j hj
    obtain ⟨a1, g1, _⟩ := S2.own j1 e1 hx1
    obtain ⟨a2, g2, _⟩ := S2.own j2 e2 hx2
    rw [hvi, g1] at hv1
    rw [hvj, g2] at hv2
    have c1 : V.ref a = V.ref a1 := Option.some.inj hv1
    have c2 : V.ref a = V.ref a2 := Option.some.inj hv2
    cases c1; cases c2
    have ej := S2.ne j1 j2 a e1 e2 hx1 hx2 g1 g2
    subst ej
    -- the same slot twice: the places are the same
    have key : ∀ (ts : List Bool) (os : List Opd) (i j m : Nat), (selSlots ts os).Nodup → ts[i]? = some true → ts[j]? = some true → os[i]? = some (.slot m) → os[j]? = some (.slot m) → i = j := by
      intro ts
      induction ts with
      | nil => intro os i j m _ h; simp at h
      | cons t ts ih =>
        intro os i j m nd hi hj oi oj
        cases os with
        | nil => simp at oi
        | cons o os =>
          cases i with
          | zero =>
            cases j with
            | zero => rfl
            | succ j =>
              simp at hi hj oi oj
              subst hi oi
              simp only [selSlots, List.nodup_cons] at nd
              exact absurd (selSlots_mem.mpr ⟨j, hj, oj⟩) nd.1
          | succ i =>
            cases j with
            | zero =>
              simp at hi hj oi oj
              subst hj oj
              simp only [selSlots, List.nodup_cons] at nd
              exact absurd (selSlots_mem.mpr ⟨i, hi, oi⟩) nd.1
            | succ j =>
              simp at hi hj oi oj
              have nd' : (selSlots ts os).Nodup := by
                cases t with
                | false => simpa [selSlots] using nd
                | true =>
                  cases o with
                  | val _ => simpa [selSlots] using nd
                  | slot _ => simp only [selSlots, List.nodup_cons] at nd; exact nd.2
              rw [ih os i j m nd' hi hj oi oj]
    exact key ts os i j j1 nd hi hj ho1 ho2
  · have Sa : Sim X.K C F' H' (wb os outs ρ2) σ := by
      refine S2.after (selSlots ts os) post.f post.s post.n (fun b o e hb => post.h b o e fun i hi z => ?_) (wb_length os outs ρ2) (fun i hi => ?_) (fun i hi => ?_) (fun i hi => ?_)
      · obtain ⟨j, e', ho, hx, _, hv⟩ := ownAt i hi
        obtain ⟨a, g1, _⟩ := S2.own j e' hx
        rw [z, g1] at hv
        have c : V.ref b = V.ref a := Option.some.inj hv
        cases c
        exact hb j (selSlots_mem.mpr ⟨i, hi, ho⟩) g1
      · obtain ⟨j, ht, ho⟩ := selSlots_mem.mp hi
        obtain ⟨j1, e', ho', hx, _⟩ := ownAt j ht
        rw [ho] at ho'; cases ho'
        exact ⟨e', hx⟩
      · exact wb_out fun j d ho hx => hi (selSlots_mem.mpr ⟨j, post.oN j d hx, ho⟩)
      · obtain ⟨j, ht, ho⟩ := selSlots_mem.mp hi
        obtain ⟨j1, e', ho', hx, _, hv⟩ := ownAt j ht
        rw [ho] at ho'; cases ho'
        obtain ⟨a, g1, _⟩ := S2.own i e' hx
        rw [g1] at hv
        obtain ⟨d, p1, p2, p3⟩ := post.o j a ht hv
        exact ⟨a, d, g1, wb_in nd post.oN (List.getElem?_eq_some_iff.mp hx).1 ht ho p1, p2, p3⟩
    refine k r _ F' H' v hq Sa ((s1.trans s2).trans post.f) ?_
    have res := post.res
    cases r with
    | frz d => exact res
    | own d =>
      obtain ⟨a, e1, e2, e3, e4⟩ := res
      refine ⟨a, e1, e2, e3, S2.h0none e4, S2.pnone e4, fun j y hy z => ?_⟩
      obtain ⟨b, hb1, hb2, hb3, _⟩ := Sa.own j y hy
      rw [z] at hb1; cases hb1
      -- the slot owned an object ahead of the call too
      by_cases hj : j ∈ selSlots ts os
      · obtain ⟨m, ht, ho⟩ := selSlots_mem.mp hj
        obtain ⟨j1, e', ho', hx, _⟩ := ownAt m ht
        rw [ho] at ho'; cases ho'
        obtain ⟨b', g1, _, g3, _⟩ := S2.own j e' hx
        rw [z] at g1; cases g1
        obtain ⟨o, ho2⟩ := g3.there
        rw [e4] at ho2; cases ho2
      · rw [wb_out fun m d ho hx => hj (selSlots_mem.mpr ⟨m, post.oN m d hx, ho⟩)] at hy
        obtain ⟨b', g1, _, g3, _⟩ := S2.own j y hy
        rw [z] at g1; cases g1
        obtain ⟨o, ho2⟩ := g3.there
        rw [e4] at ho2; cases ho2
end
end Dv

set_option Elab.async false
set_option linter.all false
set_option maxRecDepth 100000
set_option autoImplicit false
namespace Dv
open PySem PySem.Spec L2
section
variable {X : Cx} {C : FC} {P ts : List Bool} {S : SpD} {ta : DA} {k : Nat} {f : Addr} {fd : FuncData} {ps : List Str} {x : Str} {p pos : Pos} {e : Expr} {es : List Expr}
def dCall (P ts : List Bool) (S : SpD) (a : DA) : DE := fun ρ Q => dCallS P ts S a ρ fun r ρ' => Q (.val r.d) ρ'
def dCallO (P ts : List Bool) (S : SpD) (a : DA) : DO := fun ρ Q => dCallS P ts S a ρ fun r ρ' => match r with
  | .own d => Q d ρ'
  | .frz _ => False
theorem q_call (hP : C.Tags P) (F : FnOk X.prog X.w X.K X.mg X.base CX0 k f fd ps (spOf X.K ts S)) (hr : Room k X.A) (hm : X.mg x = some (.ref f)) (hk : PySem.W.keepIn X.K (.ref f) = true) (hb : Binds X.K fd ps [])
    (ha : QA X C (e :: es) ta) (hg : Gl X x := by rfl) (hdb : (x == ("__debug__" : Str)) = false := by decide) (he : starEach (e :: es) X.env = (false, eval e X.env) :: starEach es X.env := by rfl) (hpl : (backTo pos (starEach es X.env)).any (·.1) = false := by rfl) :
    QE X C (.Call (.Name x p) (e :: es) [] pos) (dCall P ts S ta) :=
  QE.of (pe_call F hr hg hm hk hb .nil pass0 ha.pa hdb he hpl) fun σ H Q ⟨F1, ρ, q, Sm, ht, kk⟩ => by
    refine call_low hP Sm ht fun r ρ' F' H' v hq S' s' res => ?_
    cases r with
    | frz d => exact kk _ _ _ _ _ hq S' s' res
    | own d =>
      obtain ⟨a, e1, fr⟩ := res
      subst e1
      obtain ⟨F2, s2, S2, r2⟩ := S'.froze fr
      exact kk _ _ _ _ _ hq S2 (s'.trans s2) r2
theorem o_call (hP : C.Tags P) (F : FnOk X.prog X.w X.K X.mg X.base CX0 k f fd ps (spOf X.K ts S)) (hr : Room k X.A) (hm : X.mg x = some (.ref f)) (hk : PySem.W.keepIn X.K (.ref f) = true) (hb : Binds X.K fd ps [])
    (ha : QA X C (e :: es) ta) (hg : Gl X x := by rfl) (hdb : (x == ("__debug__" : Str)) = false := by decide) (he : starEach (e :: es) X.env = (false, eval e X.env) :: starEach es X.env := by rfl) (hpl : (backTo pos (starEach es X.env)).any (·.1) = false := by rfl) :
    QO X C (.Call (.Name x p) (e :: es) [] pos) (dCallO P ts S ta) :=
  QO.of (pe_call F hr hg hm hk hb .nil pass0 ha.pa hdb he hpl) fun σ H Q ⟨F1, ρ, q, Sm, ht, kk⟩ => by
    refine call_low hP Sm ht fun r ρ' F' H' v hq S' s' res => ?_
    cases r with
    | frz d => exact hq.elim
    | own d =>
      obtain ⟨a, e1, fr⟩ := res
      subst e1
      exact kk _ _ _ _ _ hq S' s' fr
/-! ### a call that only looks at owned arguments and gives a scalar -/
def scalD : PyData → Bool
  | .none => true
  | .bool _ => true
  | .int _ => true
  | .str _ => true
  | _ => false
theorem Rep.scal {K : PySem.W.Frag} {F F' : Hp} {v : V} {d : PyData} (h : scalD d = true) (r : Rep K F v d) : Rep K F' v d := by
  cases r with
  | non => exact .non
  | bl b => exact .bl b
  | int i => exact .int i
  | str x => exact .str x
  | lst _ _ => cases h
  | tup _ _ => cases h
  | dct _ _ => cases h
/-- the slots that are looked at -/
def bSlots (ρ : DEnv) : List Opd → List Nat
  | .slot i :: os => (match ρ[i]? with
    | some (some (.own _)) => [i]
    | _ => []) ++ bSlots ρ os
  | _ :: os => bSlots ρ os
  | [] => []
def dCallB (n : Nat) (S : SpD) (a : DA) : DE := fun ρ Q => a ρ fun os ρ1 => os.length = n ∧ withAll ρ1 os fun ds => S ds fun r _ => match r with
  | .frz d => scalD d = true ∧ Q (.val d) ρ1
  | .own _ => False
open Classical in
/-- a part of the heap with the objects of some addresses in it -/
noncomputable def plus (F H : Hp) (B : Addr → Prop) : Hp := fun b => if B b then H b else F b
open Classical in
noncomputable def minus (F : Hp) (B : Addr → Prop) : Hp := fun b => if B b then none else F b
theorem q_callB' {n : Nat} (F : FnOk X.prog X.w X.K X.mg X.base CX0 k f fd ps (spOf X.K (List.replicate n false) S)) (hr : Room k X.A) (hm : X.mg x = some (.ref f)) (hk : PySem.W.keepIn X.K (.ref f) = true) (hb : Binds X.K fd ps [])
    (ha : QA X C (e :: es) ta) (hg : Gl X x := by rfl) (hdb : (x == ("__debug__" : Str)) = false := by decide) (he : starEach (e :: es) X.env = (false, eval e X.env) :: starEach es X.env := by rfl) (hpl : (backTo pos (starEach es X.env)).any (·.1) = false := by rfl) :
    QE X C (.Call (.Name x p) (e :: es) [] pos) (dCallB n S ta) :=
  QE.of (pe_call F hr hg hm hk hb .nil pass0 ha.pa hdb he hpl) fun σ H Q ⟨F1, ρ, q, Sm, ht, kk⟩ => by
    refine ⟨F1, ρ, _, Sm, ht, fun os ρ1 F2 H2 vs ⟨hn, h1⟩ S2 s1 d1 => ?_⟩
    show spOf X.K _ S (vs ++ []) H2 Q E0
    rw [List.append_nil]
    obtain ⟨ds, hS, hl, hget⟩ := withAll_get h1
    let B : Addr → Prop := fun b => ∃ (j : Nat) (e : PyData), ρ1[j]? = some (some (.own e)) ∧ σ[j]? = some (some (.ref b))
    have BF : ∀ b, B b → F2 b = none := fun b ⟨j, y, h1, h2⟩ => by
      obtain ⟨a, g1, g2, _⟩ := S2.own j y h1
      rw [h2] at g1; cases g1
      exact g2
    have BH : ∀ b, B b → H2 b ≠ none := fun b ⟨j, y, h1, h2⟩ => by
      obtain ⟨a, g1, _, g3, _⟩ := S2.own j y h1
      rw [h2] at g1; cases g1
      obtain ⟨o, ho⟩ := g3.there
      rw [ho]; intro z; cases z
    have sFp : Same F2 (plus F2 H2 B) := fun b o h => by
      unfold plus
      rw [if_neg fun z => by rw [BF b z] at h; cases h]
      exact h
    have sPH : Same (plus F2 H2 B) H2 := fun b o h => by
      unfold plus at h
      split at h
      · exact h
      · exact S2.sub b o h
    have nt : ∀ (i : Nat), (List.replicate n false)[i]? ≠ some true := fun i z => by
      rw [List.getElem?_replicate] at z
      split at z <;> cases z
    refine ⟨plus F2 H2 B, ds, _, sPH, ⟨by rw [d1.length, hl], by rw [List.length_replicate, hl, hn], fun i v d hv hd _ => ?_, fun i _ _ _ _ z => absurd z (nt i), fun i _ _ z => absurd z (nt i)⟩, hS, fun r outs F' H' v hq post => ?_⟩
    · have hi : i < os.length := by rw [← hl]; exact (List.getElem?_eq_some_iff.mp hd).1
      obtain ⟨d', hd', wd⟩ := hget i _ (List.getElem?_eq_getElem hi)
      rw [hd] at hd'; cases hd'
      obtain ⟨v', hv', dv⟩ := d1.get (List.getElem?_eq_getElem hi)
      rw [hv] at hv'; cases hv'
      cases q : os[i] with
      | val e' => rw [q] at wd dv; have : e' = d := wd; subst this; exact Rep.mono sFp dv
      | slot j =>
        rw [q] at wd dv
        have dv' : σ[j]? = some (some v) := dv
        unfold withO at wd
        dsimp only at wd
        cases q2 : ρ1[j]? with
        | none => rw [q2] at wd; exact wd.elim
        | some y =>
          cases y with
          | none => rw [q2] at wd; exact wd.elim
          | some z =>
            cases z with
            | frz e' =>
              rw [q2] at wd
              have : e' = d := wd
              subst this
              obtain ⟨v', g1, g2⟩ := S2.frz j _ q2
              rw [g1] at dv'; cases dv'
              exact g2.mono sFp
            | own e' =>
              rw [q2] at wd
              have : e' = d := wd
              subst this
              obtain ⟨a, g1, g2, g3, _⟩ := S2.own j _ q2
              rw [g1] at dv'; cases dv'
              have pa : plus F2 H2 B a = H2 a := by
                unfold plus
                rw [if_pos ⟨j, _, q2, g1⟩]
              cases e' with
              | list xs => obtain ⟨ys, h1, h2⟩ := g3; exact .lst (SqL.of (pa.trans h1)) (h2.mono sFp)
              | dict xs => obtain ⟨ys, h1, h2⟩ := g3; exact .dct (pa.trans h1) (h2.mono sFp)
              | _ => exact g3.elim
    · cases r with
      | own d => exact hq.elim
      | frz d =>
        obtain ⟨sc, hq⟩ := hq
        have keepH : ∀ b o, H2 b = some o → H' b = some o := fun b o h => post.h b o h fun i z => absurd z (nt i)
        have sFm : Same F2 (minus F' B) := fun b o h => by
          unfold minus
          rw [if_neg fun z => by rw [BF b z] at h; cases h]
          exact post.f b o (sFp b o h)
        have S3 : Sim X.K C (minus F' B) H' ρ1 σ := S2.grow ⟨sFm, keepH, fun b o h => by
            unfold minus at h
            split at h
            · cases h
            · exact post.s b o h, fun b h => by
            unfold minus at h
            split at h
            · exact absurd rfl h
            · rename_i nb
              rcases post.n b h with z | z
              · unfold plus at z
                rw [if_neg nb] at z
                exact .inl z
              · exact .inr z⟩
        exact kk _ _ _ _ _ hq S3 (s1.trans sFm) (Rep.scal sc post.res)
end
end Dv

set_option Elab.async false
set_option linter.all false
set_option maxRecDepth 100000
set_option autoImplicit false
namespace Dv
open PySem PySem.Spec L2

/-! ### comprehensions -/
def wipeE (ρ : DEnv) : List Nat → DEnv
  | [] => ρ
  | v :: vs => (wipeE ρ vs).set v none
def keepF : Option (Option SV) → Option SV
  | some (some (.frz d)) => some (.frz d)
  | _ => none
def restE (ρ' ρ : DEnv) : List Nat → DEnv
  | [] => ρ'
  | v :: vs => (restE ρ' ρ vs).set v (keepF ρ[v]?)
theorem restE_length (ρ' ρ : DEnv) : ∀ vs : List Nat, (restE ρ' ρ vs).length = ρ'.length
  | [] => rfl
  | v :: vs => by unfold restE; rw [List.length_set, restE_length ρ' ρ vs]
theorem restE_out {ρ' ρ : DEnv} {i : Nat} : ∀ {vs : List Nat}, i ∉ vs → (restE ρ' ρ vs)[i]? = ρ'[i]?
  | [], _ => rfl
  | v :: vs, h => by
    simp only [List.mem_cons, not_or] at h
    unfold restE
    rw [List.getElem?_set_ne (Ne.symm h.1), restE_out h.2]
theorem restE_in {ρ' ρ : DEnv} {i : Nat} {y : SV} : ∀ {vs : List Nat}, i ∈ vs → (restE ρ' ρ vs)[i]? = some (some y) → ∃ d, y = .frz d ∧ ρ[i]? = some (some (.frz d))
  | [], h, _ => by simp at h
  | v :: vs, h, e => by
    unfold restE at e
    by_cases hv : v = i
    · subst hv
      by_cases hl : v < (restE ρ' ρ vs).length
      · rw [List.getElem?_set_self hl] at e
        have e' := Option.some.inj e
        unfold keepF at e'
        split at e'
        · rename_i d q; cases e'; exact ⟨d, rfl, q⟩
        · cases e'
      · rw [List.getElem?_eq_none (by simpa using hl)] at e; cases e
    · rw [List.getElem?_set_ne hv] at e
      have h' : i ∈ vs := by
        rcases List.mem_cons.mp h with z | z
        · exact absurd z.symm hv
        · exact z
      exact restE_in h' e
section
variable {K : PySem.W.Frag} {C : FC} {P : List Bool} {F H F' H' : Hp} {ρ ρ' : DEnv} {σ σ2 : L2.St}
/-- a name is forgotten -/
theorem Sim.setN (S : Sim K C F H ρ σ) {i : Nat} (hp : ¬ C.isP i) : Sim K C F H (ρ.set i none) (σ.set i none) := by
  by_cases hi : i < σ.length
  · have hr : i < ρ.length := by rw [S.len]; exact hi
    refine ⟨by simp [S.len], S.sub, fun j d e => ?_, fun j d e => ?_, fun j k a d e h1 h2 h3 h4 => ?_, fun j a e => ?_, S.f0, S.h0, S.new, fun b o e => ?_⟩
    · rw [get_set hr] at e
      split at e
      · cases e
      · rename_i q; rw [get_set hi, if_neg q]; exact S.frz j d e
    · rw [get_set hr] at e
      split at e
      · cases e
      · rename_i q; rw [get_set hi, if_neg q]; exact S.own j d e
    · rw [get_set hr] at h1 h2
      split at h1
      · cases h1
      · rename_i q1
        split at h2
        · cases h2
        · rename_i q2
          rw [get_set hi, if_neg q1] at h3
          rw [get_set hi, if_neg q2] at h4
          exact S.ne j k a d e h1 h2 h3 h4
    · have q : j ≠ i := fun z => hp ⟨a, z ▸ e⟩
      rw [get_set hr, get_set hi, if_neg q, if_neg q]
      exact S.par j a e
    · obtain ⟨h1, h2, h3⟩ := S.pin b o e
      refine ⟨h1, h2, fun j x h => ?_⟩
      rw [get_set hr] at h
      split at h
      · cases h
      · rename_i q; rw [get_set hi, if_neg q]; exact h3 j x h
  · rw [List.set_eq_of_length_le (by rw [S.len]; omega), List.set_eq_of_length_le (by omega)]; exact S
theorem Sim.wipe (S : Sim K C F H ρ σ) : ∀ {vs : List Nat}, (∀ v ∈ vs, ¬ C.isP v) → Sim K C F H (wipeE ρ vs) (L2.wipe σ vs)
  | [], _ => S
  | v :: vs, h => (Sim.wipe S fun u hu => h u (List.mem_cons_of_mem _ hu)).setN (h v List.mem_cons_self)
theorem Sim.unwipe (S : Sim K C F H ρ σ) {vs : List Nat} (hv : ∀ v ∈ vs, ¬ C.isP v) (S2 : Sim K C F' H' ρ' σ2) (hw : L2.wipe σ2 vs = L2.wipe σ vs) (f : Same F F') : Sim K C F' H' (restE ρ' ρ vs) σ := by
  have hl : σ2.length = σ.length := by rw [← wipe_length σ2 vs, hw, wipe_length]
  have ho : ∀ i, i ∉ vs → σ2[i]? = σ[i]? := fun i hi => by rw [← wipe_out (σ := σ2) hi, hw, wipe_out hi]
  have ow : ∀ (i : Nat) d, (restE ρ' ρ vs)[i]? = some (some (.own d)) → i ∉ vs ∧ ρ'[i]? = some (some (.own d)) := fun i d e => by
    by_cases hi : i ∈ vs
    · obtain ⟨_, z, _⟩ := restE_in hi e
      cases z
    · rw [restE_out hi] at e; exact ⟨hi, e⟩
  refine ⟨by rw [restE_length, S2.len, hl], S2.sub, fun i d e => ?_, fun i d e => ?_, fun i j a d e h1 h2 h3 h4 => ?_, fun i a e => ?_, S2.f0, S2.h0, S2.new, fun b o e => ?_⟩
  · by_cases hi : i ∈ vs
    · obtain ⟨d', z, q⟩ := restE_in hi e
      cases z
      obtain ⟨v, h1, h2⟩ := S.frz i d q
      exact ⟨v, h1, h2.mono f⟩
    · rw [restE_out hi] at e
      obtain ⟨v, h1, h2⟩ := S2.frz i d e
      exact ⟨v, by rw [← ho i hi]; exact h1, h2⟩
  · obtain ⟨hi, e'⟩ := ow i d e
    obtain ⟨a, h1, h2, h3, h4⟩ := S2.own i d e'
    exact ⟨a, by rw [← ho i hi]; exact h1, h2, h3, h4⟩
  · obtain ⟨hi, h1'⟩ := ow i d h1
    obtain ⟨hj, h2'⟩ := ow j e h2
    exact S2.ne i j a d e h1' h2' (by rw [ho i hi]; exact h3) (by rw [ho j hj]; exact h4)
  · have hi : i ∉ vs := fun z => hv i z ⟨a, e⟩
    obtain ⟨d, h1, h2⟩ := S2.par i a e
    exact ⟨d, by rw [restE_out hi]; exact h1, by rw [← ho i hi]; exact h2⟩
  · obtain ⟨h1, h2, h3⟩ := S2.pin b o e
    refine ⟨h1, h2, fun j x h => ?_⟩
    obtain ⟨hj, h'⟩ := ow j x h
    rw [← ho j hj]; exact h3 j x h'
/-- with a pinned object more -/
def FC.pin (C : FC) (D : Addr) (o : HO) : FC := { C with pn := upd C.pn D o }
theorem FC.pin_tags {D : Addr} {o : HO} (h : C.Tags P) : (C.pin D o).Tags P := h
theorem Sim.pinned (S : Sim K C F H ρ σ) {D : Addr} {o : HO} (h1 : H D = some o) (h2 : F D = none) (h3 : ∀ (j : Nat) (e : PyData), ρ[j]? = some (some (.own e)) → σ[j]? ≠ some (some (.ref D))) : Sim K (C.pin D o) F H ρ σ :=
  ⟨S.len, S.sub, S.frz, S.own, S.ne, S.par, S.f0, S.h0, S.new, fun b u e => by
    by_cases hb : b = D
    · subst hb
      have e' : upd C.pn b o b = some u := e
      rw [upd_same] at e'; cases e'
      exact ⟨h1, h2, h3⟩
    · have e' : upd C.pn D o b = some u := e
      rw [upd_ne hb] at e'
      exact S.pin b u e'⟩
theorem Sim.unpinned {D : Addr} {o : HO} (hD : C.pn D = none) (S : Sim K (C.pin D o) F H ρ σ) : Sim K C F H ρ σ ∧ H D = some o ∧ F D = none ∧ ∀ (j : Nat) (e : PyData), ρ[j]? = some (some (.own e)) → σ[j]? ≠ some (some (.ref D)) :=
  ⟨⟨S.len, S.sub, S.frz, S.own, S.ne, S.par, S.f0, S.h0, S.new, fun b u e => S.pin b u (by
    have nb : b ≠ D := fun z => by
      rw [z, hD] at e; cases e
    show upd C.pn D o b = some u
    rw [upd_ne nb]
    exact e)⟩, S.pin D o (show upd C.pn D o D = some o from upd_same)⟩
end
/-- a target that binds the block's own names -/
def TgtOk (K : PySem.W.Frag) (P : List Bool) (vs : List Nat) (g : TG) (gd : DG) : Prop := ∀ (C : FC) (F H : Hp) (ρ : DEnv) (σ : L2.St) (v : V) (d : PyData) (q : DEnv → Prop), C.Tags P → Sim K C F H ρ σ → Rep K F v d → gd d ρ q →
  ∃ σ' ρ', q ρ' ∧ Sim K C F H ρ' σ' ∧ (∀ Q : L2.St → Hp → Prop, Q σ' H → g v σ H Q) ∧ L2.wipe σ' vs = L2.wipe σ vs
theorem wipe_set {σ : L2.St} {i : Nat} {x : Option V} {vs : List Nat} (h : i ∈ vs) : L2.wipe (σ.set i x) vs = L2.wipe σ vs := by
  apply List.ext_getElem?
  intro j
  by_cases hj : j ∈ vs
  · have : ∀ (σ : L2.St) (vs : List Nat), j ∈ vs → (L2.wipe σ vs)[j]? = if j < σ.length then some none else none := by
      intro σ vs
      induction vs with
      | nil => intro h; simp at h
      | cons v vs ih =>
        intro h
        unfold L2.wipe
        by_cases hv : v = j
        · subst hv
          by_cases hl : v < σ.length
          · rw [List.getElem?_set_self (by rw [wipe_length]; exact hl), if_pos hl]
          · rw [List.getElem?_eq_none (by rw [List.length_set, wipe_length]; omega), if_neg hl]
        · rw [List.getElem?_set_ne hv]
          rcases List.mem_cons.mp h with z | z
          · exact absurd z.symm hv
          · exact ih z
    rw [this _ _ hj, this _ _ hj, List.length_set]
  · rw [wipe_out hj, wipe_out hj, List.getElem?_set_ne]
    rintro rfl
    exact hj h
theorem tgt_name {K : PySem.W.Frag} {P : List Bool} {vs : List Nat} {i : Nat} (hi : i ∈ vs) (hp : P[i]? ≠ some true) : TgtOk K P vs (gName i) (gN i) := fun C F H ρ σ v d q hP S r hq =>
  ⟨σ.set i (some v), ρ.set i (some (.frz d)), hq, setF' S (noP hP hp) r, fun Q h => h, wipe_set hi⟩
def gNs : List Nat → TGs
  | [] => gNil
  | i :: r => gCons (gName i) (gNs r)
def gNs' : List Nat → DGs
  | [] => gNil'
  | i :: r => gCons' (gN i) (gNs' r)
theorem tgt_names {K : PySem.W.Frag} {P : List Bool} {vs : List Nat} {C : FC} {F H : Hp} (hP : C.Tags P) : ∀ {is : List Nat} {ρ : DEnv} {σ : L2.St} {xs : List V} {ds : List PyData} {q : DEnv → Prop}, (∀ i ∈ is, i ∈ vs ∧ P[i]? ≠ some true) → Sim K C F H ρ σ → RepAll K F xs ds → gNs' is ds ρ q →
    ∃ σ' ρ', q ρ' ∧ Sim K C F H ρ' σ' ∧ (∀ Q : L2.St → Hp → Prop, Q σ' H → gNs is xs σ H Q) ∧ L2.wipe σ' vs = L2.wipe σ vs
  | [], ρ, σ, xs, ds, q, _, S, r, h => by
    cases r with
    | nil => exact ⟨σ, ρ, h, S, fun Q h => ⟨rfl, h⟩, rfl⟩
    | cons _ _ => exact h.elim
  | i :: is, ρ, σ, xs, ds, q, hi, S, r, h => by
    cases r with
    | nil => exact h.elim
    | cons r1 r2 =>
      obtain ⟨h1, h2⟩ := hi i List.mem_cons_self
      obtain ⟨σ', ρ', q', S', k', w'⟩ := tgt_names hP (fun j hj => hi j (List.mem_cons_of_mem _ hj)) (setF' S (noP hP h2) r1) r2 h
      exact ⟨σ', ρ', q', S', fun Q z => ⟨_, _, rfl, k' Q z⟩, w'.trans (wipe_set h1)⟩
theorem tgt_tup {K : PySem.W.Frag} {P : List Bool} {vs is : List Nat} {n : Nat} (hi : ∀ i ∈ is, i ∈ vs ∧ P[i]? ≠ some true) : TgtOk K P vs (gTup K n (gNs is)) (gTup' n (gNs' is)) := fun C F H ρ σ v d q hP S r hq => by
  cases r with
  | tup hs hr =>
    obtain ⟨σ', ρ', q', S', k', w'⟩ := tgt_names hP hi S hr hq.2
    exact ⟨σ', ρ', q', S', fun Q z => ⟨_, _, rfl, sqT_mono S.sub hs, by rw [hr.length]; exact hq.1, k' Q z⟩, w'⟩
  | _ => exact hq.elim
/-- readings over any pinned context -/
def lE' (K : PySem.W.Frag) (P : List Bool) (t : DE) : TE := fun σ H Q => ∃ C : FC, C.Tags P ∧ lE K C t σ H Q
def lT' (K : PySem.W.Frag) (P : List Bool) (t : DT) : TT := fun σ H Q => ∃ C : FC, C.Tags P ∧ lT K C t σ H Q
theorem pe' {X : Cx} {P : List Bool} {e : Expr} {t : DE} (h : ∀ C : FC, C.Tags P → QE X C e t) : PE X e (lE' X.K P t) := ⟨fun pins s σ H Q I ⟨C, hP, hq⟩ => (h C hP).pe.run pins s σ H Q I hq⟩
def dYes : DT := fun ρ Q => Q true ρ
structure QTs (X : Cx) (C : FC) (ifs : List Expr) (t : DT) : Prop where
  pts : PTs X ifs (lT X.K C t)
theorem ts_nil {X : Cx} {C : FC} : QTs X C [] dYes := ⟨⟨fun pins s σ H Q I ⟨F, ρ, q, S, ht, k⟩ => pts_nil.run pins s σ H Q I (k _ _ _ _ ht S (Same.refl F))⟩⟩
theorem ts_one {X : Cx} {C : FC} {c : Expr} {t : DT} (h : QT X C c t) : QTs X C [c] t := ⟨pts_one h.pt⟩
theorem pts' {X : Cx} {P : List Bool} {e : List Expr} {t : DT} (h : ∀ C : FC, C.Tags P → QTs X C e t) : PTs X e (lT' X.K P t) := ⟨fun pins s σ H Q I ⟨C, hP, hq⟩ => (h C hP).pts.run pins s σ H Q I hq⟩
def dLcL (P : List Bool) (g : DG) (tt : DT) (te : DE) (vs : List Nat) (Q : PyData → DEnv → Prop) : List PyData → List PyData → DEnv → Prop
  | [], acc, ρ => Q (.list acc) ρ
  | d :: ds, acc, ρ => g d (wipeE ρ vs) fun ρ2 => tt ρ2 fun b ρ3 => by2 b (te ρ3 fun o ρ4 => share P ρ4 o fun e ρ5 => acc.length < big ∧ dLcL P g tt te vs Q ds (acc ++ [e]) (restE ρ5 ρ vs)) (dLcL P g tt te vs Q ds acc (restE ρ3 ρ vs))
def dLc (P : List Bool) (ti : DI) (g : DG) (tt : DT) (te : DE) (vs : List Nat) : DO := fun ρ Q => ti ρ fun ds ρ1 => dLcL P g tt te vs Q ds [] ρ1
section
variable {X : Cx} {C : FC} {P : List Bool}
theorem lc_low {g : TG} {gd : DG} {ti : DI} {tt : DT} {te : DE} {vs : List Nat} (hP : C.Tags P) (tg : TgtOk X.K P vs g gd) (hvs : ∀ v ∈ vs, P[v]? ≠ some true) {σ : L2.St} {H : Hp} {Q : VK} (h : lO X.K C (dLc P ti gd tt te vs) σ H Q) :
    tLc (lI X.K C ti) g (lT' X.K P tt) (lE' X.K P te) vs σ H Q := by
  obtain ⟨F, ρ, q, S, ht, k⟩ := h
  have nP : ∀ v ∈ vs, ¬ C.isP v := fun v hv => noP hP (hvs v hv)
  refine ⟨F, ρ, _, S, ht, fun ds ρ1 F1 H1 J h1 S1 s1 iok => ?_⟩
  intro D hD
  have pnD : C.pn D = none := S1.pnone hD
  refine ⟨fun i m H => m + i = ds.length ∧ ∃ F' ρ' acc xs, Sim X.K (C.pin D (.lst xs)) F' H ρ' σ ∧ RepAll X.K F' xs acc ∧ C.H0 D = none ∧ Same F1 F' ∧ dLcL P gd tt te vs q (ds.drop i) acc ρ', ⟨ds.length, rfl, F1, ρ1, [], [], ?_, .nil, S1.h0none hD, Same.refl F1, h1⟩, fun i m H ⟨hm, F2, ρ2, acc, xs, S2, rA, h0D, s2, w2⟩ => ?_⟩
  · obtain ⟨a, b, c, c', d⟩ := S1.lay hD (o := .lst [])
    exact a.pinned upd_same b d
  obtain ⟨S2', hD2, fD2, oD2⟩ := Sim.unpinned pnD S2
  obtain ⟨st, go⟩ := iok F2 H s2 S2.sub
  by_cases hi : i < ds.length
  · rw [List.drop_eq_getElem_cons hi] at w2
    obtain ⟨g1, y1⟩ := go i ds[i] (List.getElem?_eq_getElem hi)
    refine .inr ⟨g1, fun H' => ∃ F' ρ' acc xs, Sim X.K (C.pin D (.lst xs)) F' H' ρ' σ ∧ RepAll X.K F' xs acc ∧ C.H0 D = none ∧ Same F1 F' ∧ dLcL P gd tt te vs q (ds.drop (i + 1)) acc ρ', fun H' h => ⟨m - 1, by omega, by omega, h⟩, fun x H' hy => ?_⟩
    obtain ⟨F3, gr, r⟩ := y1 x H' hy
    have S3 := S2.grow gr
    have nP' : ∀ v ∈ vs, ¬ (C.pin D (.lst xs)).isP v := nP
    obtain ⟨σ4, ρ4, w4, S4, k4, wp⟩ := tg (C.pin D (.lst xs)) F3 H' _ _ x ds[i] _ (FC.pin_tags hP) (S3.wipe nP') r w2
    refine k4 _ ⟨by rw [wp]; exact wipe_wipe, C.pin D (.lst xs), FC.pin_tags hP, F3, ρ4, _, S4, w4, fun b ρ5 F5 H5 h5 S5 s5 => ?_⟩
    have wp' : L2.wipe σ4 vs = L2.wipe σ vs := by rw [wp]; exact wipe_wipe
    cases b with
    | false =>
      dsimp only
      rw [if_neg Bool.false_ne_true]
      exact ⟨F5, _, acc, xs, S3.unwipe nP' S5 wp' s5, rA.mono (gr.f.trans s5), h0D, (s2.trans gr.f).trans s5, h5⟩
    | true =>
      dsimp only
      rw [if_pos rfl]
      refine ⟨C.pin D (.lst xs), FC.pin_tags hP, F5, ρ5, _, S5, h5, fun o ρ6 F6 H6 v h6 S6 s6 d6 => ?_⟩
      obtain ⟨e, ρ7, F7, ⟨hlen, w7⟩, S7, s7, r7⟩ := S6.share (FC.pin_tags hP) d6 h6
      obtain ⟨S7', hD7, fD7, oD7⟩ := Sim.unpinned pnD S7
      have fx : Same F2 F7 := ((gr.f.trans s5).trans s6).trans s7
      refine ⟨xs, hD7, ?_, ?_⟩
      · rw [rA.length]; exact lt_line hlen
      · have S8 := S3.unwipe nP' S7 wp' ((s5.trans s6).trans s7)
        obtain ⟨S8', hD8, fD8, oD8⟩ := Sim.unpinned pnD S8
        -- the list at D grows
        have S9 : Sim X.K (C.pin D (.lst (xs ++ [v]))) F7 (upd H6 D (.lst (xs ++ [v]))) (restE ρ7 ρ2 vs) σ := by
          refine Sim.pinned (C := C) ⟨S8'.len, fun b o e => ?_, S8'.frz, fun j e' hj => ?_, S8'.ne, S8'.par, S8'.f0, fun b o e hb => ?_, S8'.new, fun b o e => ?_⟩ upd_same fD8 oD8
          · rw [upd_ne (ne_of_none e fD8)]; exact S8'.sub b o e
          · obtain ⟨b, g1, g2, g3, g4⟩ := S8'.own j e' hj
            have nb : b ≠ D := fun z => oD8 j e' hj (z ▸ g1)
            exact ⟨b, g1, g2, g3.mono (Same.refl _) fun o ho => by rw [upd_ne nb]; exact ho, g4⟩
          · have nb : b ≠ D := fun z => by rw [z, h0D] at e; cases e
            rw [upd_ne nb]; exact S8'.h0 b o e hb
          · obtain ⟨g1, g2, g3⟩ := S8'.pin b o e
            have nb : b ≠ D := fun z => by rw [z, pnD] at e; cases e
            exact ⟨by rw [upd_ne nb]; exact g1, g2, g3⟩
        exact ⟨F7, _, acc ++ [e], xs ++ [v], S9, (rA.mono fx).append (.cons r7 .nil), h0D, s2.trans fx, w7⟩
  · rw [List.drop_eq_nil_of_le (by omega)] at w2
    have e : i = ds.length := by omega
    subst e
    exact .inl ⟨st, k _ _ _ _ _ w2 S2' (s1.trans s2) ⟨fD2, ⟨xs, hD2, rA⟩, h0D, pnD, oD2⟩⟩
where
  wipe_wipe {σ : L2.St} {vs : List Nat} : L2.wipe (L2.wipe σ vs) vs = L2.wipe σ vs := by
    apply List.ext_getElem?
    intro j
    by_cases hj : j ∈ vs
    · have : ∀ (σ : L2.St) (vs : List Nat), j ∈ vs → (L2.wipe σ vs)[j]? = if j < σ.length then some none else none := by
        intro σ vs
        induction vs with
        | nil => intro h; simp at h
        | cons v vs ih =>
          intro h
          unfold L2.wipe
          by_cases hv : v = j
          · subst hv
            by_cases hl : v < σ.length
            · rw [List.getElem?_set_self (by rw [wipe_length]; exact hl), if_pos hl]
            · rw [List.getElem?_eq_none (by rw [List.length_set, wipe_length]; omega), if_neg hl]
          · rw [List.getElem?_set_ne hv]
            rcases List.mem_cons.mp h with z | z
            · exact absurd z.symm hv
            · exact ih z
      rw [this _ _ hj, this _ _ hj, wipe_length]
    · rw [wipe_out hj]
variable {tg it elt : Expr} {ifs : List Expr} {scope : Scope} {own : List (Str × Nat)} {pos spos : Pos} {ti : DI} {g : TG} {gd : DG} {tt : DT} {te : DE}
/-- [..] as a new list -/
theorem o_lc (hP : C.Tags P) (hc : X.calm = true) (hN : X.N.Nodup) (hi : QI X C tg it ti) (ok : BlkOk X.N X.env.scope scope own)
    (hg : ∀ (s : Shared) (H : Hp) (Ca : Addr) (cl : List (Str × Addr)) (fp : List Addr), PG (X.blk s H scope (compEnvC scope cl Ca X.env) fp) tg g) (tgk : TgtOk X.K P (own.map (·.2)) g gd)
    (ht : ∀ (s : Shared) (H : Hp) (Ca : Addr) (cl : List (Str × Addr)) (fp : List Addr) (C' : FC), C'.Tags P → QTs (X.blk s H scope (compEnvC scope cl Ca X.env) fp) C' ifs tt)
    (he : ∀ (s : Shared) (H : Hp) (Ca : Addr) (cl : List (Str × Addr)) (fp : List Addr) (C' : FC), C'.Tags P → QE (X.blk s H scope (compEnvC scope cl Ca X.env) fp) C' elt te)
    (hvs : ∀ v ∈ own.map (·.2), P[v]? ≠ some true := by decide) (hs : ∀ x, foldedSetIterable it X.env x = pure x := by intro _; rfl) : QO X C (.ListComp elt [⟨tg, it, ifs, 0⟩] scope pos) (dLc P ti gd tt te (own.map (·.2))) :=
  QO.of (pe_lc hc hN hi.pi ok hg (fun s H Ca cl fp => pts' (ht s H Ca cl fp)) (fun s H Ca cl fp => pe' (he s H Ca cl fp)) hs) fun _ _ _ h => lc_low hP tgk hvs h
/-- y = [..] -/
theorem s_setLcO {i : Nat} {y : Str} {py : Pos} (hP : C.Tags P) (hc : X.calm = true) (hN : X.N.Nodup) (hi : QI X C tg it ti) (ok : BlkOk X.N X.env.scope scope own)
    (hg : ∀ (s : Shared) (H : Hp) (Ca : Addr) (cl : List (Str × Addr)) (fp : List Addr), PG (X.blk s H scope (compEnvC scope cl Ca X.env) fp) tg g) (tgk : TgtOk X.K P (own.map (·.2)) g gd)
    (ht : ∀ (s : Shared) (H : Hp) (Ca : Addr) (cl : List (Str × Addr)) (fp : List Addr) (C' : FC), C'.Tags P → QTs (X.blk s H scope (compEnvC scope cl Ca X.env) fp) C' ifs tt)
    (he : ∀ (s : Shared) (H : Hp) (Ca : Addr) (cl : List (Str × Addr)) (fp : List Addr) (C' : FC), C'.Tags P → QE (X.blk s H scope (compEnvC scope cl Ca X.env) fp) C' elt te)
    (hsw : swapsWith (.ListComp elt [⟨tg, it, ifs, 0⟩] scope pos) (some (.Name y py)) spos.line X.env = pure true) (hy : X.N[i]? = some y := by rfl) (hyl : X.env.scope.names.lookup y = some .local := by rfl)
    (hvs : ∀ v ∈ own.map (·.2), P[v]? ≠ some true := by decide) (hp : P[i]? ≠ some true := by decide) (hs : ∀ x, foldedSetIterable it X.env x = pure x := by intro _; rfl) :
    QS X C (.Assign [.Name y py] (.ListComp elt [⟨tg, it, ifs, 0⟩] scope pos) spos) (dSetO i (dLc P ti gd tt te (own.map (·.2)))) :=
  QS.of (ps_setLc hc hN hy hyl hsw hi.pi ok hg (fun s H Ca cl fp => pts' (ht s H Ca cl fp)) (fun s H Ca cl fp => pe' (he s H Ca cl fp)) hs) fun D σ H ⟨F, ρ, E, S, h, okE⟩ =>
    lc_low hP tgk hvs ⟨F, ρ, _, S, h, fun d ρ1 F1 H1 a hq S1 s1 fr => okE.nx _ _ _ _ hq (setO' S1 (noP hP hp) fr) s1⟩
/-- .. bound as a datum -/
theorem s_setLc {i : Nat} {y : Str} {py : Pos} (hP : C.Tags P) (hc : X.calm = true) (hN : X.N.Nodup) (hi : QI X C tg it ti) (ok : BlkOk X.N X.env.scope scope own)
    (hg : ∀ (s : Shared) (H : Hp) (Ca : Addr) (cl : List (Str × Addr)) (fp : List Addr), PG (X.blk s H scope (compEnvC scope cl Ca X.env) fp) tg g) (tgk : TgtOk X.K P (own.map (·.2)) g gd)
    (ht : ∀ (s : Shared) (H : Hp) (Ca : Addr) (cl : List (Str × Addr)) (fp : List Addr) (C' : FC), C'.Tags P → QTs (X.blk s H scope (compEnvC scope cl Ca X.env) fp) C' ifs tt)
    (he : ∀ (s : Shared) (H : Hp) (Ca : Addr) (cl : List (Str × Addr)) (fp : List Addr) (C' : FC), C'.Tags P → QE (X.blk s H scope (compEnvC scope cl Ca X.env) fp) C' elt te)
    (hsw : swapsWith (.ListComp elt [⟨tg, it, ifs, 0⟩] scope pos) (some (.Name y py)) spos.line X.env = pure true) (hy : X.N[i]? = some y := by rfl) (hyl : X.env.scope.names.lookup y = some .local := by rfl)
    (hvs : ∀ v ∈ own.map (·.2), P[v]? ≠ some true := by decide) (hp : P[i]? ≠ some true := by decide) (hs : ∀ x, foldedSetIterable it X.env x = pure x := by intro _; rfl) :
    QS X C (.Assign [.Name y py] (.ListComp elt [⟨tg, it, ifs, 0⟩] scope pos) spos) (dSet P i (dFroz (dLc P ti gd tt te (own.map (·.2))))) :=
  QS.of (ps_setLc hc hN hy hyl hsw hi.pi ok hg (fun s H Ca cl fp => pts' (ht s H Ca cl fp)) (fun s H Ca cl fp => pe' (he s H Ca cl fp)) hs) fun D σ H ⟨F, ρ, E, S, h, okE⟩ =>
    lc_low hP tgk hvs ⟨F, ρ, _, S, h, fun d ρ1 F1 H1 a hq S1 s1 fr => by
      obtain ⟨F2, s2, S2, r⟩ := S1.froze fr
      exact okE.nx _ _ _ _ hq (setF' S2 (noP hP hp) r) (s1.trans s2)⟩
end
end Dv

set_option Elab.async false
set_option linter.all false
set_option maxRecDepth 100000
set_option autoImplicit false
namespace Dv
open PySem PySem.Spec L2

/-! ### built-ins over any list -/
section
open PyProof.Rows
theorem list_mulW (l : Addr) (items : Array Value) (n : Nat) (dd : Option Addr) (sl : Array (Option Value)) (x : Int) (u : Tok) (hc0 : ¬(!Builtin.List.listFitsIndex x) = true) (hc1 : ¬items.size * x.toNat > (2 ^ 63 - 1) / 8) (hc2 : ¬Builtin.List.listTooLong (items.size * x.toNat) = true) :
    Meets (Builtin.«list.__mul__» ⟨[.ref l, .int x u], []⟩) (fun _ R s => s.heap.get? l = some { cls := .type "list", dict := dd, data := .seq items n, slots := sl } ∧ R (.ok (.ret (Value.ref s.heap.objs.size))) { s with heap := s.heap.push { cls := Value.type "list", data := Data.seq (List.foldl (fun x1 x2 => x1 ++ x2) #[] (List.replicate (if items.isEmpty = true then 0 else x.toNat) items)) }, toks := s.toks }) :=
  .of_wp fun prog w A R s h => by
    obtain ⟨hp, g, d, tk, os⟩ := s; obtain ⟨hl, h⟩ := h
    have hsz := AutoListH.joined_fits hc2
    wp_walk using wpAny_loadPart' hl; refine wpAny_ite_false (decide_eq_false (Nat.not_lt.mpr hsz)) ?_; wp_walk using wpAny_loadPart' hl; exact ⟨_, rfl, h⟩
theorem int_rmul_listW (a : Int) (t : Tok) (l : Addr) (items : Array Value) (n : Nat) (dd : Option Addr) (sl : Array (Option Value)) :
    Meets (Builtin.«int.__rmul__» ⟨[.int a t, .ref l], []⟩) (fun _ R s => s.heap.get? l = some { cls := .type "list", dict := dd, data := .seq items n, slots := sl } ∧ R (.ok (.ret Value.notImplemented)) s) :=
  .of_wp fun prog w A R s h => by obtain ⟨hp, g, d, tk, os⟩ := s; obtain ⟨hl, h⟩ := h; wp_walk using wpAny_loadPart' hl; exact ⟨_, rfl, h⟩
theorem list_extendW (l : Addr) (items : Array Value) (n : Nat) (b : Addr) (items2 : Array Value) (n2 : Nat) (dd2 : Option Addr) (sl2 : Array (Option Value)) (hc0 : ¬(!items.isEmpty && Builtin.List.listTooLong (items.size + items2.size)) = true) (hc1 : items.size ≤ sizeLine) (hs2 : items.size + items2.size ≤ sizeLine + 1) :
    Meets (Builtin.«list.extend» ⟨[.ref l, .ref b], []⟩) (fun _ R s => s.heap.get? l = some { cls := .type "list", dict := none, data := .seq items n, slots := #[] } ∧ s.heap.get? b = some { cls := .type "list", dict := dd2, data := .seq items2 n2, slots := sl2 } ∧ R (.ok (.ret Value.none)) { s with heap := s.heap.update l (Obj.mapSeq fun x => x ++ items2), toks := s.toks }) :=
  .of_wp fun prog w A R s h => by
    obtain ⟨hp, g, d, tk, os⟩ := s; obtain ⟨hl, hb, h⟩ := h; have f1 := AutoSeq1.idx_int; have f2 := AutoSeq1.sub_tuple_tuple; have f3 := AutoSeq1.sub_list_list; have f4 := AutoSeq1.sub_tuple_list; have f5 := AutoSeq1.sub_list_tuple;
    have hz' : (items ++ items2).size ≤ sizeLine + 1 := by rw [Array.size_append]; exact hs2
    wp_walk using (wpAny_updateSeq hl rfl (hz := hc1) (_hz' := hz')), wpAny_loadPart' hl, wpAny_loadPart' hb; exact ⟨_, rfl, h⟩
end
/-! ### what is walked -/
def iSeq (K : PySem.W.Frag) (tl : TE) : TI := fun σ H R => tl σ H fun x H1 => (∃ a, x = .ref a ∧ (∃ xs, SqL K H1 a xs) ∧ R (Itl K a) H1) ∨ (∃ a, x = .ref a ∧ (∃ xs, SqT K H1 a xs) ∧ R (Itt K a) H1) ∨ (∃ z, x = .str z ∧ R (Its z) H1)
theorem pi_seq {X : Cx} {tg l : Expr} {tl : TE} (hl : PE X l tl) : PI X tg l (iSeq X.K tl) := by
  refine ⟨fun pins s σ H R I h => ?_⟩
  refine thn (hl.run pins s σ H _ I h) fun v s1 ⟨x, H1, I1, r1, q1⟩ => ?_
  rcases q1 with ⟨a, e, ⟨xs, hq⟩, q⟩ | ⟨a, e, ⟨xs, hq⟩, q⟩ | ⟨z, e, q⟩
  · subst e
    cases r1
    obtain ⟨its, rv, p, hz⟩ := I1.list hq
    refine PySem.wpAny_pyIter_list p.isList ?_
    refine ⟨s1.heap.objs.size, [s1.heap.objs.size], _, _, H1, rfl, I1.kept (t' := s1.toks) fun b o e => Heap.get?_push_of_some _ e, turn_list a _, ⟨_, Heap.get?_push_size _ rfl, rfl, rfl⟩, fun b hb => ?_, q⟩
    have e : b = s1.heap.objs.size := by simpa using hb
    subst e
    exact I1.fpOk (Nat.le_refl _) (I1.hok.fresh (Nat.le_refl _))
  · subst e
    cases r1
    obtain ⟨its, rv, p, hz⟩ := I1.tuple hq
    refine PySem.wpAny_pyIter_tuple (show s1.heap.IsTuple a its.toArray from p) ?_
    refine ⟨s1.heap.objs.size, [s1.heap.objs.size], _, _, H1, rfl, I1.kept (t' := s1.toks) fun b o e => Heap.get?_push_of_some _ e, turn_tuple a _, ⟨_, Heap.get?_push_size _ rfl, rfl, rfl⟩, fun b hb => ?_, q⟩
    have e : b = s1.heap.objs.size := by simpa using hb
    subst e
    exact I1.fpOk (Nat.le_refl _) (I1.hok.fresh (Nat.le_refl _))
  · subst e
    obtain ⟨t, rfl⟩ := r1
    cases ha : z.cps.all (· < 128)
    · exact PySem.wpAny_pyIter_wide ha (pi_one (tk := s1.toks) I1 _ (turn_str _ z t "str_iterator" (.inr rfl)) ⟨_, Heap.get?_push_size _ rfl, rfl, rfl⟩ q)
    · exact PySem.wpAny_pyIter_ascii ha (pi_one (tk := s1.toks) I1 _ (turn_str _ z t "str_ascii_iterator" (.inl rfl)) ⟨_, Heap.get?_push_size _ rfl, rfl, rfl⟩ q)
/-- the signs of a text -/
def signsD (x : Str) : List PyData := x.cps.toList.map fun c => .str ⟨#[c]⟩
/-- the items of what can be walked -/
def itemsD : PyData → Option (List PyData)
  | .list ds => some ds
  | .tuple ds => some ds
  | .str x => some (signsD x)
  | _ => none
def dSeqI (P : List Bool) (t : DE) : DI := fun ρ Q => t ρ fun o ρ1 => share P ρ1 o fun d ρ2 => match itemsD d with
  | some ds => Q ds ρ2
  | none => False
section
variable {X : Cx} {C : FC} {P : List Bool} {tg l : Expr} {t : DE}
theorem itl_ok {K : PySem.W.Frag} {F0 : Hp} {a : Addr} {xs : List V} {ds : List PyData} (h : SqL K F0 a xs) (r : RepAll K F0 xs ds) : ItOk K (Itl K a) F0 ds := fun F H s0 s1 => by
  have hq : SqL K H a xs := sqL_mono s1 (sqL_mono s0 h)
  refine ⟨⟨xs, hq, by rw [r.length]; exact Nat.le_refl _⟩, fun i d hd => ?_⟩
  obtain ⟨v, hv, rv⟩ := r.get hd
  refine ⟨⟨xs, v, hq, hv⟩, fun x H' hy => ?_⟩
  obtain ⟨e, hy⟩ := hy
  subst e
  have := hy xs hq
  rw [hv] at this; cases this
  exact ⟨F, Gr.refl s1, rv.mono s0⟩
theorem itt_ok {K : PySem.W.Frag} {F0 : Hp} {a : Addr} {xs : List V} {ds : List PyData} (h : SqT K F0 a xs) (r : RepAll K F0 xs ds) : ItOk K (Itt K a) F0 ds := fun F H s0 s1 => by
  have hq : SqT K H a xs := sqT_mono s1 (sqT_mono s0 h)
  refine ⟨⟨xs, hq, by rw [r.length]; exact Nat.le_refl _⟩, fun i d hd => ?_⟩
  obtain ⟨v, hv, rv⟩ := r.get hd
  refine ⟨⟨xs, v, hq, hv⟩, fun x H' hy => ?_⟩
  obtain ⟨e, hy⟩ := hy
  subst e
  have := hy xs hq
  rw [hv] at this; cases this
  exact ⟨F, Gr.refl s1, rv.mono s0⟩
theorem its_ok {K : PySem.W.Frag} {F0 : Hp} {z : Str} : ItOk K (Its z) F0 (signsD z) := fun F H s0 s1 => by
  refine ⟨by show z.cps.size ≤ (signsD z).length; simp [signsD], fun i d hd => ?_⟩
  have hl : i < z.cps.size := by
    have := (List.getElem?_eq_some_iff.mp hd).1
    simpa [signsD] using this
  refine ⟨hl, fun x H' hy => ?_⟩
  obtain ⟨e, c, hc, hx⟩ := hy
  subst e hx
  refine ⟨F, Gr.refl s1, ?_⟩
  have : d = .str ⟨#[c]⟩ := by
    have h2 : z.cps.toList[i]? = some c := by simpa using hc
    simp only [signsD, List.getElem?_map, h2] at hd
    exact (Option.some.inj hd).symm
  subst this
  exact .str _
theorem i_seq (hP : C.Tags P) (h : QE X C l t) : QI X C tg l (dSeqI P t) := QI.of (pi_seq h.pe) fun σ H R ⟨F, ρ, q, S, ht, k⟩ => by
  refine ⟨F, ρ, _, S, ht, fun o ρ1 F1 H1 v hq S1 s1 d1 => ?_⟩
  obtain ⟨d, ρ2, F2, w, S2, s2, r⟩ := S1.share hP d1 hq
  cases r with
  | lst h1 h2 => exact .inl ⟨_, rfl, ⟨_, sqL_mono S2.sub h1⟩, k _ _ _ _ _ w S2 (s1.trans s2) (itl_ok h1 h2)⟩
  | tup h1 h2 => exact .inr (.inl ⟨_, rfl, ⟨_, sqT_mono S2.sub h1⟩, k _ _ _ _ _ w S2 (s1.trans s2) (itt_ok h1 h2)⟩)
  | str x => exact .inr (.inr ⟨_, rfl, k _ _ _ _ _ w S2 (s1.trans s2) its_ok⟩)
  | _ => exact w.elim
/-- range -/
def rangeD (lo : Int) (n : Nat) : List PyData := (List.range n).map fun i => .int (lo + (i : Nat))
theorem itr_ok {K : PySem.W.Frag} {F0 : Hp} {lo : Int} {n : Nat} : ItOk K (Itr lo n) F0 (rangeD lo n) := fun F H s0 s1 => by
  refine ⟨by show n ≤ (rangeD lo n).length; simp [rangeD], fun i d hd => ?_⟩
  have hl : i < n := by
    have := (List.getElem?_eq_some_iff.mp hd).1
    simpa [rangeD] using this
  refine ⟨hl, fun x H' hy => ?_⟩
  obtain ⟨e, hx⟩ := hy
  subst e hx
  have : d = .int (lo + (i : Nat)) := by
    simp [rangeD, List.getElem?_map, List.getElem?_range hl] at hd
    exact hd.symm
  subst this
  exact ⟨F, Gr.refl s1, .int _⟩
def dRng1 (t : DA) : DI := fun ρ Q => t ρ fun os ρ1 => withAll ρ1 os fun ds => match ds with
  | [.int n] => n < 2 ^ 62 ∧ -(2 ^ 62) ≤ n ∧ Q (rangeD 0 n.toNat) ρ1
  | _ => False
theorem i_range1 {a : Expr} {ta : DA} {p pos : Pos} (hm : X.mg "range" = none) (ha : QA X C [a] ta) (hg : Gl X "range" := by rfl) (hs : starEach [a] X.env = [(false, eval a X.env)] := by rfl) : QI X C tg (.Call (.Name "range" p) [a] [] pos) (dRng1 ta) :=
  QI.of (pi_range1 hg hm ha.pa hs) fun σ H R ⟨F, ρ, q, S, ht, k⟩ => by
    refine ⟨F, ρ, _, S, ht, fun os ρ1 F1 H1 vs hq S1 s1 d1 => ?_⟩
    obtain ⟨ds, v1, w1⟩ := S1.seeAll d1 hq
    cases v1 with
    | nil => exact w1.elim
    | @cons v _ d _ hv hr =>
      cases hr with
      | cons _ _ => cases d <;> exact w1.elim
      | nil =>
        cases d with
        | int n =>
          cases (show Rep X.K F1 v (.int n) from hv)
          exact ⟨n, rfl, w1.2.1, w1.1, k _ _ _ _ _ w1.2.2 S1 s1 itr_ok⟩
        | _ => exact w1.elim
def dRng2 (t : DA) : DI := fun ρ Q => t ρ fun os ρ1 => withAll ρ1 os fun ds => match ds with
  | [.int m, .int n] => (-(2 ^ 62) ≤ m ∧ m < 2 ^ 62 ∧ -(2 ^ 62) ≤ n ∧ n < 2 ^ 62) ∧ Q (rangeD m (n - m).toNat) ρ1
  | _ => False
theorem i_range2 {a b : Expr} {ta : DA} {p pos : Pos} (hm : X.mg "range" = none) (ha : QA X C [a, b] ta) (hg : Gl X "range" := by rfl) (hs : starEach [a, b] X.env = [(false, eval a X.env), (false, eval b X.env)] := by rfl) (hs2 : starEach [b] X.env = [(false, eval b X.env)] := by rfl) :
    QI X C tg (.Call (.Name "range" p) [a, b] [] pos) (dRng2 ta) :=
  QI.of (pi_range2 hg hm ha.pa hs hs2) fun σ H R ⟨F, ρ, q, S, ht, k⟩ => by
    refine ⟨F, ρ, _, S, ht, fun os ρ1 F1 H1 vs hq S1 s1 d1 => ?_⟩
    obtain ⟨ds, v1, w1⟩ := S1.seeAll d1 hq
    cases v1 with
    | nil => exact w1.elim
    | @cons v _ d _ hv hr =>
      cases hr with
      | nil => cases d <;> exact w1.elim
      | @cons v2 _ d2 _ hv2 hr =>
        cases hr with
        | cons _ _ => cases d <;> first | exact w1.elim | (cases d2 <;> exact w1.elim)
        | nil =>
          cases d with
          | int n =>
            cases d2 with
            | int m =>
              cases (show Rep X.K F1 v (.int n) from hv)
              cases (show Rep X.K F1 v2 (.int m) from hv2)
              exact ⟨n, m, rfl, w1.1, k _ _ _ _ _ w1.2 S1 s1 itr_ok⟩
            | _ => exact w1.elim
          | _ => exact w1.elim
/-- zip of two lists or two tuples -/
def zipD (xs ys : List PyData) : List PyData := List.zipWith (fun x y => .tuple [x, y]) xs ys
theorem zip_get {xs ys : List PyData} {i : Nat} {d : PyData} (h : (zipD xs ys)[i]? = some d) : ∃ x y, xs[i]? = some x ∧ ys[i]? = some y ∧ d = .tuple [x, y] := by
  unfold zipD at h
  rw [List.getElem?_zipWith] at h
  cases hx : xs[i]? with
  | none => rw [hx] at h; cases h
  | some x =>
    cases hy : ys[i]? with
    | none => rw [hx, hy] at h; cases h
    | some y => rw [hx, hy] at h; cases h; exact ⟨x, y, rfl, rfl, rfl⟩
theorem pair_new {K : PySem.W.Frag} {F H : Hp} {T : Addr} {x y : V} {d e : PyData} (s : Same F H) (hT : H T = none) (h1 : Rep K F x d) (h2 : Rep K F y e) : ∃ F', Gr F H F' (upd H T (.tup [x, y])) ∧ Rep K F' (.ref T) (.tuple [d, e]) := by
  have g := Gr.new (o := .tup [x, y]) s hT
  exact ⟨_, g, .tup (SqT.of upd_same) (.cons (h1.mono g.f) (.cons (h2.mono g.f) .nil))⟩
theorem itz_ok {K : PySem.W.Frag} {F0 : Hp} {a b : Addr} {xs ys : List V} {ds es : List PyData} (h : SqL K F0 a xs) (r : RepAll K F0 xs ds) (h2 : SqL K F0 b ys) (r2 : RepAll K F0 ys es) : ItOk K (Itz K a b) F0 (zipD ds es) := fun F H s0 s1 => by
  have hq : SqL K H a xs := sqL_mono s1 (sqL_mono s0 h)
  have hq2 : SqL K H b ys := sqL_mono s1 (sqL_mono s0 h2)
  refine ⟨⟨xs, ys, hq, hq2, ?_⟩, fun i d hd => ?_⟩
  · have e1 := r.length
    have e2 := r2.length
    simp only [zipD, List.length_zipWith]
    omega
  obtain ⟨d1, d2, g1, g2, e⟩ := zip_get hd
  subst e
  obtain ⟨v, hv, rv⟩ := r.get g1
  obtain ⟨v2, hv2, rv2⟩ := r2.get g2
  refine ⟨⟨xs, ys, v, v2, hq, hq2, hv, hv2⟩, fun x H' hy => ?_⟩
  obtain ⟨T, x1, x2, e, hT, e', k1, k2⟩ := hy
  subst e e'
  have z1 := k1 xs hq
  have z2 := k2 ys hq2
  rw [hv] at z1; rw [hv2] at z2
  cases z1; cases z2
  exact pair_new s1 hT (rv.mono s0) (rv2.mono s0)
theorem itzT_ok {K : PySem.W.Frag} {F0 : Hp} {a b : Addr} {xs ys : List V} {ds es : List PyData} (h : SqT K F0 a xs) (r : RepAll K F0 xs ds) (h2 : SqT K F0 b ys) (r2 : RepAll K F0 ys es) : ItOk K (RZ.ItzT K a b) F0 (zipD ds es) := fun F H s0 s1 => by
  have hq : SqT K H a xs := sqT_mono s1 (sqT_mono s0 h)
  have hq2 : SqT K H b ys := sqT_mono s1 (sqT_mono s0 h2)
  refine ⟨⟨xs, ys, hq, hq2, ?_⟩, fun i d hd => ?_⟩
  · have e1 := r.length
    have e2 := r2.length
    simp only [zipD, List.length_zipWith]
    omega
  obtain ⟨d1, d2, g1, g2, e⟩ := zip_get hd
  subst e
  obtain ⟨v, hv, rv⟩ := r.get g1
  obtain ⟨v2, hv2, rv2⟩ := r2.get g2
  refine ⟨⟨xs, ys, v, v2, hq, hq2, hv, hv2⟩, fun x H' hy => ?_⟩
  obtain ⟨T, x1, x2, e, hT, e', k1, k2⟩ := hy
  subst e e'
  have z1 := k1 xs hq
  have z2 := k2 ys hq2
  rw [hv] at z1; rw [hv2] at z2
  cases z1; cases z2
  exact pair_new s1 hT (rv.mono s0) (rv2.mono s0)
def dZip (P : List Bool) (t : DA) : DI := fun ρ Q => t ρ fun os ρ1 => shareAll P ρ1 os fun ds ρ2 => match ds with
  | [.list xs, .list ys] => Q (zipD xs ys) ρ2
  | [.tuple xs, .tuple ys] => Q (zipD xs ys) ρ2
  | _ => False
theorem i_zip {e e2 : Expr} {ta : DA} {p pos tpos : Pos} {elts : List Expr} {kk : Nat} (hP : C.Tags P) (hm : X.mg "zip" = none) (ha : QA X C [e, e2] ta) (hg : Gl X "zip" := by rfl)
    (h : PI X (.Tuple elts kk tpos) (.Call (.Name "zip" p) [e, e2] [] pos) (RZ.iZipA X.K (lA X.K C ta)) := by exact RZ.pi_zipA hg hm ha.pa) : QI X C (.Tuple elts kk tpos) (.Call (.Name "zip" p) [e, e2] [] pos) (dZip P ta) :=
  QI.of h fun σ H R ⟨F, ρ, q, S, ht, k⟩ => by
    refine ⟨F, ρ, _, S, ht, fun os ρ1 F1 H1 vs hq S1 s1 d1 => ?_⟩
    obtain ⟨ds, ρ2, F2, w, S2, s2, r⟩ := Sim.shareAll hP S1 d1 hq
    cases r with
    | nil => exact w.elim
    | @cons v _ d _ hv hr =>
      cases hr with
      | nil => cases d <;> exact w.elim
      | @cons v2 _ d2 _ hv2 hr =>
        cases hr with
        | cons _ _ => cases d <;> first | exact w.elim | (cases d2 <;> exact w.elim)
        | nil =>
          cases hv with
          | lst a1 a2 =>
            cases hv2 with
            | lst b1 b2 => exact ⟨_, _, _, _, rfl, .inl ⟨sqL_mono S2.sub a1, sqL_mono S2.sub b1, k _ _ _ _ _ w S2 (s1.trans s2) (itz_ok a1 a2 b1 b2)⟩⟩
            | _ => exact w.elim
          | tup a1 a2 =>
            cases hv2 with
            | tup b1 b2 => exact ⟨_, _, _, _, rfl, .inr ⟨sqT_mono S2.sub a1, sqT_mono S2.sub b1, k _ _ _ _ _ w S2 (s1.trans s2) (itzT_ok a1 a2 b1 b2)⟩⟩
            | _ => exact w.elim
          | _ => exact w.elim
end
/-! ### methods that turn an owned object -/
def tyD (T : String) : PyData → Prop
  | .str _ => T = "str"
  | .list _ => T = "list"
  | .dict _ => T = "dict"
  | .int _ => T = "int"
  | _ => False
theorem View.ty {K : PySem.W.Frag} {F H : Hp} {v : V} {d : PyData} {T : String} (h : View K F H v d) (t : tyD T d) : tyV K T v H := by
  cases d with
  | str x => cases (show Rep K F v (.str x) from h); exact t
  | int x => cases (show Rep K F v (.int x) from h); exact t
  | list xs => obtain ⟨a, ys, e, h1, _⟩ := h; subst e; exact .inl ⟨t, _, h1⟩
  | dict xs => obtain ⟨a, ys, e, h1, _⟩ := h; subst e; exact .inr (.inr (.inl ⟨t, .inl ⟨_, h1⟩⟩))
  | _ => exact t.elim
abbrev OpM := PyData → List PyData → (PyData → PyData → Prop) → Prop
def MutOk (X : Cx) (r : V → List V → Hp → VK → Prop) (f : OpM) : Prop := ∀ F H a vs d ds (q : PyData → PyData → Prop) (Q : VK), Same F H → F a = none → Own X.K F H a d → RepAll X.K F vs ds → f d ds q →
  (∀ d' g o v, q d' g → Own X.K F (upd H a o) a d' → Rep X.K F v g → Q v (upd H a o)) → r (.ref a) vs H Q
def dMut (P : List Bool) (T : String) (i : Nat) (f : OpM) (a : DA) : DE := fun ρ Q => match ρ[i]? with
  | some (some (.own d0)) => tyD T d0 ∧ a ρ fun os ρ1 => shareAll P ρ1 os fun ds ρ2 => match ρ2[i]? with
    | some (some (.own d)) => f d ds fun d' g => Q (.val g) (ρ2.set i (some (.own d')))
    | _ => False
  | _ => False
def dMut0 (T : String) (i : Nat) (f : OpM) : DE := fun ρ Q => match ρ[i]? with
  | some (some (.own d)) => tyD T d ∧ f d [] fun d' g => Q (.val g) (ρ.set i (some (.own d')))
  | _ => False
section
variable {X : Cx} {C : FC} {P : List Bool} {T id : String} {name x : Str} {r : V → List V → Hp → VK → Prop} {f : OpM} {i : Nat} {e : Expr} {es : List Expr} {ta : DA} {p apos cpos : Pos}
theorem own_split {ρ : DEnv} {i : Nat} {k : PyData → Prop} (h : match ρ[i]? with
    | some (some (.own d)) => k d
    | _ => False) : ∃ d, ρ[i]? = some (some (.own d)) ∧ k d := by
  cases q : ρ[i]? with
  | none => rw [q] at h; exact h.elim
  | some y =>
    cases y with
    | none => rw [q] at h; exact h.elim
    | some z =>
      cases z with
      | frz d => rw [q] at h; exact h.elim
      | own d => rw [q] at h; exact ⟨d, rfl, h⟩
theorem Own.view {K : PySem.W.Frag} {F H : Hp} {a : Addr} {d : PyData} (h : Own K F H a d) : View K F H (.ref a) d := by
  cases d with
  | list xs => obtain ⟨ys, e, r⟩ := h; exact ⟨a, ys, rfl, SqL.of e, r⟩
  | dict xs => obtain ⟨ys, e, r⟩ := h; exact ⟨a, ys, rfl, e, r⟩
  | _ => exact h.elim
theorem m_mut (hP : C.Tags P) (pa : PlainAttrs T) (slot : Slot T name id) (hty : typeOf (.builtin id) = pure (.type "method_descriptor")) (hm : MtR X id r) (ok : MutOk X r f) (ha : QA X C (e :: es) ta)
    (hv : PE X (.Name x p) (tVar i)) (hbase : attributeBase (.Name x p) name X.env (eval (.Name x p) X.env) = eval (.Name x p) X.env := by rfl)
    (hfew : ((backTo cpos (starEach (e :: es) X.env)).all (fun x => !x.1) && (backToKw cpos (keywordEach [] X.env)).all (fun x => x.1.isSome)
      && decide ((e :: es).length + ([] : List Keyword).length + (if ([] : List Keyword).isEmpty then 0 else 1) < 30)) = true := by rfl)
    (hline : (apos.endLine == cpos.line) = true := by rfl) (hs : starEach (e :: es) X.env = (false, eval e X.env) :: starEach es X.env := by rfl) (hplain : (backTo cpos (starEach es X.env)).any (·.1) = false := by rfl) :
    QE X C (.Call (.Attribute (.Name x p) name apos) (e :: es) [] cpos) (dMut P T i f ta) :=
  QE.of (pe_bm pa slot hty hm hv ha.pa hbase hfew hline hs hplain) fun σ H Q ⟨F, ρ, q, S, ht, k⟩ => by
    obtain ⟨d0, hd0, ty, ht⟩ := own_split ht
    obtain ⟨a, g1, g2, g3, _⟩ := S.own i d0 hd0
    refine ⟨.ref a, g1, View.ty (Own.view g3) ty, F, ρ, _, S, ht, fun os ρ1 F1 H1 vs h1 S1 s1 d1 => ?_⟩
    obtain ⟨ds, ρ2, F2, w, S2, s2, rr⟩ := Sim.shareAll hP S1 d1 h1
    obtain ⟨d, hd, w⟩ := own_split w
    obtain ⟨a', e1, e2, e3, _⟩ := S2.own i d hd
    rw [g1] at e1; cases e1
    exact ok F2 H1 a vs d ds _ Q S2.sub e2 e3 rr w fun d' g o v hq hO hr => k _ _ _ _ _ hq (S2.turn hd g1 hO) (s1.trans s2) hr
theorem m_mut0 (pa : PlainAttrs T) (slot : Slot T name id) (hty : typeOf (.builtin id) = pure (.type "method_descriptor")) (hm : MtR X id r) (ok : MutOk X r f)
    (hv : PE X (.Name x p) (tVar i)) (hbase : attributeBase (.Name x p) name X.env (eval (.Name x p) X.env) = eval (.Name x p) X.env := by rfl) (hline : (apos.endLine == cpos.line) = true := by rfl) :
    QE X C (.Call (.Attribute (.Name x p) name apos) [] [] cpos) (dMut0 T i f) :=
  QE.of (pe_bm0 pa slot hty hm hv hbase hline) fun σ H Q ⟨F, ρ, q, S, ht, k⟩ => by
    obtain ⟨d, hd, ty, w⟩ := own_split ht
    obtain ⟨a, g1, g2, g3, _⟩ := S.own i d hd
    exact ⟨.ref a, g1, View.ty (Own.view g3) ty, ok F H a [] d [] _ Q S.sub g2 g3 .nil w fun d' g o v hq hO hr => k _ _ _ _ _ hq (S.turn hd g1 hO) (Same.refl F) hr⟩
/-- o.m(e, ..) of a built-in, o is only looked at -/
def dBM (T : String) (f : OpN) (o : DE) (a : DA) : DE := fun ρ Q => o ρ fun o1 ρ1 => withO ρ1 o1 fun d0 => tyD T d0 ∧ a ρ1 fun os ρ2 => withO ρ2 o1 fun d => withAll ρ2 os fun ds => f (d :: ds) fun g => Q (.val g) ρ2
def dBM0 (T : String) (f : OpN) (o : DE) : DE := fun ρ Q => o ρ fun o1 ρ1 => withO ρ1 o1 fun d => tyD T d ∧ f [d] fun g => Q (.val g) ρ1
def MtOk (X : Cx) (r : V → List V → Hp → VK → Prop) (f : OpN) : Prop := ∀ F H v vs d ds q Q, Same F H → View X.K F H v d → ViewAll X.K F H vs ds → f (d :: ds) q → Kont X.K F H q Q → r v vs H Q
variable {o : Expr} {to : DE} {f' : OpN}
theorem m_look (pa : PlainAttrs T) (slot : Slot T name id) (hty : typeOf (.builtin id) = pure (.type "method_descriptor")) (hm : MtR X id r) (ok : MtOk X r f') (ho : QE X C o to) (ha : QA X C (e :: es) ta)
    (hbase : attributeBase o name X.env (eval o X.env) = eval o X.env := by rfl)
    (hfew : ((backTo cpos (starEach (e :: es) X.env)).all (fun x => !x.1) && (backToKw cpos (keywordEach [] X.env)).all (fun x => x.1.isSome)
      && decide ((e :: es).length + ([] : List Keyword).length + (if ([] : List Keyword).isEmpty then 0 else 1) < 30)) = true := by rfl)
    (hline : (apos.endLine == cpos.line) = true := by rfl) (hs : starEach (e :: es) X.env = (false, eval e X.env) :: starEach es X.env := by rfl) (hplain : (backTo cpos (starEach es X.env)).any (·.1) = false := by rfl) :
    QE X C (.Call (.Attribute o name apos) (e :: es) [] cpos) (dBM T f' to ta) :=
  QE.of (pe_bm pa slot hty hm ho.pe ha.pa hbase hfew hline hs hplain) fun σ H Q ⟨F, ρ, q, S, ht, k⟩ => by
    refine ⟨F, ρ, _, S, ht, fun o1 ρ1 F1 H1 v h1 S1 s1 d1 => ?_⟩
    obtain ⟨d0, v0, ty, h1⟩ := S1.see d1 h1
    refine ⟨v0.ty ty, F1, ρ1, _, S1, h1, fun os ρ2 F2 H2 vs h2 S2 s2 d2 => ?_⟩
    obtain ⟨d, vd, h2⟩ := S2.see (d1.mono s2) h2
    obtain ⟨ds, vds, h2⟩ := S2.seeAll d2 h2
    exact ok F2 H2 v vs d ds _ Q S2.sub vd vds h2 (kont_of (ρ1 := ρ1) (F1 := F1) (H1 := H1) S2 (s1.trans s2) k)
theorem m_look0 (pa : PlainAttrs T) (slot : Slot T name id) (hty : typeOf (.builtin id) = pure (.type "method_descriptor")) (hm : MtR X id r) (ok : MtOk X r f') (ho : QE X C o to)
    (hbase : attributeBase o name X.env (eval o X.env) = eval o X.env := by rfl) (hline : (apos.endLine == cpos.line) = true := by rfl) : QE X C (.Call (.Attribute o name apos) [] [] cpos) (dBM0 T f' to) :=
  QE.of (pe_bm0 pa slot hty hm ho.pe hbase hline) fun σ H Q ⟨F, ρ, q, S, ht, k⟩ => by
    refine ⟨F, ρ, _, S, ht, fun o1 ρ1 F1 H1 v h1 S1 s1 d1 => ?_⟩
    obtain ⟨d0, v0, ty, h1⟩ := S1.see d1 h1
    exact ⟨v0.ty ty, ok F1 H1 v [] d0 [] _ Q S1.sub v0 .nil h1 (kont_of (ρ1 := ρ1) (F1 := F1) (H1 := H1) S1 s1 k)⟩
/-! ### o[i] = v on an owned object -/
abbrev OpS := PyData → PyData → PyData → (PyData → Prop) → Prop
def SetOk (X : Cx) (t : TSet) (f : OpS) : Prop := ∀ F H a iv v d di dv (q : PyData → Prop) (Q : Hp → Prop), Same F H → F a = none → Own X.K F H a d → View X.K F H iv di → Rep X.K F v dv → f d di dv q →
  (∀ d' o, q d' → Own X.K F (upd H a o) a d' → Q (upd H a o)) → t (.ref a) iv v H Q
def dSetIx (P : List Bool) (i : Nat) (f : OpS) (tv ti : DE) : DS := fun E ρ => tv ρ fun ov ρ1 => share P ρ1 ov fun dv ρ2 => match ρ2[i]? with
  | some (some (.own _)) => ti ρ2 fun oi ρ3 => withO ρ3 oi fun di => match ρ3[i]? with
    | some (some (.own d)) => f d di dv fun d' => E.nx (ρ3.set i (some (.own d')))
    | _ => False
  | _ => False
theorem s_setIx {ix val : Expr} {ti tv : DE} {t : TSet} {f : OpS} {tpos pos : Pos} (hP : C.Tags P) (hset : PSet X t) (ok : SetOk X t f) (hval : QE X C val tv) (hix : QE X C ix ti) (hv : PE X (.Name x p) (tVar i))
    (hasg : ∀ v, assign (.Subscript (.Name x p) ix tpos) X.env v = (do
      let ov ← holding [v] (eval (.Name x p) X.env)
      let iv ← holding [v, ov] (eval ix X.env)
      standAt tpos
      holding [v, ov, iv] (setItem ov iv v)
      release [v, ov, iv] []) := by intro _; rfl)
    (hs : swapsWithSole [.Subscript (.Name x p) ix tpos] val pos.line X.env = pure false := by rfl) (hw : swappedStores [.Subscript (.Name x p) ix tpos] val X.env = pure none := by rfl)
    (h1 : (assignEach [.Subscript (.Name x p) ix tpos] X.env).map (·.2) = [assign (.Subscript (.Name x p) ix tpos) X.env] := by rfl) : QS X C (.Assign [.Subscript (.Name x p) ix tpos] val pos) (dSetIx P i f tv ti) :=
  QS.of (ps_asg hval.pe (pg_sub hv hix.pe hset hasg) hs hw h1) fun D σ H ⟨F, ρ, E, S, ht, okE⟩ => by
    refine ⟨F, ρ, _, S, ht, fun ov ρ1 F1 H1 v hq S1 s1 d1 => ?_⟩
    obtain ⟨dv, ρ2, F2, w, S2, s2, rv⟩ := S1.share hP d1 hq
    obtain ⟨d0, hd0, w⟩ := own_split w
    obtain ⟨a, g1, g2, g3, _⟩ := S2.own i d0 hd0
    refine ⟨.ref a, g1, F2, ρ2, _, S2, w, fun oi ρ3 F3 H3 iv hq3 S3 s3 d3 => ?_⟩
    obtain ⟨di, vi, w3⟩ := S3.see d3 hq3
    obtain ⟨d, hd, w3⟩ := own_split w3
    obtain ⟨a', e1, e2, e3, _⟩ := S3.own i d hd
    rw [g1] at e1; cases e1
    exact ok F3 H3 a iv v d di dv _ _ S3.sub e2 e3 vi (rv.mono s3) w3 fun d' o hq hO => okE.nx _ _ _ _ hq (S3.turn hd g1 hO) ((s1.trans s2).trans s3)
end
end Dv

set_option Elab.async false
set_option linter.all false
set_option maxRecDepth 100000
set_option autoImplicit false
namespace Dv
open PySem PySem.Spec L2

section
variable {X : Cx}
/-! ### arithmetic -/
/-- what the left and the right operand are -/
theorem view_int {K : PySem.W.Frag} {F H : Hp} {v : V} {i : Int} (h : View K F H v (.int i)) : v = .int i := by cases (show Rep K F v (.int i) from h); rfl
theorem view_bl {K : PySem.W.Frag} {F H : Hp} {v : V} {i : Bool} (h : View K F H v (.bool i)) : v = .bl i := by cases (show Rep K F v (.bool i) from h); rfl
theorem view_str {K : PySem.W.Frag} {F H : Hp} {v : V} {i : Str} (h : View K F H v (.str i)) : v = .str i := by cases (show Rep K F v (.str i) from h); rfl
theorem view_non {K : PySem.W.Frag} {F H : Hp} {v : V} (h : View K F H v .none) : v = .non := by cases (show Rep K F v .none from h); rfl
theorem view_tup {K : PySem.W.Frag} {F H : Hp} {v : V} {ds : List PyData} (s : Same F H) (h : View K F H v (.tuple ds)) : ∃ a xs, v = .ref a ∧ SqT K H a xs ∧ RepAll K F xs ds ∧ Rep K F v (.tuple ds) := by
  have h' : Rep K F v (.tuple ds) := h
  cases h' with
  | tup a b => exact ⟨_, _, rfl, sqT_mono s a, b, .tup a b⟩
def addD : Op2 := fun d e k => match d, e with
  | .int i, .int j => k (.int (i + j))
  | .str x, .str y => x.length + y.length ≤ big ∧ k (.str (x ++ y))
  | .tuple xs, .tuple ys => xs.length + ys.length ≤ big ∧ k (.tuple (xs ++ ys))
  | _, _ => False
def rAddA (K : PySem.W.Frag) : R2 := fun x y H Q => rI0 (fun i j => .int (i + j)) x y H Q ∨ (∃ i j, x = .str i ∧ y = .str j ∧ i.length + j.length ≤ sizeLine ∧ Q (.str (i ++ j)) H) ∨ rCatA K x y H Q
theorem op_addA : OpR X (binaryOp .Add) (rAddA X.K) := op_add.or (op_add_str.or op_catA)
theorem ok_add : OpOk X (rAddA X.K) addD := fun F H x y d e q Q s v1 v2 w k => by
  cases d with
  | int i =>
    cases e with
    | int j => rw [view_int v1, view_int v2]; exact .inl ⟨i, j, rfl, rfl, k _ _ _ _ w (Gr.refl s) (.int _)⟩
    | _ => exact w.elim
  | str i =>
    cases e with
    | str j => rw [view_str v1, view_str v2]; exact .inr (.inl ⟨i, j, rfl, rfl, le_line w.1, k _ _ _ _ w.2 (Gr.refl s) (.str _)⟩)
    | _ => exact w.elim
  | tuple xs =>
    cases e with
    | tuple ys =>
      obtain ⟨a, us, e1, h1, r1, p1⟩ := view_tup s v1
      obtain ⟨b, ws, e2, h2, r2, p2⟩ := view_tup s v2
      subst e1 e2
      refine .inr (.inr ⟨a, b, us, ws, rfl, rfl, h1, h2, by rw [r1.length, r2.length]; exact le_line w.1, fun z => ?_, fun z1 z2 => ?_, fun z1 z2 p hp => ?_⟩)
      · subst z
        cases r1
        exact k _ _ _ _ w.2 (Gr.refl s) p2
      · subst z2
        cases r2
        refine k _ _ _ _ w.2 (Gr.refl s) ?_
        rw [List.append_nil]; exact p1
      · have g := Gr.new (o := .tup (us ++ ws)) s hp
        exact k _ _ _ _ w.2 g (.tup (SqT.of upd_same) ((r1.append r2).mono g.f))
    | _ => exact w.elim
  | _ => exact w.elim
theorem q_add {C : FC} {a b : Expr} {pos : Pos} {ta tb : DE} (ha : QE X C a ta) (hb : QE X C b tb) : QE X C (.BinOp a .Add b pos) (dBin addD ta tb) := q_bin op_addA ok_add ha hb
/-- list + list -/
theorem Inv.lstR {pins : List (Addr × Obj)} {σ : L2.St} {H : Hp} {s : Shared} {l : Addr} {xs : List V} (I : Inv X pins σ H s) (hH : SqL X.K H l xs) :
    xs.length ≤ sizeLine ∧ ∃ (its : List Value) (n : Nat) (dd : Option Addr) (sl : Array (Option Value)), Vals xs its ∧ xs.length = its.length ∧ s.heap.get? l = some { cls := .type "list", dict := dd, data := .seq its.toArray n, slots := sl } := by
  obtain ⟨its, r, ⟨⟨c, dd, dt, sl⟩, n, e, hc, _, hd⟩, z⟩ := I.list hH
  simp only at hc hd
  subst hc hd
  exact ⟨z, its, n, dd, sl, r, r.length, e⟩
def rCatR (K : PySem.W.Frag) : R2 := fun x y H Q => ∃ l b xs zs, x = .ref l ∧ y = .ref b ∧ SqL K H l xs ∧ SqL K H b zs ∧ xs.length + zs.length ≤ sizeLine ∧ ∀ p, H p = none → Q (.ref p) (upd H p (.lst (xs ++ zs)))
open PyProof.Rows in
theorem op_catR : OpR X (binaryOp .Add) (rCatR X.K) := by
  intro pins s σ H x y v u Q I rx ry h
  obtain ⟨l, b, xs, zs, rfl, rfl, hH, hB, hz, q⟩ := h
  cases rx
  cases ry
  obtain ⟨z, its, n, dd, sl, r, hl, e⟩ := Inv.lstR I hH
  obtain ⟨z2, its2, n2, dd2, sl2, r2, hl2, e2⟩ := Inv.lstR I hB
  refine concat_meets ⟨_, e, rfl⟩ ⟨_, e2, rfl⟩ noFill_list_add seq_list_add PySem.F.slot_list_add PySem.F.entry_list_add (PySem.F.args_list_add_2 _ _) (list_addW l b its.toArray its2.toArray n n2 dd dd2 sl sl2 (by rw [List.size_toArray, List.size_toArray]; omega)) ⟨e, e2, ?_⟩
  have ea : its.toArray ++ its2.toArray = (its ++ its2).toArray := by simp
  rw [ea]
  exact ⟨.ref _, _, I.lnew (t' := s.toks) (r.append r2) (by rw [List.length_append]; omega), rfl, q _ I.fresh⟩
def catD : Op2L := fun d e k => match d, e with
  | .list xs, .list ys => xs.length + ys.length ≤ big ∧ k (xs ++ ys)
  | _, _ => False
theorem ok_cat : OpOkL X (rCatR X.K) catD := fun F H x y d e q Q s v1 v2 w k => by
  cases d with
  | list xs =>
    cases e with
    | list ys =>
      obtain ⟨a, us, e1, h1, r1⟩ := v1
      obtain ⟨b, ws, e2, h2, r2⟩ := v2
      subst e1 e2
      exact ⟨a, b, us, ws, rfl, rfl, h1, h2, by rw [r1.length, r2.length]; exact le_line w.1, fun p hp => k _ _ p w.2 hp (r1.append r2)⟩
    | _ => exact w.elim
  | _ => exact w.elim
theorem o_cat {C : FC} {a b : Expr} {pos : Pos} {ta tb : DE} (ha : QE X C a ta) (hb : QE X C b tb) : QO X C (.BinOp a .Add b pos) (dBinL catD ta tb) := o_bin op_catR ok_cat ha hb
/-- list * int -/
def rRepR (K : PySem.W.Frag) : R2 := fun x y H Q => ∃ l k xs, x = .ref l ∧ y = .int k ∧ SqL K H l xs ∧ -(2 ^ 63) ≤ k ∧ k < 2 ^ 63 ∧ xs.length * k.toNat ≤ sizeLine ∧
  ∀ p, H p = none → Q (.ref p) (upd H p (.lst (List.replicate k.toNat xs).flatten))
open PyProof.Rows in
theorem op_repR : OpR X (binaryOp .Mult) (rRepR X.K) := by
  intro pins s σ H x y v u Q I rx ry h
  obtain ⟨l, k, xs, rfl, rfl, hH, h1, h2, hz, q⟩ := h
  cases rx
  obtain ⟨t, rfl⟩ := ry
  obtain ⟨z, its, n, dd, sl, r, hl, e⟩ := Inv.lstR I hH
  have hlen : its.toArray.size * k.toNat ≤ sizeLine := by rw [List.size_toArray, ← hl]; exact hz
  have hcap : ¬ its.toArray.size * k.toNat > (2 ^ 63 - 1) / 8 := by
    have : (sizeLine : Nat) ≤ (2 ^ 63 - 1) / 8 := by decide
    omega
  have hfit : ¬ (!Builtin.List.listFitsIndex k) = true := by
    rw [fitsIndex_both h1 h2]
    exact Bool.false_ne_true
  have hlong : ¬ Builtin.List.listTooLong (its.toArray.size * k.toNat) = true := by
    rw [notLongL hlen]
    exact Bool.false_ne_true
  have hnew : List.foldl (fun x1 x2 => x1 ++ x2) #[] (List.replicate (if its.toArray.isEmpty = true then 0 else k.toNat) its.toArray) = (List.replicate k.toNat its).flatten.toArray := by
    have f0 : ∀ m : Nat, List.foldl (fun x1 x2 => x1 ++ x2) #[] (List.replicate m its.toArray) = (List.replicate m its).flatten.toArray := fun m => by
      have := foldl_rep its m []
      rw [List.nil_append] at this
      exact this
    rw [f0]
    cases its with
    | nil => simp
    | cons a r' => rw [if_neg (by simp)]
  refine wpAny_binaryOp_repeat_ref (T := "list") (U := "int") (by decide) ⟨_, e, rfl⟩ (fun s' => typeIs_int s' k t) noFill_list_mul F.fills_int_mul F.slot_int_rmul repeat_list F.slot_int_index.lookup
    (call_meets F.slot_int_rmul (typeIs_int s k t) F.entry_int_rmul (F.args_int_rmul_2 _ _) (int_rmul_listW k t l its.toArray n dd sl)
      ⟨e, rfl, ⟨_, e, rfl⟩, call_meets F.slot_list_mul ⟨_, e, rfl⟩ F.entry_list_mul (F.args_list_mul_2 _ _) (list_mulW l its.toArray n dd sl k t hfit hcap hlong) ⟨e, ?_⟩⟩)
  rw [hnew]
  exact ⟨.ref _, _, I.lnew (t' := s.toks) (r.rep k.toNat) (by rw [PyProof.Rows.lm_len_rep_flat, Nat.mul_comm]; exact hz), rfl, q _ I.fresh⟩
def repD : Op2L := fun d e k => match d, e with
  | .list xs, .int n => -(2 ^ 63) ≤ n ∧ n < 2 ^ 63 ∧ xs.length * n.toNat ≤ big ∧ k (List.replicate n.toNat xs).flatten
  | _, _ => False
theorem RepAll.rep {K : PySem.W.Frag} {F : Hp} {xs : List V} {us : List PyData} (h : RepAll K F xs us) : ∀ k : Nat, RepAll K F (List.replicate k xs).flatten (List.replicate k us).flatten
  | 0 => .nil
  | k + 1 => by rw [List.replicate_succ, List.replicate_succ, List.flatten_cons, List.flatten_cons]; exact h.append (RepAll.rep h k)
theorem ok_rep : OpOkL X (rRepR X.K) repD := fun F H x y d e q Q s v1 v2 w k => by
  cases d with
  | list xs =>
    cases e with
    | int n =>
      obtain ⟨a, us, e1, h1, r1⟩ := v1
      subst e1
      rw [view_int v2]
      exact ⟨a, n, us, rfl, rfl, h1, w.1, w.2.1, by rw [r1.length]; exact le_line w.2.2.1, fun p hp => k _ _ p w.2.2.2 hp (r1.rep _)⟩
    | _ => exact w.elim
  | _ => exact w.elim
theorem o_rep {C : FC} {a b : Expr} {pos : Pos} {ta tb : DE} (ha : QE X C a ta) (hb : QE X C b tb) : QO X C (.BinOp a .Mult b pos) (dBinL repD ta tb) := o_bin op_repR ok_rep ha hb
/-- operations of two ints -/
def intD (c : Int → Int → Prop) (g : Int → Int → PyData) : Op2 := fun d e k => match d, e with
  | .int i, .int j => c i j ∧ k (g i j)
  | _, _ => False
theorem ok_int {c : Int → Int → Prop} {g : Int → Int → Int} : OpOk X (rI c fun i j => .int (g i j)) (intD c fun i j => .int (g i j)) := fun F H x y d e q Q s v1 v2 w k => by
  cases d with
  | int i =>
    cases e with
    | int j => rw [view_int v1, view_int v2]; exact ⟨i, j, rfl, rfl, w.1, k _ _ _ _ w.2 (Gr.refl s) (.int _)⟩
    | _ => exact w.elim
  | _ => exact w.elim
abbrev cT : Int → Int → Prop := fun _ _ => True
theorem ok_int0 {g : Int → Int → Int} : OpOk X (rI0 fun i j => .int (g i j)) (intD cT fun i j => .int (g i j)) := fun F H x y d e q Q s v1 v2 w k => by
  cases d with
  | int i =>
    cases e with
    | int j => rw [view_int v1, view_int v2]; exact ⟨i, j, rfl, rfl, k _ _ _ _ w.2 (Gr.refl s) (.int _)⟩
    | _ => exact w.elim
  | _ => exact w.elim
section
variable {C : FC} {a b : Expr} {pos : Pos} {ta tb : DE}
abbrev subD : Op2 := intD cT fun i j => .int (i - j)
abbrev mulD : Op2 := intD CMul fun i j => .int (i * j)
abbrev fdivD : Op2 := intD CDiv fun i j => .int (i / j)
abbrev modD : Op2 := intD (fun _ j => 0 < j) fun i j => .int (i % j)
abbrev powD : Op2 := intD CPow fun i j => .int (i ^ j.toNat)
theorem q_sub (ha : QE X C a ta) (hb : QE X C b tb) : QE X C (.BinOp a .Sub b pos) (dBin subD ta tb) := q_bin op_sub ok_int0 ha hb
theorem q_mul (ha : QE X C a ta) (hb : QE X C b tb) : QE X C (.BinOp a .Mult b pos) (dBin mulD ta tb) := q_bin op_mul ok_int ha hb
theorem q_fdiv (ha : QE X C a ta) (hb : QE X C b tb) : QE X C (.BinOp a .FloorDiv b pos) (dBin fdivD ta tb) := q_bin op_fdiv ok_int ha hb
theorem q_mod (ha : QE X C a ta) (hb : QE X C b tb) : QE X C (.BinOp a .Mod b pos) (dBin modD ta tb) := q_bin op_mod ok_int ha hb
theorem q_pow (ha : QE X C a ta) (hb : QE X C b tb) : QE X C (.BinOp a .Pow b pos) (dBin powD ta tb) := q_bin op_pow ok_int ha hb
/-- -a -/
def dNeg (a : DE) : DE := fun ρ Q => a ρ fun o ρ1 => withO ρ1 o fun d => match d with
  | .int i => Q (.val (.int (-i))) ρ1
  | _ => False
theorem q_neg (ha : QE X C a ta) : QE X C (.UnaryOp .USub a pos) (dNeg ta) := QE.of (pe_un un_neg ha.pe) fun σ H Q ⟨F, ρ, q, S, ht, k⟩ => by
  refine ⟨F, ρ, _, S, ht, fun o ρ1 F1 H1 v hq S1 s1 d1 => ?_⟩
  obtain ⟨d, vd, w⟩ := S1.see d1 hq
  cases d with
  | int i => rw [view_int vd]; exact ⟨i, rfl, k _ _ _ _ _ w S1 s1 (.int _)⟩
  | _ => exact w.elim
end
/-! ### order -/
def ordD (f : Int → Int → Bool) (g : List Nat → List Nat → Bool) : Op2 := fun d e k => match d, e with
  | .int i, .int j => k (.bool (f i j))
  | .str x, .str y => k (.bool (g x.cps.toList y.cps.toList))
  | _, _ => False
def rOrd (f : Int → Int → Bool) (g : List Nat → List Nat → Bool) : R2 := fun x y H Q => rI0 (fun i j => .bl (f i j)) x y H Q ∨ ∃ i j, x = .str i ∧ y = .str j ∧ Q (.bl (g i.cps.toList j.cps.toList)) H
theorem ok_ord {f : Int → Int → Bool} {g : List Nat → List Nat → Bool} : OpOk X (rOrd f g) (ordD f g) := fun F H x y d e q Q s v1 v2 w k => by
  cases d with
  | int i =>
    cases e with
    | int j => rw [view_int v1, view_int v2]; exact .inl ⟨i, j, rfl, rfl, k _ _ _ _ w (Gr.refl s) (.bl _)⟩
    | _ => exact w.elim
  | str i =>
    cases e with
    | str j => rw [view_str v1, view_str v2]; exact .inr ⟨i, j, rfl, rfl, k _ _ _ _ w (Gr.refl s) (.bl _)⟩
    | _ => exact w.elim
  | _ => exact w.elim
abbrev ltD : Op2 := ordD (fun i j => decide (i < j)) (fun x y => decide (x < y))
abbrev leD : Op2 := ordD (fun i j => decide (i ≤ j)) (fun x y => !decide (y < x))
abbrev gtD : Op2 := ordD (fun i j => decide (j < i)) (fun x y => decide (y < x))
abbrev geD : Op2 := ordD (fun i j => decide (j ≤ i)) (fun x y => !decide (x < y))
end
end Dv

set_option Elab.async false
set_option linter.all false
set_option maxRecDepth 100000
set_option autoImplicit false
namespace Dv
open PySem PySem.Spec L2
section
variable {X : Cx} {C : FC} {P : List Bool} {a b c e : Expr} {es : List Expr} {pos p : Pos} {ta tb tc : DE} {k : Nat}
theorem op_ltA : OpR X (compareOp .Lt) (rOrd (fun i j => decide (i < j)) (fun x y => decide (x < y))) := op_lt.or op_lt_str
theorem op_leA : OpR X (compareOp .LtE) (rOrd (fun i j => decide (i ≤ j)) (fun x y => !decide (y < x))) := op_le.or op_le_str
theorem op_gtA : OpR X (compareOp .Gt) (rOrd (fun i j => decide (j < i)) (fun x y => decide (y < x))) := op_gt.or op_gt_str
theorem op_geA : OpR X (compareOp .GtE) (rOrd (fun i j => decide (j ≤ i)) (fun x y => !decide (x < y))) := op_ge.or op_ge_str
theorem q_lt (ha : QE X C a ta) (hb : QE X C b tb) : QE X C (.Compare a [.Lt] [b] pos) (dBin ltD ta tb) := q_cmp op_ltA ok_ord ha hb
theorem q_le (ha : QE X C a ta) (hb : QE X C b tb) : QE X C (.Compare a [.LtE] [b] pos) (dBin leD ta tb) := q_cmp op_leA ok_ord ha hb
theorem q_gt (ha : QE X C a ta) (hb : QE X C b tb) : QE X C (.Compare a [.Gt] [b] pos) (dBin gtD ta tb) := q_cmp op_gtA ok_ord ha hb
theorem q_ge (ha : QE X C a ta) (hb : QE X C b tb) : QE X C (.Compare a [.GtE] [b] pos) (dBin geD ta tb) := q_cmp op_geA ok_ord ha hb
theorem t_lt (ha : QE X C a ta) (hb : QE X C b tb) : QT X C (.Compare a [.Lt] [b] pos) (dTest (dBin ltD ta tb)) := t_cmp op_ltA ok_ord ha hb
theorem t_le (ha : QE X C a ta) (hb : QE X C b tb) : QT X C (.Compare a [.LtE] [b] pos) (dTest (dBin leD ta tb)) := t_cmp op_leA ok_ord ha hb
theorem t_gt (ha : QE X C a ta) (hb : QE X C b tb) : QT X C (.Compare a [.Gt] [b] pos) (dTest (dBin gtD ta tb)) := t_cmp op_gtA ok_ord ha hb
theorem t_ge (ha : QE X C a ta) (hb : QE X C b tb) : QT X C (.Compare a [.GtE] [b] pos) (dTest (dBin geD ta tb)) := t_cmp op_geA ok_ord ha hb
/-! ### == of data -/
mutual
theorem Rep.dp {K : PySem.W.Frag} {F H : Hp} (s : Same F H) : ∀ {v : V} {d : PyData}, PyData.canLay0 d = true → Rep K F v d → Dp K H v d
  | _, _, _, .non => .non
  | _, _, _, .bl b => .bl b
  | _, _, _, .int i => .int i
  | _, _, _, .str x => .str x
  | _, _, h, .lst h1 r => .lst (sqL_mono s h1) (RepAll.dp s (by simpa [PyData.canLay0] using h) r)
  | _, _, h, .tup h1 r => .tup (sqT_mono s h1) (RepAll.dp s (by simpa [PyData.canLay0] using h) r)
  | _, _, h, .dct h1 r => by simp [PyData.canLay0] at h
theorem RepAll.dp {K : PySem.W.Frag} {F H : Hp} (s : Same F H) : ∀ {vs : List V} {ds : List PyData}, PyData.canLayAll0 ds = true → RepAll K F vs ds → DpAll K H vs ds
  | _, _, _, .nil => .nil
  | _, _, h, .cons r t => by
    simp only [PyData.canLayAll0, Bool.and_eq_true] at h
    exact .cons (Rep.dp s h.1 r) (RepAll.dp s h.2 t)
end
theorem View.dp {K : PySem.W.Frag} {F H : Hp} {v : V} {d : PyData} (s : Same F H) (h : PyData.canLay0 d = true) (w : View K F H v d) : Dp K H v d := by
  cases d with
  | list ds => obtain ⟨a, xs, e, h1, r⟩ := w; subst e; exact .lst h1 (r.dp s (by simpa [PyData.canLay0] using h))
  | dict ds => simp [PyData.canLay0] at h
  | none => exact Rep.dp s h w
  | bool _ => exact Rep.dp s h w
  | int _ => exact Rep.dp s h w
  | str _ => exact Rep.dp s h w
  | tuple _ => exact Rep.dp s h w
abbrev shp (d : PyData) : Prop := SeqAt.shaped d = true
def eqD : Op2 := fun d e k => shp d ∧ shp e ∧ k (.bool (PyData.eqv d e))
def neD : Op2 := fun d e k => shp d ∧ shp e ∧ k (.bool (!PyData.eqv d e))
theorem ok_eq : OpOk X (rEqD X.K) eqD := fun F H x y d e q Q s v1 v2 w k =>
  ⟨d, e, v1.dp s (SeqAt.canLay_of_shaped w.1), v2.dp s (SeqAt.canLay_of_shaped w.2.1), w.1, w.2.1, k _ _ _ _ w.2.2 (Gr.refl s) (.bl _)⟩
theorem ok_ne : OpOk X (rNeD X.K) neD := fun F H x y d e q Q s v1 v2 w k =>
  ⟨d, e, v1.dp s (SeqAt.canLay_of_shaped w.1), v2.dp s (SeqAt.canLay_of_shaped w.2.1), w.1, w.2.1, k _ _ _ _ w.2.2 (Gr.refl s) (.bl _)⟩
theorem q_eq (hr : Room k X.A) (ha : QE X C a ta) (hb : QE X C b tb) : QE X C (.Compare a [.Eq] [b] pos) (dBin eqD ta tb) := q_cmp (op_eqD hr.units) ok_eq ha hb
theorem q_ne (hr : Room k X.A) (ha : QE X C a ta) (hb : QE X C b tb) : QE X C (.Compare a [.NotEq] [b] pos) (dBin neD ta tb) := q_cmp (op_neD hr.units) ok_ne ha hb
theorem t_eq (hr : Room k X.A) (ha : QE X C a ta) (hb : QE X C b tb) : QT X C (.Compare a [.Eq] [b] pos) (dTest (dBin eqD ta tb)) := t_cmp (op_eqD hr.units) ok_eq ha hb
theorem t_ne (hr : Room k X.A) (ha : QE X C a ta) (hb : QE X C b tb) : QT X C (.Compare a [.NotEq] [b] pos) (dTest (dBin neD ta tb)) := t_cmp (op_neD hr.units) ok_ne ha hb
/-! ### is None, is not None -/
def isND (pol : Bool) : Op2 := fun d e k => match e with
  | .none => match d with
    | .none => k (.bool pol)
    | _ => k (.bool (!pol))
  | _ => False
theorem view_nn {K : PySem.W.Frag} {F H : Hp} {v : V} {d : PyData} (h : View K F H v d) (hd : d ≠ .none) : v ≠ .non := by
  cases d with
  | none => exact absurd rfl hd
  | bool b => rw [view_bl h]; intro z; cases z
  | int b => rw [view_int h]; intro z; cases z
  | str b => rw [view_str h]; intro z; cases z
  | list b => obtain ⟨a, xs, e, _⟩ := h; subst e; intro z; cases z
  | dict b => obtain ⟨a, xs, e, _⟩ := h; subst e; intro z; cases z
  | tuple b => cases (show Rep K F v (.tuple b) from h); intro z; cases z
theorem ok_isN : OpOk X (fun x y H Q => y = .non ∧ Q (.bl (decide (x = .non))) H) (isND true) := fun F H x y d e q Q s v1 v2 w k => by
  cases e with
  | none =>
    refine ⟨view_non v2, ?_⟩
    by_cases hd : d = .none
    · subst hd
      rw [view_non v1]
      exact k _ _ _ _ w (Gr.refl s) (.bl _)
    · rw [decide_eq_false (view_nn v1 hd)]
      refine k (.bool false) _ _ _ ?_ (Gr.refl s) (.bl _)
      cases d <;> first | exact absurd rfl hd | exact w
  | _ => exact w.elim
theorem ok_notN : OpOk X (fun x y H Q => y = .non ∧ Q (.bl (!decide (x = .non))) H) (isND false) := fun F H x y d e q Q s v1 v2 w k => by
  cases e with
  | none =>
    refine ⟨view_non v2, ?_⟩
    by_cases hd : d = .none
    · subst hd
      rw [view_non v1]
      exact k _ _ _ _ w (Gr.refl s) (.bl _)
    · rw [decide_eq_false (view_nn v1 hd)]
      refine k (.bool true) _ _ _ ?_ (Gr.refl s) (.bl _)
      cases d <;> first | exact absurd rfl hd | exact w
  | _ => exact w.elim
theorem q_isN (ha : QE X C a ta) (hb : QE X C b tb) : QE X C (.Compare a [.Is] [b] pos) (dBin (isND true) ta tb) := q_cmp op_isN ok_isN ha hb
theorem q_notN (ha : QE X C a ta) (hb : QE X C b tb) : QE X C (.Compare a [.IsNot] [b] pos) (dBin (isND false) ta tb) := q_cmp op_notN ok_notN ha hb
theorem t_isN (ha : QE X C a ta) (hb : QE X C b tb) : QT X C (.Compare a [.Is] [b] pos) (dTest (dBin (isND true) ta tb)) := t_cmp op_isN ok_isN ha hb
theorem t_notN (ha : QE X C a ta) (hb : QE X C b tb) : QT X C (.Compare a [.IsNot] [b] pos) (dTest (dBin (isND false) ta tb)) := t_cmp op_notN ok_notN ha hb
/-! ### in -/
def flatD : PyData → Bool
  | .none => true
  | .bool _ => true
  | .int _ => true
  | .str _ => true
  | _ => false
theorem flat_rep {K : PySem.W.Frag} {F : Hp} {v : V} {d : PyData} (h : flatD d = true) (r : Rep K F v d) : flatV v = true := by
  cases r with
  | non => rfl
  | bl _ => rfl
  | int _ => rfl
  | str _ => rfl
  | lst _ _ => cases h
  | tup _ _ => cases h
  | dct _ _ => cases h
theorem flat_eqv {K : PySem.W.Frag} {F F' : Hp} {x y : V} {d e : PyData} (hd : flatD d = true) (he : flatD e = true) (r1 : Rep K F x d) (r2 : Rep K F' y e) : eqV x y = PyData.eqv d e := by
  cases r1 <;> cases r2 <;> first | (exfalso; simp [flatD] at hd; done) | (exfalso; simp [flatD] at he; done) | simp [eqV, PyData.eqv]
theorem flat_all {K : PySem.W.Frag} {F : Hp} : ∀ {vs : List V} {ds : List PyData}, RepAll K F vs ds → ds.all flatD = true → vs.all flatV = true
  | _, _, .nil, _ => rfl
  | _, _, .cons r t, h => by
    simp only [List.all_cons, Bool.and_eq_true] at h ⊢
    exact ⟨flat_rep h.1 r, flat_all t h.2⟩
theorem flat_any {K : PySem.W.Frag} {F F' : Hp} {x : V} {d : PyData} (hd : flatD d = true) (rx : Rep K F' x d) : ∀ {vs : List V} {ds : List PyData}, RepAll K F vs ds → ds.all flatD = true → inV x vs = ds.any fun e => PyData.eqv e d
  | _, _, .nil, _ => rfl
  | _, _, .cons r t, h => by
    simp only [List.all_cons, Bool.and_eq_true] at h
    have ih := flat_any hd rx t h.2
    unfold inV at ih ⊢
    simp only [List.any_cons]
    rw [ih, flat_eqv h.1 hd r rx]
theorem view_flat {K : PySem.W.Frag} {F H : Hp} {v : V} {d : PyData} (h : View K F H v d) (hd : flatD d = true) : Rep K F v d := by
  cases d <;> first | exact h | cases hd
def inD (pol : Bool) : Op2 := fun d e k => match e with
  | .list ds => flatD d = true ∧ ds.all flatD = true ∧ k (.bool (if pol then ds.any fun x => PyData.eqv x d else !ds.any fun x => PyData.eqv x d))
  | .tuple ds => flatD d = true ∧ ds.all flatD = true ∧ k (.bool (if pol then ds.any fun x => PyData.eqv x d else !ds.any fun x => PyData.eqv x d))
  | .str z => match d with
    | .str x => x.cps.size = 1 ∧ k (.bool (if pol then decide (x.cps.getD 0 0 ∈ z.cps.toList) else !decide (x.cps.getD 0 0 ∈ z.cps.toList)))
    | _ => False
  | _ => False
def rInA (K : PySem.W.Frag) (neg : Bool) : R2 := fun x y H Q => rIn K neg x y H Q ∨ ∃ c z, x = .str ⟨#[c]⟩ ∧ y = .str z ∧ Q (.bl (if neg then !decide (c ∈ z.cps.toList) else decide (c ∈ z.cps.toList))) H
theorem one_sign {x : Str} (h : x.cps.size = 1) : x = ⟨#[x.cps.getD 0 0]⟩ := by
  obtain ⟨c⟩ := x
  obtain ⟨l⟩ := c
  match l, h with
  | [a], _ => rfl
theorem ok_in (neg : Bool) : OpOk X (rInA X.K neg) (inD !neg) := fun F H x y d e q Q s v1 v2 w k => by
  cases e with
  | list ds =>
    obtain ⟨fd, fa, w⟩ := w
    obtain ⟨a, xs, e1, h1, r⟩ := v2
    subst e1
    have r1 := view_flat v1 fd
    refine .inl ⟨a, xs, rfl, .inl h1, flat_rep fd r1, flat_all r fa, ?_⟩
    rw [flat_any fd r1 r fa]
    refine k _ _ _ _ w (Gr.refl s) ?_
    cases neg <;> exact .bl _
  | tuple ds =>
    obtain ⟨fd, fa, w⟩ := w
    obtain ⟨a, xs, e1, h1, r, _⟩ := view_tup s v2
    subst e1
    have r1 := view_flat v1 fd
    refine .inl ⟨a, xs, rfl, .inr h1, flat_rep fd r1, flat_all r fa, ?_⟩
    rw [flat_any fd r1 r fa]
    refine k _ _ _ _ w (Gr.refl s) ?_
    cases neg <;> exact .bl _
  | str z =>
    cases d with
    | str x =>
      rw [view_str v1, view_str v2]
      refine .inr ⟨x.cps.getD 0 0, z, congrArg V.str (one_sign w.1), rfl, k _ _ _ _ w.2 (Gr.refl s) ?_⟩
      cases neg <;> exact .bl _
    | _ => exact w.elim
  | _ => exact w.elim
end
end Dv

set_option Elab.async false
set_option linter.all false
set_option maxRecDepth 100000
set_option autoImplicit false
namespace Dv
open PySem PySem.Spec L2
section
variable {X : Cx} {C : FC} {P : List Bool} {a b c e : Expr} {es : List Expr} {pos p : Pos} {ta tb tc : DE} {k : Nat}
theorem op_inA : OpR X (compareOp .In) (rInA X.K false) := op_in_seq.or op_in_sign
theorem op_notInA : OpR X (compareOp .NotIn) (rInA X.K true) := op_notIn_seq.or op_notIn_sign
theorem q_in (ha : QE X C a ta) (hb : QE X C b tb) (hm : behindInMarks .In b = false := by rfl) : QE X C (.Compare a [.In] [b] pos) (dBin (inD true) ta tb) := q_cmp op_inA (ok_in false) ha hb hm
theorem q_notin (ha : QE X C a ta) (hb : QE X C b tb) (hm : behindInMarks .NotIn b = false := by rfl) : QE X C (.Compare a [.NotIn] [b] pos) (dBin (inD false) ta tb) := q_cmp op_notInA (ok_in true) ha hb hm
theorem t_in (ha : QE X C a ta) (hb : QE X C b tb) (hm : behindInMarks .In b = false := by rfl) : QT X C (.Compare a [.In] [b] pos) (dTest (dBin (inD true) ta tb)) := t_cmp op_inA (ok_in false) ha hb hm
theorem t_notin (ha : QE X C a ta) (hb : QE X C b tb) (hm : behindInMarks .NotIn b = false := by rfl) : QT X C (.Compare a [.NotIn] [b] pos) (dTest (dBin (inD false) ta tb)) := t_cmp op_notInA (ok_in true) ha hb hm
/-! ### chains -/
theorem lE_chain {r r' : R2} {f g : Op2} (ok : OpOk X r f) (ok' : OpOk X r' g) {σ : L2.St} {H : Hp} {Q : VK} (h : lE X.K C (dChain f g ta tb tc) σ H Q) : tChain r r' (lE X.K C ta) (lE X.K C tb) (lE X.K C tc) σ H Q := by
    obtain ⟨F, ρ, q, S, ht, k⟩ := h
    refine ⟨F, ρ, _, S, ht, fun o1 ρ1 F1 H1 x h1 S1 s1 d1 => ?_⟩
    refine ⟨F1, ρ1, _, S1, h1, fun o2 ρ2 F2 H2 y h2 S2 s2 d2 => ?_⟩
    obtain ⟨d, v1, w1⟩ := S2.see (d1.mono s2) h2
    obtain ⟨e, v2, w2⟩ := S2.see d2 w1
    refine ok F2 H2 x y d e _ _ S2.sub v1 v2 w2 fun z F3 H3 zv hz gr rz => ?_
    have S3 := S2.grow gr
    cases z with
    | bool bz =>
      cases rz
      refine ⟨bz, rfl, ?_⟩
      cases bz with
      | true =>
        refine ⟨F3, ρ2, _, S3, hz, fun o3 ρ3 F4 H4 w h4 S4 s4 d4 => ?_⟩
        obtain ⟨e', v3, w3⟩ := S4.see (d2.mono (gr.f.trans s4)) h4
        obtain ⟨d3, v4, w4⟩ := S4.see d4 w3
        exact ok' F4 H4 y w e' d3 _ Q S4.sub v3 v4 w4 (kont_of (ρ1 := ρ1) (F1 := F1) (H1 := H1) S4 (((s1.trans s2).trans gr.f).trans s4) k)
      | false => exact k _ _ _ _ _ hz S3 ((s1.trans s2).trans gr.f) (.bl false)
    | _ => exact hz.elim
theorem q_chn {op op' : CmpOp} {r r' : R2} {f g : Op2} (ho : OpR X (compareOp op) r) (ok : OpOk X r f) (ho' : OpR X (compareOp op') r') (ok' : OpOk X r' g) (ha : QE X C a ta) (hb : QE X C b tb) (hc : QE X C c tc)
    (hm : lastMarks [op, op'] [b, c] = false := by with_unfolding_all rfl) : QE X C (.Compare a [op, op'] [b, c] pos) (dChain f g ta tb tc) := QE.of (pe_chain ho ho' ha.pe hb.pe hc.pe hm) fun _ _ _ h => lE_chain ok ok' h
theorem t_chn {op op' : CmpOp} {r r' : R2} {f g : Op2} (ho : OpR X (compareOp op) r) (ok : OpOk X r f) (ho' : OpR X (compareOp op') r') (ok' : OpOk X r' g) (ha : QE X C a ta) (hb : QE X C b tb) (hc : QE X C c tc)
    (hm : lastMarks [op, op'] [b, c] = false := by with_unfolding_all rfl) : QT X C (.Compare a [op, op'] [b, c] pos) (dTest (dChain f g ta tb tc)) := QT.of (pt_chain ho ho' ha.pe hb.pe hc.pe hm) fun σ H Q h => by
  obtain ⟨F, ρ, q, S, ht, kk⟩ := lT_test h
  exact lE_chain ok ok' ⟨F, ρ, q, S, ht, kk⟩
theorem q_lele (ha : QE X C a ta) (hb : QE X C b tb) (hc : QE X C c tc) : QE X C (.Compare a [.LtE, .LtE] [b, c] pos) (dChain leD leD ta tb tc) := q_chn op_leA ok_ord op_leA ok_ord ha hb hc (nomark c)
theorem t_lele (ha : QE X C a ta) (hb : QE X C b tb) (hc : QE X C c tc) : QT X C (.Compare a [.LtE, .LtE] [b, c] pos) (dTest (dChain leD leD ta tb tc)) := t_chn op_leA ok_ord op_leA ok_ord ha hb hc (nomark c)
theorem q_lelt (ha : QE X C a ta) (hb : QE X C b tb) (hc : QE X C c tc) : QE X C (.Compare a [.LtE, .Lt] [b, c] pos) (dChain leD ltD ta tb tc) := q_chn op_leA ok_ord op_ltA ok_ord ha hb hc (nomark c)
theorem t_lelt (ha : QE X C a ta) (hb : QE X C b tb) (hc : QE X C c tc) : QT X C (.Compare a [.LtE, .Lt] [b, c] pos) (dTest (dChain leD ltD ta tb tc)) := t_chn op_leA ok_ord op_ltA ok_ord ha hb hc (nomark c)
/-! ### subscripts -/
def keyD : PyData → Option Key
  | .int i => some (.inl i)
  | .str x => some (.inr x)
  | _ => none
/-- what a dict has under a key -/
def lookD (kvs : List (PyData × PyData)) (k : Key) : Option PyData := (kvs.find? fun p => decide (keyD p.1 = some k)).map (·.2)
def ixD : Op2 := fun d e k => match d, e with
  | .list ds, .int i => match atI ds i with
    | some x => k x
    | none => False
  | .tuple ds, .int i => match atI ds i with
    | some x => k x
    | none => False
  | .str z, .int i => z.length ≤ big ∧ match atI z.cps.toList i with
    | some c => k (.str ⟨#[c]⟩)
    | none => False
  | .dict kvs, e => match keyD e with
    | some q => match lookD kvs q with
      | some x => k x
      | none => False
    | none => False
  | _, _ => False
def rIxA (K : PySem.W.Frag) : R2 := fun x y H Q => rIx K x y H Q ∨ ∃ a v, x = .ref a ∧ DGet H a y (some v) ∧ Q v H
theorem ix_dict (hu : X.A.units + 1 < cLine) : IxR X (fun x y H Q => ∃ a v, x = .ref a ∧ DGet H a y (some v) ∧ Q v H) := by
  intro value slice pins s σ H x y v u Q I rx ry h hs
  obtain ⟨a, z, rfl, g, q⟩ := h
  cases rx
  exact PyProof.Rows.tail_any (dict_typeIs I g) PySem.F.slot_dict_getitem.lookup (d_getItem hu I g ry fun w' s3 I3 rw' => ⟨z, H, I3, rw', q⟩) hs
theorem ix_all (hu : X.A.units + 1 < cLine) : IxR X (rIxA X.K) := ix_seq.or (ix_dict hu)
theorem RepAll.atI {K : PySem.W.Frag} {F : Hp} {xs : List V} {ds : List PyData} {i : Int} {d : PyData} (r : RepAll K F xs ds) (h : L2.atI ds i = some d) : ∃ v, L2.atI xs i = some v ∧ Rep K F v d := by
  unfold L2.atI at h ⊢
  rw [r.length]
  cases q : ixN ds.length i with
  | none => rw [q] at h; cases h
  | some j => rw [q] at h; exact r.get h
theorem kD_keyD : ∀ k : Key, keyD (kD k) = some k
  | .inl _ => rfl
  | .inr _ => rfl
theorem kD_of {d : PyData} {k : Key} (h : keyD d = some k) : d = kD k := by
  cases d <;> simp [keyD] at h <;> subst h <;> rfl
theorem kV_kD {K : PySem.W.Frag} {F : Hp} : ∀ k : Key, Rep K F (kV k) (kD k)
  | .inl i => .int i
  | .inr x => .str x
theorem key_view {K : PySem.W.Frag} {F H : Hp} {v : V} {d : PyData} {k : Key} (w : View K F H v d) (h : keyD d = some k) : v = kV k := by
  have := kD_of h
  subst this
  cases k with
  | inl i => exact view_int w
  | inr x => exact view_str w
theorem RepKV.look {K : PySem.W.Frag} {F : Hp} {k : Key} : ∀ {kvs : List (Key × V)} {ds : List (PyData × PyData)}, RepKV K F kvs ds → match lookD ds k with
    | some d => ∃ v, valV kvs k = some v ∧ Rep K F v d
    | none => valV kvs k = none
  | _, _, .nil => rfl
  | _, _, .cons (k := k') (v := v) (vs := vs) (d := d) (ds := ds) r t => by
    have ih := RepKV.look (k := k) t
    by_cases e : k' = k
    · subst e
      have : lookD ((kD k', d) :: ds) k' = some d := by simp [lookD, List.find?_cons, kD_keyD]
      rw [this]
      exact ⟨v, valV_pos rfl, r⟩
    · have : lookD ((kD k', d) :: ds) k = lookD ds k := by
        have ne : ¬ (some k' = some k) := fun z => e (Option.some.inj z)
        simp [lookD, List.find?_cons, kD_keyD, ne, e]
      rw [this, valV_neg (p := (k', v)) e]
      exact ih
theorem ok_ix : OpOk X (rIxA X.K) ixD := fun F H x y d e q Q s v1 v2 w k => by
  cases d with
  | list ds =>
    cases e with
    | int i =>
      rw [view_int v2]
      obtain ⟨a, xs, e1, h1, r⟩ := v1
      subst e1
      have w : (match atI ds i with | some x => q x | none => False) := w
      cases z : atI ds i with
      | none => rw [z] at w; exact w.elim
      | some x =>
        rw [z] at w
        obtain ⟨v, hv, rv⟩ := r.atI z
        exact .inl (.inl ⟨a, xs, i, v, rfl, rfl, h1, hv, k _ _ _ _ w (Gr.refl s) rv⟩)
    | _ => exact w.elim
  | tuple ds =>
    cases e with
    | int i =>
      rw [view_int v2]
      obtain ⟨a, xs, e1, h1, r, _⟩ := view_tup s v1
      subst e1
      have w : (match atI ds i with | some x => q x | none => False) := w
      cases z : atI ds i with
      | none => rw [z] at w; exact w.elim
      | some x =>
        rw [z] at w
        obtain ⟨v, hv, rv⟩ := r.atI z
        exact .inl (.inr (.inl ⟨a, xs, i, v, rfl, rfl, h1, hv, k _ _ _ _ w (Gr.refl s) rv⟩))
    | _ => exact w.elim
  | str z =>
    cases e with
    | int i =>
      rw [view_int v2, view_str v1]
      obtain ⟨wl, w⟩ := w
      cases zz : atI z.cps.toList i with
      | none => rw [zz] at w; exact w.elim
      | some x =>
        rw [zz] at w
        exact .inl (.inr (.inr ⟨z, i, x, rfl, rfl, le_line wl, zz, k _ _ _ _ w (Gr.refl s) (.str _)⟩))
    | _ => exact w.elim
  | dict kvs =>
    have w : (match keyD e with
      | some q' => match lookD kvs q' with
        | some x => q x
        | none => False
      | none => False) := by cases e <;> exact w
    cases ke : keyD e with
    | none => rw [ke] at w; exact w.elim
    | some key =>
      rw [ke] at w
      obtain ⟨a, ks, e1, h1, r⟩ := v1
      subst e1
      have lk := RepKV.look (k := key) r
      dsimp only at w
      cases z : lookD kvs key with
      | none => rw [z] at w; exact w.elim
      | some x =>
        rw [z] at w lk
        obtain ⟨v, hv, rv⟩ := lk
        rw [key_view v2 ke]
        refine .inr ⟨a, v, rfl, ?_, k _ _ _ _ w (Gr.refl s) rv⟩
        rw [← hv]
        exact DGet.k h1
  | _ => exact w.elim
theorem q_idx (hr : Room k X.A) (ha : QE X C a ta) (hb : QE X C b tb) (hs : PlainIx b := by exact fun _ _ => rfl) : QE X C (.Subscript a b pos) (dBin ixD ta tb) := q_ix (ix_all (hu_of hr)) ok_ix ha hb hs
/-! ### slices -/
def cutD (xs : List PyData) (lo hi : Option Int) : List PyData := (xs.drop (HT.sIx xs.length 0 lo)).take (HT.sIx xs.length xs.length hi - HT.sIx xs.length 0 lo)
theorem RepAll.cut {K : PySem.W.Frag} {F : Hp} {xs : List V} {ds : List PyData} (r : RepAll K F xs ds) (lo hi : Option Int) : RepAll K F (cutV xs lo hi) (cutD ds lo hi) := by
  unfold cutV cutD
  rw [r.length]
  exact (r.drop _).take _
abbrev DP := DEnv → (Option Int → DEnv → Prop) → Prop
def lP (K : PySem.W.Frag) (C : FC) (t : DP) : TO := fun σ H Q => ∃ F ρ q, Sim K C F H ρ σ ∧ t ρ q ∧ ∀ o ρ' F' H', q o ρ' → Sim K C F' H' ρ' σ → Same F F' → Q o H'
structure QP (X : Cx) (C : FC) (e : Option Expr) (t : DP) : Prop where
  po : PO X e (lP X.K C t)
def dNoP : DP := fun ρ Q => Q none ρ
def dPart (t : DE) : DP := fun ρ Q => t ρ fun o ρ1 => withO ρ1 o fun d => match d with
  | .int i => Q (some i) ρ1
  | _ => False
theorem p_none : QP X C none dNoP := ⟨⟨fun pins s σ H Q I ⟨F, ρ, q, S, ht, k⟩ => po_none.run pins s σ H Q I (k _ _ _ _ ht S (Same.refl F))⟩⟩
theorem p_some (h : QE X C e ta) : QP X C (some e) (dPart ta) := ⟨⟨fun pins s σ H Q I ⟨F, ρ, q, S, ht, k⟩ => (po_some h.pe).run pins s σ H Q I (by
  refine ⟨F, ρ, _, S, ht, fun o ρ1 F1 H1 v hq S1 s1 d1 => ?_⟩
  obtain ⟨d, vd, w⟩ := S1.see d1 hq
  cases d with
  | int i => rw [view_int vd]; exact ⟨i, rfl, k _ _ _ _ w S1 s1⟩
  | _ => exact w.elim)⟩⟩
/-- a slice of a tuple or a text -/
def dSl (t : DE) (lo hi : DP) : DE := fun ρ Q => t ρ fun o ρ1 => lo ρ1 fun l ρ2 => hi ρ2 fun h ρ3 => withO ρ3 o fun d => match d with
  | .tuple ds => Q (.val (.tuple (cutD ds l h))) ρ3
  | .str z => z.length ≤ big ∧ Q (.val (.str (cutS z l h))) ρ3
  | _ => False
def rSlTS (K : PySem.W.Frag) : V → Option Int → Option Int → Hp → VK → Prop := fun x lo hi H Q => rSlA K x lo hi H Q ∨ rSlS x lo hi H Q
theorem cut_whole {K : PySem.W.Frag} {F : Hp} {xs : List V} {ds : List PyData} {lo hi : Option Int} (r : RepAll K F xs ds) (h1 : HT.sIx xs.length 0 lo = 0) (h2 : HT.sIx xs.length xs.length hi = xs.length) : cutD ds lo hi = ds := by
  rw [r.length] at h1 h2
  unfold cutD
  rw [h1, h2]
  simp
theorem q_slice {lo hi : Option Expr} {tl th : DP} {p2 : Pos} (ha : QE X C a ta) (hl : QP X C lo tl) (hh : QP X C hi th) : QE X C (.Subscript a (.Slice lo hi none p2) pos) (dSl ta tl th) :=
  QE.of (pe_slice (SlR.or sl_tupA sl_str) ha.pe hl.po hh.po) fun σ H Q ⟨F, ρ, q, S, ht, k⟩ => by
    refine ⟨F, ρ, _, S, ht, fun o ρ1 F1 H1 v h1 S1 s1 d1 => ⟨F1, ρ1, _, S1, h1, fun l ρ2 F2 H2 h2 S2 s2 => ⟨F2, ρ2, _, S2, h2, fun u ρ3 F3 H3 h3 S3 s3 => ?_⟩⟩⟩
    have s03 := (s1.trans s2).trans s3
    obtain ⟨d, vd, w⟩ := S3.see (d1.mono (s2.trans s3)) h3
    cases d with
    | tuple ds =>
      obtain ⟨a, xs, e1, hq, r, rp⟩ := view_tup S3.sub vd
      subst e1
      refine .inl ⟨a, xs, rfl, hq, fun z => ?_, fun z p hp => ?_⟩
      · refine k _ _ _ _ _ w S3 s03 ?_
        show Rep X.K F3 (.ref a) (.tuple (cutD ds l u))
        rw [cut_whole r z.1 z.2]; exact rp
      · have g := Gr.new (o := .tup (cutV xs l u)) S3.sub hp
        exact k _ _ _ _ _ w (S3.grow g) (s03.trans g.f) (.tup (SqT.of upd_same) ((r.cut l u).mono g.f))
    | str z =>
      rw [view_str vd]
      exact .inr ⟨z, rfl, le_line w.1, k _ _ _ _ _ w.2 S3 s03 (.str _)⟩
    | _ => exact w.elim
/-- a slice of a list: a new list -/
def dSlL (t : DE) (lo hi : DP) : DO := fun ρ Q => t ρ fun o ρ1 => lo ρ1 fun l ρ2 => hi ρ2 fun h ρ3 => withO ρ3 o fun d => match d with
  | .list ds => Q (.list (cutD ds l h)) ρ3
  | _ => False
theorem o_slice {lo hi : Option Expr} {tl th : DP} {p2 : Pos} (ha : QE X C a ta) (hl : QP X C lo tl) (hh : QP X C hi th) : QO X C (.Subscript a (.Slice lo hi none p2) pos) (dSlL ta tl th) :=
  QO.of (pe_slice sl_list ha.pe hl.po hh.po) fun σ H Q ⟨F, ρ, q, S, ht, k⟩ => by
    refine ⟨F, ρ, _, S, ht, fun o ρ1 F1 H1 v h1 S1 s1 d1 => ⟨F1, ρ1, _, S1, h1, fun l ρ2 F2 H2 h2 S2 s2 => ⟨F2, ρ2, _, S2, h2, fun u ρ3 F3 H3 h3 S3 s3 => ?_⟩⟩⟩
    obtain ⟨d, vd, w⟩ := S3.see (d1.mono (s2.trans s3)) h3
    cases d with
    | list ds =>
      obtain ⟨a, xs, e1, hq, r⟩ := vd
      subst e1
      refine ⟨a, xs, rfl, hq, fun p hp => ?_⟩
      obtain ⟨S4, fr⟩ := S3.layL hp (r.cut l u)
      exact k _ _ _ _ _ w S4 ((s1.trans s2).trans s3) fr
    | _ => exact w.elim
end
end Dv

set_option Elab.async false
set_option linter.all false
set_option maxRecDepth 100000
set_option autoImplicit false
namespace Dv
open PySem PySem.Spec L2
section
variable {X : Cx} {C : FC} {P : List Bool} {a b c e : Expr} {es : List Expr} {pos p : Pos} {ta tb tc : DE} {k : Nat} {tA : DA}
/-- one argument -/
theorem va1 {K : PySem.W.Frag} {F H : Hp} {vs : List V} {d : PyData} (h : ViewAll K F H vs [d]) : ∃ v, vs = [v] ∧ View K F H v d := by
  cases h with
  | cons h1 h2 => cases h2; exact ⟨_, rfl, h1⟩
theorem va2 {K : PySem.W.Frag} {F H : Hp} {vs : List V} {d d2 : PyData} (h : ViewAll K F H vs [d, d2]) : ∃ v v2, vs = [v, v2] ∧ View K F H v d ∧ View K F H v2 d2 := by
  cases h with
  | cons h1 h2 =>
    cases h2 with
    | cons h3 h4 => cases h4; exact ⟨_, _, rfl, h1, h3⟩
/-! ### len -/
def lenD : OpN := fun ds k => match ds with
  | [.list xs] => k (.int xs.length)
  | [.tuple xs] => k (.int xs.length)
  | [.str x] => x.length ≤ big ∧ k (.int x.length)
  | [.dict xs] => k (.int xs.length)
  | _ => False
def rLenA (K : PySem.W.Frag) : List V → Hp → VK → Prop := fun xs H Q => (∃ p ys, xs = [.ref p] ∧ (SqL K H p ys ∨ SqT K H p ys) ∧ Q (.int ys.length) H) ∨ (∃ z, xs = [.str z] ∧ z.length ≤ sizeLine ∧ Q (.int z.length) H) ∨ ∃ d kvs, xs = [.ref d] ∧ H d = some (.dK kvs) ∧ Q (.int kvs.length) H
theorem call_lenDk : CallR X (.builtin "len") (fun xs H Q => ∃ d kvs, xs = [.ref d] ∧ H d = some (.dK kvs) ∧ Q (.int kvs.length) H) := by
  intro pins s σ H xs us Q I r h
  obtain ⟨d, kvs, rfl, hd, q⟩ := h
  obtain ⟨u, rfl, ru⟩ := vals1 r
  cases ru
  exact d_len I (.inl hd) fun t s' I' => ⟨.int kvs.length, H, I', ⟨t, rfl⟩, q⟩
theorem call_lenA : CallR X (.builtin "len") (rLenA X.K) := call_len_seq.or (call_len_str.or call_lenDk)
theorem RepKV.length {K : PySem.W.Frag} {F : Hp} : ∀ {vs : List (Key × V)} {ds : List (PyData × PyData)}, RepKV K F vs ds → vs.length = ds.length
  | _, _, .nil => rfl
  | _, _, .cons _ r => by simp [RepKV.length r]
theorem ok_len : CallOk X (rLenA X.K) lenD := fun F H vs ds q Q s v w k => by
  match ds, v, w with
  | [.list xs], v, w =>
    obtain ⟨v, e, a, ys, e2, h, r⟩ := va1 v
    subst e e2
    exact .inl ⟨a, ys, rfl, .inl h, by rw [r.length]; exact k _ _ _ _ w (Gr.refl s) (.int _)⟩
  | [.tuple xs], v, w =>
    obtain ⟨v, e, vv⟩ := va1 v
    obtain ⟨a, ys, e2, h, r, _⟩ := view_tup s vv
    subst e e2
    exact .inl ⟨a, ys, rfl, .inr h, by rw [r.length]; exact k _ _ _ _ w (Gr.refl s) (.int _)⟩
  | [.str x], v, w =>
    obtain ⟨v, e, vv⟩ := va1 v
    rw [view_str vv] at e
    subst e
    exact .inr (.inl ⟨x, rfl, le_line w.1, k _ _ _ _ w.2 (Gr.refl s) (.int _)⟩)
  | [.dict xs], v, w =>
    obtain ⟨v, e, a, ys, e2, h, r⟩ := va1 v
    subst e e2
    exact .inr (.inr ⟨a, ys, rfl, h, by rw [r.length]; exact k _ _ _ _ w (Gr.refl s) (.int _)⟩)
theorem q_len (hm : X.mg "len" = none) (ha : QA X C [a] tA) (hg : Gl X "len" := by rfl)
    (he : starEach [a] X.env = (false, eval a X.env) :: starEach [] X.env := by rfl) (hpl : (backTo pos (starEach [] X.env)).any (·.1) = false := by rfl) : QE X C (.Call (.Name "len" p) [a] [] pos) (dCB lenD tA) :=
  q_callB call_lenA ok_len hm PySem.boot_len ha hg (by decide) (by decide) he hpl
/-! ### of ints -/
def absD : OpN := fun ds k => match ds with
  | [.int i] => k (.int (if i < 0 then -i else i))
  | _ => False
theorem ok_abs : CallOk X (fun xs H Q => ∃ i, xs = [.int i] ∧ Q (.int (if i < 0 then -i else i)) H) absD := fun F H vs ds q Q s v w k => by
  match ds, v, w with
  | [.int i], v, w =>
    obtain ⟨v, e, vv⟩ := va1 v
    rw [view_int vv] at e
    subst e
    exact ⟨i, rfl, k _ _ _ _ w (Gr.refl s) (.int _)⟩
def max2D : OpN := fun ds k => match ds with
  | [.int i, .int j] => k (.int (if j > i then j else i))
  | _ => False
def min2D : OpN := fun ds k => match ds with
  | [.int i, .int j] => k (.int (if j < i then j else i))
  | _ => False
theorem ok_max2 : CallOk X (fun xs H Q => ∃ i j, xs = [.int i, .int j] ∧ Q (.int (if j > i then j else i)) H) max2D := fun F H vs ds q Q s v w k => by
  match ds, v, w with
  | [.int i, .int j], v, w =>
    obtain ⟨v, v2, e, vv, vv2⟩ := va2 v
    rw [view_int vv, view_int vv2] at e
    subst e
    exact ⟨i, j, rfl, k _ _ _ _ w (Gr.refl s) (.int _)⟩
theorem ok_min2 : CallOk X (fun xs H Q => ∃ i j, xs = [.int i, .int j] ∧ Q (.int (if j < i then j else i)) H) min2D := fun F H vs ds q Q s v w k => by
  match ds, v, w with
  | [.int i, .int j], v, w =>
    obtain ⟨v, v2, e, vv, vv2⟩ := va2 v
    rw [view_int vv, view_int vv2] at e
    subst e
    exact ⟨i, j, rfl, k _ _ _ _ w (Gr.refl s) (.int _)⟩
theorem q_abs (hm : X.mg "abs" = none) (ha : QA X C [a] tA) (hg : Gl X "abs" := by rfl)
    (he : starEach [a] X.env = (false, eval a X.env) :: starEach [] X.env := by rfl) (hpl : (backTo pos (starEach [] X.env)).any (·.1) = false := by rfl) : QE X C (.Call (.Name "abs" p) [a] [] pos) (dCB absD tA) :=
  q_callB call_abs ok_abs hm (by decide +kernel) ha hg (by decide) (by decide) he hpl
theorem q_max2 (hc : X.calm = true) (hm : X.mg "max" = none) (ha : QA X C [a, b] tA) (hg : Gl X "max" := by rfl)
    (he : starEach [a, b] X.env = (false, eval a X.env) :: starEach [b] X.env := by rfl) (hpl : (backTo pos (starEach [b] X.env)).any (·.1) = false := by rfl) : QE X C (.Call (.Name "max" p) [a, b] [] pos) (dCB max2D tA) :=
  q_callB (call_max2 hc) ok_max2 hm (by decide +kernel) ha hg (by decide) (by decide) he hpl
theorem q_min2 (hc : X.calm = true) (hm : X.mg "min" = none) (ha : QA X C [a, b] tA) (hg : Gl X "min" := by rfl)
    (he : starEach [a, b] X.env = (false, eval a X.env) :: starEach [b] X.env := by rfl) (hpl : (backTo pos (starEach [b] X.env)).any (·.1) = false := by rfl) : QE X C (.Call (.Name "min" p) [a, b] [] pos) (dCB min2D tA) :=
  q_callB (call_min2 hc) ok_min2 hm (by decide +kernel) ha hg (by decide) (by decide) he hpl
def intOfD : OpN := fun ds k => match ds with
  | [.int i] => k (.int i)
  | [.bool b] => k (.int (if b then 1 else 0))
  | _ => False
theorem ok_intOf : CallOk X (fun xs H Q => (∃ i, xs = [.int i] ∧ Q (.int i) H) ∨ ∃ k, xs = [.bl k] ∧ Q (.int (if k then 1 else 0)) H) intOfD := fun F H vs ds q Q s v w k => by
  match ds, v, w with
  | [.int i], v, w =>
    obtain ⟨v, e, vv⟩ := va1 v
    rw [view_int vv] at e
    subst e
    exact .inl ⟨i, rfl, k _ _ _ _ w (Gr.refl s) (.int _)⟩
  | [.bool i], v, w =>
    obtain ⟨v, e, vv⟩ := va1 v
    rw [view_bl vv] at e
    subst e
    exact .inr ⟨i, rfl, k _ _ _ _ w (Gr.refl s) (.int _)⟩
theorem q_intOf (hm : X.mg "int" = none) (ha : QA X C [a] tA) (hg : Gl X "int" := by rfl)
    (he : starEach [a] X.env = (false, eval a X.env) :: starEach [] X.env := by rfl) (hpl : (backTo pos (starEach [] X.env)).any (·.1) = false := by rfl) : QE X C (.Call (.Name "int" p) [a] [] pos) (dCB intOfD tA) :=
  q_callTy call_int1 ok_intOf hm (by decide +kernel) ha hg (by decide) (by decide) he hpl
/-! ### list(x), tuple(x) -/
def listD : OpNL := fun ds k => match ds with
  | [.list xs] => k xs
  | [.tuple xs] => k xs
  | _ => False
theorem ok_list : CallOkL X (fun xs H Q => ∃ p ys, xs = [.ref p] ∧ (SqL X.K H p ys ∨ SqT X.K H p ys) ∧ ∀ l, H l = none → Q (.ref l) (upd H l (.lst ys))) listD := fun F H vs ds q Q s v w k => by
  match ds, v, w with
  | [.list xs], v, w =>
    obtain ⟨v, e, a, ys, e2, h, r⟩ := va1 v
    subst e e2
    exact ⟨a, ys, rfl, .inl h, fun l hl => k _ _ l w hl r⟩
  | [.tuple xs], v, w =>
    obtain ⟨v, e, vv⟩ := va1 v
    obtain ⟨a, ys, e2, h, r, _⟩ := view_tup s vv
    subst e e2
    exact ⟨a, ys, rfl, .inr h, fun l hl => k _ _ l w hl r⟩
theorem o_list (hm : X.mg "list" = none) (ha : QA X C [a] tA) (hg : Gl X "list" := by rfl)
    (he : starEach [a] X.env = (false, eval a X.env) :: starEach [] X.env := by rfl) (hpl : (backTo pos (starEach [] X.env)).any (·.1) = false := by rfl) : QO X C (.Call (.Name "list" p) [a] [] pos) (dCBL listD tA) :=
  o_callTy call_list_of ok_list hm (by decide +kernel) ha hg (by decide) (by decide) he hpl
def tupleD : OpN := fun ds k => match ds with
  | [.list xs] => k (.tuple xs)
  | [.tuple xs] => k (.tuple xs)
  | _ => False
theorem ok_tuple : CallOk X (fun xs H Q => ∃ p ys, xs = [.ref p] ∧ ((SqL X.K H p ys ∧ ∀ l, H l = none → Q (.ref l) (upd H l (.tup ys))) ∨ (SqT X.K H p ys ∧ Q (.ref p) H))) tupleD := fun F H vs ds q Q s v w k => by
  match ds, v, w with
  | [.list xs], v, w =>
    obtain ⟨v, e, a, ys, e2, h, r⟩ := va1 v
    subst e e2
    refine ⟨a, ys, rfl, .inl ⟨h, fun l hl => ?_⟩⟩
    have g := Gr.new (o := .tup ys) s hl
    exact k _ _ _ _ w g (.tup (SqT.of upd_same) (r.mono g.f))
  | [.tuple xs], v, w =>
    obtain ⟨v, e, vv⟩ := va1 v
    obtain ⟨a, ys, e2, h, r, rp⟩ := view_tup s vv
    subst e e2
    exact ⟨a, ys, rfl, .inr ⟨h, k _ _ _ _ w (Gr.refl s) rp⟩⟩
theorem q_tuple (hm : X.mg "tuple" = none) (ha : QA X C [a] tA) (hg : Gl X "tuple" := by rfl)
    (he : starEach [a] X.env = (false, eval a X.env) :: starEach [] X.env := by rfl) (hpl : (backTo pos (starEach [] X.env)).any (·.1) = false := by rfl) : QE X C (.Call (.Name "tuple" p) [a] [] pos) (dCB tupleD tA) :=
  q_callTy call_tuple_of ok_tuple hm (by decide +kernel) ha hg (by decide) (by decide) he hpl
/-! ### all, any, sum -/
def boolsD : List PyData → Option (List Bool)
  | [] => some []
  | .bool b :: ds => (boolsD ds).map (b :: ·)
  | _ => none
theorem bools_map : ∀ {ds : List PyData} {bs : List Bool}, boolsD ds = some bs → ds = bs.map PyData.bool
  | [], bs, h => by simp [boolsD] at h; subst h; rfl
  | .bool b :: ds, bs, h => by
    simp only [boolsD, Option.map_eq_some_iff] at h
    obtain ⟨r, h1, h2⟩ := h
    subst h2
    rw [List.map_cons, ← bools_map h1]
  | .none :: _, _, h => by simp [boolsD] at h
  | .int _ :: _, _, h => by simp [boolsD] at h
  | .str _ :: _, _, h => by simp [boolsD] at h
  | .list _ :: _, _, h => by simp [boolsD] at h
  | .tuple _ :: _, _, h => by simp [boolsD] at h
  | .dict _ :: _, _, h => by simp [boolsD] at h
theorem boolsD_map (bs : List Bool) : boolsD (bs.map PyData.bool) = some bs := by
  induction bs with
  | nil => rfl
  | cons b bs ih => simp [boolsD, ih]
def allD : OpN := fun ds k => match ds with
  | [.list xs] => match boolsD xs with
    | some bs => k (.bool (bs.all id))
    | none => False
  | _ => False
def anyD : OpN := fun ds k => match ds with
  | [.list xs] => match boolsD xs with
    | some bs => k (.bool (bs.any id))
    | none => False
  | _ => False
theorem ok_all : CallOk X (rAll X.K) allD := fun F H vs ds q Q s v w k => by
  match ds, v, w with
  | [.list xs], v, w =>
    obtain ⟨v, e, a, ys, e2, h, r⟩ := va1 v
    subst e e2
    have w : (match boolsD xs with | some bs => q (.bool (bs.all id)) | none => False) := w
    cases z : boolsD xs with
    | none => rw [z] at w; exact w.elim
    | some bs =>
      rw [z] at w
      rw [bools_map z] at r
      have := r.bls
      subst this
      exact ⟨a, bs, rfl, h, k _ _ _ _ w (Gr.refl s) (.bl _)⟩
theorem ok_any : CallOk X (rAny X.K) anyD := fun F H vs ds q Q s v w k => by
  match ds, v, w with
  | [.list xs], v, w =>
    obtain ⟨v, e, a, ys, e2, h, r⟩ := va1 v
    subst e e2
    have w : (match boolsD xs with | some bs => q (.bool (bs.any id)) | none => False) := w
    cases z : boolsD xs with
    | none => rw [z] at w; exact w.elim
    | some bs =>
      rw [z] at w
      rw [bools_map z] at r
      have := r.bls
      subst this
      exact ⟨a, bs, rfl, h, k _ _ _ _ w (Gr.refl s) (.bl _)⟩
theorem q_all (hc : X.calm = true) (hm : X.mg "all" = none) (ha : QA X C [a] tA) (hg : Gl X "all" := by rfl)
    (he : starEach [a] X.env = (false, eval a X.env) :: starEach [] X.env := by rfl) (hpl : (backTo pos (starEach [] X.env)).any (·.1) = false := by rfl) : QE X C (.Call (.Name "all" p) [a] [] pos) (dCB allD tA) :=
  q_callB (cr_all hc) ok_all hm (by decide +kernel) ha hg (by decide) (by decide) he hpl
theorem q_any (hc : X.calm = true) (hm : X.mg "any" = none) (ha : QA X C [a] tA) (hg : Gl X "any" := by rfl)
    (he : starEach [a] X.env = (false, eval a X.env) :: starEach [] X.env := by rfl) (hpl : (backTo pos (starEach [] X.env)).any (·.1) = false := by rfl) : QE X C (.Call (.Name "any" p) [a] [] pos) (dCB anyD tA) :=
  q_callB (cr_any hc) ok_any hm (by decide +kernel) ha hg (by decide) (by decide) he hpl
/-! ### isinstance -/
def tyName : PyData → String
  | .none => "NoneType"
  | .bool _ => "bool"
  | .int _ => "int"
  | .str _ => "str"
  | .list _ => "list"
  | .tuple _ => "tuple"
  | .dict _ => "dict"
/-- isinstance over data -/
def isTyD (T : String) (d : PyData) : Bool := T == tyName d || (T == "int" && tyName d == "bool")
theorem kit_all {T : String} (hT : T ∈ ["str", "int", "bool", "list", "tuple", "dict"]) (d : PyData) : kitB (tyName d) T = some (isTyD T d) := by
  simp only [List.mem_cons, List.not_mem_nil, or_false] at hT
  rcases hT with h | h | h | h | h | h <;> subst h <;> cases d <;> first | decide +kernel | (simp only [tyName, isTyD]; decide +kernel)
theorem View.tyX {K : PySem.W.Frag} {F H : Hp} {v : V} {d : PyData} (s : Same F H) (w : View K F H v d) : TyX K H v (.type (tyName d)) := by
  cases d with
  | none => rw [view_non w]; exact .base .non
  | bool b => rw [view_bl w]; exact .base (.bl b)
  | int b => rw [view_int w]; exact .base (.int b)
  | str b => rw [view_str w]; exact .base (.str b)
  | list b =>
    obtain ⟨a, xs, e, h, _⟩ := w
    subst e
    rcases h with (h | ⟨o, h⟩) | ⟨o, its, n, h1, h2, _⟩
    · exact .base (.lst h)
    · exact .base (.frz h)
    · exact .kList h1 h2
  | dict b => obtain ⟨a, xs, e, h, _⟩ := w; subst e; exact .base (.dK h)
  | tuple b =>
    obtain ⟨a, xs, e, h, _⟩ := view_tup s w
    subst e
    rcases h with (h | ⟨o, h⟩) | ⟨o, its, n, h1, h2, _⟩
    · exact .base (.tup h)
    · exact .fTuple h
    · exact .kTuple h1 h2
def dIsi (T : String) (t : DE) : DE := fun ρ Q => t ρ fun o ρ1 => withO ρ1 o fun d => Q (.val (.bool (isTyD T d))) ρ1
theorem q_isi {x : Str} {T : String} {p2 : Pos} (hT : T ∈ ["str", "int", "bool", "list", "tuple", "dict"]) (hm : X.mg "isinstance" = none) (hm2 : X.mg x = none) (hv : bootBuiltins x = some (.type T)) (ha : QE X C a ta)
    (hg : Gl X "isinstance" := by rfl) (hg2 : Gl X x := by rfl) (hx : x ≠ "__name__" := by decide) (hdx : (x == ("__debug__" : Str)) = false := by decide)
    (hs : starEach [a, .Name x p2] X.env = (false, eval a X.env) :: starEach [.Name x p2] X.env := by rfl) (hs2 : starEach [.Name x p2] X.env = (false, eval (.Name x p2) X.env) :: starEach [] X.env := by rfl)
    (hpl : (backTo pos (starEach [.Name x p2] X.env)).any (·.1) = false := by rfl) : QE X C (.Call (.Name "isinstance" p) [a, .Name x p2] [] pos) (dIsi T ta) :=
  QE.of (pe_callB call_isi hg hm (by decide +kernel) (pa_cons ha.pe (pa_cons (pe_bltn (v := .ty T) hg2 hm2 hv rfl hx hdx) pa_nil hs2) hs) (by decide) (by decide) hs hpl) fun σ H Q ⟨F, ρ, q, S, ht, k⟩ => by
    refine ⟨F, ρ, _, S, ht, fun o ρ1 F1 H1 v hq S1 s1 d1 => ?_⟩
    obtain ⟨d, vd, w⟩ := S1.see d1 hq
    exact ⟨v, .ty T, _, .type T, _, rfl, .ty T, vd.tyX S1.sub, kit_ty (kit_all hT d), k _ _ _ _ _ w S1 s1 (.bl _)⟩
theorem View.grow {K : PySem.W.Frag} {F H F' H' : Hp} {v : V} {d : PyData} (w : View K F H v d) (g : Gr F H F' H') : View K F' H' v d := by
  cases d with
  | list b => obtain ⟨a, xs, e, h, r⟩ := w; exact ⟨a, xs, e, sqL_mono g.h h, r.mono g.f⟩
  | dict b => obtain ⟨a, xs, e, h, r⟩ := w; exact ⟨a, xs, e, g.h _ _ h, r.mono g.f⟩
  | _ => exact Rep.mono g.f w
/-- isinstance(x, (T, U)) -/
def dIsi2 (T U : String) (t : DE) : DE := fun ρ Q => t ρ fun o ρ1 => withO ρ1 o fun d => Q (.val (.bool (isTyD T d || isTyD U d))) ρ1
theorem q_isi2 {x y : Str} {T U : String} {p2 p3 p4 : Pos} {kk : Nat} (hT : T ∈ ["str", "int", "bool", "list", "tuple", "dict"]) (hU : U ∈ ["str", "int", "bool", "list", "tuple", "dict"]) (hm : X.mg "isinstance" = none) (hm2 : X.mg x = none) (hv : bootBuiltins x = some (.type T)) (hm3 : X.mg y = none) (hv3 : bootBuiltins y = some (.type U)) (ha : QE X C a ta)
    (hg : Gl X "isinstance" := by rfl) (hg2 : Gl X x := by rfl) (hg3 : Gl X y := by rfl) (hx : x ≠ "__name__" := by decide) (hdx : (x == ("__debug__" : Str)) = false := by decide) (hy : y ≠ "__name__" := by decide) (hdy : (y == ("__debug__" : Str)) = false := by decide)
    (hs : starEach [a, .Tuple [.Name x p2, .Name y p3] kk p4] X.env = (false, eval a X.env) :: starEach [.Tuple [.Name x p2, .Name y p3] kk p4] X.env := by rfl) (hs2 : starEach [.Tuple [.Name x p2, .Name y p3] kk p4] X.env = (false, eval (.Tuple [.Name x p2, .Name y p3] kk p4) X.env) :: starEach [] X.env := by rfl)
    (hs3 : starEach [.Name x p2, .Name y p3] X.env = (false, eval (.Name x p2) X.env) :: starEach [.Name y p3] X.env := by rfl) (hs4 : starEach [.Name y p3] X.env = (false, eval (.Name y p3) X.env) :: starEach [] X.env := by rfl)
    (hpl : (backTo pos (starEach [.Tuple [.Name x p2, .Name y p3] kk p4] X.env)).any (·.1) = false := by rfl) : QE X C (.Call (.Name "isinstance" p) [a, .Tuple [.Name x p2, .Name y p3] kk p4] [] pos) (dIsi2 T U ta) :=
  QE.of (pe_callB call_isiT hg hm (by decide +kernel) (pa_cons ha.pe (pa_cons (pe_tup (pa_cons (pe_bltn (v := .ty T) hg2 hm2 hv rfl hx hdx) (pa_cons (pe_bltn (v := .ty U) hg3 hm3 hv3 rfl hy hdy) pa_nil hs4) hs3)) pa_nil hs2) hs) (by decide) (by decide) hs hpl) fun σ H Q ⟨F, ρ, q, S, ht, k⟩ => by
    refine ⟨F, ρ, _, S, ht, fun o ρ1 F1 H1 v hq S1 s1 d1 => ?_⟩
    obtain ⟨d, vd, w⟩ := S1.see d1 hq
    refine ⟨by show 2 ≤ sizeLine; decide, fun pp hp => ?_⟩
    have S2 := S1.grow (Gr.new (o := .tup [.ty T, .ty U]) S1.sub hp)
    have vd2 := vd.grow (Gr.new (o := .tup [.ty T, .ty U]) S1.sub hp)
    exact ⟨v, pp, _, _, [.type T, .type U], _, rfl, upd_same, .cons (.ty T) (.cons (.ty U) .nil), vd2.tyX S2.sub, kitAny_cons (kit_ty (kit_all hT d)) (fun e1 => kitAny_cons (kit_ty (kit_all hU d)) (fun e2 => by rw [e1, e2]; exact kitAny_nil) (fun e2 => by rw [e2, Bool.or_true])) (fun e1 => by rw [e1, Bool.true_or]), k _ _ _ _ _ w S2 (s1.trans (Gr.new (o := .tup [.ty T, .ty U]) S1.sub hp).f) (.bl _)⟩
end
end Dv

set_option Elab.async false
set_option linter.all false
set_option maxRecDepth 100000
set_option autoImplicit false
namespace Dv
open PySem PySem.Spec L2
section
variable {X : Cx} {C : FC} {P : List Bool} {a b c e o : Expr} {es : List Expr} {pos p apos cpos : Pos} {ta tb tc to : DE} {k i : Nat} {tA : DA} {x : Str}
/-! ### texts -/
def strsD : List PyData → Option (List Str)
  | [] => some []
  | .str b :: ds => (strsD ds).map (b :: ·)
  | _ => none
theorem strs_map : ∀ {ds : List PyData} {bs : List Str}, strsD ds = some bs → ds = bs.map PyData.str
  | [], bs, h => by simp [strsD] at h; subst h; rfl
  | .str b :: ds, bs, h => by
    simp only [strsD, Option.map_eq_some_iff] at h
    obtain ⟨r, h1, h2⟩ := h
    subst h2
    rw [List.map_cons, ← strs_map h1]
  | .none :: _, _, h => by simp [strsD] at h
  | .int _ :: _, _, h => by simp [strsD] at h
  | .bool _ :: _, _, h => by simp [strsD] at h
  | .list _ :: _, _, h => by simp [strsD] at h
  | .tuple _ :: _, _, h => by simp [strsD] at h
  | .dict _ :: _, _, h => by simp [strsD] at h
theorem strsD_map (bs : List Str) : strsD (bs.map PyData.str) = some bs := by
  induction bs with
  | nil => rfl
  | cons b bs ih => simp [strsD, ih]
def joinD : OpN := fun ds k => match ds with
  | [.str a, .list xs] => match strsD xs with
    | some ys => (ys.map (·.length)).sum + ys.length * a.length ≤ 16777216 ∧ k (.str (Txt.join a ys))
    | none => False
  | [.str a, .tuple xs] => match strsD xs with
    | some ys => (ys.map (·.length)).sum + ys.length * a.length ≤ 16777216 ∧ k (.str (Txt.join a ys))
    | none => False
  | _ => False
theorem ok_join : MtOk X (fun x xs H Q => ∃ a p, ∃ ys : List Str, x = .str a ∧ xs = [.ref p] ∧ (SqL X.K H p (ys.map V.str) ∨ SqT X.K H p (ys.map V.str)) ∧
    (ys.map (·.length)).sum + ys.length * a.length ≤ 16777216 ∧ Q (.str (Txt.join a ys)) H) joinD := fun F H v vs d ds q Q s w0 w1 w k => by
  cases d with
  | str a =>
    rw [view_str w0]
    cases w1 with
    | nil => exact w.elim
    | @cons v1 _ d1 _ hv hr =>
      cases hr with
      | cons _ _ => cases d1 <;> exact w.elim
      | nil =>
        cases d1 with
        | list xs =>
          obtain ⟨p, ys, e2, h, r⟩ := hv
          subst e2
          have w : (match strsD xs with | some ys => (ys.map (·.length)).sum + ys.length * a.length ≤ 16777216 ∧ q (.str (Txt.join a ys)) | none => False) := w
          cases z : strsD xs with
          | none => rw [z] at w; exact w.elim
          | some bs =>
            rw [z] at w
            rw [strs_map z] at r
            have := r.strs
            subst this
            exact ⟨a, p, bs, rfl, rfl, .inl h, w.1, k _ _ _ _ w.2 (Gr.refl s) (.str _)⟩
        | tuple xs =>
          obtain ⟨p, ys, e2, h, r, _⟩ := view_tup s hv
          subst e2
          have w : (match strsD xs with | some ys => (ys.map (·.length)).sum + ys.length * a.length ≤ 16777216 ∧ q (.str (Txt.join a ys)) | none => False) := w
          cases z : strsD xs with
          | none => rw [z] at w; exact w.elim
          | some bs =>
            rw [z] at w
            rw [strs_map z] at r
            have := r.strs
            subst this
            exact ⟨a, p, bs, rfl, rfl, .inr h, w.1, k _ _ _ _ w.2 (Gr.refl s) (.str _)⟩
        | _ => exact w.elim
  | _ => exact w.elim
def upperD : OpN := fun ds k => match ds with
  | [.str a] => a.length ≤ 5592405 ∧ k (.str (Txt.upper a))
  | _ => False
theorem ok_upper : MtOk X (fun x xs H Q => ∃ a, x = .str a ∧ xs = [] ∧ a.length ≤ 5592405 ∧ Q (.str (Txt.upper a)) H) upperD := fun F H v vs d ds q Q s w0 w1 w k => by
  cases d with
  | str a =>
    rw [view_str w0]
    cases w1 with
    | nil => exact ⟨a, rfl, rfl, w.1, k _ _ _ _ w.2 (Gr.refl s) (.str _)⟩
    | cons _ _ => exact w.elim
  | _ => exact w.elim
theorem q_join (ho : QE X C o to) (ha : QA X C [e] tA) (hbase : attributeBase o "join" X.env (eval o X.env) = eval o X.env := by rfl)
    (hfew : ((backTo cpos (starEach [e] X.env)).all (fun x => !x.1) && (backToKw cpos (keywordEach [] X.env)).all (fun x => x.1.isSome)
      && decide ([e].length + ([] : List Keyword).length + (if ([] : List Keyword).isEmpty then 0 else 1) < 30)) = true := by rfl)
    (hline : (apos.endLine == cpos.line) = true := by rfl) (hs : starEach [e] X.env = (false, eval e X.env) :: starEach [] X.env := by rfl) (hplain : (backTo cpos (starEach [] X.env)).any (·.1) = false := by rfl) :
    QE X C (.Call (.Attribute o "join" apos) [e] [] cpos) (dBM "str" joinD to tA) :=
  m_look PySem.F.plainAttrs_str PySem.F.slot_str_join PySem.F.type_str_join mt_join ok_join ho ha hbase hfew hline hs hplain
theorem q_upper (ho : QE X C o to) (hbase : attributeBase o "upper" X.env (eval o X.env) = eval o X.env := by rfl) (hline : (apos.endLine == cpos.line) = true := by rfl) :
    QE X C (.Call (.Attribute o "upper" apos) [] [] cpos) (dBM0 "str" upperD to) :=
  m_look0 PySem.F.plainAttrs_str PySem.F.slot_str_upper PySem.F.type_str_upper mt_upper ok_upper ho hbase hline
/-! ### lists that turn -/
theorem ra1 {K : PySem.W.Frag} {F : Hp} {vs : List V} {d : PyData} (h : RepAll K F vs [d]) : ∃ v, vs = [v] ∧ Rep K F v d := by
  cases h with
  | cons h1 h2 => cases h2; exact ⟨_, rfl, h1⟩
theorem ra2 {K : PySem.W.Frag} {F : Hp} {vs : List V} {d d2 : PyData} (h : RepAll K F vs [d, d2]) : ∃ v v2, vs = [v, v2] ∧ Rep K F v d ∧ Rep K F v2 d2 := by
  cases h with
  | cons h1 h2 =>
    cases h2 with
    | cons h3 h4 => cases h4; exact ⟨_, _, rfl, h1, h3⟩
def appendD : OpM := fun d ds k => match d, ds with
  | .list xs, [y] => xs.length < big ∧ k (.list (xs ++ [y])) .none
  | _, _ => False
theorem ok_append : MutOk X rAppend appendD := fun F H a vs d ds q Q s hF hO r w k => by
  match d, ds, hO, r, w with
  | .list xs, [y], hO, r, w =>
    obtain ⟨us, e, ru⟩ := hO
    obtain ⟨v, e1, rv⟩ := ra1 r
    subst e1
    exact ⟨a, us, v, rfl, rfl, e, by rw [ru.length]; exact lt_line w.1, k _ _ _ _ w.2 ⟨_, upd_same, ru.append (.cons rv .nil)⟩ .non⟩
def rExtendR (K : PySem.W.Frag) : V → List V → Hp → VK → Prop := fun x vs H Q => ∃ l b xs zs, x = .ref l ∧ vs = [.ref b] ∧ H l = some (.lst xs) ∧ SqL K H b zs ∧ xs.length + zs.length ≤ sizeLine ∧ Q .non (upd H l (.lst (xs ++ zs)))
open PyProof.Rows in
theorem mt_extendR : MtR X "list.extend" (rExtendR X.K) := by
  intro pins s σ H x vs v us Q I rx rv h
  obtain ⟨l, b, xs, zs, rfl, rfl, hH, hB, hz, q⟩ := h
  cases rx
  obtain ⟨u, rfl, ru⟩ := Vals.one rv
  cases ru
  obtain ⟨z, its, n, r, hl, e⟩ := I.lstM hH
  obtain ⟨z2, its2, n2, dd2, sl2, r2, hl2, e2⟩ := Inv.lstR I hB
  have hsz : its.toArray.size + its2.toArray.size ≤ sizeLine := by rw [List.size_toArray, List.size_toArray]; omega
  have hlong : ¬ (!its.toArray.isEmpty && Builtin.List.listTooLong (its.toArray.size + its2.toArray.size)) = true := by
    rw [notLongL hsz, Bool.and_false]
    exact Bool.false_ne_true
  refine call_meets F.slot_list_extend ⟨_, e, rfl⟩ F.entry_list_extend (F.args_list_extend_2 _ _)
    (list_extendW l its.toArray n b its2.toArray n2 dd2 sl2 hlong (by rw [List.size_toArray]; omega) (by omega)) ⟨e, e2, ?_⟩
  refine ⟨.non, _, I.lset (its' := its ++ its2) hH e (by simp) (r.append r2) ?_, rfl, q⟩
  rw [List.length_append]
  omega
def extendD : OpM := fun d ds k => match d, ds with
  | .list xs, [.list ys] => xs.length + ys.length ≤ big ∧ k (.list (xs ++ ys)) .none
  | _, _ => False
theorem ok_extend : MutOk X (rExtendR X.K) extendD := fun F H a vs d ds q Q s hF hO r w k => by
  match d, ds, hO, r, w with
  | .list xs, [.list ys], hO, r, w =>
    obtain ⟨us, e, ru⟩ := hO
    obtain ⟨v, e1, rv⟩ := ra1 r
    subst e1
    cases rv with
    | lst h1 h2 => exact ⟨a, _, us, _, rfl, rfl, e, sqL_mono s h1, by rw [ru.length, h2.length]; exact le_line w.1, k _ _ _ _ w.2 ⟨_, upd_same, ru.append h2⟩ .non⟩
def popD : OpM := fun d ds k => match d, ds with
  | .list xs, [] => match xs.getLast? with
    | some y => k (.list xs.dropLast) y
    | none => False
  | _, _ => False
theorem ok_pop : MutOk X rPop popD := fun F H a vs d ds q Q s hF hO r w k => by
  match d, ds, hO, r, w with
  | .list xs, [], hO, r, w =>
    obtain ⟨us, e, ru⟩ := hO
    cases r
    have w : (match xs.getLast? with | some y => q (.list xs.dropLast) y | none => False) := w
    cases z : xs.getLast? with
    | none => rw [z] at w; exact w.elim
    | some y =>
      rw [z] at w
      rw [List.getLast?_eq_getElem?] at z
      obtain ⟨v, hv, rv⟩ := ru.get z
      exact ⟨a, us, v, rfl, rfl, e, by rw [ru.length]; exact hv, k _ _ _ _ w ⟨_, upd_same, ru.dropLast⟩ rv⟩
def reverseD : OpM := fun d ds k => match d, ds with
  | .list xs, [] => k (.list xs.reverse) .none
  | _, _ => False
theorem ok_reverse : MutOk X rReverse reverseD := fun F H a vs d ds q Q s hF hO r w k => by
  match d, ds, hO, r, w with
  | .list xs, [], hO, r, w =>
    obtain ⟨us, e, ru⟩ := hO
    cases r
    exact ⟨a, us, rfl, rfl, e, k _ _ _ _ w ⟨_, upd_same, ru.reverse⟩ .non⟩
def insertD : OpM := fun d ds k => match d, ds with
  | .list xs, [.int i, y] => xs.length < big ∧ 0 ≤ i ∧ i < 2 ^ 63 ∧ k (.list (xs.take i.toNat ++ [y] ++ xs.drop i.toNat)) .none
  | _, _ => False
theorem ok_insert : MutOk X (fun x vs H Q => ∃ (l : Addr) (xs : List V) (i : Int) (y : V), x = .ref l ∧ vs = [.int i, y] ∧ H l = some (.lst xs) ∧ xs.length < sizeLine ∧ 0 ≤ i ∧ i < 2 ^ 63 ∧
    Q .non (upd H l (.lst (xs.take i.toNat ++ [y] ++ xs.drop i.toNat)))) insertD := fun F H a vs d ds q Q s hF hO r w k => by
  match d, ds, hO, r, w with
  | .list xs, [.int i, y], hO, r, w =>
    obtain ⟨us, e, ru⟩ := hO
    obtain ⟨v, v2, e1, rv, rv2⟩ := ra2 r
    subst e1
    cases rv
    exact ⟨a, us, i, v2, rfl, rfl, e, by rw [ru.length]; exact lt_line w.1, w.2.1, w.2.2.1, k _ _ _ _ w.2.2.2 ⟨_, upd_same, ((ru.take _).append (.cons rv2 .nil)).append (ru.drop _)⟩ .non⟩
section
variable (hv : PE X (.Name x p) (tVar i))
theorem m_append (hP : C.Tags P) (ha : QA X C [e] tA) (hN : X.N[i]? = some x := by rfl) (hvis : Vis X.env.scope x := by first | exact Or.inl rfl | exact Or.inr (Or.inl rfl) | exact Or.inr (Or.inr rfl)) (hd : (x == ("__debug__" : Str)) = false := by decide) (hcd : (x == ("__classdict__" : Str)) = false := by decide)
    (hbase : attributeBase (.Name x p) "append" X.env (eval (.Name x p) X.env) = eval (.Name x p) X.env := by rfl)
    (hfew : ((backTo cpos (starEach [e] X.env)).all (fun x => !x.1) && (backToKw cpos (keywordEach [] X.env)).all (fun x => x.1.isSome)
      && decide ([e].length + ([] : List Keyword).length + (if ([] : List Keyword).isEmpty then 0 else 1) < 30)) = true := by rfl)
    (hline : (apos.endLine == cpos.line) = true := by rfl) (hs : starEach [e] X.env = (false, eval e X.env) :: starEach [] X.env := by rfl) (hplain : (backTo cpos (starEach [] X.env)).any (·.1) = false := by rfl) :
    QE X C (.Call (.Attribute (.Name x p) "append" apos) [e] [] cpos) (dMut P "list" i appendD tA) :=
  m_mut hP PySem.F.plainAttrs_list PySem.F.slot_list_append PySem.F.type_list_append mt_append ok_append ha (pe_var hN hvis hd hcd) hbase hfew hline hs hplain
theorem m_extend (hP : C.Tags P) (ha : QA X C [e] tA) (hN : X.N[i]? = some x := by rfl) (hvis : Vis X.env.scope x := by first | exact Or.inl rfl | exact Or.inr (Or.inl rfl) | exact Or.inr (Or.inr rfl)) (hd : (x == ("__debug__" : Str)) = false := by decide) (hcd : (x == ("__classdict__" : Str)) = false := by decide)
    (hbase : attributeBase (.Name x p) "extend" X.env (eval (.Name x p) X.env) = eval (.Name x p) X.env := by rfl)
    (hfew : ((backTo cpos (starEach [e] X.env)).all (fun x => !x.1) && (backToKw cpos (keywordEach [] X.env)).all (fun x => x.1.isSome)
      && decide ([e].length + ([] : List Keyword).length + (if ([] : List Keyword).isEmpty then 0 else 1) < 30)) = true := by rfl)
    (hline : (apos.endLine == cpos.line) = true := by rfl) (hs : starEach [e] X.env = (false, eval e X.env) :: starEach [] X.env := by rfl) (hplain : (backTo cpos (starEach [] X.env)).any (·.1) = false := by rfl) :
    QE X C (.Call (.Attribute (.Name x p) "extend" apos) [e] [] cpos) (dMut P "list" i extendD tA) :=
  m_mut hP PySem.F.plainAttrs_list PySem.F.slot_list_extend PySem.F.type_list_extend mt_extendR ok_extend ha (pe_var hN hvis hd hcd) hbase hfew hline hs hplain
theorem m_insert (hP : C.Tags P) (ha : QA X C [e, o] tA) (hN : X.N[i]? = some x := by rfl) (hvis : Vis X.env.scope x := by first | exact Or.inl rfl | exact Or.inr (Or.inl rfl) | exact Or.inr (Or.inr rfl)) (hd : (x == ("__debug__" : Str)) = false := by decide) (hcd : (x == ("__classdict__" : Str)) = false := by decide)
    (hbase : attributeBase (.Name x p) "insert" X.env (eval (.Name x p) X.env) = eval (.Name x p) X.env := by rfl)
    (hfew : ((backTo cpos (starEach [e, o] X.env)).all (fun x => !x.1) && (backToKw cpos (keywordEach [] X.env)).all (fun x => x.1.isSome)
      && decide ([e, o].length + ([] : List Keyword).length + (if ([] : List Keyword).isEmpty then 0 else 1) < 30)) = true := by rfl)
    (hline : (apos.endLine == cpos.line) = true := by rfl) (hs : starEach [e, o] X.env = (false, eval e X.env) :: starEach [o] X.env := by rfl) (hplain : (backTo cpos (starEach [o] X.env)).any (·.1) = false := by rfl) :
    QE X C (.Call (.Attribute (.Name x p) "insert" apos) [e, o] [] cpos) (dMut P "list" i insertD tA) :=
  m_mut hP PySem.F.plainAttrs_list PySem.F.slot_list_insert PySem.F.type_list_insert mt_insert ok_insert ha (pe_var hN hvis hd hcd) hbase hfew hline hs hplain
theorem m_pop (hN : X.N[i]? = some x := by rfl) (hvis : Vis X.env.scope x := by first | exact Or.inl rfl | exact Or.inr (Or.inl rfl) | exact Or.inr (Or.inr rfl)) (hd : (x == ("__debug__" : Str)) = false := by decide) (hcd : (x == ("__classdict__" : Str)) = false := by decide)
    (hbase : attributeBase (.Name x p) "pop" X.env (eval (.Name x p) X.env) = eval (.Name x p) X.env := by rfl) (hline : (apos.endLine == cpos.line) = true := by rfl) :
    QE X C (.Call (.Attribute (.Name x p) "pop" apos) [] [] cpos) (dMut0 "list" i popD) :=
  m_mut0 PySem.F.plainAttrs_list PySem.F.slot_list_pop PySem.F.type_list_pop mt_pop ok_pop (pe_var hN hvis hd hcd) hbase hline
theorem m_reverse (hN : X.N[i]? = some x := by rfl) (hvis : Vis X.env.scope x := by first | exact Or.inl rfl | exact Or.inr (Or.inl rfl) | exact Or.inr (Or.inr rfl)) (hd : (x == ("__debug__" : Str)) = false := by decide) (hcd : (x == ("__classdict__" : Str)) = false := by decide)
    (hbase : attributeBase (.Name x p) "reverse" X.env (eval (.Name x p) X.env) = eval (.Name x p) X.env := by rfl) (hline : (apos.endLine == cpos.line) = true := by rfl) :
    QE X C (.Call (.Attribute (.Name x p) "reverse" apos) [] [] cpos) (dMut0 "list" i reverseD) :=
  m_mut0 PySem.F.plainAttrs_list PySem.F.slot_list_reverse PySem.F.type_list_reverse mt_reverse ok_reverse (pe_var hN hvis hd hcd) hbase hline
end
/-! ### o[i] = v -/
def putD (kvs : List (PyData × PyData)) (q : Key) (v : PyData) : List (PyData × PyData) :=
  if (kvs.any fun p => decide (keyD p.1 = some q)) then kvs.map (fun p => if keyD p.1 = some q then (p.1, v) else p) else kvs ++ [(kD q, v)]
theorem RepKV.any {K : PySem.W.Frag} {F : Hp} {q : Key} : ∀ {ks : List (Key × V)} {ds : List (PyData × PyData)}, RepKV K F ks ds → (ds.any fun p => decide (keyD p.1 = some q)) = ks.any fun kv => decide (kv.1 = q)
  | _, _, .nil => rfl
  | _, _, .cons (k := k') r t => by
    simp only [List.any_cons, kD_keyD]
    rw [RepKV.any t]
    congr 1
    by_cases e : k' = q
    · simp [e]
    · simp [e]
theorem RepKV.repl {K : PySem.W.Frag} {F : Hp} {q : Key} {v : V} {d : PyData} (rv : Rep K F v d) : ∀ {ks : List (Key × V)} {ds : List (PyData × PyData)}, RepKV K F ks ds → RepKV K F (ks.map fun kv => if kv.1 = q then (kv.1, v) else kv) (ds.map fun p => if keyD p.1 = some q then (p.1, d) else p)
  | _, _, .nil => .nil
  | _, _, .cons (k := k') (v := v') (d := d') r t => by
    rw [List.map_cons, List.map_cons]
    by_cases e : k' = q
    · rw [if_pos e, if_pos (by rw [kD_keyD, e])]
      exact .cons rv (RepKV.repl rv t)
    · rw [if_neg e, if_neg (by rw [kD_keyD]; exact fun z => e (Option.some.inj z))]
      exact .cons r (RepKV.repl rv t)
theorem RepKV.snoc {K : PySem.W.Frag} {F : Hp} {q : Key} {v : V} {d : PyData} (rv : Rep K F v d) : ∀ {ks : List (Key × V)} {ds : List (PyData × PyData)}, RepKV K F ks ds → RepKV K F (ks ++ [(q, v)]) (ds ++ [(kD q, d)])
  | _, _, .nil => .cons rv .nil
  | _, _, .cons r t => .cons r (RepKV.snoc rv t)
theorem RepKV.put {K : PySem.W.Frag} {F : Hp} {q : Key} {v : V} {d : PyData} {ks : List (Key × V)} {ds : List (PyData × PyData)} (r : RepKV K F ks ds) (rv : Rep K F v d) : RepKV K F (putK ks q v) (putD ds q d) := by
  unfold putK putD
  rw [r.any]
  split
  · exact r.repl rv
  · exact r.snoc rv
def setD : OpS := fun d di dv k => match d, di with
  | .list xs, .int i => match ixN xs.length i with
    | some j => k (.list (xs.set j dv))
    | none => False
  | .dict kvs, di => match keyD di with
    | some q => kvs.length < big ∧ k (.dict (putD kvs q dv))
    | none => False
  | _, _ => False
def rSetA : TSet := fun o i v H Q => rSetL o i v H Q ∨ ∃ a H', o = .ref a ∧ DPut H a i v H' ∧ Q H'
theorem set_all (hu : X.A.units + 1 < cLine) : PSet X rSetA := by
  intro pins s σ H o i v ov iv u Q I ro ri rv h
  rcases h with h | ⟨a, H', e, g, q⟩
  · exact set_list pins s σ H o i v ov iv u Q I ro ri rv h
  · subst e
    cases ro
    exact d_setItem hu I g ri rv fun s' I' => ⟨H', I', q⟩
theorem ok_set : SetOk X rSetA setD := fun F H a iv v d di dv q Q s hF hO vi rv w k => by
  cases d with
  | list xs =>
    cases di with
    | int i =>
      obtain ⟨us, e, ru⟩ := hO
      rw [view_int vi]
      have w : (match ixN xs.length i with | some j => q (.list (xs.set j dv)) | none => False) := w
      cases z : ixN xs.length i with
      | none => rw [z] at w; exact w.elim
      | some j =>
        rw [z] at w
        exact .inl ⟨a, us, i, j, rfl, rfl, e, by rw [ru.length]; exact z, k _ _ w ⟨_, upd_same, ru.set rv j⟩⟩
    | _ => exact w.elim
  | dict kvs =>
    have w : (match keyD di with | some q' => kvs.length < big ∧ q (.dict (putD kvs q' dv)) | none => False) := by cases di <;> exact w
    obtain ⟨us, e, ru⟩ := hO
    cases z : keyD di with
    | none => rw [z] at w; exact w.elim
    | some key =>
      rw [z] at w
      rw [key_view vi z]
      exact .inr ⟨a, _, rfl, DPut.k e (by rw [ru.length]; exact lt_line w.1), k _ _ w.2 ⟨_, upd_same, ru.put rv⟩⟩
  | _ => exact w.elim
theorem s_put {ix val : Expr} {ti tv : DE} {tpos : Pos} (hP : C.Tags P) (hr : Room k X.A) (hval : QE X C val tv) (hix : QE X C ix ti) (hN : X.N[i]? = some x := by rfl) (hvis : Vis X.env.scope x := by first | exact Or.inl rfl | exact Or.inr (Or.inl rfl) | exact Or.inr (Or.inr rfl)) (hd : (x == ("__debug__" : Str)) = false := by decide) (hcd : (x == ("__classdict__" : Str)) = false := by decide)
    (hasg : ∀ v, assign (.Subscript (.Name x p) ix tpos) X.env v = (do
      let ov ← holding [v] (eval (.Name x p) X.env)
      let iv ← holding [v, ov] (eval ix X.env)
      standAt tpos
      holding [v, ov, iv] (setItem ov iv v)
      release [v, ov, iv] []) := by intro _; rfl)
    (hs : swapsWithSole [.Subscript (.Name x p) ix tpos] val pos.line X.env = pure false := by rfl) (hw : swappedStores [.Subscript (.Name x p) ix tpos] val X.env = pure none := by rfl)
    (h1 : (assignEach [.Subscript (.Name x p) ix tpos] X.env).map (·.2) = [assign (.Subscript (.Name x p) ix tpos) X.env] := by rfl) : QS X C (.Assign [.Subscript (.Name x p) ix tpos] val pos) (dSetIx P i setD tv ti) :=
  s_setIx hP (set_all (hu_of hr)) ok_set hval hix (pe_var hN hvis hd hcd) hasg hs hw h1
/-! ### {} and {k: v, ..} -/
def dDict0 : DO := fun ρ Q => Q (.dict []) ρ
theorem o_dict0 : QO X C (.Dict [] [] pos) dDict0 := QO.of pe_dnewK fun σ H Q ⟨F, ρ, q, S, ht, k⟩ => fun p hp => by
  obtain ⟨S3, fr⟩ := S.layD hp (.nil)
  exact k _ _ _ _ _ ht S3 (Same.refl F) fr
end
end Dv

set_option Elab.async false
set_option linter.all false
set_option maxRecDepth 100000
set_option autoImplicit false
namespace Dv
open PySem PySem.Spec L2
section
variable {X : Cx} {C : FC} {P : List Bool} {a b c e o : Expr} {es : List Expr} {pos p apos cpos : Pos} {ta tb tc to : DE} {k i : Nat} {tA : DA} {x : Str}
/-! ### {k: v, ..} -/
structure QPs (X : Cx) (P : List Bool) (pos : Pos) (keys : List (Option Expr)) (values : List Expr) (ts : List (DE × DE)) : Prop where
  pps : PPs X pos keys values (ts.map fun t => (lE' X.K P t.1, lE' X.K P t.2))
theorem ps_nil' : QPs X P pos [] [] [] := ⟨pps_nil⟩
theorem ps_cons' {kx v : Expr} {ks : List (Option Expr)} {vs : List Expr} {tk tv : DE} {ts : List (DE × DE)} (hk : ∀ C : FC, C.Tags P → QE X C kx tk) (hv : ∀ C : FC, C.Tags P → QE X C v tv) (hr : QPs X P pos ks vs ts) : QPs X P pos (some kx :: ks) (v :: vs) ((tk, tv) :: ts) :=
  ⟨pps_cons (pe' hk) (pe' hv) hr.pps⟩
def dPairs (P : List Bool) : List (DE × DE) → DEnv → (List (Key × PyData) → DEnv → Prop) → Prop
  | [], ρ, Q => Q [] ρ
  | (tk, tv) :: r, ρ, Q => tk ρ fun o ρ1 => match o with
    | .val d => match keyD d with
      | some q => tv ρ1 fun ov ρ2 => share P ρ2 ov fun dv ρ3 => dPairs P r ρ3 fun ps ρ4 => Q ((q, dv) :: ps) ρ4
      | none => False
    | .slot _ => False
def mergeD (kvs : List (PyData × PyData)) (more : List (Key × PyData)) : List (PyData × PyData) := more.foldl (fun acc kv => putD acc kv.1 kv.2) kvs
def dDisp (P : List Bool) (ts : List (DE × DE)) : DO := fun ρ Q => dPairs P ts ρ fun ps ρ1 => ps.length ≤ 15 ∧ Q (.dict (mergeD [] ps)) ρ1
inductive RepPs (K : PySem.W.Frag) (F : Hp) : List (Key × V) → List (Key × PyData) → Prop
  | nil : RepPs K F [] []
  | cons {k : Key} {v : V} {vs : List (Key × V)} {d : PyData} {ds : List (Key × PyData)} : Rep K F v d → RepPs K F vs ds → RepPs K F ((k, v) :: vs) ((k, d) :: ds)
theorem RepPs.mono {K : PySem.W.Frag} {F F' : Hp} (e : Same F F') : ∀ {vs : List (Key × V)} {ds : List (Key × PyData)}, RepPs K F vs ds → RepPs K F' vs ds
  | _, _, .nil => .nil
  | _, _, .cons h r => .cons (h.mono e) (RepPs.mono e r)
theorem RepPs.length {K : PySem.W.Frag} {F : Hp} : ∀ {vs : List (Key × V)} {ds : List (Key × PyData)}, RepPs K F vs ds → vs.length = ds.length
  | _, _, .nil => rfl
  | _, _, .cons _ r => by simp [RepPs.length r]
theorem RepPs.merge {K : PySem.W.Frag} {F : Hp} : ∀ {vs : List (Key × V)} {ds : List (Key × PyData)} {ks : List (Key × V)} {es : List (PyData × PyData)}, RepPs K F vs ds → RepKV K F ks es → RepKV K F (mergeK ks vs) (mergeD es ds)
  | _, _, _, _, .nil, r => r
  | _, _, ks, es, .cons (k := k) (v := v) (vs := vs) (d := d) (ds := ds) h t, r => by
    show RepKV K F (mergeK (putK ks k v) vs) (mergeD (putD es k d) ds)
    exact RepPs.merge t (r.put h)
theorem pairs_low {D : Addr} {ob : HO} (hP : C.Tags P) (pnD : C.pn D = none) : ∀ {ts : List (DE × DE)} {F H : Hp} {ρ : DEnv} {σ : L2.St} {q : List (Key × PyData) → DEnv → Prop} {Q : List (V × V) → Hp → Prop}, Sim X.K (C.pin D ob) F H ρ σ → dPairs P ts ρ q →
    (∀ ps ρ' F' H' kvs, q ps ρ' → Sim X.K (C.pin D ob) F' H' ρ' σ → Same F F' → RepPs X.K F' kvs ps → Q (kvs.map fun kv => (kV kv.1, kv.2)) H') → tPairs (ts.map fun t => (lE' X.K P t.1, lE' X.K P t.2)) σ H Q
  | [], F, H, ρ, σ, q, Q, S, h, k => k [] ρ F H [] h S (Same.refl F) .nil
  | (tk, tv) :: r, F, H, ρ, σ, q, Q, S, h, k => by
    refine ⟨C.pin D ob, FC.pin_tags hP, F, ρ, _, S, h, fun o ρ1 F1 H1 x h1 S1 s1 d1 => ?_⟩
    cases o with
    | slot i => exact h1.elim
    | val d =>
      dsimp only at h1
      cases kd : keyD d with
      | none => rw [kd] at h1; exact h1.elim
      | some key =>
        rw [kd] at h1
        have ex : x = kV key := key_view (Rep.view S1.sub d1) kd
        subst ex
        refine ⟨C.pin D ob, FC.pin_tags hP, F1, ρ1, _, S1, h1, fun ov ρ2 F2 H2 y h2 S2 s2 d2 => ?_⟩
        obtain ⟨dv, ρ3, F3, h3, S3, s3, r3⟩ := S2.share (FC.pin_tags hP) d2 h2
        exact pairs_low hP pnD S3 h3 fun ps ρ' F' H' kvs hq S' s' rp => k ((key, dv) :: ps) ρ' F' H' ((key, y) :: kvs) hq S' (((s1.trans s2).trans s3).trans s') (.cons (r3.mono s') rp)
theorem o_disp {keys : List (Option Expr)} {values : List Expr} {ts : List (DE × DE)} (hP : C.Tags P) (h : QPs X P pos keys values ts) (hall : keys.all (·.isSome) = true := by rfl) (hl : keys.length = values.length := by rfl) (h0 : keys ≠ [] := by intro z; cases z) (h15 : keys.length ≤ 15 := by decide) :
    QO X C (.Dict keys values pos) (dDisp P ts) := QO.of (pe_disp h.pps hall hl h0 h15) fun σ H Q ⟨F, ρ, q, S, ht, k⟩ => fun D hD => by
  have pnD := S.pnone hD
  obtain ⟨S1, f1, h01, _, ne1⟩ := S.lay hD (o := .dK [])
  refine pairs_low hP pnD (S1.pinned upd_same f1 ne1) ht fun ps ρ' F' H' kvs ⟨hlen, hq⟩ S' s' rp => ?_
  obtain ⟨S2, hD2, fD2, oD2⟩ := Sim.unpinned pnD S'
  refine ⟨hD2, kvs, rfl, by rw [rp.length]; exact hlen, ?_⟩
  refine k _ ρ' F' _ D hq ?_ s' ⟨fD2, ⟨_, upd_same, rp.merge .nil⟩, h01, pnD, oD2⟩
  refine ⟨S2.len, fun b o e => ?_, S2.frz, fun j e' hj => ?_, S2.ne, S2.par, S2.f0, fun b o e hb => ?_, S2.new, fun b o e => ?_⟩
  · rw [upd_ne (ne_of_none e fD2)]; exact S2.sub b o e
  · obtain ⟨b, g1, g2, g3, g4⟩ := S2.own j e' hj
    have nb : b ≠ D := fun z => oD2 j e' hj (z ▸ g1)
    exact ⟨b, g1, g2, g3.mono (Same.refl _) fun o ho => by rw [upd_ne nb]; exact ho, g4⟩
  · have nb : b ≠ D := fun z => by rw [z, h01] at e; cases e
    rw [upd_ne nb]; exact S2.h0 b o e hb
  · obtain ⟨g1, g2, g3⟩ := S2.pin b o e
    have nb : b ≠ D := fun z => by rw [z, pnD] at e; cases e
    exact ⟨by rw [upd_ne nb]; exact g1, g2, g3⟩
/-! ### constants of the module -/
theorem q_gstr {v : Str} {t : Tok} (hm : X.mg x = some (.str v t)) (hg : Gl X x := by rfl) (hd : (x == ("__debug__" : Str)) = false := by decide) : QE X C (.Name x pos) (dC (.str v)) := q_const (pe_glob (v := .str v) hg hm ⟨_, rfl⟩ hd) fun _ => .str v
theorem q_gint {v : Int} {t : Tok} (hm : X.mg x = some (.int v t)) (hg : Gl X x := by rfl) (hd : (x == ("__debug__" : Str)) = false := by decide) : QE X C (.Name x pos) (dC (.int v)) := q_const (pe_glob (v := .int v) hg hm ⟨_, rfl⟩ hd) fun _ => .int v
/-! ### list(text), tuple(text) -/
def signsV (z : Str) : List V := z.cps.toList.map fun c => V.str ⟨#[c]⟩
theorem signs_rep {K : PySem.W.Frag} {F : Hp} (z : Str) : RepAll K F (signsV z) (signsD z) := by
  unfold signsV signsD
  induction z.cps.toList with
  | nil => exact .nil
  | cons c cs ih => exact .cons (.str _) ih
theorem signs_vals {z : Str} {acc : Array Value} (h : ItemsOf (SignAt z) acc z.cps.size) : Vals (signsV z) acc.toList := by
  obtain ⟨hs, hv⟩ := h
  refine vals_of_at (by simp [signsV, hs]) fun j x u h1 h2 => ?_
  have h3 : acc[j]? = some u := by simpa using h2
  obtain ⟨c, tk, e1, e2⟩ := hv j u h3
  have h4 : z.cps.toList[j]? = some c := by simpa using e1
  simp only [signsV, List.getElem?_map, h4, Option.map_some, Option.some.injEq] at h1
  subst h1 e2
  exact ⟨tk, rfl⟩
theorem call_list_strR (hc : X.calm = true) : CallR X (.type "list") (fun xs H Q => ∃ z, xs = [.str z] ∧ z.length ≤ sizeLine ∧ ∀ l, H l = none → Q (.ref l) (upd H l (.lst (signsV z)))) := by
  intro pins s σ H xs us Q I r h
  obtain ⟨z, rfl, hz, q⟩ := h
  obtain ⟨u, rfl, ru⟩ := vals1 r
  obtain ⟨t, rfl⟩ := ru
  refine PySem.call_list_str (I.ok.hd hc) z t (fun h' tk acc c' hk hS hacc => ?_) hz
  refine ⟨.ref _, _, I.laid (t' := tk) (o := .lst (signsV z)) hk (Nat.le_refl _) ⟨by simpa [signsV, Str.length] using hz, acc.toList, c', signs_vals hacc, by simpa using hS⟩, rfl, q _ (I.hok.fresh (Nat.le_refl _))⟩
theorem call_tuple_strR (hc : X.calm = true) : CallR X (.type "tuple") (fun xs H Q => ∃ z, xs = [.str z] ∧ z.length ≤ sizeLine ∧ ∀ l, H l = none → Q (.ref l) (upd H l (.tup (signsV z)))) := by
  intro pins s σ H xs us Q I r h
  obtain ⟨z, rfl, hz, q⟩ := h
  obtain ⟨u, rfl, ru⟩ := vals1 r
  obtain ⟨t, rfl⟩ := ru
  refine PySem.call_tuple_str (I.ok.hd hc) z t (fun h' tk acc hk hacc => ?_) hz
  have I1 : Inv X pins σ H { s with heap := h' } := I.kept (t' := s.toks) hk
  refine ⟨.ref h'.objs.size, _, I1.laid (t' := tk) (o := .tup (signsV z)) (fun b o e => Heap.get?_push_of_some _ e) (Nat.le_refl _) ⟨by simpa [signsV, Str.length] using hz, acc.toList, signs_vals hacc, by simpa using PyProof.Rows.IsTup.new h' acc⟩, rfl, q _ (I1.hok.fresh (Nat.le_refl _))⟩
def listSD : OpNL := fun ds k => match ds with
  | [.list xs] => k xs
  | [.tuple xs] => k xs
  | [.str z] => z.length ≤ big ∧ k (signsD z)
  | _ => False
theorem o_listS (hc : X.calm = true) (hm : X.mg "list" = none) (ha : QA X C [a] tA) (hg : Gl X "list" := by rfl)
    (he : starEach [a] X.env = (false, eval a X.env) :: starEach [] X.env := by rfl) (hpl : (backTo pos (starEach [] X.env)).any (·.1) = false := by rfl) : QO X C (.Call (.Name "list" p) [a] [] pos) (dCBL listSD tA) :=
  o_callTy (call_list_of.or (call_list_strR hc)) (fun F H vs ds q Q s v w k => by
    match ds, v, w with
    | [.list xs], v, w =>
      obtain ⟨v, e, a, ys, e2, h, r⟩ := va1 v
      subst e e2
      exact .inl ⟨a, ys, rfl, .inl h, fun l hl => k _ _ l w hl r⟩
    | [.tuple xs], v, w =>
      obtain ⟨v, e, vv⟩ := va1 v
      obtain ⟨a, ys, e2, h, r, _⟩ := view_tup s vv
      subst e e2
      exact .inl ⟨a, ys, rfl, .inr h, fun l hl => k _ _ l w hl r⟩
    | [.str z], v, w =>
      obtain ⟨v, e, vv⟩ := va1 v
      rw [view_str vv] at e
      subst e
      exact .inr ⟨z, rfl, le_line w.1, fun l hl => k _ _ l w.2 hl (signs_rep z)⟩) hm (by decide +kernel) ha hg (by decide) (by decide) he hpl
def tupleSD : OpN := fun ds k => match ds with
  | [.list xs] => k (.tuple xs)
  | [.tuple xs] => k (.tuple xs)
  | [.str z] => z.length ≤ big ∧ k (.tuple (signsD z))
  | _ => False
theorem q_tupleS (hc : X.calm = true) (hm : X.mg "tuple" = none) (ha : QA X C [a] tA) (hg : Gl X "tuple" := by rfl)
    (he : starEach [a] X.env = (false, eval a X.env) :: starEach [] X.env := by rfl) (hpl : (backTo pos (starEach [] X.env)).any (·.1) = false := by rfl) : QE X C (.Call (.Name "tuple" p) [a] [] pos) (dCB tupleSD tA) :=
  q_callTy (call_tuple_of.or (call_tuple_strR hc)) (fun F H vs ds q Q s v w k => by
    match ds, v, w with
    | [.list xs], v, w =>
      obtain ⟨v, e, a, ys, e2, h, r⟩ := va1 v
      subst e e2
      refine .inl ⟨a, ys, rfl, .inl ⟨h, fun l hl => ?_⟩⟩
      have g := Gr.new (o := .tup ys) s hl
      exact k _ _ _ _ w g (.tup (SqT.of upd_same) (r.mono g.f))
    | [.tuple xs], v, w =>
      obtain ⟨v, e, vv⟩ := va1 v
      obtain ⟨a, ys, e2, h, r, rp⟩ := view_tup s vv
      subst e e2
      exact .inl ⟨a, ys, rfl, .inr ⟨h, k _ _ _ _ w (Gr.refl s) rp⟩⟩
    | [.str z], v, w =>
      obtain ⟨v, e, vv⟩ := va1 v
      rw [view_str vv] at e
      subst e
      refine .inr ⟨z, rfl, le_line w.1, fun l hl => ?_⟩
      have g := Gr.new (o := .tup (signsV z)) s hl
      exact k _ _ _ _ w.2 g (.tup (SqT.of upd_same) (signs_rep z))) hm (by decide +kernel) ha hg (by decide) (by decide) he hpl
end
/-! ### a law -/
/-- what a law is asked -/
def lawSp (n : Nat) (B : List Int → Prop) : SpD := fun ds q => ∃ ns : List Int, ds = [.list (ns.map .int)] ∧ ns.length ≤ n ∧ B ns ∧ q (.frz (.bool true)) [none]
theorem law_sp {K : PySem.W.Frag} {H : Hp} {a : Addr} {ns : List Int} {n : Nat} {B : List Int → Prop} (hl : ns.length ≤ n) (hB : B ns) (hS : SqL K H a (ns.map V.int)) : spOf K [false] (lawSp n B) [.ref a] H (fun v _ => v = .bl true) fun _ _ _ => False := by
  refine ⟨H, [.list (ns.map .int)], fun r _ => r = .frz (.bool true), Same.refl H, ⟨rfl, rfl, fun i v d hv hd _ => ?_, fun i _ _ _ _ z => ?_, fun i _ _ z => ?_⟩, ⟨ns, rfl, hl, hB, rfl⟩, fun r outs F' H' v hq post => ?_⟩
  · cases i with
    | zero =>
      simp at hv hd
      subst hv hd
      exact .lst hS (repAll_ints ns)
    | succ i => simp at hv
  · cases i <;> simp at z
  · cases i <;> simp at z
  · subst hq
    have := post.res
    cases (show Rep K F' v (.bool true) from this)
    rfl
end Dv

set_option Elab.async false
set_option linter.all false
set_option maxRecDepth 100000
set_option autoImplicit false
namespace Dv
open PySem PySem.Spec L2
/-! ### + * and slices whatever they are, new lists frozen -/
section
variable {X : Cx} {C : FC} {P : List Bool} {a b c e o : Expr} {es : List Expr} {pos p p2 apos cpos : Pos} {ta tb tc to : DE} {k i : Nat} {tA : DA} {x : Str}
def addAD : Op2 := fun d e k => match d, e with
  | .int i, .int j => k (.int (i + j))
  | .str x, .str y => x.length + y.length ≤ big ∧ k (.str (x ++ y))
  | .tuple xs, .tuple ys => xs.length + ys.length ≤ big ∧ k (.tuple (xs ++ ys))
  | .list xs, .list ys => xs.length + ys.length ≤ big ∧ k (.list (xs ++ ys))
  | _, _ => False
theorem ok_addA : OpOk X (fun x y H Q => rAddA X.K x y H Q ∨ rCatR X.K x y H Q) addAD := fun F H x y d e q Q s v1 v2 w k => by
  by_cases h : ∃ xs ys, d = .list xs ∧ e = .list ys
  · obtain ⟨xs, ys, e1, e2⟩ := h
    subst e1 e2
    refine .inr (ok_cat F H x y _ _ (fun g => q (.list g)) Q s v1 v2 w fun ds us p hq hp hr => ?_)
    have g := Gr.new (o := .lst us) s hp
    exact k _ _ _ _ hq g (.lst (SqL.of upd_same) (hr.mono g.f))
  · refine .inl (ok_add F H x y d e q Q s v1 v2 ?_ k)
    cases d <;> cases e <;> first | exact w | exact w.elim | exact absurd ⟨_, _, rfl, rfl⟩ h
theorem q_addA (ha : QE X C a ta) (hb : QE X C b tb) : QE X C (.BinOp a .Add b pos) (dBin addAD ta tb) := q_bin (op_addA.or op_catR) ok_addA ha hb
def mulAD : Op2 := fun d e k => match d, e with
  | .int i, .int j => CMul i j ∧ k (.int (i * j))
  | .list xs, .int n => -(2 ^ 63) ≤ n ∧ n < 2 ^ 63 ∧ xs.length * n.toNat ≤ big ∧ k (.list (List.replicate n.toNat xs).flatten)
  | _, _ => False
theorem ok_mulA : OpOk X (fun x y H Q => rI CMul (fun i j => .int (i * j)) x y H Q ∨ rRepR X.K x y H Q) mulAD := fun F H x y d e q Q s v1 v2 w k => by
  cases d with
  | int i =>
    cases e with
    | int j => exact .inl (ok_int F H x y _ _ q Q s v1 v2 w k)
    | _ => exact w.elim
  | list xs =>
    cases e with
    | int j =>
      refine .inr (ok_rep F H x y _ _ (fun g => q (.list g)) Q s v1 v2 w fun ds us p hq hp hr => ?_)
      have g := Gr.new (o := .lst us) s hp
      exact k _ _ _ _ hq g (.lst (SqL.of upd_same) (hr.mono g.f))
    | _ => exact w.elim
  | _ => exact w.elim
theorem q_mulA (ha : QE X C a ta) (hb : QE X C b tb) : QE X C (.BinOp a .Mult b pos) (dBin mulAD ta tb) := q_bin (op_mul.or op_repR) ok_mulA ha hb
def dSlA (t : DE) (lo hi : DP) : DE := fun ρ Q => t ρ fun o ρ1 => lo ρ1 fun l ρ2 => hi ρ2 fun h ρ3 => withO ρ3 o fun d => match d with
  | .tuple ds => Q (.val (.tuple (cutD ds l h))) ρ3
  | .list ds => Q (.val (.list (cutD ds l h))) ρ3
  | .str z => z.length ≤ big ∧ Q (.val (.str (cutS z l h))) ρ3
  | _ => False
theorem q_sliceA {lo hi : Option Expr} {tl th : DP} (ha : QE X C a ta) (hl : QP X C lo tl) (hh : QP X C hi th) : QE X C (.Subscript a (.Slice lo hi none p2) pos) (dSlA ta tl th) :=
  QE.of (pe_slice (SlR.or sl_tupA (SlR.or sl_str sl_list)) ha.pe hl.po hh.po) fun σ H Q ⟨F, ρ, q, S, ht, k⟩ => by
    refine ⟨F, ρ, _, S, ht, fun o ρ1 F1 H1 v h1 S1 s1 d1 => ⟨F1, ρ1, _, S1, h1, fun l ρ2 F2 H2 h2 S2 s2 => ⟨F2, ρ2, _, S2, h2, fun u ρ3 F3 H3 h3 S3 s3 => ?_⟩⟩⟩
    have s03 := (s1.trans s2).trans s3
    obtain ⟨d, vd, w⟩ := S3.see (d1.mono (s2.trans s3)) h3
    cases d with
    | tuple ds =>
      obtain ⟨a, xs, e1, hq, r, rp⟩ := view_tup S3.sub vd
      subst e1
      refine .inl ⟨a, xs, rfl, hq, fun z => ?_, fun z p hp => ?_⟩
      · refine k _ _ _ _ _ w S3 s03 ?_
        show Rep X.K F3 (.ref a) (.tuple (cutD ds l u))
        rw [cut_whole r z.1 z.2]; exact rp
      · have g := Gr.new (o := .tup (cutV xs l u)) S3.sub hp
        exact k _ _ _ _ _ w (S3.grow g) (s03.trans g.f) (.tup (SqT.of upd_same) ((r.cut l u).mono g.f))
    | str z =>
      rw [view_str vd]
      exact .inr (.inl ⟨z, rfl, le_line w.1, k _ _ _ _ _ w.2 S3 s03 (.str _)⟩)
    | list ds =>
      obtain ⟨a, xs, e1, hq, r⟩ := vd
      subst e1
      refine .inr (.inr ⟨a, xs, rfl, hq, fun p hp => ?_⟩)
      have g := Gr.new (o := .lst (cutV xs l u)) S3.sub hp
      exact k _ _ _ _ _ w (S3.grow g) (s03.trans g.f) (.lst (SqL.of upd_same) ((r.cut l u).mono g.f))
    | _ => exact w.elim
end
/-! ### defs of the text -/
structure FunAt (K : PySem.W.Frag) (mg : Str → Option Value) (x : Str) (st : Stmt) (ps : List Str) : Prop where
  ex : ∃ f fd, Fun K x x st f fd ∧ mg x = some (.ref f) ∧ Binds K fd ps []
structure FnAt (Pg : Program) (w : World) (K : PySem.W.Frag) (mg : Str → Option Value) (base : Heap) (k : Nat) (x : Str) (ps : List Str) (P : List Bool) (S : SpD) : Prop where
  ex : ∃ f fd, FnOk Pg w K mg base CX0 k f fd ps (spOf K P S) ∧ mg x = some (.ref f) ∧ PySem.W.keepIn K (.ref f) = true ∧ Binds K fd ps []
theorem FnAt.mono {Pg : Program} {w : World} {K : PySem.W.Frag} {mg : Str → Option Value} {base : Heap} {j k : Nat} {x : Str} {ps : List Str} {P : List Bool} {S : SpD} (h : FnAt Pg w K mg base j x ps P S) (hjk : j ≤ k := by omega) : FnAt Pg w K mg base k x ps P S := by
  obtain ⟨f, fd, F, a, b, c⟩ := h.ex
  exact ⟨f, fd, F.mono hjk, a, b, c⟩
/-- a weaker promise over data -/
theorem FnAt.imp {Pg : Program} {w : World} {K : PySem.W.Frag} {mg : Str → Option Value} {base : Heap} {k : Nat} {x : Str} {ps : List Str} {P : List Bool} {S S' : SpD} (h : FnAt Pg w K mg base k x ps P S) (hi : ∀ ds q, S' ds q → S ds q) : FnAt Pg w K mg base k x ps P S' := by
  obtain ⟨f, fd, F, a, b, c⟩ := h.ex
  exact ⟨f, fd, F.imp fun vs H Q E ⟨F1, ds, q, s, A, hS, kk⟩ => ⟨F1, ds, q, s, A, hi ds q hS, kk⟩, a, b, c⟩
theorem fn_at {Pg : Program} {w : World} {K : PySem.W.Frag} {mg : Str → Option Value} {base : Heap} {x : Str} {st : Stmt} {N ps : List Str} {k : Nat} {P : List Bool} {S : SpD} {g : DS}
    (FA : FunAt K mg x st ps) (Sc : FnScope N ps (defScope st)) (hl : P.length = ps.length) (hN : ps.length ≤ N.length)
    (der : ∀ (f : Addr) (cdv : Value) (A : Around) (outer : List Env) (s : Shared) (H : Hp) (E : XK) (C : FC), Room k (A.deeper (PyProof.Rows.envOfC x (defScope st) s.heap.objs.size f cdv)) → C.Tags P → QSs (cxOf CX0 Pg w K mg base N x (defScope st) f cdv A outer s H E).nox C (defBody st) g)
    (pure : ∀ ds q, S ds q → ds.length = P.length → g (endsOf P q) (startE N.length P ds)) : FnAt Pg w K mg base (k + 1) x ps P S := by
  obtain ⟨f, fd, F, hm, hb⟩ := FA.ex
  exact ⟨f, fd, fn_ok F Sc hl hN (fun cdv A outer s H E C hr hP => der f cdv A outer s H E C hr hP) pure, hm, F.kp, hb⟩
section
variable {X : Cx} {C : FC} {P ts : List Bool} {S : SpD} {ta : DA} {k : Nat} {ps : List Str} {x : Str} {p pos : Pos} {e : Expr} {es : List Expr}
theorem q_callF (hP : C.Tags P) (h : FnAt X.prog X.w X.K X.mg X.base k x ps ts S) (hr : Room k X.A) (ha : QA X C (e :: es) ta) (hg : Gl X x := by rfl) (hdb : (x == ("__debug__" : Str)) = false := by decide) (he : starEach (e :: es) X.env = (false, eval e X.env) :: starEach es X.env := by rfl) (hpl : (backTo pos (starEach es X.env)).any (·.1) = false := by rfl) :
    QE X C (.Call (.Name x p) (e :: es) [] pos) (dCall P ts S ta) := by
  obtain ⟨f, fd, F, a, b, c⟩ := h.ex
  exact q_call hP F hr a b c ha hg hdb he hpl
theorem o_callF (hP : C.Tags P) (h : FnAt X.prog X.w X.K X.mg X.base k x ps ts S) (hr : Room k X.A) (ha : QA X C (e :: es) ta) (hg : Gl X x := by rfl) (hdb : (x == ("__debug__" : Str)) = false := by decide) (he : starEach (e :: es) X.env = (false, eval e X.env) :: starEach es X.env := by rfl) (hpl : (backTo pos (starEach es X.env)).any (·.1) = false := by rfl) :
    QO X C (.Call (.Name x p) (e :: es) [] pos) (dCallO P ts S ta) := by
  obtain ⟨f, fd, F, a, b, c⟩ := h.ex
  exact o_call hP F hr a b c ha hg hdb he hpl
theorem q_callBF {n : Nat} (h : FnAt X.prog X.w X.K X.mg X.base k x ps (List.replicate n false) S) (hr : Room k X.A) (ha : QA X C (e :: es) ta) (hg : Gl X x := by rfl) (hdb : (x == ("__debug__" : Str)) = false := by decide) (he : starEach (e :: es) X.env = (false, eval e X.env) :: starEach es X.env := by rfl) (hpl : (backTo pos (starEach es X.env)).any (·.1) = false := by rfl) :
    QE X C (.Call (.Name x p) (e :: es) [] pos) (dCallB n S ta) := by
  obtain ⟨f, fd, F, a, b, c⟩ := h.ex
  exact q_callB' F hr a b c ha hg hdb he hpl
theorem q_gstr' {v : Str} {C : FC} (hm : ∃ t, X.mg x = some (.str v t)) (hg : Gl X x := by rfl) (hd : (x == ("__debug__" : Str)) = false := by decide) : QE X C (.Name x pos) (dC (.str v)) := let ⟨_, h⟩ := hm; q_gstr h hg hd
theorem q_gint' {v : Int} {C : FC} (hm : ∃ t, X.mg x = some (.int v t)) (hg : Gl X x := by rfl) (hd : (x == ("__debug__" : Str)) = false := by decide) : QE X C (.Name x pos) (dC (.int v)) := let ⟨_, h⟩ := hm; q_gint h hg hd
end
end Dv

set_option Elab.async false
set_option linter.all false
set_option maxRecDepth 100000
set_option autoImplicit false
namespace Dv
open PySem PySem.Spec L2
/-! ### tools for proofs over data -/
theorem by2_i {c : Bool} {a b : Prop} (h1 : c = true → a) (h2 : c = false → b) : by2 c a b := by
  cases c with
  | true => exact h1 rfl
  | false => exact h2 rfl
theorem by2_d {p : Prop} [Decidable p] {a b : Prop} (h1 : p → a) (h2 : ¬ p → b) : by2 (decide p) a b := by2_i (fun h => h1 (of_decide_eq_true h)) fun h => h2 (of_decide_eq_false h)
theorem by2_nd {p : Prop} [Decidable p] {a b : Prop} (h1 : ¬ p → a) (h2 : p → b) : by2 (!decide p) a b := by
  by_cases h : p
  · rw [decide_eq_true h]; exact h2 h
  · rw [decide_eq_false h]; exact h1 h
theorem by2_t {c : Bool} {a b : Prop} (h : c = true) (ha : a) : by2 c a b := by subst h; exact ha
theorem by2_f {c : Bool} {a b : Prop} (h : c = false) (hb : b) : by2 c a b := by subst h; exact hb
/-- sizes of written lists -/
theorem tle {n m : Nat} (h : Nat.ble n m = true := by rfl) : n ≤ m := Nat.le_of_ble_eq_true h
/-- a comprehension's turn -/
def turnE (P : List Bool) (g : DG) (tt : DT) (te : DE) (vs : List Nat) (ρ : DEnv) (d : PyData) (yes : PyData → DEnv → Prop) (no : DEnv → Prop) : Prop :=
  g d (wipeE ρ vs) fun ρ2 => tt ρ2 fun b ρ3 => by2 b (te ρ3 fun o ρ4 => share P ρ4 o fun e ρ5 => yes e (restE ρ5 ρ vs)) (no (restE ρ3 ρ vs))
theorem lc_turn {P : List Bool} {g : DG} {tt : DT} {te : DE} {vs : List Nat} {Q : PyData → DEnv → Prop} {d : PyData} {ds acc : List PyData} {ρ : DEnv}
    (h : turnE P g tt te vs ρ d (fun e ρ' => acc.length < big ∧ dLcL P g tt te vs Q ds (acc ++ [e]) ρ') (fun ρ' => dLcL P g tt te vs Q ds acc ρ')) : dLcL P g tt te vs Q (d :: ds) acc ρ := h
theorem lc_filterMap {P : List Bool} {g : DG} {tt : DT} {te : DE} {vs : List Nat} {Q : PyData → DEnv → Prop} {ρ : DEnv} (f : PyData → Option PyData) : ∀ {ds acc : List PyData},
    (∀ d ∈ ds, ∀ (yes : PyData → DEnv → Prop) (no : DEnv → Prop), (∀ e, f d = some e → yes e ρ) → (f d = none → no ρ) → turnE P g tt te vs ρ d yes no) → acc.length + ds.length ≤ big → Q (.list (acc ++ ds.filterMap f)) ρ → dLcL P g tt te vs Q ds acc ρ
  | [], acc, _, _, hq => by rw [List.filterMap_nil, List.append_nil] at hq; exact hq
  | d :: ds, acc, h, hl, hq => by
    rw [List.length_cons] at hl
    refine lc_turn (h d List.mem_cons_self _ _ (fun e he => ⟨by omega, lc_filterMap f (fun d' hd => h d' (List.mem_cons_of_mem _ hd)) (by rw [List.length_append, List.length_singleton]; omega) ?_⟩) (fun he => lc_filterMap f (fun d' hd => h d' (List.mem_cons_of_mem _ hd)) (by omega) ?_))
    · rw [List.filterMap_cons, he] at hq
      rw [List.append_assoc]; exact hq
    · rw [List.filterMap_cons, he] at hq
      exact hq
theorem lc_map {P : List Bool} {g : DG} {tt : DT} {te : DE} {vs : List Nat} {Q : PyData → DEnv → Prop} {ρ : DEnv} (f : PyData → PyData) {ds : List PyData}
    (h : ∀ d ∈ ds, ∀ (yes : PyData → DEnv → Prop) (no : DEnv → Prop), yes (f d) ρ → turnE P g tt te vs ρ d yes no) (hl : ds.length ≤ big) (hq : Q (.list (ds.map f)) ρ) : dLcL P g tt te vs Q ds [] ρ := by
  refine lc_filterMap (fun d => some (f d)) (fun d hd yes no h1 _ => h d hd yes no (h1 _ rfl)) (by simpa using hl) ?_
  rw [List.nil_append, List.filterMap_eq_map']
  exact hq
/-- a comprehension by what holds between its turns -/
theorem lc_inv {P : List Bool} {g : DG} {tt : DT} {te : DE} {vs : List Nat} {Q : PyData → DEnv → Prop} (I : List PyData → DEnv → Prop) : ∀ {ds acc : List PyData} {ρ : DEnv},
    (∀ d ∈ ds, ∀ (acc : List PyData) (ρ : DEnv) (yes : PyData → DEnv → Prop) (no : DEnv → Prop), I acc ρ → (∀ e ρ', I (acc ++ [e]) ρ' → yes e ρ') → (∀ ρ', I acc ρ' → no ρ') → turnE P g tt te vs ρ d yes no) → I acc ρ → acc.length + ds.length ≤ big →
    (∀ acc' ρ', I acc' ρ' → acc'.length ≤ acc.length + ds.length → Q (.list acc') ρ') → dLcL P g tt te vs Q ds acc ρ
  | [], acc, ρ, _, hI, _, hq => hq acc ρ hI (by omega)
  | d :: ds, acc, ρ, h, hI, hl, hq => by
    rw [List.length_cons] at hl
    refine lc_turn (h d List.mem_cons_self acc ρ _ _ hI (fun e ρ' hI' => ⟨by omega, lc_inv I (fun d' hd => h d' (List.mem_cons_of_mem _ hd)) hI' (by rw [List.length_append, List.length_singleton]; omega) fun a r i l => hq a r i ?_⟩) (fun ρ' hI' => lc_inv I (fun d' hd => h d' (List.mem_cons_of_mem _ hd)) hI' (by omega) fun a r i l => hq a r i ?_))
    · rw [List.length_append, List.length_singleton] at l; rw [List.length_cons]; omega
    · rw [List.length_cons]; omega
/-- .. each turn gives an item: I by the items so far, all of them in the end -/
theorem lc_all {P : List Bool} {g : DG} {tt : DT} {te : DE} {vs : List Nat} {Q : PyData → DEnv → Prop} (I : List PyData → DEnv → Prop) : ∀ {ds acc : List PyData} {ρ : DEnv},
    (∀ d ∈ ds, ∀ (acc : List PyData) (ρ : DEnv) (yes : PyData → DEnv → Prop) (no : DEnv → Prop), I acc ρ → (∀ e ρ', I (acc ++ [e]) ρ' → yes e ρ') → turnE P g tt te vs ρ d yes no) → I acc ρ → acc.length + ds.length ≤ big →
    (∀ acc' ρ', I acc' ρ' → acc'.length = acc.length + ds.length → Q (.list acc') ρ') → dLcL P g tt te vs Q ds acc ρ
  | [], acc, ρ, _, hI, _, hq => hq acc ρ hI (by simp)
  | d :: ds, acc, ρ, h, hI, hl, hq => by
    rw [List.length_cons] at hl
    refine lc_turn (h d List.mem_cons_self acc ρ _ _ hI fun e ρ' hI' => ⟨by omega, lc_all I (fun d' hd => h d' (List.mem_cons_of_mem _ hd)) hI' (by rw [List.length_append, List.length_singleton]; omega) fun a r i l => hq a r i ?_⟩)
    rw [List.length_append, List.length_singleton] at l; rw [List.length_cons]; omega
/-- a loop by what holds between its turns: I of the items that are left -/
theorem loop_inv {g : DG} {b : DS} {E : DEnds} (I : List PyData → DEnv → Prop) : ∀ {ds : List PyData} {ρ : DEnv},
    (∀ (d : PyData) (ds : List PyData) (ρ : DEnv) (nx : DEnv → Prop), I (d :: ds) ρ → (∀ ρ', I ds ρ' → nx ρ') → g d ρ fun ρ1 => b { E with nx := nx, ct := nx, bk := E.nx } ρ1) → I ds ρ → (∀ ρ', I [] ρ' → E.nx ρ') → dLoop g b E ds ρ
  | [], ρ, _, hI, hq => hq ρ hI
  | d :: ds, ρ, h, hI, hq => h d ds ρ _ hI fun ρ' hI' => loop_inv I h hI' hq
/-- .. by a word that does not speak of the items left, but that they are among ds -/
theorem loop_all {g : DG} {b : DS} {E : DEnds} (I : DEnv → Prop) : ∀ {ds : List PyData} {ρ : DEnv},
    (∀ d ∈ ds, ∀ (ρ : DEnv) (nx : DEnv → Prop), I ρ → (∀ ρ', I ρ' → nx ρ') → g d ρ fun ρ1 => b { E with nx := nx, ct := nx, bk := E.nx } ρ1) → I ρ → (∀ ρ', I ρ' → E.nx ρ') → dLoop g b E ds ρ
  | [], ρ, _, hI, hq => hq ρ hI
  | d :: ds, ρ, h, hI, hq => h d List.mem_cons_self ρ _ hI fun ρ' hI' => loop_all I (fun d' hd => h d' (List.mem_cons_of_mem _ hd)) hI' hq
end Dv

set_option Elab.async false
set_option linter.all false
set_option maxRecDepth 100000
set_option autoImplicit false
namespace Dv
open PySem PySem.Spec L2
/-! ### texts -/
abbrev Str.codes (x : Str) : List Nat := x.cps.toList
theorem str_ext {x y : Str} (h : x.cps.toList = y.cps.toList) : x = y := by
  obtain ⟨⟨a⟩⟩ := x
  obtain ⟨⟨b⟩⟩ := y
  simp at h
  subst h
  rfl
theorem codes_app (x y : Str) : (x ++ y).cps.toList = x.cps.toList ++ y.cps.toList := by
  show (Array.append x.cps y.cps).toList = _
  simp
theorem len_codes (x : Str) : x.length = x.cps.toList.length := by simp [Str.length]
theorem len_app (x y : Str) : (x ++ y).length = x.length + y.length := by rw [len_codes, codes_app, List.length_append, ← len_codes, ← len_codes]
theorem join_codes (ys : List Str) : (Txt.join "" ys).cps.toList = (ys.map fun y => y.cps.toList).flatten := by
  rw [show Txt.join "" ys = Str.join "" ys from PySem.StrLaws.glued_eq_join _ _]
  induction ys with
  | nil => decide
  | cons y ys ih =>
    cases ys with
    | nil => simp [Str.join]
    | cons z zs =>
      have e : Str.join "" (y :: z :: zs) = y ++ "" ++ Str.join "" (z :: zs) := rfl
      rw [e, codes_app, codes_app, ih]
      have e0 : (("" : Str)).cps.toList = [] := by decide
      rw [e0]
      simp
theorem join_signs (cs : List Nat) : (Txt.join "" (cs.map fun c => (⟨#[c]⟩ : Str))).cps.toList = cs := by
  rw [join_codes, List.map_map]
  induction cs with
  | nil => rfl
  | cons c cs ih => rw [List.map_cons, List.flatten_cons, ih]; rfl
theorem sum_signs (cs : List Nat) : ((cs.map fun c => (⟨#[c]⟩ : Str)).map fun x => x.length).sum = cs.length := by
  induction cs with
  | nil => rfl
  | cons c cs ih =>
    rw [List.map_cons, List.map_cons, List.sum_cons, ih, List.length_cons]
    show 1 + cs.length = cs.length + 1
    omega
theorem cut_codes (z : Str) (lo hi : Option Int) : (cutS z lo hi).cps.toList = (z.cps.toList.drop (HT.sIx z.length 0 lo)).take (HT.sIx z.length z.length hi - HT.sIx z.length 0 lo) := by simp [cutS]
/-- a text of at most n codes, each one a code -/
structure Tx (n : Nat) (x : Str) : Prop where
  len : x.length ≤ n
  ok : ∀ c ∈ x.cps.toList, c < 0x110000
theorem Tx.mono {m n : Nat} {x : Str} (h : Tx m x) (hmn : m ≤ n) : Tx n x := ⟨Nat.le_trans h.len hmn, h.ok⟩
theorem Tx.app {m n : Nat} {x y : Str} (h : Tx m x) (h2 : Tx n y) : Tx (m + n) (x ++ y) := ⟨by rw [len_app]; exact Nat.add_le_add h.len h2.len, fun c hc => by
  rw [codes_app] at hc
  rcases List.mem_append.mp hc with z | z
  · exact h.ok c z
  · exact h2.ok c z⟩
theorem Tx.cut {m : Nat} {x : Str} (h : Tx m x) (lo hi : Option Int) : Tx m (cutS x lo hi) := by
  refine ⟨?_, fun c hc => ?_⟩
  · rw [len_codes, cut_codes]
    have := h.len
    rw [len_codes] at this
    rw [List.length_take, List.length_drop]
    omega
  · rw [cut_codes] at hc
    exact h.ok c (List.mem_of_mem_drop (List.mem_of_mem_take hc))
theorem Tx.lit {n : Nat} {x : Str} (h : (decide (x.length ≤ n) && x.cps.toList.all fun c => decide (c < 0x110000)) = true) : Tx n x := by
  simp only [Bool.and_eq_true, decide_eq_true_eq, List.all_eq_true] at h
  exact ⟨h.1, h.2⟩
theorem Tx.strOk {n : Nat} {x : Str} (h : Tx n x) : PyData.strOk x = true := by
  unfold PyData.strOk
  rw [Array.all_eq_true']
  intro c hc
  exact decide_eq_true (h.ok c (by simpa using hc))
/-! ### what may be compared -/
theorem canAll_iff : ∀ {ds : List PyData}, PyData.canLayAll0 ds = true ↔ ∀ d ∈ ds, PyData.canLay0 d = true
  | [] => by simp [PyData.canLayAll0]
  | d :: ds => by simp [PyData.canLayAll0, canAll_iff]
theorem depthAll_le : ∀ {ds : List PyData} {n : Nat}, PyData.depthAll ds ≤ n ↔ ∀ d ∈ ds, PyData.depth d ≤ n
  | [], n => by simp [PyData.depthAll]
  | d :: ds, n => by simp [PyData.depthAll, Nat.max_le, depthAll_le]
/-- without dicts, texts of codes, at most n deep -/
structure Shp (n : Nat) (d : PyData) : Prop where
  can : PyData.canLay0 d = true
  dep : PyData.depth d ≤ n
theorem Shp.shp {n : Nat} {d : PyData} (h : Shp n d) (hn : n ≤ 64 := by decide) : shp d := by
  unfold Dv.shp SeqAt.shaped
  rw [h.can, decide_eq_true (Nat.le_trans h.dep hn)]
  rfl
theorem Shp.mono {m n : Nat} {d : PyData} (h : Shp m d) (hmn : m ≤ n := by omega) : Shp n d := ⟨h.can, Nat.le_trans h.dep hmn⟩
theorem Shp.none : Shp 0 .none := ⟨rfl, by simp [PyData.depth]⟩
theorem Shp.bool (b : Bool) : Shp 0 (.bool b) := ⟨rfl, by simp [PyData.depth]⟩
theorem Shp.int (b : Int) : Shp 0 (.int b) := ⟨rfl, by simp [PyData.depth]⟩
theorem Shp.str {n : Nat} {x : Str} (h : Tx n x) : Shp 0 (.str x) := ⟨by simp [PyData.canLay0, h.strOk], by simp [PyData.depth]⟩
theorem Shp.list {n : Nat} {ds : List PyData} (h : ∀ d ∈ ds, Shp n d) : Shp (n + 1) (.list ds) :=
  ⟨by simp only [PyData.canLay0]; exact canAll_iff.mpr fun d hd => (h d hd).can, by simp only [PyData.depth]; exact Nat.succ_le_succ (depthAll_le.mpr fun d hd => (h d hd).dep)⟩
theorem Shp.tuple {n : Nat} {ds : List PyData} (h : ∀ d ∈ ds, Shp n d) : Shp (n + 1) (.tuple ds) :=
  ⟨by simp only [PyData.canLay0]; exact canAll_iff.mpr fun d hd => (h d hd).can, by simp only [PyData.depth]; exact Nat.succ_le_succ (depthAll_le.mpr fun d hd => (h d hd).dep)⟩
end Dv

set_option linter.all false
namespace Dv
open PySem PySem.Spec L2
/-! ### what the top has written, for the end of a claim -/
theorem funAt_mk {K : PySem.W.Frag} {h : Heap} {mg : Str → Option Value} {x : Str} {st : Stmt} {ps : List Str} (X : K.In h) (G : h.Ns mainGlobals mg)
    (hb : ∀ (kV doc pm : Value) (an : Option Addr) (cdv ct : Value) (us : List Value), us.length = ps.length → bindArgs (PySem.W.fnOf x x (defArgs st) (defBody st) (defScope st) .none kV doc pm an cdv ct) ⟨us, []⟩ = pure (ps.zip us))
    {f : Addr} {oc : Value} {od an : Option Addr} {osl : Array (Option Value)} {kV doc pm cdv ct : Value}
    (a : PySem.W.nsIn K mainGlobals x = some (some (.ref f)))
    (l : K.lookup f = some ⟨oc, od, .func (PySem.W.fnOf x x (defArgs st) (defBody st) (defScope st) .none kV doc pm an cdv ct), osl⟩)
    (c : PySem.W.codeIn K cdv x = true) (k : PySem.W.keepIn K (.ref f) = true) : FunAt K mg x st ps :=
  ⟨_, _, fun_mk l c k, PySem.W.mg_of X G a, (fun_mk l c k).binds hb⟩
theorem with_fun {C : Prop} {K : PySem.W.Frag} {h : Heap} {mg : Str → Option Value} {x : Str} {st : Stmt} {ps : List Str} (X : K.In h) (G : h.Ns mainGlobals mg)
    (hb : ∀ (kV doc pm : Value) (an : Option Addr) (cdv ct : Value) (us : List Value), us.length = ps.length → bindArgs (PySem.W.fnOf x x (defArgs st) (defBody st) (defScope st) .none kV doc pm an cdv ct) ⟨us, []⟩ = pure (ps.zip us))
    {f : Addr} {oc : Value} {od an : Option Addr} {osl : Array (Option Value)} {kV doc pm cdv ct : Value}
    (a : PySem.W.nsIn K mainGlobals x = some (some (.ref f)))
    (l : K.lookup f = some ⟨oc, od, .func (PySem.W.fnOf x x (defArgs st) (defBody st) (defScope st) .none kV doc pm an cdv ct), osl⟩)
    (c : PySem.W.codeIn K cdv x = true) (k : PySem.W.keepIn K (.ref f) = true) (go : FunAt K mg x st ps → C) : C := go (funAt_mk X G hb a l c k)
theorem gstr_mk {K : PySem.W.Frag} {h : Heap} {mg : Str → Option Value} {x z : Str} {t : Tok} (X : K.In h) (G : h.Ns mainGlobals mg) (a : PySem.W.nsIn K mainGlobals x = some (some (.str z t))) : ∃ t, mg x = some (.str z t) := ⟨t, PySem.W.mg_of X G a⟩
theorem gint_mk {K : PySem.W.Frag} {h : Heap} {mg : Str → Option Value} {x : Str} {z : Int} {t : Tok} (X : K.In h) (G : h.Ns mainGlobals mg) (a : PySem.W.nsIn K mainGlobals x = some (some (.int z t))) : ∃ t, mg x = some (.int z t) := ⟨t, PySem.W.mg_of X G a⟩
/-- the law's own head -/
theorem law_mk {K : PySem.W.Frag} {h : Heap} {mg : Str → Option Value} {y : Str} {st : Stmt} {fa : Addr} (X : K.In h) (G : h.Ns mainGlobals mg) (hfa : mg "law" = some (.ref fa))
    {pg : Program} {w : World} {lv : Nat} {S : SpD}
    (ok : ∀ (base : Heap) (f : Addr) (fd : FuncData), Fun K "law" "law" st f fd → FnOk pg w K mg base CX0 lv f fd [y] (spOf K [false] S))
    (hb : ∀ (kV doc pm : Value) (an : Option Addr) (cdv ct : Value) (s : Shared) (v : Value), BindsTo s (PySem.W.fnOf "law" "law" (defArgs st) (defBody st) (defScope st) .none kV doc pm an cdv ct) ⟨[v], []⟩ [(y, v)])
    {f : Addr} {oc : Value} {od an : Option Addr} {osl : Array (Option Value)} {kV doc pm cdv ct : Value}
    (a : PySem.W.nsIn K mainGlobals "law" = some (some (.ref f)))
    (l : K.lookup f = some ⟨oc, od, .func (PySem.W.fnOf "law" "law" (defArgs st) (defBody st) (defScope st) .none kV doc pm an cdv ct), osl⟩)
    (c : PySem.W.codeIn K cdv "law" = true) (k : PySem.W.keepIn K (.ref f) = true) :
    ∃ fd : FuncData, (∀ (s : Shared) (v : Value), BindsTo s fd ⟨[v], []⟩ [(y, v)]) ∧ ∀ base : Heap, K.In base → base.Ns mainGlobals mg → FnOk pg w K mg base CX0 lv fa fd [y] (spOf K [false] S) := by
  have e := hfa.symm.trans (PySem.W.mg_of X G a)
  cases e
  exact ⟨_, fun s v => hb kV doc pm an cdv ct s v, fun base _ _ => ok base _ _ (fun_mk l c k)⟩
end Dv

set_option Elab.async false
set_option linter.all false
set_option maxRecDepth 100000
set_option maxHeartbeats 4000000
set_option autoImplicit false
namespace My
open PySem PySem.Spec L2 Dv
def topS (i : Nat) : Stmt := PySem.Challenge.pw_delaygates_k01_names_known.main.body.getD i (.Pass ⟨0, 0, 0, 0⟩)
/-- what the module's names hold -/
structure Mg (mg : Str → Option Value) : Prop where
  b_abs : mg "abs" = none
  b_all : mg "all" = none
  b_bool : mg "bool" = none
  b_isinstance : mg "isinstance" = none
  b_len : mg "len" = none
  b_list : mg "list" = none
  b_max : mg "max" = none
  b_min : mg "min" = none
  b_range : mg "range" = none
  b_str : mg "str" = none
  b_tuple : mg "tuple" = none
  c_LETTERS : ∃ t, mg "LETTERS" = some (.str "abcdefghijklmnopqrstuvwxyz" t)
  c_MOST_LETTERS : ∃ t, mg "MOST_LETTERS" = some (.int 8 t)
section
variable {Pg : Program} {w : World} {K : PySem.W.Frag} {mg : Str → Option Value} {base : Heap}
/-! ### is_name -/
abbrev s_is_name : Stmt := topS 3
abbrev N_is_name : List Str := ["thing", "sign"]
abbrev P_is_name : List Bool := [false]
theorem sc_is_name : FnScope N_is_name ["thing"] (defScope s_is_name) := ⟨rfl, rfl, rfl, by decide +kernel, rfl, by decide +kernel, by decide +kernel⟩
def g_is_name : DS :=
    (dSeq (dIf (dOr (dNot (dTest (dIsi "str" (dVar 0)))) (dNot (dTest (dChain leD leD (dC (.int 1)) (dCB lenD (dCons (dVar 0) dNil)) (dC (.int 8))))))
      (dRet P_is_name (dC (.bool false)))
      dNext)
    (dRet P_is_name (dCB allD (dCons (dFroz (dLc P_is_name (dSeqI P_is_name (dVar 0)) (gN 1) dYes (dBin (inD true) (dVar 1) (dC (.str "abcdefghijklmnopqrstuvwxyz"))) [1])) dNil))))
theorem d_is_name {k : Nat} {f : Addr} {cdv : Value} {A : Around} {outer : List Env} {s : Shared} {H : Hp} {E : XK} {C : FC} (T : Mg mg)
    (hr : Room k (A.deeper (PyProof.Rows.envOfC "is_name" (defScope s_is_name) s.heap.objs.size f cdv))) (hP : C.Tags P_is_name) :
    QSs (cxOf CX0 Pg w K mg base N_is_name "is_name" (defScope s_is_name) f cdv A outer s H E).nox C (defBody s_is_name) (g_is_name) :=
    have nd := sc_is_name.nd
    (s_cons (s_if (t_w (w_or (t_not (t_val (q_isi (T := "str") (by decide) T.b_isinstance T.b_str (by decide +kernel) (qv 0)))) (w_or1 (t_not (t_lele q_int (q_len T.b_len (a_cons (qv 0) a_nil)) (q_gint' T.c_MOST_LETTERS))))))
      (s_one (s_ret hP q_bl))
      s_nil)
    (s_one (s_ret hP (q_all rfl T.b_all (a_cons (q_froz (o_lc (own := [("sign", 1)]) hP rfl nd (i_seq hP (qv 0)) (blkOk_by (own := [("sign", 1)]) (N := N_is_name) (sc := defScope s_is_name) (by decide +kernel)) (fun _ _ _ _ _ => pg_name (i := 1) nd rfl (Or.inl rfl)) (tgt_name (i := 1) (by decide) (by decide)) (fun _ _ _ _ _ _ _ => ts_nil) (fun _ _ _ _ _ _ hP => (q_in (qv 1) (q_gstr' T.c_LETTERS))))) a_nil)))))
theorem at_is_name {k : Nat} {S : SpD} (T : Mg mg) (FA : FunAt K mg "is_name" s_is_name ["thing"])
    (pure : ∀ ds q, S ds q → ds.length = P_is_name.length → g_is_name (endsOf P_is_name q) (startE N_is_name.length P_is_name ds)) : FnAt Pg w K mg base (k + 1) "is_name" ["thing"] P_is_name S :=
    fn_at FA sc_is_name rfl (by decide) (fun f cdv A outer s H E C hr hP => d_is_name T hr hP) pure
/-! ### _law_pen -/
abbrev s__law_pen : Stmt := topS 5
abbrev N__law_pen : List Str := ["_law_script"]
abbrev P__law_pen : List Bool := [false]
theorem sc__law_pen : FnScope N__law_pen ["_law_script"] (defScope s__law_pen) := ⟨rfl, rfl, rfl, by decide +kernel, rfl, by decide +kernel, by decide +kernel⟩
def g__law_pen : DS :=
    (dRetO (dDisp P__law_pen [((dC (.str "script")), (dFroz (dCBL listSD (dCons (dSlA (dVar 0) dNoP (dPart (dC (.int 63)))) dNil)))), ((dC (.str "at")), (dC (.int 0))), ((dC (.str "left")), (dC (.int 0)))]))
theorem d__law_pen {k : Nat} {f : Addr} {cdv : Value} {A : Around} {outer : List Env} {s : Shared} {H : Hp} {E : XK} {C : FC} (T : Mg mg)
    (hr : Room k (A.deeper (PyProof.Rows.envOfC "_law_pen" (defScope s__law_pen) s.heap.objs.size f cdv))) (hP : C.Tags P__law_pen) :
    QSs (cxOf CX0 Pg w K mg base N__law_pen "_law_pen" (defScope s__law_pen) f cdv A outer s H E).nox C (defBody s__law_pen) (g__law_pen) :=
    have nd := sc__law_pen.nd
    (s_one (s_retO (o_disp hP (ps_cons' (fun _ hP => q_str) (fun _ hP => (q_froz (o_listS rfl T.b_list (a_cons (q_sliceA (qv 0) p_none (p_some q_int)) a_nil)))) (ps_cons' (fun _ hP => q_str) (fun _ hP => q_int) (ps_cons' (fun _ hP => q_str) (fun _ hP => q_int) ps_nil'))))))
theorem at__law_pen {k : Nat} {S : SpD} (T : Mg mg) (FA : FunAt K mg "_law_pen" s__law_pen ["_law_script"])
    (pure : ∀ ds q, S ds q → ds.length = P__law_pen.length → g__law_pen (endsOf P__law_pen q) (startE N__law_pen.length P__law_pen ds)) : FnAt Pg w K mg base (k + 1) "_law_pen" ["_law_script"] P__law_pen S :=
    fn_at FA sc__law_pen rfl (by decide) (fun f cdv A outer s H E C hr hP => d__law_pen T hr hP) pure
/-! ### _law_draw -/
abbrev s__law_draw : Stmt := topS 6
abbrev N__law_draw : List Str := ["_law_pen_here", "_law_most", "_law_cells", "_law_at", "_law_found", "_law_cell", "_law_mixed"]
abbrev P__law_draw : List Bool := [true, false]
theorem sc__law_draw : FnScope N__law_draw ["_law_pen_here", "_law_most"] (defScope s__law_draw) := ⟨rfl, rfl, rfl, by decide +kernel, rfl, by decide +kernel, by decide +kernel⟩
def g__law_draw : DS :=
    (dSeq (dSet P__law_draw 2 (dBin ixD (dVar 0) (dC (.str "script"))))
    (dSeq (dSet P__law_draw 3 (dBin ixD (dVar 0) (dC (.str "at"))))
    (dSeq (dIf (dTest (dBin eqD (dBin ixD (dVar 0) (dC (.str "left"))) (dC (.int 0))))
      (dSeq (dSetIx P__law_draw 0 setD (dBin addAD (dVar 3) (dC (.int 1))) (dC (.str "at")))
      (dSeq (dSet P__law_draw 5 (dC (.int 13)))
      (dSeq (dIf (dTest (dBin neD (dVar 2) (dFroz (dLst P__law_draw dNil))))
        (dSet P__law_draw 5 (dBin ixD (dVar 2) (dBin modD (dVar 3) (dCB lenD (dCons (dVar 2) dNil)))))
        dNext)
      (dSeq (dIf (dOr (dTest (dBin geD (dVar 3) (dCB lenD (dCons (dVar 2) dNil)))) (dTest (dBin ltD (dCB absD (dCons (dVar 5) dNil)) (dBin powD (dC (.int 10)) (dC (.int 18))))))
        (dSeq (dSet P__law_draw 6 (dBin modD (dBin mulAD (dBin addAD (dBin addAD (dBin modD (dVar 5) (dC (.int 2147483587))) (dBin mulAD (dC (.int 15485863)) (dVar 3))) (dC (.int 5))) (dC (.int 69621))) (dC (.int 2147483647))))
        (dSeq (dSet P__law_draw 6 (dBin modD (dBin addAD (dBin addAD (dBin mulAD (dVar 6) (dVar 6)) (dBin mulAD (dC (.int 30011)) (dVar 6))) (dBin mulAD (dC (.int 7)) (dVar 3))) (dC (.int 2147483549))))
        (dSeq (dSet P__law_draw 6 (dBin modD (dBin addAD (dBin mulAD (dVar 6) (dBin addAD (dBin modD (dVar 6) (dC (.int 10007))) (dC (.int 3)))) (dVar 3)) (dC (.int 2147483543))))
        (dRet P__law_draw (dBin modD (dBin fdivD (dVar 6) (dC (.int 32))) (dVar 1))))))
        dNext)
      (dSetIx P__law_draw 0 setD (dCB absD (dCons (dVar 5) dNil)) (dC (.str "left")))))))
      dNext)
    (dSeq (dSet P__law_draw 4 (dBin modD (dBin ixD (dVar 0) (dC (.str "left"))) (dVar 1)))
    (dSeq (dSetIx P__law_draw 0 setD (dBin fdivD (dBin ixD (dVar 0) (dC (.str "left"))) (dVar 1)) (dC (.str "left")))
    (dRet P__law_draw (dVar 4)))))))
theorem d__law_draw {k : Nat} {f : Addr} {cdv : Value} {A : Around} {outer : List Env} {s : Shared} {H : Hp} {E : XK} {C : FC} (T : Mg mg)
    (hr : Room k (A.deeper (PyProof.Rows.envOfC "_law_draw" (defScope s__law_draw) s.heap.objs.size f cdv))) (hP : C.Tags P__law_draw) :
    QSs (cxOf CX0 Pg w K mg base N__law_draw "_law_draw" (defScope s__law_draw) f cdv A outer s H E).nox C (defBody s__law_draw) (g__law_draw) :=
    have nd := sc__law_draw.nd
    (s_cons (s_set (i := 2) hP nd (q_idx hr (qv 0) q_str))
    (s_cons (s_set (i := 3) hP nd (q_idx hr (qv 0) q_str))
    (s_cons (s_if (t_eq hr (q_idx hr (qv 0) q_str) q_int)
      (s_cons (s_put (i := 0) hP hr (q_addA (qv 3) q_int) q_str)
      (s_cons (s_set (i := 5) hP nd q_int)
      (s_cons (s_if (t_ne hr (qv 2) (q_froz (o_lst hP a_nil)))
        (s_one (s_set (i := 5) hP nd (q_idx hr (qv 2) (q_mod (qv 3) (q_len T.b_len (a_cons (qv 2) a_nil))))))
        s_nil)
      (s_cons (s_if (t_w (w_or (t_ge (qv 3) (q_len T.b_len (a_cons (qv 2) a_nil))) (w_or1 (t_lt (q_abs T.b_abs (a_cons (qv 5) a_nil)) (q_pow q_int q_int)))))
        (s_cons (s_set (i := 6) hP nd (q_mod (q_mulA (q_addA (q_addA (q_mod (qv 5) q_int) (q_mulA q_int (qv 3))) q_int) q_int) q_int))
        (s_cons (s_set (i := 6) hP nd (q_mod (q_addA (q_addA (q_mulA (qv 6) (qv 6)) (q_mulA q_int (qv 6))) (q_mulA q_int (qv 3))) q_int))
        (s_cons (s_set (i := 6) hP nd (q_mod (q_addA (q_mulA (qv 6) (q_addA (q_mod (qv 6) q_int) q_int)) (qv 3)) q_int))
        (s_one (s_ret hP (q_mod (q_fdiv (qv 6) q_int) (qv 1)))))))
        s_nil)
      (s_one (s_put (i := 0) hP hr (q_abs T.b_abs (a_cons (qv 5) a_nil)) q_str))))))
      s_nil)
    (s_cons (s_set (i := 4) hP nd (q_mod (q_idx hr (qv 0) q_str) (qv 1)))
    (s_cons (s_put (i := 0) hP hr (q_fdiv (q_idx hr (qv 0) q_str) (qv 1)) q_str)
    (s_one (s_ret hP (qv 4))))))))
theorem at__law_draw {k : Nat} {S : SpD} (T : Mg mg) (FA : FunAt K mg "_law_draw" s__law_draw ["_law_pen_here", "_law_most"])
    (pure : ∀ ds q, S ds q → ds.length = P__law_draw.length → g__law_draw (endsOf P__law_draw q) (startE N__law_draw.length P__law_draw ds)) : FnAt Pg w K mg base (k + 1) "_law_draw" ["_law_pen_here", "_law_most"] P__law_draw S :=
    fn_at FA sc__law_draw rfl (by decide) (fun f cdv A outer s H E C hr hP => d__law_draw T hr hP) pure
/-! ### _law_due -/
abbrev s__law_due : Stmt := topS 7
abbrev N__law_due : List Str := ["_law_thing", "_law_sign_here"]
abbrev P__law_due : List Bool := [false]
theorem sc__law_due : FnScope N__law_due ["_law_thing"] (defScope s__law_due) := ⟨rfl, rfl, rfl, by decide +kernel, rfl, by decide +kernel, by decide +kernel⟩
def g__law_due : DS :=
    (dSeq (dIf (dOr (dNot (dTest (dIsi "str" (dVar 0)))) (dOr (dTest (dBin eqD (dCB lenD (dCons (dVar 0) dNil)) (dC (.int 0)))) (dTest (dBin gtD (dCB lenD (dCons (dVar 0) dNil)) (dC (.int 8))))))
      (dRet P__law_due (dC (.bool false)))
      dNext)
    (dRet P__law_due (dBin eqD (dFroz (dLc P__law_due (dSeqI P__law_due (dVar 0)) (gN 1) (dNot (dTest (dChain leD leD (dC (.str "a")) (dVar 1) (dC (.str "z"))))) (dVar 1) [1])) (dFroz (dLst P__law_due dNil)))))
theorem d__law_due {k : Nat} {f : Addr} {cdv : Value} {A : Around} {outer : List Env} {s : Shared} {H : Hp} {E : XK} {C : FC} (T : Mg mg)
    (hr : Room k (A.deeper (PyProof.Rows.envOfC "_law_due" (defScope s__law_due) s.heap.objs.size f cdv))) (hP : C.Tags P__law_due) :
    QSs (cxOf CX0 Pg w K mg base N__law_due "_law_due" (defScope s__law_due) f cdv A outer s H E).nox C (defBody s__law_due) (g__law_due) :=
    have nd := sc__law_due.nd
    (s_cons (s_if (t_w (w_or (t_not (t_val (q_isi (T := "str") (by decide) T.b_isinstance T.b_str (by decide +kernel) (qv 0)))) (w_or (t_eq hr (q_len T.b_len (a_cons (qv 0) a_nil)) q_int) (w_or1 (t_gt (q_len T.b_len (a_cons (qv 0) a_nil)) q_int)))))
      (s_one (s_ret hP q_bl))
      s_nil)
    (s_one (s_ret hP (q_eq hr (q_froz (o_lc (own := [("_law_sign_here", 1)]) hP rfl nd (i_seq hP (qv 0)) (blkOk_by (own := [("_law_sign_here", 1)]) (N := N__law_due) (sc := defScope s__law_due) (by decide +kernel)) (fun _ _ _ _ _ => pg_name (i := 1) nd rfl (Or.inl rfl)) (tgt_name (i := 1) (by decide) (by decide)) (fun _ _ _ _ _ _ hP => ts_one (t_not (t_lele q_str (qv 1) q_str))) (fun _ _ _ _ _ _ hP => (qv 1)))) (q_froz (o_lst hP a_nil))))))
theorem at__law_due {k : Nat} {S : SpD} (T : Mg mg) (FA : FunAt K mg "_law_due" s__law_due ["_law_thing"])
    (pure : ∀ ds q, S ds q → ds.length = P__law_due.length → g__law_due (endsOf P__law_due q) (startE N__law_due.length P__law_due ds)) : FnAt Pg w K mg base (k + 1) "_law_due" ["_law_thing"] P__law_due S :=
    fn_at FA sc__law_due rfl (by decide) (fun f cdv A outer s H E C hr hP => d__law_due T hr hP) pure
/-! ### _law_text -/
abbrev s__law_text : Stmt := topS 8
abbrev N__law_text : List Str := ["_law_pen_here", "_law_many", "_law_k"]
abbrev P__law_text : List Bool := [true, false]
theorem sc__law_text : FnScope N__law_text ["_law_pen_here", "_law_many"] (defScope s__law_text) := ⟨rfl, rfl, rfl, by decide +kernel, rfl, by decide +kernel, by decide +kernel⟩
def g__law_text (S__law_draw : SpD) : DS :=
    (dRet P__law_text (dBM "str" joinD (dC (.str "")) (dCons (dFroz (dLc P__law_text (dRng1 (dCons (dVar 1) dNil)) (gN 2) dYes (dBin ixD (dC (.str "abcdefghijklmnopqrstuvwxyz")) (dCall P__law_text [true, false] S__law_draw (dCons (dVar 0) (dCons (dC (.int 26)) dNil)))) [2])) dNil)))
theorem d__law_text {S__law_draw : SpD} {k : Nat} {f : Addr} {cdv : Value} {A : Around} {outer : List Env} {s : Shared} {H : Hp} {E : XK} {C : FC} (T : Mg mg) (h__law_draw : FnAt Pg w K mg base k "_law_draw" ["_law_pen_here", "_law_most"] [true, false] S__law_draw)
    (hr : Room k (A.deeper (PyProof.Rows.envOfC "_law_text" (defScope s__law_text) s.heap.objs.size f cdv))) (hP : C.Tags P__law_text) :
    QSs (cxOf CX0 Pg w K mg base N__law_text "_law_text" (defScope s__law_text) f cdv A outer s H E).nox C (defBody s__law_text) (g__law_text S__law_draw) :=
    have nd := sc__law_text.nd
    (s_one (s_ret hP (q_join q_str (a_cons (q_froz (o_lc (own := [("_law_k", 2)]) hP rfl nd (i_range1 T.b_range (a_cons (qv 1) a_nil)) (blkOk_by (own := [("_law_k", 2)]) (N := N__law_text) (sc := defScope s__law_text) (by decide +kernel)) (fun _ _ _ _ _ => pg_name (i := 2) nd rfl (Or.inl rfl)) (tgt_name (i := 2) (by decide) (by decide)) (fun _ _ _ _ _ _ _ => ts_nil) (fun _ _ _ _ _ _ hP => (q_idx hr q_str (q_callF hP h__law_draw hr (a_cons (qv 0) (a_cons q_int a_nil))))))) a_nil))))
theorem at__law_text {S__law_draw : SpD} {k : Nat} {S : SpD} (T : Mg mg) (FA : FunAt K mg "_law_text" s__law_text ["_law_pen_here", "_law_many"]) (h__law_draw : FnAt Pg w K mg base k "_law_draw" ["_law_pen_here", "_law_most"] [true, false] S__law_draw)
    (pure : ∀ ds q, S ds q → ds.length = P__law_text.length → g__law_text S__law_draw (endsOf P__law_text q) (startE N__law_text.length P__law_text ds)) : FnAt Pg w K mg base (k + 1) "_law_text" ["_law_pen_here", "_law_many"] P__law_text S :=
    fn_at FA sc__law_text rfl (by decide) (fun f cdv A outer s H E C hr hP => d__law_text T h__law_draw hr hP) pure
/-! ### _law_sign -/
abbrev s__law_sign : Stmt := topS 9
abbrev N__law_sign : List Str := ["_law_pen_here", "_law_signs"]
abbrev P__law_sign : List Bool := [true]
theorem sc__law_sign : FnScope N__law_sign ["_law_pen_here"] (defScope s__law_sign) := ⟨rfl, rfl, rfl, by decide +kernel, rfl, by decide +kernel, by decide +kernel⟩
def g__law_sign (S__law_draw : SpD) : DS :=
    (dSeq (dSet P__law_sign 1 (dC (.str " !\"#$&'()*+,-./0123456789:;<=>?@ABCDEFGHIJKLMNOPQRSTUVWXYZ[\\]^_`")))
    (dSeq (dSet P__law_sign 1 (dBin addAD (dVar 1) (dC (.str "abcdefghijklmnopqrstuvwxyz{|}~\n"))))
    (dRet P__law_sign (dBin ixD (dVar 1) (dCall P__law_sign [true, false] S__law_draw (dCons (dVar 0) (dCons (dCB lenD (dCons (dVar 1) dNil)) dNil)))))))
theorem d__law_sign {S__law_draw : SpD} {k : Nat} {f : Addr} {cdv : Value} {A : Around} {outer : List Env} {s : Shared} {H : Hp} {E : XK} {C : FC} (T : Mg mg) (h__law_draw : FnAt Pg w K mg base k "_law_draw" ["_law_pen_here", "_law_most"] [true, false] S__law_draw)
    (hr : Room k (A.deeper (PyProof.Rows.envOfC "_law_sign" (defScope s__law_sign) s.heap.objs.size f cdv))) (hP : C.Tags P__law_sign) :
    QSs (cxOf CX0 Pg w K mg base N__law_sign "_law_sign" (defScope s__law_sign) f cdv A outer s H E).nox C (defBody s__law_sign) (g__law_sign S__law_draw) :=
    have nd := sc__law_sign.nd
    (s_cons (s_set (i := 1) hP nd q_str)
    (s_cons (s_set (i := 1) hP nd (q_addA (qv 1) q_str))
    (s_one (s_ret hP (q_idx hr (qv 1) (q_callF hP h__law_draw hr (a_cons (qv 0) (a_cons (q_len T.b_len (a_cons (qv 1) a_nil)) a_nil))))))))
theorem at__law_sign {S__law_draw : SpD} {k : Nat} {S : SpD} (T : Mg mg) (FA : FunAt K mg "_law_sign" s__law_sign ["_law_pen_here"]) (h__law_draw : FnAt Pg w K mg base k "_law_draw" ["_law_pen_here", "_law_most"] [true, false] S__law_draw)
    (pure : ∀ ds q, S ds q → ds.length = P__law_sign.length → g__law_sign S__law_draw (endsOf P__law_sign q) (startE N__law_sign.length P__law_sign ds)) : FnAt Pg w K mg base (k + 1) "_law_sign" ["_law_pen_here"] P__law_sign S :=
    fn_at FA sc__law_sign rfl (by decide) (fun f cdv A outer s H E C hr hP => d__law_sign T h__law_draw hr hP) pure
/-! ### law -/
abbrev s_law : Stmt := topS 10
abbrev N_law : List Str := ["_law_script", "_law_pen_here", "_law_turn", "_law_text_here", "_law_at", "_law_sign_here", "_law_some", "_law_odd", "_law_thing", "_law_found"]
abbrev P_law : List Bool := [false]
theorem sc_law : FnScope N_law ["_law_script"] (defScope s_law) := ⟨rfl, rfl, rfl, by decide +kernel, rfl, by decide +kernel, by decide +kernel⟩
def g_law (S__law_pen : SpD) (S__law_text : SpD) (S__law_draw : SpD) (S__law_sign : SpD) (S_is_name : SpD) (S__law_due : SpD) : DS :=
    (dSeq (dSetO 1 (dCallO P_law [false] S__law_pen (dCons (dVar 0) dNil)))
    (dSeq (dFor (dRng1 (dCons (dCB max2D (dCons (dC (.int 3)) (dCons (dCB min2D (dCons (dCB lenD (dCons (dVar 0) dNil)) (dCons (dC (.int 30)) dNil))) dNil))) dNil)) (gN 2)
      (dSeq (dSet P_law 3 (dCall P_law [true, false] S__law_text (dCons (dVar 1) (dCons (dCall P_law [true, false] S__law_draw (dCons (dVar 1) (dCons (dC (.int 10)) dNil))) dNil))))
      (dSeq (dSet P_law 4 (dCall P_law [true, false] S__law_draw (dCons (dVar 1) (dCons (dBin addAD (dCB lenD (dCons (dVar 3) dNil)) (dC (.int 1))) dNil))))
      (dSeq (dSet P_law 5 (dCall P_law [true] S__law_sign (dCons (dVar 1) dNil)))
      (dSeq (dSet P_law 6 (dFroz (dLst P_law (dCons (dVar 3) (dCons (dBin addAD (dBin addAD (dSlA (dVar 3) dNoP (dPart (dVar 4))) (dVar 5)) (dSlA (dVar 3) (dPart (dBin addAD (dVar 4) (dC (.int 1)))) dNoP)) (dCons (dBin addAD (dBin addAD (dSlA (dVar 3) dNoP (dPart (dVar 4))) (dVar 5)) (dSlA (dVar 3) (dPart (dVar 4)) dNoP)) (dCons (dBin addAD (dVar 3) (dC (.str " "))) (dCons (dBin addAD (dC (.str "\n")) (dVar 3)) dNil))))))))
      (dSeq (dSet P_law 6 (dBin addAD (dVar 6) (dFroz (dLst P_law (dCons (dBM0 "str" upperD (dVar 3)) (dCons (dBin addAD (dVar 3) (dC (.str "a"))) (dCons (dC (.str "")) (dCons (dC (.str "abcdefgh")) (dCons (dC (.str "abcdefghi")) (dCons (dC (.str "a")) (dCons (dC (.str "z")) (dCons (dC (.str "aZ")) (dCons (dC (.str "is")) (dCons (dC (.str "not")) dNil))))))))))))))
      (dSeq (dSet P_law 6 (dBin addAD (dVar 6) (dFroz (dLst P_law (dCons (dC (.str "all")) (dCons (dC (.str "some")) (dCons (dC (.str "ask")) (dCons (dC (.str "answer")) (dCons (dC (.str "gate")) (dCons (dC (.str "off")) (dCons (dC (.str "unlet")) (dCons (dC (.str "waits")) (dCons (dC (.str "never")) (dCons (dC (.str "outside")) dNil))))))))))))))
      (dSeq (dSet P_law 7 (dFroz (dLst P_law (dCons (dC .none) (dCons (dC (.int 0)) (dCons (dC (.int 1)) (dCons (dC (.bool true)) (dCons (dFroz (dLst P_law (dCons (dVar 3) dNil))) (dCons (dTup P_law (dCons (dVar 3) dNil)) (dCons (dFroz (dDisp P_law [((dVar 3), (dC (.int 1)))])) (dCons (dFroz (dLst P_law dNil)) (dCons (dFroz (dCBL listSD (dCons (dVar 3) dNil))) (dCons (dCB tupleSD (dCons (dVar 3) dNil)) dNil)))))))))))))
      (dFor (dSeqI P_law (dBin addAD (dVar 6) (dFroz (dLst P_law (dCons (dBin ixD (dVar 7) (dCall P_law [true, false] S__law_draw (dCons (dVar 1) (dCons (dC (.int 10)) dNil)))) (dCons (dBin ixD (dVar 7) (dCall P_law [true, false] S__law_draw (dCons (dVar 1) (dCons (dC (.int 10)) dNil)))) dNil)))))) (gN 8)
        (dSeq (dSet P_law 9 (dCall P_law [false] S_is_name (dCons (dVar 8) dNil)))
        (dIf (dOr (dNot (dTest (dIsi "bool" (dVar 9)))) (dTest (dBin neD (dVar 9) (dCall P_law [false] S__law_due (dCons (dVar 8) dNil)))))
          (dRet P_law (dC (.bool false)))
          dNext)))))))))))
    (dRet P_law (dC (.bool true)))))
theorem d_law {S__law_pen : SpD} {S__law_text : SpD} {S__law_draw : SpD} {S__law_sign : SpD} {S_is_name : SpD} {S__law_due : SpD} {k : Nat} {f : Addr} {cdv : Value} {A : Around} {outer : List Env} {s : Shared} {H : Hp} {E : XK} {C : FC} (T : Mg mg) (h__law_pen : FnAt Pg w K mg base k "_law_pen" ["_law_script"] [false] S__law_pen) (h__law_text : FnAt Pg w K mg base k "_law_text" ["_law_pen_here", "_law_many"] [true, false] S__law_text) (h__law_draw : FnAt Pg w K mg base k "_law_draw" ["_law_pen_here", "_law_most"] [true, false] S__law_draw) (h__law_sign : FnAt Pg w K mg base k "_law_sign" ["_law_pen_here"] [true] S__law_sign) (h_is_name : FnAt Pg w K mg base k "is_name" ["thing"] [false] S_is_name) (h__law_due : FnAt Pg w K mg base k "_law_due" ["_law_thing"] [false] S__law_due)
    (hr : Room k (A.deeper (PyProof.Rows.envOfC "law" (defScope s_law) s.heap.objs.size f cdv))) (hP : C.Tags P_law) :
    QSs (cxOf CX0 Pg w K mg base N_law "law" (defScope s_law) f cdv A outer s H E).nox C (defBody s_law) (g_law S__law_pen S__law_text S__law_draw S__law_sign S_is_name S__law_due) :=
    have nd := sc_law.nd
    (s_cons (s_setO (i := 1) hP nd (o_callF hP h__law_pen hr (a_cons (qv 0) a_nil)))
    (s_cons (s_for PassesOwn.never rfl (i_range1 T.b_range (a_cons (q_max2 rfl T.b_max (a_cons q_int (a_cons (q_min2 rfl T.b_min (a_cons (q_len T.b_len (a_cons (qv 0) a_nil)) (a_cons q_int a_nil))) a_nil))) a_nil)) (g_name (i := 2) hP nd)
      (s_cons (s_set (i := 3) hP nd (q_callF hP h__law_text hr (a_cons (qv 1) (a_cons (q_callF hP h__law_draw hr (a_cons (qv 1) (a_cons q_int a_nil))) a_nil))))
      (s_cons (s_set (i := 4) hP nd (q_callF hP h__law_draw hr (a_cons (qv 1) (a_cons (q_addA (q_len T.b_len (a_cons (qv 3) a_nil)) q_int) a_nil))))
      (s_cons (s_set (i := 5) hP nd (q_callF hP h__law_sign hr (a_cons (qv 1) a_nil)))
      (s_cons (s_set (i := 6) hP nd (q_froz (o_lst hP (a_cons (qv 3) (a_cons (q_addA (q_addA (q_sliceA (qv 3) p_none (p_some (qv 4))) (qv 5)) (q_sliceA (qv 3) (p_some (q_addA (qv 4) q_int)) p_none)) (a_cons (q_addA (q_addA (q_sliceA (qv 3) p_none (p_some (qv 4))) (qv 5)) (q_sliceA (qv 3) (p_some (qv 4)) p_none)) (a_cons (q_addA (qv 3) q_str) (a_cons (q_addA q_str (qv 3)) a_nil))))))))
      (s_cons (s_set (i := 6) hP nd (q_addA (qv 6) (q_froz (o_lst hP (a_cons (q_upper (qv 3)) (a_cons (q_addA (qv 3) q_str) (a_cons q_str (a_cons q_str (a_cons q_str (a_cons q_str (a_cons q_str (a_cons q_str (a_cons q_str (a_cons q_str a_nil))))))))))))))
      (s_cons (s_set (i := 6) hP nd (q_addA (qv 6) (q_froz (o_lst hP (a_cons q_str (a_cons q_str (a_cons q_str (a_cons q_str (a_cons q_str (a_cons q_str (a_cons q_str (a_cons q_str (a_cons q_str (a_cons q_str a_nil))))))))))))))
      (s_cons (s_set (i := 7) hP nd (q_froz (o_lst hP (a_cons q_non (a_cons q_int (a_cons q_int (a_cons q_bl (a_cons (q_froz (o_lst hP (a_cons (qv 3) a_nil))) (a_cons (q_tup hP (a_cons (qv 3) a_nil)) (a_cons (q_froz (o_disp hP (ps_cons' (fun _ hP => (qv 3)) (fun _ hP => q_int) ps_nil'))) (a_cons (q_froz (o_lst hP a_nil)) (a_cons (q_froz (o_listS rfl T.b_list (a_cons (qv 3) a_nil))) (a_cons (q_tupleS rfl T.b_tuple (a_cons (qv 3) a_nil)) a_nil)))))))))))))
      (s_one (s_for PassesOwn.never rfl (i_seq hP (q_addA (qv 6) (q_froz (o_lst hP (a_cons (q_idx hr (qv 7) (q_callF hP h__law_draw hr (a_cons (qv 1) (a_cons q_int a_nil)))) (a_cons (q_idx hr (qv 7) (q_callF hP h__law_draw hr (a_cons (qv 1) (a_cons q_int a_nil)))) a_nil)))))) (g_name (i := 8) hP nd)
        (s_cons (s_set (i := 9) hP nd (q_callF hP h_is_name hr (a_cons (qv 8) a_nil)))
        (s_one (s_if (t_w (w_or (t_not (t_val (q_isi (T := "bool") (by decide) T.b_isinstance T.b_bool (by decide +kernel) (qv 9)))) (w_or1 (t_ne hr (qv 9) (q_callF hP h__law_due hr (a_cons (qv 8) a_nil))))))
          (s_one (s_ret hP q_bl))
          s_nil)))))))))))))
    (s_one (s_ret hP q_bl))))
theorem at_law {S__law_pen : SpD} {S__law_text : SpD} {S__law_draw : SpD} {S__law_sign : SpD} {S_is_name : SpD} {S__law_due : SpD} {k : Nat} {S : SpD} (T : Mg mg) (FA : FunAt K mg "law" s_law ["_law_script"]) (h__law_pen : FnAt Pg w K mg base k "_law_pen" ["_law_script"] [false] S__law_pen) (h__law_text : FnAt Pg w K mg base k "_law_text" ["_law_pen_here", "_law_many"] [true, false] S__law_text) (h__law_draw : FnAt Pg w K mg base k "_law_draw" ["_law_pen_here", "_law_most"] [true, false] S__law_draw) (h__law_sign : FnAt Pg w K mg base k "_law_sign" ["_law_pen_here"] [true] S__law_sign) (h_is_name : FnAt Pg w K mg base k "is_name" ["thing"] [false] S_is_name) (h__law_due : FnAt Pg w K mg base k "_law_due" ["_law_thing"] [false] S__law_due)
    (pure : ∀ ds q, S ds q → ds.length = P_law.length → g_law S__law_pen S__law_text S__law_draw S__law_sign S_is_name S__law_due (endsOf P_law q) (startE N_law.length P_law ds)) : FnAt Pg w K mg base (k + 1) "law" ["_law_script"] P_law S :=
    fn_at FA sc_law rfl (by decide) (fun f cdv A outer s H E C hr hP => d_law T h__law_pen h__law_text h__law_draw h__law_sign h_is_name h__law_due hr hP) pure
end
end My

set_option linter.all false
set_option maxRecDepth 100000
namespace My
open PySem PySem.Spec L2 Dv
def letter (c : Nat) : Bool := decide (c ∈ (Str.ofString "abcdefghijklmnopqrstuvwxyz").cps.toList)
def isNameD : PyData → Bool
  | .str x => decide (1 ≤ x.length) && decide (x.length ≤ 8) && x.cps.toList.all letter
  | _ => false
def S_is_name : SpD := fun ds q => ∃ d, ds = [d] ∧ (∀ x, d = .str x → x.length ≤ big) ∧ q (.frz (.bool (isNameD d))) [none]
theorem p_is_name (ds : List PyData) (q : SV → Outs → Prop) (h : S_is_name ds q) (hl : ds.length = P_is_name.length) : g_is_name (endsOf P_is_name q) (startE N_is_name.length P_is_name ds) := by
  obtain ⟨d, e, hd, h⟩ := h
  subst e
  cases d with
  | str x =>
    refine ⟨hd x rfl, ?_⟩
    refine by2_d (fun h1 => ?_) (fun h1 => ?_)
    · refine by2_nd (fun h2 => ?_) (fun h2 => ?_)
      · have e : isNameD (.str x) = false := by
          have : ¬ x.length ≤ 8 := by omega
          simp [isNameD, this]
        rw [e] at h
        exact h
      · show dLcL _ _ _ _ _ _ (signsD x) [] _
        refine lc_map (fun d => match d with
          | .str c => .bool (letter (c.cps.getD 0 0))
          | _ => .none) (fun d hd yes no hy => ?_) ?_ ?_
        · obtain ⟨c, _, rfl⟩ := List.mem_map.mp hd
          exact ⟨rfl, hy⟩
        · have := hd x rfl
          simpa [signsD, Str.length] using this
        · have e1 : (signsD x).map (fun d => match d with
              | .str c => PyData.bool (letter (c.cps.getD 0 0))
              | _ => .none) = (x.cps.toList.map letter).map PyData.bool := by
            unfold signsD
            rw [List.map_map, List.map_map]
            rfl
          rw [e1]
          conv => whnf
          rw [boolsD_map]
          have e : isNameD (.str x) = (x.cps.toList.map letter).all id := by
            have h1' : 1 ≤ x.length := by omega
            have h2' : x.length ≤ 8 := by omega
            simp [isNameD, h1', h2', List.all_map]
          rw [e] at h
          exact h
    · have e : isNameD (.str x) = false := by
        have : ¬ 1 ≤ x.length := by omega
        simp [isNameD, this]
      rw [e] at h
      exact h
  | _ =>
    exact h
end My

set_option linter.all false
set_option maxRecDepth 100000
namespace My
open PySem PySem.Spec L2 Dv
/-! ### the pen -/
def penD (ns : List Int) (a l : Int) : PyData := .dict [(.str "script", .list (ns.map .int)), (.str "at", .int a), (.str "left", .int l)]
def PenOk (d : PyData) : Prop := ∃ ns a l, d = penD ns a l ∧ ns.length ≤ 63 ∧ 0 ≤ a ∧ 0 ≤ l
def S__law_pen : SpD := fun ds q => ∃ ns : List Int, ds = [.list (ns.map .int)] ∧ ∀ pen, PenOk pen → q (.own pen) [none]
theorem cut63 (ns : List Int) : ∃ ms : List Int, cutD (ns.map PyData.int) none (some 63) = ms.map PyData.int ∧ ms.length ≤ 63 := by
  refine ⟨ns.take 63, ?_, by simp; omega⟩
  unfold cutD
  rw [HT.sIx_none, show HT.sIx (ns.map PyData.int).length (ns.map PyData.int).length (some 63) = min 63 (ns.map PyData.int).length from HT.sIx_nat _ _ 63]
  rw [List.drop_zero, Nat.sub_zero, List.map_take, List.length_map]
  by_cases h : 63 ≤ ns.length
  · rw [Nat.min_eq_left h]
  · rw [Nat.min_eq_right (by omega), List.take_of_length_le (by simp), List.take_of_length_le (by simp; omega)]
theorem p__law_pen (ds : List PyData) (q : SV → Outs → Prop) (h : S__law_pen ds q) (hl : ds.length = P__law_pen.length) : g__law_pen (endsOf P__law_pen q) (startE N__law_pen.length P__law_pen ds) := by
  obtain ⟨ns, rfl, h⟩ := h
  obtain ⟨ms, e, hm⟩ := cut63 ns
  refine ⟨by show 3 ≤ 15; decide, h _ ⟨ms, 0, 0, ?_, hm, by omega, by omega⟩⟩
  show PyData.dict (mergeD [] [(Sum.inr "script", .list (cutD (ns.map PyData.int) none (some 63))), (Sum.inr "at", .int 0), (Sum.inr "left", .int 0)]) = _
  rw [e]
  rfl
def S__law_draw : SpD := fun ds q => ∃ pen n, ds = [pen, .int n] ∧ PenOk pen ∧ 0 < n ∧ n < 1073741824 ∧ ∀ r pen', 0 ≤ r → r < n → PenOk pen' → q (.frz (.int r)) [some pen', none]
theorem shp_int (i : Int) : shp (.int i) := rfl
theorem shp_ints (ns : List Int) : shp (.list (ns.map .int)) := by
  have h1 : PyData.canLayAll0 (ns.map PyData.int) = true := by
    induction ns with
    | nil => rfl
    | cons n ns ih => simp [PyData.canLayAll0, PyData.canLay0, ih]
  have h2 : PyData.depthAll (ns.map PyData.int) = 0 := by
    induction ns with
    | nil => rfl
    | cons n ns ih =>
      have ih' := ih (by simp [PyData.canLayAll0] at h1; exact h1.2)
      simp [PyData.depthAll, PyData.depth, ih']
  unfold shp SeqAt.shaped
  simp [PyData.canLay0, PyData.depth, h1, h2]
theorem at_ints {ns : List Int} (h : ns ≠ []) {a : Int} (ha : 0 ≤ a) : ∃ c : Int, atI (ns.map PyData.int) (a % ((ns.map PyData.int).length : Nat)) = some (.int c) := by
  have hl : 0 < ns.length := List.length_pos_iff.mpr h
  have h1 : 0 ≤ a % (ns.length : Int) := Int.emod_nonneg _ (by omega)
  have h2 : a % (ns.length : Int) < ns.length := Int.emod_lt_of_pos _ (by omega)
  rw [List.length_map]
  have e : (((a % (ns.length : Int)).toNat : Nat) : Int) = a % (ns.length : Int) := by omega
  have hj : (a % (ns.length : Int)).toNat < ns.length := by omega
  refine ⟨ns[(a % (ns.length : Int)).toNat], ?_⟩
  have z := atI_nat (xs := ns.map PyData.int) (j := (a % (ns.length : Int)).toNat) (v := .int ns[(a % (ns.length : Int)).toNat]) (by rw [List.getElem?_map, List.getElem?_eq_getElem hj]; rfl)
  rw [e] at z
  exact z
theorem mod_lt64 {x m : Int} (h0 : 0 < m) (h1 : m < 2 ^ 64) : -(2 ^ 64) < x % m ∧ x % m < 2 ^ 64 := by
  have := Int.emod_nonneg x (show m ≠ 0 by omega)
  have := Int.emod_lt_of_pos x h0
  omega
theorem p__law_draw (ds : List PyData) (q : SV → Outs → Prop) (h : S__law_draw ds q) (hl : ds.length = P__law_draw.length) : g__law_draw (endsOf P__law_draw q) (startE N__law_draw.length P__law_draw ds) := by
  obtain ⟨pen, n, rfl, ⟨ns, a, l, rfl, hns, ha, hl0⟩, hn, hn2, h⟩ := h
  have fin : ∀ a' l' : Int, 0 ≤ a' → 0 ≤ l' → q (.frz (.int (l' % n))) [some (penD ns a' (l' / n)), none] := fun a' l' h1 h2 =>
    h _ _ (Int.emod_nonneg _ (by omega)) (Int.emod_lt_of_pos _ hn) ⟨ns, a', _, rfl, hns, h1, Int.ediv_nonneg h2 (by omega)⟩
  have mix : ∀ (x : Int) (a' l' : Int), 0 ≤ a' → 0 ≤ l' → q (.frz (.int (x % n))) [some (penD ns a' l'), none] := fun x a' l' h1 h2 =>
    h _ _ (Int.emod_nonneg _ (by omega)) (Int.emod_lt_of_pos _ hn) ⟨ns, a', _, rfl, hns, h1, h2⟩
  have k1 : (0 : Int) < 2147483587 := by decide
  have k2 : (0 : Int) < 2147483647 := by decide
  have k3 : (0 : Int) < 2147483549 := by decide
  have k4 : (0 : Int) < 2147483543 := by decide
  have k5 : (0 : Int) < 10007 := by decide
  have c1 : -(2 ^ 64) < (15485863 : Int) ∧ (15485863 : Int) < 2 ^ 64 := by decide
  have c2 : -(2 ^ 64) < (69621 : Int) ∧ (69621 : Int) < 2 ^ 64 := by decide
  have c3 : -(2 ^ 64) < (30011 : Int) ∧ (30011 : Int) < 2 ^ 64 := by decide
  have c4 : -(2 ^ 64) < (7 : Int) ∧ (7 : Int) < 2 ^ 64 := by decide
  have c5 : CDiv 0 32 := ⟨by decide, by decide⟩
  have c6 : CPow 10 18 := ⟨by decide, by decide, by decide⟩
  refine ⟨shp_int _, shp_int _, by2_i (fun h0 => ?_) (fun h0 => ?_)⟩
  · refine ⟨tle, tle, shp_ints ns, rfl, by2_i (fun h1 => ?_) (fun h1 => ?_)⟩
    · have hne : ns ≠ [] := fun z => by subst z; exact absurd h1 (by decide)
      have hl : 0 < ns.length := List.length_pos_iff.mpr hne
      refine ⟨by show (0 : Int) < ((ns.map PyData.int).length : Nat); rw [List.length_map]; omega, ?_⟩
      obtain ⟨c, hc⟩ := at_ints hne ha
      conv => whnf
      rw [hc]
      refine by2_d (fun h2 => ?_) (fun h2 => ⟨c6, by2_d (fun h3 => ?_) (fun h3 => ?_)⟩)
      · exact ⟨k1, .inl c1, .inr c2, k2, .inl (mod_lt64 k2 (by decide)), .inl c3, .inl c4, k3, k5, .inl (mod_lt64 k3 (by decide)), k4, c5, hn, mix _ (a + 1) l (by omega) hl0⟩
      · exact ⟨k1, .inl c1, .inr c2, k2, .inl (mod_lt64 k2 (by decide)), .inl c3, .inl c4, k3, k5, .inl (mod_lt64 k3 (by decide)), k4, c5, hn, mix _ (a + 1) l (by omega) hl0⟩
      · exact ⟨tle, hn, ⟨hn, hn2⟩, tle, fin (a + 1) _ (by omega) (by split <;> omega)⟩
    · generalize (13 : Int) = c
      refine by2_d (fun h2 => ?_) (fun h2 => ⟨c6, by2_d (fun h3 => ?_) (fun h3 => ?_)⟩)
      · exact ⟨k1, .inl c1, .inr c2, k2, .inl (mod_lt64 k2 (by decide)), .inl c3, .inl c4, k3, k5, .inl (mod_lt64 k3 (by decide)), k4, c5, hn, mix _ (a + 1) l (by omega) hl0⟩
      · exact ⟨k1, .inl c1, .inr c2, k2, .inl (mod_lt64 k2 (by decide)), .inl c3, .inl c4, k3, k5, .inl (mod_lt64 k3 (by decide)), k4, c5, hn, mix _ (a + 1) l (by omega) hl0⟩
      · exact ⟨tle, hn, ⟨hn, hn2⟩, tle, fin (a + 1) _ (by omega) (by split <;> omega)⟩
  · exact ⟨hn, ⟨hn, hn2⟩, tle, fin a l ha hl0⟩
end My

set_option linter.all false
set_option maxRecDepth 100000
namespace My
open PySem PySem.Spec L2 Dv
theorem letter_iff (c : Nat) : letter c = decide (97 ≤ c ∧ c ≤ 122) := by
  by_cases h : c < 128
  · have : ∀ c : Nat, c < 128 → letter c = decide (97 ≤ c ∧ c ≤ 122) := by decide +kernel
    exact this c h
  · have h1 : ¬ (97 ≤ c ∧ c ≤ 122) := by omega
    rw [decide_eq_false h1]
    unfold letter
    refine decide_eq_false fun z => ?_
    have : ∀ x ∈ (Str.ofString "abcdefghijklmnopqrstuvwxyz").cps.toList, x < 128 := by decide +kernel
    exact h (this c z)
theorem le_a (c : Nat) : (!decide ([c] < (Str.ofString "a").cps.toList)) = decide (97 ≤ c) := by
  have e : (Str.ofString "a").cps.toList = [97] := by decide +kernel
  rw [e]
  by_cases h : 97 ≤ c
  · rw [decide_eq_true h, decide_eq_false]
    · rfl
    · intro z
      rw [List.cons_lt_cons_iff] at z
      rcases z with z | ⟨_, z⟩
      · omega
      · exact absurd z (List.not_lt_nil _)
  · rw [decide_eq_false h, decide_eq_true]
    · rfl
    · rw [List.cons_lt_cons_iff]; left; omega
theorem le_z (c : Nat) : (!decide ((Str.ofString "z").cps.toList < [c])) = decide (c ≤ 122) := by
  have e : (Str.ofString "z").cps.toList = [122] := by decide +kernel
  rw [e]
  by_cases h : c ≤ 122
  · rw [decide_eq_true h, decide_eq_false]
    · rfl
    · intro z
      rw [List.cons_lt_cons_iff] at z
      rcases z with z | ⟨_, z⟩
      · omega
      · exact absurd z (List.not_lt_nil _)
  · rw [decide_eq_false h, decide_eq_true]
    · rfl
    · rw [List.cons_lt_cons_iff]; left; omega
def GoodD (d : PyData) : Prop := ∀ x, d = .str x → Tx 1000 x
def S__law_due : SpD := fun ds q => ∃ d, ds = [d] ∧ GoodD d ∧ q (.frz (.bool (isNameD d))) [none]
/-- the signs that are no letters -/
def oddS : PyData → Option PyData
  | .str c => if letter (c.cps.getD 0 0) then none else some (.str c)
  | _ => none
theorem odd_nil (x : Str) : (PyData.list ((signsD x).filterMap oddS)).eqv (.list []) = x.cps.toList.all letter := by
  have e : ∀ cs : List Nat, PyData.eqvAll ((cs.map fun c => PyData.str ⟨#[c]⟩).filterMap oddS) [] = cs.all letter := by
    intro cs
    induction cs with
    | nil => rfl
    | cons c cs ih =>
      rw [List.map_cons, List.filterMap_cons]
      have e1 : oddS (.str ⟨#[c]⟩) = if letter c then none else some (.str ⟨#[c]⟩) := rfl
      rw [e1, List.all_cons]
      cases h : letter c with
      | true => simpa using ih
      | false => simp [PyData.eqvAll]
  simp only [PyData.eqv]
  exact e _
theorem p__law_due (ds : List PyData) (q : SV → Outs → Prop) (h : S__law_due ds q) (hl : ds.length = P__law_due.length) : g__law_due (endsOf P__law_due q) (startE N__law_due.length P__law_due ds) := by
  obtain ⟨d, e, hd, h⟩ := h
  subst e
  cases d with
  | str x =>
    have hx := hd x rfl
    have hb : x.length ≤ big := Nat.le_trans hx.len (by decide)
    refine ⟨hb, rfl, rfl, by2_i (fun h1 => ?_) (fun h1 => ⟨hb, by2_d (fun h2 => ?_) (fun h2 => ?_)⟩)⟩
    · have e : isNameD (.str x) = false := by
        have : x.length = 0 := by simpa [PyData.eqv] using h1
        simp [isNameD, this]
      rw [e] at h
      exact h
    · have e : isNameD (.str x) = false := by
        have : ¬ x.length ≤ 8 := by omega
        simp [isNameD, this]
      rw [e] at h
      exact h
    · have h0 : ¬ x.length = 0 := by simpa [PyData.eqv] using h1
      show dLcL _ _ _ _ _ _ (signsD x) [] _
      refine lc_filterMap oddS (fun d hd yes no hy hn => ?_) (by simpa [signsD, Str.length] using hb) ?_
      · obtain ⟨c, _, rfl⟩ := List.mem_map.mp hd
        have e1 : oddS (.str ⟨#[c]⟩) = if letter c then none else some (.str ⟨#[c]⟩) := rfl
        rw [e1, letter_iff] at hy hn
        refine by2_i (fun h1 => ?_) (fun h1 => ?_)
        · have h1' : 97 ≤ c := by
            have := (le_a c).symm.trans h1
            exact of_decide_eq_true this
          refine by2_i (fun h2 => ?_) (fun h2 => ?_)
          · have h2' : ¬ c ≤ 122 := by
              have : (!(!decide ((Str.ofString "z").cps.toList < [c]))) = true := h2
              rw [le_z] at this
              simpa using this
            exact hy _ (by rw [decide_eq_false (by omega)]; rfl)
          · have h2' : c ≤ 122 := by
              have : (!(!decide ((Str.ofString "z").cps.toList < [c]))) = false := h2
              rw [le_z] at this
              simpa using this
            exact hn (by rw [decide_eq_true (by omega)]; rfl)
        · have h1' : ¬ 97 ≤ c := by
            have := (le_a c).symm.trans h1
            exact of_decide_eq_false this
          exact hy _ (by rw [decide_eq_false (by omega)]; rfl)
      · refine ⟨tle, Shp.shp (n := 1) (Shp.list fun d hd => ?_), rfl, ?_⟩
        · obtain ⟨y, hy, e⟩ := List.mem_filterMap.mp hd
          obtain ⟨c, hc, rfl⟩ := List.mem_map.mp hy
          have e1 : oddS (.str ⟨#[c]⟩) = if letter c then none else some (.str ⟨#[c]⟩) := rfl
          rw [e1] at e
          split at e
          · cases e
          · cases e
            exact Shp.str (n := 1) ⟨by simp [Str.length], fun c' hc' => by simp at hc'; subst hc'; exact hx.ok _ hc⟩
        · have e : isNameD (.str x) = (PyData.list ((signsD x).filterMap oddS)).eqv (.list []) := by
            rw [odd_nil]
            have h1' : 1 ≤ x.length := by omega
            have h2' : x.length ≤ 8 := by omega
            simp [isNameD, h1', h2']
          rw [e] at h
          exact h
  | _ => exact h
def S__law_text : SpD := fun ds q => ∃ pen n, ds = [pen, .int n] ∧ PenOk pen ∧ 0 ≤ n ∧ n ≤ 9 ∧ ∀ x pen', x.cps.toList.all letter = true → x.length ≤ 9 → PenOk pen' → q (.frz (.str x)) [some pen', none]
theorem abc_at {r : Int} (h0 : 0 ≤ r) (h1 : r < 26) : ∃ c, atI (Str.ofString "abcdefghijklmnopqrstuvwxyz").cps.toList r = some c ∧ letter c = true := by
  have : ∀ r : Nat, r < 26 → ∃ c, atI (Str.ofString "abcdefghijklmnopqrstuvwxyz").cps.toList (r : Nat) = some c ∧ letter c = true := by
    intro r hr
    have hl : (Str.ofString "abcdefghijklmnopqrstuvwxyz").cps.toList.length = 26 := by decide +kernel
    refine ⟨_, atI_nat (List.getElem?_eq_getElem (by omega)), ?_⟩
    unfold letter
    exact decide_eq_true (List.getElem_mem _)
  obtain ⟨c, h2, h3⟩ := this r.toNat (by omega)
  have e : ((r.toNat : Nat) : Int) = r := by omega
  rw [e] at h2
  exact ⟨c, h2, h3⟩
theorem p__law_text (ds : List PyData) (q : SV → Outs → Prop) (h : S__law_text ds q) (hl : ds.length = P__law_text.length) : g__law_text S__law_draw (endsOf P__law_text q) (startE N__law_text.length P__law_text ds) := by
  obtain ⟨pen, n, rfl, hp, hn, hn9, h⟩ := h
  refine ⟨rfl, by omega, by omega, ?_⟩
  refine lc_all (fun acc ρ => ∃ pen' cs, PenOk pen' ∧ ρ = [some (.own pen'), some (.frz (.int n)), none] ∧ acc = cs.map (fun c => PyData.str ⟨#[c]⟩) ∧ cs.all letter = true) (fun d hd acc ρ yes no hI hy => ?_) ⟨pen, [], hp, rfl, rfl, rfl⟩ ?_ (fun acc ρ hI hlen => ?_)
  · obtain ⟨pen', cs, hp', rfl, rfl, hcs⟩ := hI
    refine ⟨⟨trivial, trivial⟩, by decide, ?_⟩
    refine ⟨pen', 26, rfl, hp', by decide, by decide, fun r pen2 h0 h1 hp2 => ?_⟩
    obtain ⟨c, hc, hl⟩ := abc_at h0 h1
    refine ⟨by decide, ?_⟩
    conv => whnf
    rw [hc]
    exact hy _ _ ⟨pen2, cs ++ [c], hp2, rfl, by rw [List.map_append]; rfl, by rw [List.all_append, hcs]; simp [hl]⟩
  · simp [rangeD]; omega
  · obtain ⟨pen', cs, hp', rfl, rfl, hcs⟩ := hI
    have e : cs.map (fun c => PyData.str ⟨#[c]⟩) = (cs.map fun c => (⟨#[c]⟩ : Str)).map PyData.str := by rw [List.map_map]; rfl
    rw [e]
    have hlen' : cs.length = n.toNat := by simpa [rangeD] using hlen
    conv => whnf
    rw [strsD_map]
    have e2 := join_signs cs
    refine ⟨?_, h _ _ (by rw [e2]; exact hcs) (by rw [len_codes, e2]; omega) hp'⟩
    rw [sum_signs, List.length_map]
    have : (("" : Str)).length = 0 := by decide
    rw [this]
    omega
def S__law_sign : SpD := fun ds q => ∃ pen, ds = [pen] ∧ PenOk pen ∧ ∀ c pen', c < 128 → PenOk pen' → q (.frz (.str ⟨#[c]⟩)) [some pen']
def signsAll : Str := Str.ofString " !\"#$&'()*+,-./0123456789:;<=>?@ABCDEFGHIJKLMNOPQRSTUVWXYZ[\\]^_`" ++ Str.ofString "abcdefghijklmnopqrstuvwxyz{|}~\n"
theorem p__law_sign (ds : List PyData) (q : SV → Outs → Prop) (h : S__law_sign ds q) (hl : ds.length = P__law_sign.length) : g__law_sign S__law_draw (endsOf P__law_sign q) (startE N__law_sign.length P__law_sign ds) := by
  obtain ⟨pen, rfl, hp, h⟩ := h
  have hlen : signsAll.length = 95 := by decide +kernel
  have hall : ∀ c ∈ signsAll.cps.toList, c < 128 := by decide +kernel
  refine ⟨by decide +kernel, ?_⟩
  conv => whnf
  unfold signsAll at hlen hall
  generalize (Str.ofString " !\"#$&'()*+,-./0123456789:;<=>?@ABCDEFGHIJKLMNOPQRSTUVWXYZ[\\]^_`" ++ Str.ofString "abcdefghijklmnopqrstuvwxyz{|}~\n") = signsAll at hlen hall ⊢
  refine ⟨by rw [hlen]; decide, ⟨trivial, trivial⟩, by simp [selSlots], ?_⟩
  refine ⟨pen, 95, by rw [hlen]; rfl, hp, by decide, by decide, fun r pen' h0 h1 hp' => ?_⟩
  have hl2 : signsAll.cps.toList.length = 95 := by rw [← len_codes, hlen]
  have hr : r.toNat < signsAll.cps.toList.length := by omega
  have e : atI signsAll.cps.toList r = some (signsAll.cps.toList[r.toNat]) := by
    have z := atI_nat (List.getElem?_eq_getElem hr)
    have e : ((r.toNat : Nat) : Int) = r := by omega
    rw [e] at z
    exact z
  refine ⟨by rw [hlen]; decide, ?_⟩
  conv => whnf
  rw [e]
  exact h _ _ (hall _ (List.getElem_mem _)) hp'
end My

set_option linter.all false
set_option maxRecDepth 100000
namespace My
open PySem PySem.Spec L2 Dv
theorem tx_upper {x : Str} (h : x.cps.toList.all letter = true) (hl : x.length ≤ 9) : Tx 1000 (Txt.upper x) := by
  have e : (Txt.upper x).cps.toList = (x.cps.toList.map Unicode.upperOf).flatten := by
    show (placed x fun _ c => Unicode.upperOf c).toList = _
    simp only [placed, Array.toList_flatten, Array.toList_mapIdx, Array.toList_map, List.mapIdx_eq_zipIdx_map, List.map_map]
    rw [show (Array.toList ∘ fun (x : Nat × Nat) => (Unicode.upperOf x.1).toArray) = (Unicode.upperOf ∘ Prod.fst) from rfl, ← List.map_map, List.zipIdx_map_fst]
  have hu : ∀ c, letter c = true → ∃ c', Unicode.upperOf c = [c'] ∧ c' < 128 := by
    intro c hc
    rw [letter_iff] at hc
    have hc := of_decide_eq_true hc
    have : ∀ c : Nat, c < 128 → 97 ≤ c ∧ c ≤ 122 → (Unicode.upperOf c).length = 1 ∧ ∀ c' ∈ Unicode.upperOf c, c' < 128 := by decide +kernel
    obtain ⟨h1, h2⟩ := this c (by omega) hc
    match hh : Unicode.upperOf c, h1 with
    | [c'], _ => exact ⟨c', rfl, h2 c' (by rw [hh]; simp)⟩
  have : ∀ cs : List Nat, cs.all letter = true → (cs.map Unicode.upperOf).flatten.length = cs.length ∧ ∀ c ∈ (cs.map Unicode.upperOf).flatten, c < 128 := by
    intro cs
    induction cs with
    | nil => intro _; exact ⟨rfl, fun c hc => absurd hc (by simp)⟩
    | cons c cs ih =>
      intro hc
      rw [List.all_cons, Bool.and_eq_true] at hc
      obtain ⟨c', e1, h1⟩ := hu c hc.1
      obtain ⟨h2, h3⟩ := ih hc.2
      rw [List.map_cons, List.flatten_cons, e1]
      refine ⟨by simp [h2], fun d hd => ?_⟩
      rcases List.mem_append.mp hd with hd | hd
      · simp at hd; omega
      · exact h3 d hd
  obtain ⟨h1, h2⟩ := this _ h
  refine ⟨by rw [len_codes, e, h1, ← len_codes]; omega, fun c hc => ?_⟩
  rw [e] at hc
  have := h2 c hc
  omega
theorem tx_word {x : Str} (h : x.cps.toList.all letter = true) (hl : x.length ≤ 9) : Tx 9 x := ⟨hl, fun c hc => by
  have := List.all_eq_true.mp h c hc
  rw [letter_iff] at this
  have := of_decide_eq_true this
  omega⟩
theorem good_str {n : Nat} {x : Str} (h : Tx n x) (hn : n ≤ 1000) : GoodD (.str x) := fun y e => by cases e; exact h.mono hn
def LI (s : PyData) (ρ : DEnv) : Prop := ∃ pen a b c d e f g h, PenOk pen ∧ ρ = [some (.frz s), some (.own pen), a, b, c, d, e, f, g, h]
set_option maxHeartbeats 0 in
theorem p_law (ds : List PyData) (q : SV → Outs → Prop) (h : lawSp 63 (fun _ => True) ds q) (hl : ds.length = P_law.length) : g_law S__law_pen S__law_text S__law_draw S__law_sign S_is_name S__law_due (endsOf P_law q) (startE N_law.length P_law ds) := by
  obtain ⟨ns, rfl, hns, -, h⟩ := h
  refine ⟨trivial, List.nodup_nil, ns, rfl, fun pen hp => ?_⟩
  have hr : ∀ n : Nat, (if (if (30 : Int) < n then 30 else (n : Int)) > 3 then (if (30 : Int) < n then 30 else (n : Int)) else 3) < 2 ^ 62 ∧ -2 ^ 62 ≤ (if (if (30 : Int) < n then 30 else (n : Int)) > 3 then (if (30 : Int) < n then 30 else (n : Int)) else 3) := by
    intro n
    split <;> split <;> omega
  refine ⟨(hr _).1, (hr _).2, ?_⟩
  refine loop_all (LI (.list (ns.map .int))) (fun d hd ρ nx hI hnx => ?_) ⟨pen, _, _, _, _, _, _, _, _, hp, rfl⟩ (fun ρ' hI => ?_)
  · obtain ⟨pen, a1, a2, a3, a4, a5, a6, a7, a8, hp, rfl⟩ := hI
    refine ⟨⟨trivial, trivial⟩, by decide, pen, 10, rfl, hp, by decide, by decide, fun r pen1 h0 h1 hp1 => ?_⟩
    refine ⟨⟨trivial, trivial⟩, by simp [selSlots], pen1, r, rfl, hp1, by omega, by omega, fun x pen2 hx hxl hp2 => ?_⟩
    have tx := tx_word hx hxl
    refine ⟨Nat.le_trans hxl tle, ⟨trivial, trivial⟩, by simp [selSlots], pen2, _, rfl, hp2, by omega, by omega, fun r2 pen3 h2 h3 hp3 => ?_⟩
    refine ⟨⟨trivial, trivial⟩, by decide, pen3, rfl, hp3, fun c pen4 hc hp4 => ?_⟩
    have tc : Tx 1 ⟨#[c]⟩ := ⟨Nat.le_refl 1, fun c' hc' => by simp at hc'; omega⟩
    have l1 := tx.len
    have l2 := tc.len
    have ta := (tx.cut none (some r2)).app tc
    have tb := ta.app (tx.cut (some (r2 + 1)) none)
    have td := ta.app (tx.cut (some r2) none)
    have b1 : ∀ {n : Nat} {y z : Str}, Tx n y → Tx 10 z → n ≤ 30 → y.length + z.length ≤ big := fun h1 h2 h3 => by
      have := h1.len; have := h2.len; unfold big; omega
    have hb : x.length ≤ big := Nat.le_trans l1 tle
    have tsp : Tx 1 (Str.ofString " ") := Tx.lit (by decide +kernel)
    have tnl : Tx 1 (Str.ofString "\n") := Tx.lit (by decide +kernel)
    have tla : Tx 1 (Str.ofString "a") := Tx.lit (by decide +kernel)
    refine ⟨hb, b1 (tx.cut none (some r2)) (tc.mono (by decide)) (by decide), hb, b1 ta ((tx.cut (some (r2 + 1)) none).mono (by decide)) (by decide), ?_⟩
    refine ⟨hb, b1 (tx.cut none (some r2)) (tc.mono (by decide)) (by decide), hb, b1 ta ((tx.cut (some r2) none).mono (by decide)) (by decide), ?_⟩
    refine ⟨b1 tx (tsp.mono (by decide)) (by decide), b1 tnl (tx.mono (by decide)) (by decide), tle, ?_⟩
    refine ⟨rfl, Nat.le_trans l1 tle, b1 tx (tla.mono (by decide)) (by decide), tle, tle, ?_⟩
    conv => whnf
    refine ⟨tle, ?_⟩
    conv => whnf
    refine ⟨tle, ?_⟩
    generalize hL : (HAppend.hAppend (HAppend.hAppend (List.cons _ _) (List.cons _ _)) (List.cons _ _) : List PyData) = L
    have gl : L.length = 25 := by subst hL; rfl
    have gd : ∀ d ∈ L, GoodD d := by
      subst hL
      have lit : ∀ {z : Str}, (decide (z.length ≤ 10) && z.cps.toList.all fun c => decide (c < 0x110000)) = true → GoodD (.str z) := fun h => good_str (Tx.lit h) (by decide)
      simp only [List.forall_mem_append, List.forall_mem_cons]
      refine ⟨⟨⟨good_str tx (by decide), good_str tb (by decide), good_str td (by decide), good_str (tx.app tsp) (by decide), good_str (tnl.app tx) (by decide), fun d hd => absurd hd (by simp)⟩,
        good_str (tx_upper hx hxl) (by decide), good_str (tx.app tla) (by decide), lit (by decide +kernel), lit (by decide +kernel), lit (by decide +kernel), lit (by decide +kernel), lit (by decide +kernel), lit (by decide +kernel), lit (by decide +kernel), lit (by decide +kernel), fun d hd => absurd hd (by simp)⟩,
        lit (by decide +kernel), lit (by decide +kernel), lit (by decide +kernel), lit (by decide +kernel), lit (by decide +kernel), lit (by decide +kernel), lit (by decide +kernel), lit (by decide +kernel), lit (by decide +kernel), lit (by decide +kernel), fun d hd => absurd hd (by simp)⟩
    clear hL
    refine ⟨tle, tle, tle, tle, hb, hb, ?_⟩
    conv => whnf
    refine ⟨tle, ?_⟩
    conv => whnf
    generalize hM : (List.cons PyData.none _ : List PyData) = M
    have gm : M.length = 10 := by subst hM; rfl
    have gmd : ∀ d ∈ M, GoodD d := by
      subst hM
      simp only [List.forall_mem_cons]
      refine ⟨fun _ e => ?_, fun _ e => ?_, fun _ e => ?_, fun _ e => ?_, fun _ e => ?_, fun _ e => ?_, fun _ e => ?_, fun _ e => ?_, fun _ e => ?_, fun _ e => ?_, fun d hd => absurd hd (by simp)⟩ <;> cases e
    clear hM
    have pick : ∀ {r : Int}, 0 ≤ r → r < 10 → ∃ d, atI M r = some d ∧ GoodD d := fun {r} h0 h1 => by
      have hr : r.toNat < M.length := by omega
      have z := atI_nat (List.getElem?_eq_getElem hr)
      have e : ((r.toNat : Nat) : Int) = r := by omega
      rw [e] at z
      exact ⟨_, z, gmd _ (List.getElem_mem _)⟩
    refine ⟨⟨trivial, trivial⟩, by decide, pen4, 10, rfl, hp4, by decide, by decide, fun r5 pen5 h50 h51 hp5 => ?_⟩
    obtain ⟨d5, e5, g5⟩ := pick h50 h51
    conv => whnf
    rw [e5]
    refine ⟨⟨trivial, trivial⟩, by decide, pen5, 10, rfl, hp5, by decide, by decide, fun r6 pen6 h60 h61 hp6 => ?_⟩
    obtain ⟨d6, e6, g6⟩ := pick h60 h61
    conv => whnf
    rw [e6]
    refine ⟨tle, by rw [gl]; exact tle, ?_⟩
    refine loop_all (LI (.list (ns.map .int))) (fun d hd ρ nx2 hI hnx2 => ?_) ⟨pen6, _, _, _, _, _, _, _, _, hp6, rfl⟩ (fun ρ' hI => hnx _ hI)
    have hgd : GoodD d := by
      rcases List.mem_append.mp hd with hd | hd
      · exact gd d hd
      · simp only [List.mem_cons, List.not_mem_nil, or_false] at hd
        rcases hd with rfl | rfl
        · exact g5
        · exact g6
    obtain ⟨pen, b1, b2, b3, b4, b5, b6, b7, b8, hp, rfl⟩ := hI
    refine ⟨trivial, List.nodup_nil, d, rfl, fun x hx => Nat.le_trans (hgd x hx).len tle, ?_⟩
    refine ⟨trivial, List.nodup_nil, d, rfl, hgd, ?_⟩
    refine ⟨rfl, rfl, by2_f (by cases isNameD d <;> rfl) (hnx2 _ ⟨pen, _, _, _, _, _, _, _, _, hp, rfl⟩)⟩
  · obtain ⟨pen, a1, a2, a3, a4, a5, a6, a7, a8, hp, rfl⟩ := hI
    exact h
end My

set_option Elab.async false
set_option linter.all false
set_option maxRecDepth 100000
open PySem PySem.W PyProof.Rows
namespace My
open PySem PySem.Spec L2 Dv
theorem ok_law {Pg : Program} {w : World} {K : PySem.W.Frag} {mg : Str → Option Value} (T : Mg mg) (F__law_pen : FunAt K mg "_law_pen" s__law_pen ["_law_script"]) (F__law_draw : FunAt K mg "_law_draw" s__law_draw ["_law_pen_here", "_law_most"]) (F__law_text : FunAt K mg "_law_text" s__law_text ["_law_pen_here", "_law_many"]) (F__law_sign : FunAt K mg "_law_sign" s__law_sign ["_law_pen_here"]) (F_is_name : FunAt K mg "is_name" s_is_name ["thing"]) (F__law_due : FunAt K mg "_law_due" s__law_due ["_law_thing"]) (base : Heap) (f : Addr) (fd : FuncData) (F : Fun K "law" "law" s_law f fd) : FnOk Pg w K mg base CX0 3 f fd ["_law_script"] (spOf K [false] (lawSp 63 (fun _ => True))) :=
  have H__law_pen : FnAt Pg w K mg base 1 "_law_pen" ["_law_script"] P__law_pen S__law_pen := at__law_pen T F__law_pen p__law_pen
  have H__law_draw : FnAt Pg w K mg base 1 "_law_draw" ["_law_pen_here", "_law_most"] P__law_draw S__law_draw := at__law_draw T F__law_draw p__law_draw
  have H__law_text : FnAt Pg w K mg base 2 "_law_text" ["_law_pen_here", "_law_many"] P__law_text S__law_text := at__law_text T F__law_text H__law_draw.mono p__law_text
  have H__law_sign : FnAt Pg w K mg base 2 "_law_sign" ["_law_pen_here"] P__law_sign S__law_sign := at__law_sign T F__law_sign H__law_draw.mono p__law_sign
  have H_is_name : FnAt Pg w K mg base 1 "is_name" ["thing"] P_is_name S_is_name := at_is_name T F_is_name p_is_name
  have H__law_due : FnAt Pg w K mg base 1 "_law_due" ["_law_thing"] P__law_due S__law_due := at__law_due T F__law_due p__law_due
  fn_ok F sc_law rfl (by decide) (fun cdv A outer s H E C hr hP => d_law T H__law_pen.mono H__law_text.mono H__law_draw.mono H__law_sign.mono H_is_name.mono H__law_due.mono hr hP) p_law
end My
set_option maxHeartbeats 0 in
theorem PySem.Challenge.cw_delaygates_k01_names_known_holds : PySem.Challenge.rw_delaygates_k01_names_known.Holds := by
  w_on; o_law; k_head; (case hw => w_witness2)
  k_fill
  refine L2.walk_of (l := PySem.Challenge.rw_delaygates_k01_names_known) (n := 63) (k := 3) (x := "_law_script") (CX := fun _ => L2.CX0) (sp := fun w => Dv.spOf _ [false] (Dv.lawSp 63 (fun _ => True))) rfl (by decide) rfl ⟨rfl, by decide, by decide⟩ (fun w h Y => PySem.W.kIn_of Y) ?F (fun _ _ a ns hl _ hS => Dv.law_sp hl trivial hS) (fun _ _ _ _ _ h => h)
  case F =>
    intro w mg fa h KX G hmg
    have T : My.Mg mg := by
      refine' ⟨PySem.W.mg_none_of KX G ?z0, PySem.W.mg_none_of KX G ?z1, PySem.W.mg_none_of KX G ?z2, PySem.W.mg_none_of KX G ?z3, PySem.W.mg_none_of KX G ?z4, PySem.W.mg_none_of KX G ?z5, PySem.W.mg_none_of KX G ?z6, PySem.W.mg_none_of KX G ?z7, PySem.W.mg_none_of KX G ?z8, PySem.W.mg_none_of KX G ?z9, PySem.W.mg_none_of KX G ?z10, Dv.gstr_mk KX G ?y0, Dv.gint_mk KX G ?y1⟩
      (case z0 => k_is); (case z1 => k_is); (case z2 => k_is); (case z3 => k_is); (case z4 => k_is); (case z5 => k_is); (case z6 => k_is); (case z7 => k_is); (case z8 => k_is); (case z9 => k_is); (case z10 => k_is); (case y0 => k_is); (case y1 => k_is)
    refine' Dv.with_fun (x := "_law_pen") (st := My.s__law_pen) (ps := ["_law_script"]) KX G (fun _ _ _ _ _ _ us hl => match us, hl with | [_], _ => rfl) ?a0 ?l0 ?c0 ?k0 ?next0
    (case a0 => k_is); (case l0 => k_is); (case c0 => k_is); (case k0 => k_is)
    intro F__law_pen
    refine' Dv.with_fun (x := "_law_draw") (st := My.s__law_draw) (ps := ["_law_pen_here", "_law_most"]) KX G (fun _ _ _ _ _ _ us hl => match us, hl with | [_, _], _ => rfl) ?a1 ?l1 ?c1 ?k1 ?next1
    (case a1 => k_is); (case l1 => k_is); (case c1 => k_is); (case k1 => k_is)
    intro F__law_draw
    refine' Dv.with_fun (x := "_law_text") (st := My.s__law_text) (ps := ["_law_pen_here", "_law_many"]) KX G (fun _ _ _ _ _ _ us hl => match us, hl with | [_, _], _ => rfl) ?a2 ?l2 ?c2 ?k2 ?next2
    (case a2 => k_is); (case l2 => k_is); (case c2 => k_is); (case k2 => k_is)
    intro F__law_text
    refine' Dv.with_fun (x := "_law_sign") (st := My.s__law_sign) (ps := ["_law_pen_here"]) KX G (fun _ _ _ _ _ _ us hl => match us, hl with | [_], _ => rfl) ?a3 ?l3 ?c3 ?k3 ?next3
    (case a3 => k_is); (case l3 => k_is); (case c3 => k_is); (case k3 => k_is)
    intro F__law_sign
    refine' Dv.with_fun (x := "is_name") (st := My.s_is_name) (ps := ["thing"]) KX G (fun _ _ _ _ _ _ us hl => match us, hl with | [_], _ => rfl) ?a4 ?l4 ?c4 ?k4 ?next4
    (case a4 => k_is); (case l4 => k_is); (case c4 => k_is); (case k4 => k_is)
    intro F_is_name
    refine' Dv.with_fun (x := "_law_due") (st := My.s__law_due) (ps := ["_law_thing"]) KX G (fun _ _ _ _ _ _ us hl => match us, hl with | [_], _ => rfl) ?a5 ?l5 ?c5 ?k5 ?next5
    (case a5 => k_is); (case l5 => k_is); (case c5 => k_is); (case k5 => k_is)
    intro F__law_due
    refine' Dv.law_mk (st := My.s_law) KX G hmg (fun base f fd F => My.ok_law T F__law_pen F__law_draw F__law_text F__law_sign F_is_name F__law_due base f fd F) (fun _ _ _ _ _ _ _ _ => .of_eq rfl) ?a ?l ?c ?k
    (case a => k_is); (case l => k_is); (case c => k_is); (case k => k_is)

