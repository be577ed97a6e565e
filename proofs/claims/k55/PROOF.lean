import PyProof.Rows.All
import HandS.ForMost
import HandS.IsInst
import HandS.Deep
import HandS.Conv
import HandS.Zip
import KE.KDictKeyed
import HandS.Exc
import HandS.ExcOwn
import HandS.ExcIs
import HandS.ExcInit
import KE.KExcIs
import KE.KTryMore
import HandS.Ends
import HandS.Words
import HandS.TupAny
import HandS.TupMul
import HandS.More
import HandS.Strs
import HandS.TupLen
import KE.KDictCopyH
import PyProof.ListStr
import PyProof.TupleOfStr
import HandS.Set
import HandS.SetFor
import KE.GoesEnum
import KE.SortData
import PyProof.ReprRoads
import PyProof.ReprReads
import KE.KDictZip
import KE.GoesZip
import PyProof.IsRules
import KE.KDictDisplayH
import PyProof.RowDictHeap
import HandS.NoneIn
import PyProof.FactsAll.dict
import PyProof.NeKinds
import HandS.Style
import HandS.ExcValue
import KE.RegKTryMore
import PyProof.Rows.CountFlat
import PySem.Challenge.RW_delaygates_k55_parts_put_together
set_option Elab.async false
set_option linter.all false
set_option maxRecDepth 100000
/-! Dv: data in the place of heaps. -/
namespace Dv
open PySem PySem.Spec L2

def kD : Key → PyData
  | .inl i => .int i
  | .inr x => .str x

/-! ### dicts whose keys are tuples -/
mutual
def plK : NestedKey → Bool
  | .none => true
  | .num _ => true
  | .text _ => false
  | .tup ks => plKs ks
def plKs : List NestedKey → Bool
  | [] => true
  | k :: ks => plK k && plKs ks
end
/-- a key whose hash does not hang on the world: numbers, None and tuples of them -/
structure KOk (k : NestedKey) : Prop where
  wi : ∀ w w' : World, k.hash w = k.hash w'
  dep : k.depth ≤ 8
  pl : plK k = true
abbrev NX := NestedKey × Addr × V
def NRel (x : NX) (y : NestedKey × Addr × Value) : Prop := x.1 = y.1 ∧ x.2.1 = y.2.1 ∧ RelV x.2.2 y.2.2
def DNp (w : World) (a : Addr) (xs : List NX) (h : Heap) : Prop := ∃ (ys : List (NestedKey × Addr × Value)) (o : Obj) (es : Array DictEntry) (ep : Nat), Paired NRel xs ys ∧ h.get? a = some o ∧ o.ExactDict ∧ o.data = .dict es ep ∧ es.toList = ys.map fun y => ⟨y.1.hash w, .ref y.2.1, y.2.2⟩
def DN (w : World) (a : Addr) (xs : List NX) : HO := .ext fun h => DNp w a xs h ∧ (a == sysModules) = false ∧ (xs.map (·.1)).Nodup ∧ xs.length ≤ sizeLine
/-! ### exceptions that were caught -/
/-- the program's classes of errors -/
def excNames : List Str := ["DelayError", "NoFit", "NotSound", "NoPut", "NoWire", "NoBeat", "NoName", "NoText", "NoRow", "NoNet", "NoMove", "Clash"]
def isSub (n m : Str) : Bool := n == m || m == "DelayError"
/-- a class by its name -/
structure ClsN (K : PySem.W.Frag) (n : Str) (D : Addr) : Prop where
  ns : PySem.W.nsIn K mainGlobals n = some (some (.ref D))
  ec : ExcC K D
  kt : ∀ T ∈ ["str", "int", "bool", "list", "tuple"], PySem.W.kitOne K (.ref D) (.type T) = some false
  sub : ∀ m ∈ excNames, ∀ C, PySem.W.nsIn K mainGlobals m = some (some (.ref C)) → PySem.W.kitOne K (.ref D) (.ref C) = some (isSub n m) ∧ PySem.W.exmOne K (.ref D) (.ref C) = some (isSub n m)
  ve : PySem.W.kitOne K (.ref D) (.type "ValueError") = some true
/-- an exception's object -/
def ExH (D : Addr) (d : Option Addr) (a : Addr) : HO := .ext fun h => ∃ oe vs, h.get? a = some oe ∧ Zc (.ref D) d oe ∧ oe.data = .fields vs
/-- its own names -/
def ExF (F : Hp) : Option Addr → List (Str × V) → Prop
  | none, fs => fs = []
  | some dx, fs => Rd F dx (.xd fs)
mutual
/-- a value stands for a datum, by a part F of the heap that stays -/
inductive Rep (K : PySem.W.Frag) (F : Hp) : V → PyData → Prop
  | non : Rep K F .non .none
  | bl (b : Bool) : Rep K F (.bl b) (.bool b)
  | int (i : Int) : Rep K F (.int i) (.int i)
  | str (x : Str) : Rep K F (.str x) (.str x)
  | lst {a : Addr} {xs : List V} {ds : List PyData} : SqL K F a xs → RepAll K F xs ds → Rep K F (.ref a) (.list ds)
  | tup {a : Addr} {xs : List V} {ds : List PyData} : SqT K F a xs → RepAll K F xs ds → Rep K F (.ref a) (.tuple ds)
  | dct {a : Addr} {kvs : List (Key × V)} {ds : List (PyData × PyData)} : Rd F a (.dK kvs) → RepKV K F kvs ds → Rep K F (.ref a) (.dict ds)
  | dcn {a : Addr} {w : World} {xs : List NX} {ds : List (PyData × PyData)} : xs ≠ [] → Rd F a (DN w a xs) → RepNK K F xs ds → Rep K F (.ref a) (.dict ds)
  | exc {a D : Addr} {d : Option Addr} {n : Str} {fs : List (Str × V)} {ds : List (PyData × PyData)} : Rd F a (ExH D d a) → ClsN K n D → ExF F d fs → RepFs K F fs ds → Rep K F (.ref a) (.dict ((.bool true, .str n) :: ds))
inductive RepFs (K : PySem.W.Frag) (F : Hp) : List (Str × V) → List (PyData × PyData) → Prop
  | nil : RepFs K F [] []
  | cons {x : Str} {v : V} {vs : List (Str × V)} {d : PyData} {ds : List (PyData × PyData)} : Rep K F v d → RepFs K F vs ds → RepFs K F ((x, v) :: vs) ((.tuple [.str x], d) :: ds)
inductive RepAll (K : PySem.W.Frag) (F : Hp) : List V → List PyData → Prop
  | nil : RepAll K F [] []
  | cons {v : V} {vs : List V} {d : PyData} {ds : List PyData} : Rep K F v d → RepAll K F vs ds → RepAll K F (v :: vs) (d :: ds)
inductive RepKV (K : PySem.W.Frag) (F : Hp) : List (Key × V) → List (PyData × PyData) → Prop
  | nil : RepKV K F [] []
  | cons {k : Key} {v : V} {vs : List (Key × V)} {d : PyData} {ds : List (PyData × PyData)} : Rep K F v d → RepKV K F vs ds → RepKV K F ((k, v) :: vs) ((kD k, d) :: ds)
inductive RepNK (K : PySem.W.Frag) (F : Hp) : List NX → List (PyData × PyData) → Prop
  | nil : RepNK K F [] []
  | cons {k : NestedKey} {b : Addr} {v : V} {vs : List NX} {d : PyData} {ds : List (PyData × PyData)} : KOk k → Rep K F (.ref b) k.data → Rep K F v d → RepNK K F vs ds → RepNK K F ((k, b, v) :: vs) ((k.data, d) :: ds)
end

section
variable {K : PySem.W.Frag} {F F' H H' : Hp}
theorem sqL_mono {a : Addr} {xs : List V} (e : Same F F') (h : SqL K F a xs) : SqL K F' a xs := e.seq h
theorem rd_mono {a : Addr} {u : HO} (e : Same F F') (h : Rd F a u) : Rd F' a u := by
  rcases h with h | ⟨o, h⟩
  · exact .inl (e _ _ h)
  · exact .inr ⟨o, e _ _ h⟩
theorem sqT_mono {a : Addr} {xs : List V} (e : Same F F') (h : SqT K F a xs) : SqT K F' a xs := by
  rcases h with (h | ⟨o, h⟩) | h
  · exact .inl (.inl (e _ _ h))
  · exact .inl (.inr ⟨o, e _ _ h⟩)
  · exact .inr h
theorem exF_mono (e : Same F F') : ∀ {d : Option Addr} {fs : List (Str × V)}, ExF F d fs → ExF F' d fs
  | none, _, h => h
  | some _, _, h => rd_mono e h
mutual
theorem Rep.mono (e : Same F F') : ∀ {v : V} {d : PyData}, Rep K F v d → Rep K F' v d
  | _, _, .non => .non
  | _, _, .bl b => .bl b
  | _, _, .int i => .int i
  | _, _, .str x => .str x
  | _, _, .lst h r => .lst (sqL_mono e h) (RepAll.mono e r)
  | _, _, .tup h r => .tup (sqT_mono e h) (RepAll.mono e r)
  | _, _, .dct h r => .dct (rd_mono e h) (RepKV.mono e r)
  | _, _, .dcn n h r => .dcn n (rd_mono e h) (RepNK.mono e r)
  | _, _, .exc h c x r => .exc (rd_mono e h) c (exF_mono e x) (RepFs.mono e r)
theorem RepFs.mono (e : Same F F') : ∀ {vs : List (Str × V)} {ds : List (PyData × PyData)}, RepFs K F vs ds → RepFs K F' vs ds
  | _, _, .nil => .nil
  | _, _, .cons h r => .cons (Rep.mono e h) (RepFs.mono e r)
theorem RepAll.mono (e : Same F F') : ∀ {vs : List V} {ds : List PyData}, RepAll K F vs ds → RepAll K F' vs ds
  | _, _, .nil => .nil
  | _, _, .cons h r => .cons (Rep.mono e h) (RepAll.mono e r)
theorem RepKV.mono (e : Same F F') : ∀ {vs : List (Key × V)} {ds : List (PyData × PyData)}, RepKV K F vs ds → RepKV K F' vs ds
  | _, _, .nil => .nil
  | _, _, .cons h r => .cons (Rep.mono e h) (RepKV.mono e r)
theorem RepNK.mono (e : Same F F') : ∀ {vs : List NX} {ds : List (PyData × PyData)}, RepNK K F vs ds → RepNK K F' vs ds
  | _, _, .nil => .nil
  | _, _, .cons c k h r => .cons c (Rep.mono e k) (Rep.mono e h) (RepNK.mono e r)
end
theorem RepAll.length : ∀ {vs : List V} {ds : List PyData}, RepAll K F vs ds → vs.length = ds.length
  | _, _, .nil => rfl
  | _, _, .cons _ r => by simp [RepAll.length r]
theorem RepAll.get : ∀ {vs : List V} {ds : List PyData} {i : Nat} {d : PyData}, RepAll K F vs ds → ds[i]? = some d → ∃ v, vs[i]? = some v ∧ Rep K F v d
  | _, _, _, _, .nil, e => by simp at e
  | _, _, 0, _, .cons r _, e => by simp at e; subst e; exact ⟨_, rfl, r⟩
  | _, _, i + 1, x, .cons _ t, e => by
    obtain ⟨u, h1, h2⟩ := RepAll.get (i := i) (d := x) t (by simpa using e)
    exact ⟨u, by simpa using h1, h2⟩
theorem RepAll.append : ∀ {xs ys : List V} {us ws : List PyData}, RepAll K F xs us → RepAll K F ys ws → RepAll K F (xs ++ ys) (us ++ ws)
  | _, _, _, _, .nil, s => s
  | _, _, _, _, .cons r t, s => .cons r (RepAll.append t s)
theorem RepAll.take : ∀ {xs : List V} {us : List PyData} (n : Nat), RepAll K F xs us → RepAll K F (xs.take n) (us.take n)
  | _, _, 0, _ => .nil
  | _, _, _ + 1, .nil => .nil
  | _, _, n + 1, .cons r t => .cons r (RepAll.take n t)
theorem RepAll.drop : ∀ {xs : List V} {us : List PyData} (n : Nat), RepAll K F xs us → RepAll K F (xs.drop n) (us.drop n)
  | _, _, 0, r => r
  | _, _, _ + 1, .nil => .nil
  | _, _, n + 1, .cons _ t => RepAll.drop n t
theorem RepAll.set {x : V} {u : PyData} (r : Rep K F x u) : ∀ {xs : List V} {us : List PyData} (i : Nat), RepAll K F xs us → RepAll K F (xs.set i x) (us.set i u)
  | _, _, _, .nil => .nil
  | _, _, 0, .cons _ t => .cons r t
  | _, _, i + 1, .cons q t => .cons q (RepAll.set r i t)
theorem RepAll.reverse {xs : List V} {us : List PyData} (h : RepAll K F xs us) : RepAll K F xs.reverse us.reverse := by
  induction xs generalizing us with
  | nil => cases h; exact .nil
  | cons x xs ih =>
    cases h with
    | cons r t => rw [List.reverse_cons, List.reverse_cons]; exact RepAll.append (ih t) (.cons r .nil)
theorem RepAll.dropLast {xs : List V} {us : List PyData} (h : RepAll K F xs us) : RepAll K F xs.dropLast us.dropLast := by
  rw [List.dropLast_eq_take, List.dropLast_eq_take, h.length]; exact h.take _
theorem RepAll.eraseIdx : ∀ {xs : List V} {us : List PyData} (i : Nat), RepAll K F xs us → RepAll K F (xs.eraseIdx i) (us.eraseIdx i)
  | _, _, _, .nil => .nil
  | _, _, 0, .cons _ t => t
  | _, _, i + 1, .cons q t => .cons q (RepAll.eraseIdx i t)
theorem RepAll.ints : ∀ {vs : List V} {ns : List Int}, RepAll K F vs (ns.map PyData.int) → vs = ns.map V.int
  | _, [], .nil => rfl
  | _, n :: ns, h => by
    cases h with
    | cons r t => cases r; rw [List.map_cons, RepAll.ints t]
theorem RepAll.strs : ∀ {vs : List V} {ns : List Str}, RepAll K F vs (ns.map PyData.str) → vs = ns.map V.str
  | _, [], .nil => rfl
  | _, n :: ns, h => by
    cases h with
    | cons r t => cases r; rw [List.map_cons, RepAll.strs t]
theorem RepAll.bls : ∀ {vs : List V} {ns : List Bool}, RepAll K F vs (ns.map PyData.bool) → vs = ns.map V.bl
  | _, [], .nil => rfl
  | _, n :: ns, h => by
    cases h with
    | cons r t => cases r; rw [List.map_cons, RepAll.bls t]
theorem repAll_ints : ∀ (ns : List Int), RepAll K F (ns.map V.int) (ns.map PyData.int)
  | [] => .nil
  | n :: ns => .cons (.int n) (repAll_ints ns)
theorem repAll_strs : ∀ (ns : List Str), RepAll K F (ns.map V.str) (ns.map PyData.str)
  | [] => .nil
  | n :: ns => .cons (.str n) (repAll_strs ns)
end

/-- the heap and its staying part grow -/
structure Gr (F H F' H' : Hp) : Prop where
  f : Same F F'
  h : Same H H'
  s : Same F' H'
  n : ∀ b, F' b ≠ none → F b ≠ none ∨ H b = none
theorem Gr.refl {F H : Hp} (s : Same F H) : Gr F H F H := ⟨Same.refl F, Same.refl H, s, fun _ h => .inl h⟩
theorem Gr.trans {F H F1 H1 F2 H2 : Hp} (a : Gr F H F1 H1) (b : Gr F1 H1 F2 H2) : Gr F H F2 H2 :=
  ⟨a.f.trans b.f, a.h.trans b.h, b.s, fun c h => by
    rcases b.n c h with z | z
    · exact a.n c z
    · exact .inr (a.h.free z)⟩
theorem same_upd {H : Hp} {p : Addr} {o : HO} (h : H p = none) : Same H (upd H p o) := fun b x e => by
  rw [upd_ne (ne_of_none e h)]
  exact e
theorem same_upd2 {F H : Hp} {p : Addr} {o : HO} (s : Same F H) : Same (upd F p o) (upd H p o) := fun b x e => by
  by_cases hb : b = p
  · subst hb; rw [upd_same] at e ⊢; exact e
  · rw [upd_ne hb] at e ⊢; exact s b x e
/-- a new object, laid into the staying part -/
theorem Gr.new {F H : Hp} {p : Addr} {o : HO} (s : Same F H) (h : H p = none) : Gr F H (upd F p o) (upd H p o) :=
  ⟨same_upd (s.free h), same_upd h, same_upd2 s, fun b e => by
    by_cases hb : b = p
    · subst hb; exact .inr h
    · rw [upd_ne hb] at e; exact .inl e⟩

/-! ### environments -/
inductive SV where
  | frz (d : PyData)
  | own (d : PyData)
  | own2 (d : PyData)
abbrev DEnv := List (Option SV)
/-- what an expression gives: a datum, or a slot that owns one -/
inductive Opd where
  | val (d : PyData)
  | slot (i : Nat)

/-- an owned object: a list or a dict that nobody else holds -/
def Own (K : PySem.W.Frag) (F H : Hp) (a : Addr) : PyData → Prop
  | .list ds => ∃ xs, H a = some (.lst xs) ∧ RepAll K F xs ds
  | .dict ds => (∃ kvs, H a = some (.dK kvs) ∧ RepKV K F kvs ds) ∨ ∃ w xs, xs ≠ [] ∧ H a = some (DN w a xs) ∧ RepNK K F xs ds
  | _ => False
theorem Own.there {K : PySem.W.Frag} {F H : Hp} {a : Addr} {d : PyData} (h : Own K F H a d) : ∃ o, H a = some o := by
  cases d with
  | list ds => obtain ⟨xs, e, _⟩ := h; exact ⟨_, e⟩
  | dict ds => rcases h with ⟨xs, e, _⟩ | ⟨w, xs, _, e, _⟩ <;> exact ⟨_, e⟩
  | _ => exact h.elim
theorem Own.mono {K : PySem.W.Frag} {F H F' H' : Hp} {a : Addr} {d : PyData} (f : Same F F') (hh : ∀ o, H a = some o → H' a = some o) (h : Own K F H a d) : Own K F' H' a d := by
  cases d with
  | list ds => obtain ⟨xs, e, r⟩ := h; exact ⟨xs, hh _ e, r.mono f⟩
  | dict ds =>
    rcases h with ⟨xs, e, r⟩ | ⟨w, xs, n, e, r⟩
    · exact .inl ⟨xs, hh _ e, r.mono f⟩
    · exact .inr ⟨w, xs, n, hh _ e, r.mono f⟩
  | _ => exact h.elim

/-- a def that runs: the module's part, the heap at its entry, the owned parameters -/
structure FC where
  F0 : Hp
  H0 : Hp
  pa : List (Option Addr)
  pn : Hp
def FC.isP (C : FC) (i : Nat) : Prop := ∃ a, C.pa[i]? = some (some a)

/-- a part that an object holds -/
def Inner (H : Hp) (a b : Addr) : Prop := (∃ xs, H a = some (.lst xs) ∧ V.ref b ∈ xs) ∨ ∃ kvs, H a = some (.dK kvs) ∧ ∃ k, (k, V.ref b) ∈ kvs
/-- what an owned object with owned parts is made of -/
def InFoot (H : Hp) (ρ : DEnv) (σ : St) (b : Addr) : Prop := ∃ (i : Nat) (d : PyData) (a : Addr), ρ[i]? = some (some (.own2 d)) ∧ σ[i]? = some (some (.ref a)) ∧ (b = a ∨ Inner H a b)
/-- an object that nobody else holds -/
def Loose (C : FC) (F H : Hp) (ρ : DEnv) (σ : St) (b : Addr) : Prop := H b ≠ none ∧ F b = none ∧ C.H0 b = none ∧ C.pn b = none ∧ ∀ (j : Nat) (e : PyData), ρ[j]? = some (some (.own e)) → σ[j]? ≠ some (some (.ref b))
/-- parts that are owned lists or dicts -/
inductive OwnAll (K : PySem.W.Frag) (F H : Hp) : List Addr → List PyData → Prop
  | nil : OwnAll K F H [] []
  | cons {b : Addr} {bs : List Addr} {d : PyData} {ds : List PyData} : Own K F H b d → OwnAll K F H bs ds → OwnAll K F H (b :: bs) (d :: ds)
/-- an object of owned parts -/
def Deep (K : PySem.W.Frag) (F H : Hp) (a : Addr) (bs : List Addr) : PyData → Prop
  | .list ds => H a = some (.lst (bs.map V.ref)) ∧ OwnAll K F H bs ds
  | .dict kvs => ∃ (ks : List Key) (ds : List PyData), ks.length = bs.length ∧ kvs = List.zip (ks.map kD) ds ∧ H a = some (.dK (List.zip ks (bs.map V.ref))) ∧ OwnAll K F H bs ds
  | _ => False
def DpOk (K : PySem.W.Frag) (C : FC) (F H : Hp) (ρ : DEnv) (σ : St) : Prop := ∀ (i : Nat) (d : PyData), ρ[i]? = some (some (.own2 d)) → ∃ (a : Addr) (bs : List Addr), σ[i]? = some (some (.ref a)) ∧ (a :: bs).Nodup ∧ (∀ b ∈ a :: bs, Loose C F H ρ σ b) ∧ Deep K F H a bs d ∧ ∀ (j : Nat) (e : PyData), ρ[j]? = some (some (.own2 e)) → j = i
theorem OwnAll.mono {K : PySem.W.Frag} {F H F' H' : Hp} (f : Same F F') : ∀ {bs : List Addr} {ds : List PyData}, (∀ b ∈ bs, ∀ o, H b = some o → H' b = some o) → OwnAll K F H bs ds → OwnAll K F' H' bs ds
  | _, _, _, .nil => .nil
  | _, _, h, .cons x t => .cons (x.mono f (h _ List.mem_cons_self)) (OwnAll.mono f (fun b hb => h b (List.mem_cons_of_mem _ hb)) t)
theorem OwnAll.length {K : PySem.W.Frag} {F H : Hp} : ∀ {bs : List Addr} {ds : List PyData}, OwnAll K F H bs ds → bs.length = ds.length
  | _, _, .nil => rfl
  | _, _, .cons _ t => by simp [OwnAll.length t]
theorem Deep.mono {K : PySem.W.Frag} {F H F' H' : Hp} {a : Addr} {bs : List Addr} {d : PyData} (f : Same F F') (h : ∀ b ∈ a :: bs, ∀ o, H b = some o → H' b = some o) (D : Deep K F H a bs d) : Deep K F' H' a bs d := by
  cases d with
  | list ds => exact ⟨h _ List.mem_cons_self _ D.1, D.2.mono f fun b hb => h b (List.mem_cons_of_mem _ hb)⟩
  | dict kvs =>
    obtain ⟨ks, ds, h1, h2, h3, h4⟩ := D
    exact ⟨ks, ds, h1, h2, h _ List.mem_cons_self _ h3, h4.mono f fun b hb => h b (List.mem_cons_of_mem _ hb)⟩
  | _ => exact D.elim
theorem Deep.inner {K : PySem.W.Frag} {F H : Hp} {a b : Addr} {bs : List Addr} {d : PyData} (D : Deep K F H a bs d) : Inner H a b ↔ b ∈ bs := by
  cases d with
  | list ds =>
    have h := D.1
    constructor
    · rintro (⟨xs, e, m⟩ | ⟨kvs, e, _⟩)
      · rw [h] at e; cases e
        obtain ⟨c, hc, e⟩ := List.mem_map.mp m
        cases e; exact hc
      · rw [h] at e; cases e
    · exact fun m => .inl ⟨_, h, List.mem_map.mpr ⟨b, m, rfl⟩⟩
  | dict kvs =>
    obtain ⟨ks, ds, h1, h2, h3, h4⟩ := D
    constructor
    · rintro (⟨xs, e, m⟩ | ⟨kvs, e, k, m⟩)
      · rw [h3] at e; cases e
      · rw [h3] at e; cases e
        have := (List.of_mem_zip m).2
        obtain ⟨c, hc, e⟩ := List.mem_map.mp this
        cases e; exact hc
    · intro m
      obtain ⟨n, hn, e⟩ := List.getElem_of_mem m
      refine .inr ⟨_, h3, ks[n]'(by omega), ?_⟩
      have : (List.zip ks (bs.map V.ref))[n]'(by simp; omega) = (ks[n]'(by omega), V.ref b) := by simp [e]
      rw [← this]
      exact List.getElem_mem _
  | _ => exact D.elim
theorem OwnAll.map {K : PySem.W.Frag} {F H F' H' : Hp} : ∀ {bs : List Addr} {ds : List PyData}, (∀ b ∈ bs, ∀ d, Own K F H b d → Own K F' H' b d) → OwnAll K F H bs ds → OwnAll K F' H' bs ds
  | _, _, _, .nil => .nil
  | _, _, h, .cons x t => .cons (h _ List.mem_cons_self _ x) (OwnAll.map (fun b hb => h b (List.mem_cons_of_mem _ hb)) t)
theorem Deep.map {K : PySem.W.Frag} {F H F' H' : Hp} {a : Addr} {bs : List Addr} {d : PyData} (ha : ∀ o, H a = some o → H' a = some o) (h : ∀ b ∈ bs, ∀ d, Own K F H b d → Own K F' H' b d) (D : Deep K F H a bs d) : Deep K F' H' a bs d := by
  cases d with
  | list ds => exact ⟨ha _ D.1, D.2.map h⟩
  | dict kvs =>
    obtain ⟨ks, ds, h1, h2, h3, h4⟩ := D
    exact ⟨ks, ds, h1, h2, ha _ h3, h4.map h⟩
  | _ => exact D.elim
theorem DpOk.keepG {K : PySem.W.Frag} {C C' : FC} {F H F' H' : Hp} {ρ ρ' : DEnv} {σ σ' : St} (D : DpOk K C F H ρ σ) (h2 : ∀ (i : Nat) (d : PyData), ρ'[i]? = some (some (.own2 d)) → ρ[i]? = some (some (.own2 d)) ∧ σ'[i]? = σ[i]?)
    (hk : ∀ b, InFoot H ρ σ b → Loose C F H ρ σ b → (∀ o, H b = some o → H' b = some o) ∧ Loose C' F' H' ρ' σ' b) (hO : ∀ b, InFoot H ρ σ b → Loose C F H ρ σ b → ∀ d, Own K F H b d → Own K F' H' b d) : DpOk K C' F' H' ρ' σ' := fun i d e => by
  obtain ⟨q1, q2⟩ := h2 i d e
  obtain ⟨a, bs, h3, h4, h5, h6, h7⟩ := D i d q1
  have inF : ∀ b ∈ a :: bs, InFoot H ρ σ b := fun b hb => ⟨i, d, a, q1, h3, by
    rcases List.mem_cons.mp hb with z | z
    · exact .inl z
    · exact .inr (h6.inner.mpr z)⟩
  refine ⟨a, bs, by rw [q2]; exact h3, h4, fun b hb => (hk b (inF b hb) (h5 b hb)).2, h6.map (hk a (inF a List.mem_cons_self) (h5 a List.mem_cons_self)).1 fun b hb d ho => hO b (inF b (List.mem_cons_of_mem _ hb)) (h5 b (List.mem_cons_of_mem _ hb)) d ho, fun j e' z => h7 j e' (h2 j e' z).1⟩
theorem DpOk.keep {K : PySem.W.Frag} {C C' : FC} {F H F' H' : Hp} {ρ ρ' : DEnv} {σ σ' : St} (D : DpOk K C F H ρ σ) (f : Same F F') (h2 : ∀ (i : Nat) (d : PyData), ρ'[i]? = some (some (.own2 d)) → ρ[i]? = some (some (.own2 d)) ∧ σ'[i]? = σ[i]?)
    (hk : ∀ b, InFoot H ρ σ b → Loose C F H ρ σ b → (∀ o, H b = some o → H' b = some o) ∧ Loose C' F' H' ρ' σ' b) : DpOk K C' F' H' ρ' σ' :=
  D.keepG h2 hk fun b hb hl d ho => ho.mono f (hk b hb hl).1
theorem InFoot.mono {H : Hp} {ρ ρ' : DEnv} {σ σ' : St} {b : Addr} (h2 : ∀ (i : Nat) (d : PyData), ρ'[i]? = some (some (.own2 d)) → ρ[i]? = some (some (.own2 d)) ∧ σ'[i]? = σ[i]?) (h : InFoot H ρ' σ' b) : InFoot H ρ σ b := by
  obtain ⟨i, d, a, h1, h3, h4⟩ := h
  obtain ⟨e1, e2⟩ := h2 i d h1
  exact ⟨i, d, a, e1, by rw [← e2]; exact h3, h4⟩
theorem own2_set {ρ : DEnv} {σ : St} {i : Nat} {x : Option SV} {v : Option V} (hx : ∀ d, x ≠ some (.own2 d)) (j : Nat) (d : PyData) (h : (ρ.set i x)[j]? = some (some (.own2 d))) : ρ[j]? = some (some (.own2 d)) ∧ (σ.set i v)[j]? = σ[j]? := by
  by_cases e : j = i
  · subst e
    by_cases hl : j < ρ.length
    · rw [List.getElem?_set_self hl] at h
      exact absurd (Option.some.inj h) (hx d)
    · rw [List.getElem?_eq_none (by simp; omega)] at h; cases h
  · rw [List.getElem?_set_ne (Ne.symm e)] at h ⊢
    exact ⟨h, rfl⟩
theorem DpOk.loose {K : PySem.W.Frag} {C : FC} {F H : Hp} {ρ : DEnv} {σ : St} (D : DpOk K C F H ρ σ) {b : Addr} (h : InFoot H ρ σ b) : Loose C F H ρ σ b := by
  obtain ⟨i, d, a, h1, h2, h3⟩ := h
  obtain ⟨a', bs, e1, e2, e3, e4, _⟩ := D i d h1
  rw [h2] at e1; cases e1
  rcases h3 with z | z
  · exact e3 b (by rw [z]; exact List.mem_cons_self)
  · exact e3 b (List.mem_cons_of_mem _ (e4.inner.mp z))

structure Sim (K : PySem.W.Frag) (C : FC) (F H : Hp) (ρ : DEnv) (σ : St) : Prop where
  len : ρ.length = σ.length
  sub : Same F H
  frz : ∀ (i : Nat) (d : PyData), ρ[i]? = some (some (.frz d)) → ∃ v, σ[i]? = some (some v) ∧ Rep K F v d
  own : ∀ (i : Nat) (d : PyData), ρ[i]? = some (some (.own d)) → ∃ a, σ[i]? = some (some (.ref a)) ∧ F a = none ∧ Own K F H a d ∧ (C.H0 a = none ∨ C.pa[i]? = some (some a))
  ne : ∀ (i j : Nat) (a : Addr) (d e : PyData), ρ[i]? = some (some (.own d)) → ρ[j]? = some (some (.own e)) → σ[i]? = some (some (.ref a)) → σ[j]? = some (some (.ref a)) → i = j
  par : ∀ (i : Nat) (a : Addr), C.pa[i]? = some (some a) → ∃ d, ρ[i]? = some (some (.own d)) ∧ σ[i]? = some (some (.ref a))
  f0 : Same C.F0 F
  h0 : ∀ b o, C.H0 b = some o → some b ∉ C.pa → H b = some o
  new : ∀ b, F b ≠ none → C.F0 b ≠ none ∨ C.H0 b = none
  pin : ∀ b o, C.pn b = some o → H b = some o ∧ F b = none ∧ ∀ (j : Nat) (e : PyData), ρ[j]? = some (some (.own e)) → σ[j]? ≠ some (some (.ref b))
  dp : DpOk K C F H ρ σ

section
variable {K : PySem.W.Frag} {C : FC} {F H F' H' : Hp} {ρ : DEnv} {σ : St}
theorem Sim.h0none (S : Sim K C F H ρ σ) {b : Addr} (h : H b = none) : C.H0 b = none := by
  cases e : C.H0 b with
  | none => rfl
  | some o =>
    by_cases hp : some b ∈ C.pa
    · obtain ⟨i, hi⟩ := List.mem_iff_getElem?.mp hp
      obtain ⟨d, r, q⟩ := S.par i b hi
      obtain ⟨a, e1, _, ow, _⟩ := S.own i d r
      rw [q] at e1; cases e1
      obtain ⟨o', e2⟩ := ow.there
      rw [h] at e2; cases e2
    · rw [S.h0 b o e hp] at h; cases h
theorem Sim.grow (S : Sim K C F H ρ σ) (g : Gr F H F' H') : Sim K C F' H' ρ σ where
  len := S.len
  sub := g.s
  frz := fun i d e => let ⟨v, h1, h2⟩ := S.frz i d e; ⟨v, h1, h2.mono g.f⟩
  own := fun i d e => by
    obtain ⟨a, h1, h2, h3, h4⟩ := S.own i d e
    refine ⟨a, h1, ?_, h3.mono g.f fun o q => g.h a o q, h4⟩
    cases q : F' a with
    | none => rfl
    | some o =>
      rcases g.n a (by rw [q]; intro z; cases z) with z | z
      · exact absurd h2 z
      · obtain ⟨o', e'⟩ := h3.there
        rw [z] at e'; cases e'
  ne := S.ne
  par := S.par
  f0 := S.f0.trans g.f
  h0 := fun b o e hb => g.h b o (S.h0 b o e hb)
  new := fun b e => by
    rcases g.n b e with z | z
    · exact S.new b z
    · exact .inr (S.h0none z)
  pin := fun b o e => by
    obtain ⟨h1, h2, h3⟩ := S.pin b o e
    refine ⟨g.h b o h1, ?_, h3⟩
    cases q : F' b with
    | none => rfl
    | some u =>
      rcases g.n b (by rw [q]; intro z; cases z) with z | z
      · exact absurd h2 z
      · rw [z] at h1; cases h1
  dp := S.dp.keep g.f (fun i d e => ⟨e, rfl⟩) fun b _ ⟨h1, h2, h3, h4, h5⟩ => by
    cases q : H b with
    | none => exact absurd q h1
    | some o =>
      refine ⟨fun o' e => g.h b o' (q ▸ e), ⟨fun z => ?_, ?_, h3, h4, h5⟩⟩
      · rw [g.h b o q] at z; cases z
      cases q' : F' b with
      | none => rfl
      | some u =>
        rcases g.n b (by rw [q']; intro z; cases z) with z | z
        · exact absurd h2 z
        · rw [z] at q; cases q
theorem get_set {α : Type} {l : List α} {i j : Nat} {x : α} (h : i < l.length) : (l.set i x)[j]? = if j = i then some x else l[j]? := by
  by_cases e : j = i
  · subst e; rw [if_pos rfl, List.getElem?_set_self h]
  · rw [if_neg e, List.getElem?_set_ne (Ne.symm e)]
/-- a name is bound to a datum -/
theorem Sim.setF (S : Sim K C F H ρ σ) {i : Nat} {v : V} {d : PyData} (hi : i < σ.length) (hp : ¬ C.isP i) (r : Rep K F v d) : Sim K C F H (ρ.set i (some (.frz d))) (σ.set i (some v)) where
  len := by simp [S.len]
  sub := S.sub
  frz := fun j e h => by
    rw [get_set (S.len ▸ hi)] at h
    rw [get_set hi]
    split at h
    · rename_i q; cases h; rw [if_pos q]; exact ⟨v, rfl, r⟩
    · rename_i q; rw [if_neg q]; exact S.frz j e h
  own := fun j e h => by
    rw [get_set (S.len ▸ hi)] at h
    rw [get_set hi]
    split at h
    · cases h
    · rename_i q; rw [if_neg q]; exact S.own j e h
  ne := fun j k a e e' h1 h2 h3 h4 => by
    rw [get_set (S.len ▸ hi)] at h1 h2
    split at h1
    · cases h1
    · rename_i q1
      split at h2
      · cases h2
      · rename_i q2
        rw [get_set hi, if_neg q1] at h3
        rw [get_set hi, if_neg q2] at h4
        exact S.ne j k a e e' h1 h2 h3 h4
  par := fun j a h => by
    have q : j ≠ i := fun z => hp ⟨a, z ▸ h⟩
    rw [get_set (S.len ▸ hi), get_set hi, if_neg q, if_neg q]
    exact S.par j a h
  f0 := S.f0
  h0 := S.h0
  new := S.new
  pin := fun b o e => by
    obtain ⟨h1, h2, h3⟩ := S.pin b o e
    refine ⟨h1, h2, fun j x h => ?_⟩
    rw [get_set (S.len ▸ hi)] at h
    split at h
    · cases h
    · rename_i q; rw [get_set hi, if_neg q]; exact h3 j x h
  dp := S.dp.keep (Same.refl F) (fun j e h => by
    rw [get_set (S.len ▸ hi)] at h
    split at h
    · cases h
    · rename_i q; rw [get_set hi, if_neg q]; exact ⟨h, rfl⟩) fun b _ ⟨h1, h2, h3, h4, h5⟩ => ⟨fun o e => e, h1, h2, h3, h4, fun j x h => by
    rw [get_set (S.len ▸ hi)] at h
    split at h
    · cases h
    · rename_i q; rw [get_set hi, if_neg q]; exact h5 j x h⟩
/-- a name is bound to a new owned object -/
theorem Sim.setO (S : Sim K C F H ρ σ) {i : Nat} {a : Addr} {d : PyData} (hi : i < σ.length) (hp : ¬ C.isP i) (hF : F a = none) (hO : Own K F H a d) (h0 : C.H0 a = none) (hpn : C.pn a = none)
    (hn : ∀ (j : Nat) (e : PyData), ρ[j]? = some (some (.own e)) → σ[j]? ≠ some (some (.ref a))) (nf : ¬ InFoot H ρ σ a) : Sim K C F H (ρ.set i (some (.own d))) (σ.set i (some (.ref a))) where
  len := by simp [S.len]
  sub := S.sub
  frz := fun j e h => by
    rw [get_set (S.len ▸ hi)] at h
    rw [get_set hi]
    split at h
    · cases h
    · rename_i q; rw [if_neg q]; exact S.frz j e h
  own := fun j e h => by
    rw [get_set (S.len ▸ hi)] at h
    rw [get_set hi]
    split at h
    · rename_i q; cases h; rw [if_pos q]; exact ⟨a, rfl, hF, hO, .inl h0⟩
    · rename_i q; rw [if_neg q]; exact S.own j e h
  ne := fun j k b e e' h1 h2 h3 h4 => by
    rw [get_set (S.len ▸ hi)] at h1 h2
    rw [get_set hi] at h3 h4
    by_cases q1 : j = i
    · by_cases q2 : k = i
      · rw [q1, q2]
      · rw [if_pos q1] at h3
        rw [if_neg q2] at h2 h4
        cases h3
        exact absurd h4 (hn k e' h2)
    · by_cases q2 : k = i
      · rw [if_pos q2] at h4
        rw [if_neg q1] at h1 h3
        cases h4
        exact absurd h3 (hn j e h1)
      · rw [if_neg q1] at h1 h3
        rw [if_neg q2] at h2 h4
        exact S.ne j k b e e' h1 h2 h3 h4
  par := fun j b h => by
    have q : j ≠ i := fun z => hp ⟨b, z ▸ h⟩
    rw [get_set (S.len ▸ hi), get_set hi, if_neg q, if_neg q]
    exact S.par j b h
  f0 := S.f0
  h0 := S.h0
  new := S.new
  pin := fun b o e => by
    obtain ⟨h1, h2, h3⟩ := S.pin b o e
    refine ⟨h1, h2, fun j x h => ?_⟩
    rw [get_set (S.len ▸ hi)] at h
    rw [get_set hi]
    split at h
    · rename_i q; rw [if_pos q]; intro z; cases z; rw [hpn] at e; cases e
    · rename_i q; rw [if_neg q]; exact h3 j x h
  dp := S.dp.keep (Same.refl F) (fun j e h => by
    rw [get_set (S.len ▸ hi)] at h
    split at h
    · cases h
    · rename_i q; rw [get_set hi, if_neg q]; exact ⟨h, rfl⟩) fun b hb ⟨h1, h2, h3, h4, h5⟩ => ⟨fun o e => e, h1, h2, h3, h4, fun j x h => by
    rw [get_set (S.len ▸ hi)] at h
    rw [get_set hi]
    split at h
    · rename_i q; rw [if_pos q]; intro z; cases z; exact nf hb
    · rename_i q; rw [if_neg q]; exact h5 j x h⟩
/-- an owned object turns -/
theorem Sim.turn (S : Sim K C F H ρ σ) {i : Nat} {a : Addr} {d d' : PyData} {o : HO} (hi : ρ[i]? = some (some (.own d))) (ha : σ[i]? = some (some (.ref a))) (hO : Own K F (upd H a o) a d') :
    Sim K C F (upd H a o) (ρ.set i (some (.own d'))) σ := by
  obtain ⟨a', e1, hF, hOw, hor⟩ := S.own i d hi
  rw [ha] at e1; cases e1
  have hl : i < ρ.length := (List.getElem?_eq_some_iff.mp hi).1
  refine ⟨by simp [S.len], fun b x e => ?_, fun j e h => ?_, fun j e h => ?_, fun j k b e e' h1 h2 h3 h4 => ?_, fun j b h => ?_, S.f0, fun b x e hb => ?_, S.new, fun b x e => ?_, S.dp.keep (Same.refl F) (fun j e h => ?_) fun b hb ⟨h1, h2, h3, h4, h5⟩ => ?_⟩
  · rw [upd_ne (ne_of_none e hF)]; exact S.sub b x e
  · rw [get_set hl] at h
    split at h
    · cases h
    · exact S.frz j e h
  · rw [get_set hl] at h
    split at h
    · rename_i q; subst q; cases h; exact ⟨a, ha, hF, hO, hor⟩
    · rename_i q
      obtain ⟨b, h1, h2, h3, h4⟩ := S.own j e h
      have nb : b ≠ a := fun z => q (S.ne j i b e d h hi h1 (z ▸ ha))
      exact ⟨b, h1, h2, h3.mono (Same.refl F) fun x y => by rw [upd_ne nb]; exact y, h4⟩
  · have g : ∀ (m : Nat) (x : PyData), (ρ.set i (some (.own d')))[m]? = some (some (.own x)) → ∃ y, ρ[m]? = some (some (.own y)) := fun m x z => by
      rw [get_set hl] at z
      split at z
      · rename_i q; subst q; exact ⟨d, hi⟩
      · exact ⟨x, z⟩
    obtain ⟨y1, g1⟩ := g j e h1
    obtain ⟨y2, g2⟩ := g k e' h2
    exact S.ne j k b y1 y2 g1 g2 h3 h4
  · obtain ⟨x, h1, h2⟩ := S.par j b h
    rw [get_set hl]
    by_cases q : j = i
    · rw [if_pos q]; exact ⟨d', rfl, h2⟩
    · rw [if_neg q]; exact ⟨x, h1, h2⟩
  · have nb : b ≠ a := fun z => by
      subst z
      rcases hor with q | q
      · rw [q] at e; cases e
      · exact hb (List.mem_of_getElem? q)
    rw [upd_ne nb]; exact S.h0 b x e hb
  · obtain ⟨h1, h2, h3⟩ := S.pin b x e
    have nb : b ≠ a := fun z => h3 i d hi (z ▸ ha)
    refine ⟨by rw [upd_ne nb]; exact h1, h2, fun j y h => ?_⟩
    rw [get_set hl] at h
    split at h
    · rename_i q; subst q; exact h3 j d hi
    · exact h3 j y h
  · rw [get_set hl] at h
    split at h
    · cases h
    · exact ⟨h, rfl⟩
  · have nb : b ≠ a := fun z => h5 i d hi (z ▸ ha)
    refine ⟨fun u e => by rw [upd_ne nb]; exact e, by rw [upd_ne nb]; exact h1, h2, h3, h4, fun j y h => ?_⟩
    rw [get_set hl] at h
    split at h
    · rename_i q; subst q; exact h5 j d hi
    · exact h5 j y h
/-- an owned object is left as it is from now on -/
theorem Sim.freeze (S : Sim K C F H ρ σ) {i : Nat} {a : Addr} {d : PyData} (hi : ρ[i]? = some (some (.own d))) (ha : σ[i]? = some (some (.ref a))) (hp : ¬ C.isP i) :
    ∃ F', Same F F' ∧ Rep K F' (.ref a) d ∧ Sim K C F' H (ρ.set i (some (.frz d))) σ := by
  obtain ⟨a', e1, hF, hOw, hor⟩ := S.own i d hi
  rw [ha] at e1; cases e1
  have hl : i < ρ.length := (List.getElem?_eq_some_iff.mp hi).1
  have h0 : C.H0 a = none := by
    rcases hor with q | q
    · exact q
    · exact absurd ⟨a, q⟩ hp
  obtain ⟨o, ho⟩ := hOw.there
  have sF : Same F (upd F a o) := same_upd hF
  have rp : Rep K (upd F a o) (.ref a) d := by
    cases d with
    | list ds =>
      obtain ⟨xs, e, r⟩ := hOw
      rw [ho] at e; cases e
      exact .lst (SqL.of upd_same) (r.mono sF)
    | dict ds =>
      rcases hOw with ⟨xs, e, r⟩ | ⟨w, xs, n, e, r⟩
      · rw [ho] at e; cases e
        exact .dct (.inl upd_same) (r.mono sF)
      · rw [ho] at e; cases e
        exact .dcn n (.inl upd_same) (r.mono sF)
    | _ => exact hOw.elim
  refine ⟨upd F a o, sF, rp, ⟨by simp [S.len], fun b x e => ?_, fun j e h => ?_, fun j e h => ?_, fun j k b e e' h1 h2 h3 h4 => ?_, fun j b h => ?_, S.f0.trans sF, S.h0, fun b e => ?_, fun b x e => ?_, S.dp.keep sF (fun j e h => ?_) fun b hb ⟨h1, h2, h3, h4, h5⟩ => ?_⟩⟩
  · by_cases hb : b = a
    · subst hb; rw [upd_same] at e; cases e; exact ho
    · rw [upd_ne hb] at e; exact S.sub b x e
  · rw [get_set hl] at h
    split at h
    · rename_i q; subst q; cases h; exact ⟨_, ha, rp⟩
    · obtain ⟨v, h1, h2⟩ := S.frz j e h
      exact ⟨v, h1, h2.mono sF⟩
  · rw [get_set hl] at h
    split at h
    · cases h
    · rename_i q
      obtain ⟨b, h1, h2, h3, h4⟩ := S.own j e h
      have nb : b ≠ a := fun z => q (S.ne j i b e d h hi h1 (z ▸ ha))
      exact ⟨b, h1, by rw [upd_ne nb]; exact h2, h3.mono sF fun x y => y, h4⟩
  · rw [get_set hl] at h1 h2
    split at h1
    · cases h1
    · split at h2
      · cases h2
      · exact S.ne j k b e e' h1 h2 h3 h4
  · have q : j ≠ i := fun z => hp ⟨b, z ▸ h⟩
    rw [get_set hl, if_neg q]
    exact S.par j b h
  · by_cases hb : b = a
    · subst hb; exact .inr h0
    · rw [upd_ne hb] at e; exact S.new b e
  · obtain ⟨h1, h2, h3⟩ := S.pin b x e
    have nb : b ≠ a := fun z => h3 i d hi (z ▸ ha)
    refine ⟨h1, by rw [upd_ne nb]; exact h2, fun j y h => ?_⟩
    rw [get_set hl] at h
    split at h
    · cases h
    · exact h3 j y h
  · rw [get_set hl] at h
    split at h
    · cases h
    · exact ⟨h, rfl⟩
  · have nb : b ≠ a := fun z => h5 i d hi (z ▸ ha)
    refine ⟨fun u e => e, h1, by rw [upd_ne nb]; exact h2, h3, h4, fun j y h => ?_⟩
    rw [get_set hl] at h
    split at h
    · cases h
    · exact h5 j y h
/-- another object turns -/
theorem DpOk.upd (D : DpOk K C F H ρ σ) {p : Addr} {o : HO} (nf : ¬ InFoot H ρ σ p) : DpOk K C F (L2.upd H p o) ρ σ := D.keep (Same.refl F) (fun j e h => ⟨h, rfl⟩) fun b hb ⟨h1, h2, h3, h4, h5⟩ => by
  have nb : b ≠ p := fun z => nf (z ▸ hb)
  exact ⟨fun u e => by rw [upd_ne nb]; exact e, ⟨by rw [upd_ne nb]; exact h1, h2, h3, h4, h5⟩⟩
/-- .. which is in no parts behind -/
theorem DpOk.updF (D : DpOk K C F H ρ σ) {p : Addr} {o : HO} (nf : ¬ InFoot H ρ σ p) : ¬ InFoot (L2.upd H p o) ρ σ p := fun ⟨i, d, b, h1, h2, h3⟩ => by
  by_cases nb : b = p
  · exact nf ⟨i, d, b, h1, h2, .inl nb.symm⟩
  · refine nf ⟨i, d, b, h1, h2, ?_⟩
    rcases h3 with z | z
    · exact .inl z
    · right
      unfold Inner at z ⊢
      rw [upd_ne nb] at z
      exact z
/-- a free place is in no owned object's parts -/
theorem Sim.foot (S : Sim K C F H ρ σ) {b : Addr} (h : H b = none) : ¬ InFoot H ρ σ b := fun z => (S.dp.loose z).1 h
end
end Dv

set_option Elab.async false
set_option linter.all false
set_option maxRecDepth 100000
namespace Dv
open PySem PySem.Spec L2

abbrev DE := DEnv → (Opd → DEnv → Prop) → Prop
abbrev DT := DEnv → (Bool → DEnv → Prop) → Prop
abbrev DA := DEnv → (List Opd → DEnv → Prop) → Prop

/-- what a value is: a datum by the staying part, or what a slot holds -/
def Den (K : PySem.W.Frag) (F : Hp) (σ : L2.St) (v : V) : Opd → Prop
  | .val d => Rep K F v d
  | .slot i => σ[i]? = some (some v)
theorem Den.mono {K : PySem.W.Frag} {F F' : Hp} {σ : L2.St} {v : V} {o : Opd} (e : Same F F') (h : Den K F σ v o) : Den K F' σ v o := by
  cases o with
  | val d => exact Rep.mono e h
  | slot i => exact h
inductive DenAll (K : PySem.W.Frag) (F : Hp) (σ : L2.St) : List V → List Opd → Prop
  | nil : DenAll K F σ [] []
  | cons {v : V} {vs : List V} {o : Opd} {os : List Opd} : Den K F σ v o → DenAll K F σ vs os → DenAll K F σ (v :: vs) (o :: os)
theorem DenAll.mono {K : PySem.W.Frag} {F F' : Hp} {σ : L2.St} (e : Same F F') : ∀ {vs : List V} {os : List Opd}, DenAll K F σ vs os → DenAll K F' σ vs os
  | _, _, .nil => .nil
  | _, _, .cons h r => .cons (h.mono e) (DenAll.mono e r)
theorem DenAll.length {K : PySem.W.Frag} {F : Hp} {σ : L2.St} : ∀ {vs : List V} {os : List Opd}, DenAll K F σ vs os → vs.length = os.length
  | _, _, .nil => rfl
  | _, _, .cons _ r => by simp [DenAll.length r]

/-- the datum of an operand -/
def withO (ρ : DEnv) (o : Opd) (k : PyData → Prop) : Prop :=
  match o with
  | .val d => k d
  | .slot i => match ρ[i]? with
    | some (some (.own d)) => k d
    | some (some (.frz d)) => k d
    | _ => False
def withAll (ρ : DEnv) : List Opd → (List PyData → Prop) → Prop
  | [], k => k []
  | o :: os, k => withO ρ o fun d => withAll ρ os fun ds => k (d :: ds)
@[simp] theorem withO_val {ρ : DEnv} {d : PyData} {k : PyData → Prop} : withO ρ (.val d) k = k d := rfl

/-- a value seen: its top may be an owned object -/
def ExcV (K : PySem.W.Frag) (F : Hp) (a : Addr) (ds : List (PyData × PyData)) : Prop := ∃ D d n fs es, ds = (.bool true, .str n) :: es ∧ Rd F a (ExH D d a) ∧ ClsN K n D ∧ ExF F d fs ∧ RepFs K F fs es
theorem ExcV.mono {K : PySem.W.Frag} {F F' : Hp} {a : Addr} {ds : List (PyData × PyData)} (e : Same F F') (h : ExcV K F a ds) : ExcV K F' a ds := by
  obtain ⟨D, d, n, fs, es, q, h1, h2, h3, h4⟩ := h
  exact ⟨D, d, n, fs, es, q, rd_mono e h1, h2, exF_mono e h3, h4.mono e⟩
/-- no exception -/
def noX : PyData → Bool
  | .dict ((.bool true, _) :: _) => false
  | _ => true
theorem ExcV.noX {K : PySem.W.Frag} {F : Hp} {a : Addr} {ds : List (PyData × PyData)} (h : ExcV K F a ds) : Dv.noX (.dict ds) = false := by
  obtain ⟨_, _, n, _, es, rfl, _⟩ := h
  rfl
def View (K : PySem.W.Frag) (F H : Hp) (v : V) : PyData → Prop
  | .list ds => ∃ a xs, v = .ref a ∧ SqL K H a xs ∧ RepAll K F xs ds
  | .dict ds => ∃ a, v = .ref a ∧ ((∃ kvs, Rd H a (.dK kvs) ∧ RepKV K F kvs ds) ∨ (∃ w xs, xs ≠ [] ∧ Rd H a (DN w a xs) ∧ RepNK K F xs ds) ∨ ExcV K F a ds)
  | d => Rep K F v d
theorem Rep.view {K : PySem.W.Frag} {F H : Hp} {v : V} {d : PyData} (s : Same F H) (h : Rep K F v d) : View K F H v d := by
  cases h with
  | non => exact .non
  | bl b => exact .bl b
  | int i => exact .int i
  | str x => exact .str x
  | lst h r => exact ⟨_, _, rfl, sqL_mono s h, r⟩
  | tup h r => exact .tup h r
  | dct h r => exact ⟨_, rfl, .inl ⟨_, rd_mono s h, r⟩⟩
  | dcn n h r => exact ⟨_, rfl, .inr (.inl ⟨_, _, n, rd_mono s h, r⟩)⟩
  | exc h c x r => exact ⟨_, rfl, .inr (.inr ⟨_, _, _, _, _, rfl, h, c, x, r⟩)⟩
inductive ViewAll (K : PySem.W.Frag) (F H : Hp) : List V → List PyData → Prop
  | nil : ViewAll K F H [] []
  | cons {v : V} {vs : List V} {d : PyData} {ds : List PyData} : View K F H v d → ViewAll K F H vs ds → ViewAll K F H (v :: vs) (d :: ds)
theorem ViewAll.length {K : PySem.W.Frag} {F H : Hp} : ∀ {vs : List V} {ds : List PyData}, ViewAll K F H vs ds → vs.length = ds.length
  | _, _, .nil => rfl
  | _, _, .cons _ r => by simp [ViewAll.length r]
section
variable {K : PySem.W.Frag} {C : FC} {F H : Hp} {ρ : DEnv} {σ : L2.St}
theorem Sim.see (S : Sim K C F H ρ σ) {v : V} {o : Opd} {k : PyData → Prop} (h : Den K F σ v o) (w : withO ρ o k) : ∃ d, View K F H v d ∧ k d := by
  cases o with
  | val d => exact ⟨d, Rep.view S.sub h, w⟩
  | slot i =>
    unfold withO at w
    dsimp only at w
    cases e : ρ[i]? with
    | none => rw [e] at w; exact w.elim
    | some x =>
      cases x with
      | none => rw [e] at w; exact w.elim
      | some y =>
        cases y with
        | frz d =>
          rw [e] at w
          obtain ⟨v', h1, h2⟩ := S.frz i d e
          have h' : σ[i]? = some (some v) := h
          rw [h1] at h'; cases h'
          exact ⟨d, Rep.view S.sub h2, w⟩
        | own2 d => rw [e] at w; exact w.elim
        | own d =>
          rw [e] at w
          obtain ⟨a, h1, h2, h3, _⟩ := S.own i d e
          have h' : σ[i]? = some (some v) := h
          rw [h1] at h'; cases h'
          refine ⟨d, ?_, w⟩
          cases d with
          | list ds => obtain ⟨xs, e1, r⟩ := h3; exact ⟨a, xs, rfl, SqL.of e1, r⟩
          | dict ds =>
            rcases h3 with ⟨xs, e1, r⟩ | ⟨w0, xs, n, e1, r⟩
            · exact ⟨a, rfl, .inl ⟨xs, .inl e1, r⟩⟩
            · exact ⟨a, rfl, .inr (.inl ⟨w0, xs, n, .inl e1, r⟩)⟩
          | _ => exact h3.elim
theorem Sim.seeAll (S : Sim K C F H ρ σ) : ∀ {vs : List V} {os : List Opd} {k : List PyData → Prop}, DenAll K F σ vs os → withAll ρ os k → ∃ ds, ViewAll K F H vs ds ∧ k ds
  | _, _, _, .nil, w => ⟨[], .nil, w⟩
  | _, _, _, .cons h r, w => by
    obtain ⟨d, v1, w1⟩ := S.see h w
    obtain ⟨ds, v2, w2⟩ := Sim.seeAll S r w1
    exact ⟨d :: ds, .cons v1 v2, w2⟩
end

/-! ### the judgements -/
def lE (K : PySem.W.Frag) (C : FC) (t : DE) : TE := fun σ H Q => ∃ F ρ q, Sim K C F H ρ σ ∧ t ρ q ∧ ∀ o ρ' F' H' v, q o ρ' → Sim K C F' H' ρ' σ → Same F F' → Den K F' σ v o → Q v H'
def lT (K : PySem.W.Frag) (C : FC) (t : DT) : TT := fun σ H Q => ∃ F ρ q, Sim K C F H ρ σ ∧ t ρ q ∧ ∀ b ρ' F' H', q b ρ' → Sim K C F' H' ρ' σ → Same F F' → Q b H'
def lA (K : PySem.W.Frag) (C : FC) (t : DA) : TA := fun σ H Q => ∃ F ρ q, Sim K C F H ρ σ ∧ t ρ q ∧ ∀ os ρ' F' H' vs, q os ρ' → Sim K C F' H' ρ' σ → Same F F' → DenAll K F' σ vs os → Q vs H'
structure QE (X : Cx) (C : FC) (e : Expr) (t : DE) : Prop where
  pe : PE X e (lE X.K C t)
structure QT (X : Cx) (C : FC) (e : Expr) (t : DT) : Prop where
  pt : PT X e (lT X.K C t)
structure QW (X : Cx) (C : FC) (e : Expr) (t : DT) : Prop where
  pw : PW X e (lT X.K C t)
structure QA (X : Cx) (C : FC) (es : List Expr) (t : DA) : Prop where
  pa : PA X es (lA X.K C t)
section
variable {X : Cx} {C : FC} {a b c e : Expr} {es : List Expr} {pos : Pos} {ta tb tc : DE}
theorem QE.of {t' : TE} {t : DE} (h : PE X e t') (w : ∀ σ H Q, lE X.K C t σ H Q → t' σ H Q) : QE X C e t := ⟨⟨fun pins s σ H Q I hq => h.run pins s σ H Q I (w σ H Q hq)⟩⟩
theorem QT.of {t' : TT} {t : DT} (h : PT X e t') (w : ∀ σ H Q, lT X.K C t σ H Q → t' σ H Q) : QT X C e t := ⟨⟨fun pins s σ H Q I hq => h.run pins s σ H Q I (w σ H Q hq)⟩⟩
theorem QW.of {t' : TT} {t : DT} (h : PW X e t') (w : ∀ σ H Q, lT X.K C t σ H Q → t' σ H Q) : QW X C e t := ⟨⟨fun wh pins s σ H Q I hq => h.run wh pins s σ H Q I (w σ H Q hq)⟩⟩
theorem QA.of {t' : TA} {t : DA} (h : PA X es t') (w : ∀ σ H Q, lA X.K C t σ H Q → t' σ H Q) : QA X C es t := ⟨⟨fun pos pins s σ H Q I hq => h.run pos pins s σ H Q I (w σ H Q hq)⟩⟩

/-! ### names, constants -/
def dVar (i : Nat) : DE := fun ρ Q => match ρ[i]? with
  | some (some (.frz d)) => Q (.val d) ρ
  | some (some (.own _)) => Q (.slot i) ρ
  | _ => False
def dC (d : PyData) : DE := fun ρ Q => Q (.val d) ρ
theorem q_var (i : Nat) {x : Str} (h : PE X (.Name x pos) (tVar i)) : QE X C (.Name x pos) (dVar i) := by
  refine QE.of h fun σ H Q hq => ?_
  obtain ⟨F, ρ, q, S, ht, k⟩ := hq
  unfold dVar at ht
  cases e : ρ[i]? with
  | none => rw [e] at ht; exact ht.elim
  | some y =>
    cases y with
    | none => rw [e] at ht; exact ht.elim
    | some z =>
      cases z with
      | frz d =>
        rw [e] at ht
        obtain ⟨v, h1, h2⟩ := S.frz i d e
        exact ⟨v, h1, k _ _ _ _ _ ht S (Same.refl F) h2⟩
      | own2 d => rw [e] at ht; exact ht.elim
      | own d =>
        rw [e] at ht
        obtain ⟨a, h1, _⟩ := S.own i d e
        exact ⟨.ref a, h1, k _ _ _ _ _ ht S (Same.refl F) h1⟩
theorem qv (i : Nat) {x : Str} {pos : Pos} (hN : X.N[i]? = some x := by rfl) (hv : Vis X.env.scope x := by first | exact Or.inl rfl | exact Or.inr (Or.inl rfl) | exact Or.inr (Or.inr rfl)) (hd : (x == ("__debug__" : Str)) = false := by decide)
    (hcd : (x == ("__classdict__" : Str)) = false := by decide) : QE X C (.Name x pos) (dVar i) := q_var i (pe_var hN hv hd hcd)
theorem q_const {v : V} {d : PyData} (h : PE X e (tC v)) (r : ∀ F, Rep X.K F v d) : QE X C e (dC d) := by
  refine QE.of h fun σ H Q hq => ?_
  obtain ⟨F, ρ, q, S, ht, k⟩ := hq
  exact k _ _ _ _ _ ht S (Same.refl F) (r F)
theorem q_int {i j pos} : QE X C (.Constant (.int i) j pos) (dC (.int i)) := q_const pe_int fun _ => .int i
theorem q_bl {i j pos} : QE X C (.Constant (.bool i) j pos) (dC (.bool i)) := q_const pe_bl fun _ => .bl i
theorem q_non {j pos} : QE X C (.Constant .none j pos) (dC .none) := q_const pe_non fun _ => .non
theorem q_str {x j pos} : QE X C (.Constant (.str x) j pos) (dC (.str x)) := q_const pe_str fun _ => .str x

/-! ### operators -/
abbrev Op2 := PyData → PyData → (PyData → Prop) → Prop
abbrev Op1 := PyData → (PyData → Prop) → Prop
abbrev OpN := List PyData → (PyData → Prop) → Prop
def Kont (K : PySem.W.Frag) (F H : Hp) (q : PyData → Prop) (Q : VK) : Prop := ∀ g F' H' v, q g → Gr F H F' H' → Rep K F' v g → Q v H'
def OpOk (X : Cx) (r : R2) (f : Op2) : Prop := ∀ F H x y d e q Q, Same F H → View X.K F H x d → View X.K F H y e → f d e q → Kont X.K F H q Q → r x y H Q
def CallOk (X : Cx) (r : List V → Hp → VK → Prop) (f : OpN) : Prop := ∀ F H vs ds q Q, Same F H → ViewAll X.K F H vs ds → f ds q → Kont X.K F H q Q → r vs H Q
/-- behind an operation -/
theorem kont_of {F F1 F2 H1 H2 : Hp} {ρ1 ρ2 : DEnv} {σ : L2.St} {q : Opd → DEnv → Prop} {Q : VK} (S2 : Sim X.K C F2 H2 ρ2 σ) (s : Same F F2) (k : ∀ o ρ' F' H' v, q o ρ' → Sim X.K C F' H' ρ' σ → Same F F' → Den X.K F' σ v o → Q v H') :
    Kont X.K F2 H2 (fun g => q (.val g) ρ2) Q := fun g F' H' v hq gr r => k _ _ _ _ _ hq (S2.grow gr) (s.trans gr.f) r
def dBin (f : Op2) (a b : DE) : DE := fun ρ Q => a ρ fun o1 ρ1 => b ρ1 fun o2 ρ2 => withO ρ2 o1 fun d => withO ρ2 o2 fun e => f d e fun g => Q (.val g) ρ2
theorem lE_op {r : R2} {f : Op2} (ok : OpOk X r f) {σ : L2.St} {H : Hp} {Q : VK} (h : lE X.K C (dBin f ta tb) σ H Q) : tOp r (lE X.K C ta) (lE X.K C tb) σ H Q := by
  obtain ⟨F, ρ, q, S, ht, k⟩ := h
  refine ⟨F, ρ, _, S, ht, fun o1 ρ1 F1 H1 x h1 S1 s1 d1 => ?_⟩
  refine ⟨F1, ρ1, _, S1, h1, fun o2 ρ2 F2 H2 y h2 S2 s2 d2 => ?_⟩
  obtain ⟨d, v1, w1⟩ := S2.see (d1.mono s2) h2
  obtain ⟨e, v2, w2⟩ := S2.see d2 w1
  exact ok F2 H2 x y d e _ Q S2.sub v1 v2 w2 (kont_of (ρ1 := ρ1) (F1 := F1) (H1 := H1) S2 (s1.trans s2) k)
theorem q_bin {op : Operator} {r : R2} {f : Op2} (ho : OpR X (binaryOp op) r) (ok : OpOk X r f) (ha : QE X C a ta) (hb : QE X C b tb) : QE X C (.BinOp a op b pos) (dBin f ta tb) :=
  QE.of (pe_op ho ha.pe hb.pe) fun _ _ _ h => lE_op ok h
theorem q_cmp {op : CmpOp} {r : R2} {f : Op2} (ho : OpR X (compareOp op) r) (ok : OpOk X r f) (ha : QE X C a ta) (hb : QE X C b tb) (hm : behindInMarks op b = false := by first | exact nomark _ | rfl) : QE X C (.Compare a [op] [b] pos) (dBin f ta tb) :=
  QE.of (pe_cmpR ho ha.pe hb.pe hm) fun _ _ _ h => lE_op ok h
theorem q_ix {r : R2} {f : Op2} (ho : IxR X r) (ok : OpOk X r f) (ha : QE X C a ta) (hb : QE X C b tb) (hs : PlainIx b := by exact fun _ _ => rfl) : QE X C (.Subscript a b pos) (dBin f ta tb) :=
  QE.of (pe_ix ho ha.pe hb.pe hs) fun _ _ _ h => lE_op ok h
/-! ### tests -/
/-- an expression that gives a bool, as a test -/
def dTest (t : DE) : DT := fun ρ Q => t ρ fun o ρ' => match o with
  | .val (.bool b) => Q b ρ'
  | _ => False
theorem lT_test {t : DE} {σ : L2.St} {H : Hp} {Q : Bool → Hp → Prop} (h : lT X.K C (dTest t) σ H Q) : lE X.K C t σ H fun x H' => ∃ k, x = .bl k ∧ Q k H' := by
  obtain ⟨F, ρ, q, S, ht, k⟩ := h
  refine ⟨F, ρ, _, S, ht, fun o ρ1 F1 H1 v h1 S1 s1 d1 => ?_⟩
  cases o with
  | slot i => exact h1.elim
  | val d =>
    cases d with
    | bool b => cases (show Rep X.K F1 v (.bool b) from d1); exact ⟨b, rfl, k _ _ _ _ h1 S1 s1⟩
    | _ => exact h1.elim
theorem t_val {t : DE} (h : QE X C e t) (he : ∀ whole, isTrue e X.env whole = (do let v ← whole; standAt e.pos; holding [v] (truthy v)) := by intro _; rfl) : QT X C e (dTest t) :=
  QT.of (pt_val h.pe he) fun _ _ _ h => lT_test h
theorem t_cmp {op : CmpOp} {r : R2} {f : Op2} (ho : OpR X (compareOp op) r) (ok : OpOk X r f) (ha : QE X C a ta) (hb : QE X C b tb) (hm : behindInMarks op b = false := by first | exact nomark _ | rfl) : QT X C (.Compare a [op] [b] pos) (dTest (dBin f ta tb)) :=
  QT.of (pt_cmpR ho ha.pe hb.pe hm) fun σ H Q h => by
    obtain ⟨F, ρ, q, S, ht, k⟩ := lT_test h
    exact lE_op ok ⟨F, ρ, q, S, ht, k⟩
/-- a way by a bool -/
def by2 (c : Bool) (a b : Prop) : Prop := match c with
  | true => a
  | false => b
def dAnd (t u : DT) : DT := fun ρ Q => t ρ fun c ρ1 => by2 c (u ρ1 Q) (Q false ρ1)
def dOr (t u : DT) : DT := fun ρ Q => t ρ fun c ρ1 => by2 c (Q true ρ1) (u ρ1 Q)
def dNot (t : DT) : DT := fun ρ Q => t ρ fun c ρ1 => Q (!c) ρ1
variable {t u : DT} {rest : List Expr}
theorem w_and1 (h : QT X C a t) : QW X C (.BoolOp .And [a] pos) t := ⟨pw_and1 h.pt⟩
theorem w_or1 (h : QT X C a t) : QW X C (.BoolOp .Or [a] pos) t := ⟨pw_or1 h.pt⟩
theorem w_and (h : QT X C a t) (h2 : QW X C (.BoolOp .And (b :: rest) pos) u) : QW X C (.BoolOp .And (a :: b :: rest) pos) (dAnd t u) :=
  QW.of (pw_and h.pt h2.pw) fun σ H Q hq => by
    obtain ⟨F, ρ, q, S, ht, k⟩ := hq
    refine ⟨F, ρ, _, S, ht, fun c ρ1 F1 H1 h1 S1 s1 => ?_⟩
    cases c with
    | true => rw [if_pos rfl]; exact ⟨F1, ρ1, _, S1, h1, fun b' ρ2 F2 H2 h2 S2 s2 => k _ _ _ _ h2 S2 (s1.trans s2)⟩
    | false => rw [if_neg Bool.false_ne_true]; exact k _ _ _ _ h1 S1 s1
theorem w_or (h : QT X C a t) (h2 : QW X C (.BoolOp .Or (b :: rest) pos) u) : QW X C (.BoolOp .Or (a :: b :: rest) pos) (dOr t u) :=
  QW.of (pw_or h.pt h2.pw) fun σ H Q hq => by
    obtain ⟨F, ρ, q, S, ht, k⟩ := hq
    refine ⟨F, ρ, _, S, ht, fun c ρ1 F1 H1 h1 S1 s1 => ?_⟩
    cases c with
    | false => rw [if_neg Bool.false_ne_true]; exact ⟨F1, ρ1, _, S1, h1, fun b' ρ2 F2 H2 h2 S2 s2 => k _ _ _ _ h2 S2 (s1.trans s2)⟩
    | true => rw [if_pos rfl]; exact k _ _ _ _ h1 S1 s1
theorem t_w (h : QW X C e t) : QT X C e t := ⟨h.pw.pt⟩
theorem t_not (h : QT X C a t) : QT X C (.UnaryOp .Not a pos) (dNot t) :=
  QT.of (pt_not h.pt) fun σ H Q hq => by
    obtain ⟨F, ρ, q, S, ht, k⟩ := hq
    exact ⟨F, ρ, _, S, ht, fun c ρ1 F1 H1 h1 S1 s1 => k _ _ _ _ h1 S1 s1⟩
/-- and, or, not as values (bools) -/
def dAndV (a b : DE) : DE := fun ρ Q => a ρ fun o ρ1 => match o with
  | .val (.bool c) => by2 c (b ρ1 Q) (Q (.val (.bool false)) ρ1)
  | _ => False
def dOrV (a b : DE) : DE := fun ρ Q => a ρ fun o ρ1 => match o with
  | .val (.bool c) => by2 c (Q (.val (.bool true)) ρ1) (b ρ1 Q)
  | _ => False
def dNotV (a : DE) : DE := fun ρ Q => a ρ fun o ρ1 => match o with
  | .val (.bool c) => Q (.val (.bool (!c))) ρ1
  | _ => False
theorem q_one {op} (h : QE X C a ta) : QE X C (.BoolOp op [a] pos) ta := ⟨pe_one h.pe⟩
theorem q_and (h : QE X C a ta) (h2 : QE X C (.BoolOp .And (b :: rest) pos) tb) : QE X C (.BoolOp .And (a :: b :: rest) pos) (dAndV ta tb) :=
  QE.of (pe_and h.pe h2.pe) fun σ H Q hq => by
    obtain ⟨F, ρ, q, S, ht, k⟩ := hq
    refine ⟨F, ρ, _, S, ht, fun o ρ1 F1 H1 v h1 S1 s1 d1 => ?_⟩
    cases o with
    | slot i => exact h1.elim
    | val d =>
      cases d with
      | bool c =>
        cases (show Rep X.K F1 v (.bool c) from d1)
        refine ⟨c, rfl, ?_⟩
        cases c with
        | true => rw [if_pos rfl]; exact ⟨F1, ρ1, q, S1, h1, fun o2 ρ2 F2 H2 v2 h2 S2 s2 d2 => k _ _ _ _ _ h2 S2 (s1.trans s2) d2⟩
        | false => rw [if_neg Bool.false_ne_true]; exact k _ _ _ _ _ h1 S1 s1 (.bl false)
      | _ => exact h1.elim
theorem q_or (h : QE X C a ta) (h2 : QE X C (.BoolOp .Or (b :: rest) pos) tb) : QE X C (.BoolOp .Or (a :: b :: rest) pos) (dOrV ta tb) :=
  QE.of (pe_or h.pe h2.pe) fun σ H Q hq => by
    obtain ⟨F, ρ, q, S, ht, k⟩ := hq
    refine ⟨F, ρ, _, S, ht, fun o ρ1 F1 H1 v h1 S1 s1 d1 => ?_⟩
    cases o with
    | slot i => exact h1.elim
    | val d =>
      cases d with
      | bool c =>
        cases (show Rep X.K F1 v (.bool c) from d1)
        refine ⟨c, rfl, ?_⟩
        cases c with
        | false => rw [if_neg Bool.false_ne_true]; exact ⟨F1, ρ1, q, S1, h1, fun o2 ρ2 F2 H2 v2 h2 S2 s2 d2 => k _ _ _ _ _ h2 S2 (s1.trans s2) d2⟩
        | true => rw [if_pos rfl]; exact k _ _ _ _ _ h1 S1 s1 (.bl true)
      | _ => exact h1.elim
theorem q_not (h : QE X C a ta) : QE X C (.UnaryOp .Not a pos) (dNotV ta) :=
  QE.of (pe_not h.pe) fun σ H Q hq => by
    obtain ⟨F, ρ, q, S, ht, k⟩ := hq
    refine ⟨F, ρ, _, S, ht, fun o ρ1 F1 H1 v h1 S1 s1 d1 => ?_⟩
    cases o with
    | slot i => exact h1.elim
    | val d =>
      cases d with
      | bool c =>
        cases (show Rep X.K F1 v (.bool c) from d1)
        exact ⟨c, rfl, k _ _ _ _ _ h1 S1 s1 (.bl _)⟩
      | _ => exact h1.elim
/-- a if t else b -/
def dIfE (t : DT) (a b : DE) : DE := fun ρ Q => t ρ fun c ρ1 => by2 c (a ρ1 Q) (b ρ1 Q)
theorem q_ifExp (hc : QT X C c t) (h : QE X C a ta) (h2 : QE X C b tb) : QE X C (.IfExp c a b pos) (dIfE t ta tb) :=
  QE.of (pe_ifExp hc.pt h.pe h2.pe) fun σ H Q hq => by
    obtain ⟨F, ρ, q, S, ht, k⟩ := hq
    refine ⟨F, ρ, _, S, ht, fun c ρ1 F1 H1 h1 S1 s1 => ?_⟩
    cases c with
    | true => rw [if_pos rfl]; exact ⟨F1, ρ1, q, S1, h1, fun o2 ρ2 F2 H2 v2 h2 S2 s2 d2 => k _ _ _ _ _ h2 S2 (s1.trans s2) d2⟩
    | false => rw [if_neg Bool.false_ne_true]; exact ⟨F1, ρ1, q, S1, h1, fun o2 ρ2 F2 H2 v2 h2 S2 s2 d2 => k _ _ _ _ _ h2 S2 (s1.trans s2) d2⟩
/-- a op b op' c -/
def dChain (f g : Op2) (a b c : DE) : DE := fun ρ Q => a ρ fun o1 ρ1 => b ρ1 fun o2 ρ2 => withO ρ2 o1 fun d => withO ρ2 o2 fun e => f d e fun z => match z with
  | .bool b => by2 b (c ρ2 fun o3 ρ3 => withO ρ3 o2 fun e => withO ρ3 o3 fun d3 => g e d3 fun z => Q (.val z) ρ3) (Q (.val (.bool false)) ρ2)
  | _ => False

/-! ### arguments, displays -/
def dNil : DA := fun ρ Q => Q [] ρ
def dCons (a : DE) (r : DA) : DA := fun ρ Q => a ρ fun o ρ1 => r ρ1 fun os ρ2 => Q (o :: os) ρ2
theorem a_nil : QA X C [] dNil := QA.of pa_nil fun σ H Q hq => by
  obtain ⟨F, ρ, q, S, ht, k⟩ := hq
  exact k _ _ _ _ _ ht S (Same.refl F) .nil
theorem a_cons {r : DA} (h : QE X C e ta) (h2 : QA X C es r) (hs : starEach (e :: es) X.env = (false, eval e X.env) :: starEach es X.env := by rfl) : QA X C (e :: es) (dCons ta r) :=
  QA.of (pa_cons h.pe h2.pa hs) fun σ H Q hq => by
    obtain ⟨F, ρ, q, S, ht, k⟩ := hq
    refine ⟨F, ρ, _, S, ht, fun o ρ1 F1 H1 v h1 S1 s1 d1 => ?_⟩
    exact ⟨F1, ρ1, _, S1, h1, fun os ρ2 F2 H2 vs h2 S2 s2 d2 => k _ _ _ _ _ h2 S2 (s1.trans s2) (.cons (d1.mono s2) d2)⟩
end
end Dv

set_option Elab.async false
set_option linter.all false
set_option maxRecDepth 100000
namespace Dv
open PySem PySem.Spec L2

abbrev big : Nat := 16777216
theorem le_line {n : Nat} (h : n ≤ big) : n ≤ sizeLine := by rw [sizeLine_eq]; exact h
theorem lt_line {n : Nat} (h : n < big) : n < sizeLine := by rw [sizeLine_eq]; exact h

/-- which parameters are owned -/
def FC.Tags (C : FC) (P : List Bool) : Prop := ∀ i, C.isP i → P[i]? = some true
/-- an operand is shared: from now on it stays as it is -/
def share (P : List Bool) (ρ : DEnv) (o : Opd) (k : PyData → DEnv → Prop) : Prop :=
  match o with
  | .val d => k d ρ
  | .slot i => match ρ[i]? with
    | some (some (.frz d)) => k d ρ
    | some (some (.own d)) => P[i]? ≠ some true ∧ k d (ρ.set i (some (.frz d)))
    | _ => False
def shareAll (P : List Bool) : DEnv → List Opd → (List PyData → DEnv → Prop) → Prop
  | ρ, [], k => k [] ρ
  | ρ, o :: os, k => share P ρ o fun d ρ1 => shareAll P ρ1 os fun ds ρ2 => k (d :: ds) ρ2
section
variable {K : PySem.W.Frag} {C : FC} {P : List Bool} {F H : Hp} {ρ : DEnv} {σ : L2.St}
theorem Sim.share (S : Sim K C F H ρ σ) (hP : C.Tags P) {v : V} {o : Opd} {k : PyData → DEnv → Prop} (h : Den K F σ v o) (w : share P ρ o k) :
    ∃ d ρ' F', k d ρ' ∧ Sim K C F' H ρ' σ ∧ Same F F' ∧ Rep K F' v d := by
  cases o with
  | val d => exact ⟨d, ρ, F, w, S, Same.refl F, h⟩
  | slot i =>
    unfold Dv.share at w
    dsimp only at w
    have h' : σ[i]? = some (some v) := h
    cases e : ρ[i]? with
    | none => rw [e] at w; exact w.elim
    | some x =>
      cases x with
      | none => rw [e] at w; exact w.elim
      | some y =>
        cases y with
        | frz d =>
          rw [e] at w
          obtain ⟨v', h1, h2⟩ := S.frz i d e
          rw [h1] at h'; cases h'
          exact ⟨d, ρ, F, w, S, Same.refl F, h2⟩
        | own2 d => rw [e] at w; exact w.elim
        | own d =>
          rw [e] at w
          obtain ⟨a, h1, _⟩ := S.own i d e
          rw [h1] at h'; cases h'
          obtain ⟨F', s, r, S'⟩ := S.freeze e h1 fun z => w.1 (hP i z)
          exact ⟨d, _, F', w.2, S', s, r⟩
theorem Sim.shareAll (hP : C.Tags P) : ∀ {vs : List V} {os : List Opd} {F : Hp} {ρ : DEnv} {k : List PyData → DEnv → Prop}, Sim K C F H ρ σ → DenAll K F σ vs os → shareAll P ρ os k →
    ∃ ds ρ' F', k ds ρ' ∧ Sim K C F' H ρ' σ ∧ Same F F' ∧ RepAll K F' vs ds
  | _, _, F, ρ, k, S, .nil, w => ⟨[], ρ, F, w, S, Same.refl F, .nil⟩
  | _, _, F, ρ, k, S, .cons h r, w => by
    obtain ⟨d, ρ1, F1, w1, S1, s1, r1⟩ := S.share hP h w
    obtain ⟨ds, ρ2, F2, w2, S2, s2, r2⟩ := Sim.shareAll hP S1 (r.mono s1) w1
    exact ⟨d :: ds, ρ2, F2, w2, S2, s1.trans s2, .cons (r1.mono s2) r2⟩
end

/-! ### a new owned object -/
structure Fresh (K : PySem.W.Frag) (C : FC) (F H : Hp) (ρ : DEnv) (σ : L2.St) (a : Addr) (d : PyData) : Prop where
  f : F a = none
  o : Own K F H a d
  h0 : C.H0 a = none
  pn : C.pn a = none
  ne : ∀ (j : Nat) (e : PyData), ρ[j]? = some (some (.own e)) → σ[j]? ≠ some (some (.ref a))
  nf : ¬ InFoot H ρ σ a
abbrev DO := DEnv → (PyData → DEnv → Prop) → Prop
def lO (K : PySem.W.Frag) (C : FC) (t : DO) : TE := fun σ H Q => ∃ F ρ q, Sim K C F H ρ σ ∧ t ρ q ∧ ∀ d ρ' F' H' a, q d ρ' → Sim K C F' H' ρ' σ → Same F F' → Fresh K C F' H' ρ' σ a d → Q (.ref a) H'
structure QO (X : Cx) (C : FC) (e : Expr) (t : DO) : Prop where
  pe : PE X e (lO X.K C t)
theorem QO.of {X : Cx} {C : FC} {e : Expr} {t' : TE} {t : DO} (h : PE X e t') (w : ∀ σ H Q, lO X.K C t σ H Q → t' σ H Q) : QO X C e t := ⟨⟨fun pins s σ H Q I hq => h.run pins s σ H Q I (w σ H Q hq)⟩⟩
section
variable {K : PySem.W.Frag} {C : FC} {F H : Hp} {ρ : DEnv} {σ : L2.St}
theorem Sim.pnone (S : Sim K C F H ρ σ) {b : Addr} (h : H b = none) : C.pn b = none := by
  cases e : C.pn b with
  | none => rfl
  | some o => rw [(S.pin b o e).1] at h; cases h
/-- an object laid at a free place is a new owned one -/
theorem Sim.lay (S : Sim K C F H ρ σ) {p : Addr} (hp : H p = none) {o : HO} : Sim K C F (upd H p o) ρ σ ∧ F p = none ∧ C.H0 p = none ∧ C.pn p = none ∧ (∀ (j : Nat) (e : PyData), ρ[j]? = some (some (.own e)) → σ[j]? ≠ some (some (.ref p))) ∧ ¬ InFoot (upd H p o) ρ σ p := by
  have hF : F p = none := S.sub.free hp
  refine ⟨S.grow ⟨Same.refl F, Dv.same_upd hp, S.sub.trans (Dv.same_upd hp), fun _ h => .inl h⟩, hF, S.h0none hp, S.pnone hp, fun j e h1 h2 => ?_, fun z => ?_⟩
  · obtain ⟨a, h3, _, h4, _⟩ := S.own j e h1
    rw [h3] at h2; cases h2
    obtain ⟨o, h5⟩ := h4.there
    rw [hp] at h5; cases h5
  · obtain ⟨i, d, a, h1, h2, h3⟩ := z
    obtain ⟨a', bs, e1, e2, e3, e4, _⟩ := S.dp i d h1
    rw [h2] at e1; cases e1
    have na : a ≠ p := fun z => (e3 a List.mem_cons_self).1 (z ▸ hp)
    rcases h3 with z | z
    · exact na z.symm
    · have z' : Inner H a p := by
        unfold Inner at z ⊢
        rw [upd_ne na] at z
        exact z
      exact (e3 p (List.mem_cons_of_mem _ (e4.inner.mp z'))).1 hp
theorem Sim.layL (S : Sim K C F H ρ σ) {p : Addr} (hp : H p = none) {xs : List V} {ds : List PyData} (r : RepAll K F xs ds) : Sim K C F (upd H p (.lst xs)) ρ σ ∧ Fresh K C F (upd H p (.lst xs)) ρ σ p (.list ds) := by
  obtain ⟨a, b, c, c', d, f⟩ := S.lay hp (o := .lst xs)
  exact ⟨a, b, ⟨xs, upd_same, r⟩, c, c', d, f⟩
theorem Sim.layD (S : Sim K C F H ρ σ) {p : Addr} (hp : H p = none) {xs : List (Key × V)} {ds : List (PyData × PyData)} (r : RepKV K F xs ds) : Sim K C F (upd H p (.dK xs)) ρ σ ∧ Fresh K C F (upd H p (.dK xs)) ρ σ p (.dict ds) := by
  obtain ⟨a, b, c, c', d, f⟩ := S.lay hp (o := .dK xs)
  exact ⟨a, b, .inl ⟨xs, upd_same, r⟩, c, c', d, f⟩
/-- .. and may be frozen at once -/
theorem Sim.froze (S : Sim K C F H ρ σ) {a : Addr} {d : PyData} (fr : Fresh K C F H ρ σ a d) : ∃ F', Same F F' ∧ Sim K C F' H ρ σ ∧ Rep K F' (.ref a) d := by
  obtain ⟨o, ho⟩ := fr.o.there
  have sF : Same F (upd F a o) := Dv.same_upd fr.f
  refine ⟨upd F a o, sF, ⟨S.len, fun b x e => ?_, fun j e h => ?_, fun j e h => ?_, S.ne, S.par, S.f0.trans sF, S.h0, fun b e => ?_, fun b x e => ?_, S.dp.keep sF (fun j e h => ⟨h, rfl⟩) fun b hb ⟨h1, h2, h3, h4, h5⟩ => ?_⟩, ?_⟩
  · by_cases hb : b = a
    · subst hb; rw [upd_same] at e; cases e; exact ho
    · rw [upd_ne hb] at e; exact S.sub b x e
  · obtain ⟨v, h1, h2⟩ := S.frz j e h
    exact ⟨v, h1, h2.mono sF⟩
  · obtain ⟨b, h1, h2, h3, h4⟩ := S.own j e h
    have nb : b ≠ a := fun z => fr.ne j e h (z ▸ h1)
    exact ⟨b, h1, by rw [upd_ne nb]; exact h2, h3.mono sF fun x y => y, h4⟩
  · by_cases hb : b = a
    · subst hb; exact .inr fr.h0
    · rw [upd_ne hb] at e; exact S.new b e
  · obtain ⟨h1, h2, h3⟩ := S.pin b x e
    have nb : b ≠ a := fun z => by
      subst z
      rw [fr.pn] at e; cases e
    exact ⟨h1, by rw [upd_ne nb]; exact h2, h3⟩
  · have nb : b ≠ a := fun z => fr.nf (z ▸ hb)
    exact ⟨fun u e => e, ⟨h1, by rw [upd_ne nb]; exact h2, h3, h4, h5⟩⟩
  · have hO := fr.o
    cases d with
    | list ds =>
      obtain ⟨xs, e, r⟩ := hO
      rw [ho] at e; cases e
      exact .lst (SqL.of upd_same) (r.mono sF)
    | dict ds =>
      rcases hO with ⟨xs, e, r⟩ | ⟨w, xs, n, e, r⟩
      · rw [ho] at e; cases e
        exact .dct (.inl upd_same) (r.mono sF)
      · rw [ho] at e; cases e
        exact .dcn n (.inl upd_same) (r.mono sF)
    | _ => exact hO.elim
end
section
variable {X : Cx} {C : FC} {P : List Bool} {a b c e : Expr} {es : List Expr} {pos : Pos} {ta tb tc : DE}
def dFroz (t : DO) : DE := fun ρ Q => t ρ fun d ρ' => Q (.val d) ρ'
theorem q_froz {t : DO} (h : QO X C e t) : QE X C e (dFroz t) := QE.of h.pe fun σ H Q hq => by
  obtain ⟨F, ρ, q, S, ht, k⟩ := hq
  refine ⟨F, ρ, _, S, ht, fun d ρ' F' H' a hq S' s' fr => ?_⟩
  obtain ⟨F2, s2, S2, r⟩ := S'.froze fr
  exact k _ _ _ _ _ hq S2 (s'.trans s2) r

/-! ### displays -/
def dTup (P : List Bool) (t : DA) : DE := fun ρ Q => t ρ fun os ρ1 => os.length ≤ big ∧ shareAll P ρ1 os fun ds ρ2 => Q (.val (.tuple ds)) ρ2
def dLst (P : List Bool) (t : DA) : DO := fun ρ Q => t ρ fun os ρ1 => os.length ≤ big ∧ shareAll P ρ1 os fun ds ρ2 => Q (.list ds) ρ2
theorem q_tup {t : DA} {x1} (hP : C.Tags P) (h : QA X C es t) : QE X C (.Tuple es x1 pos) (dTup P t) := QE.of (pe_tup h.pa) fun σ H Q hq => by
  obtain ⟨F, ρ, q, S, ht, k⟩ := hq
  refine ⟨F, ρ, _, S, ht, fun os ρ1 F1 H1 vs hq S1 s1 d1 => ⟨?_, fun p hp => ?_⟩⟩
  · rw [d1.length]; exact le_line hq.1
  · obtain ⟨ds, ρ2, F2, w, S2, s2, r⟩ := Sim.shareAll hP S1 d1 hq.2
    have g := Gr.new (o := .tup vs) S2.sub hp
    exact k _ _ _ _ _ w (S2.grow g) ((s1.trans s2).trans g.f) (.tup (SqT.of upd_same) (r.mono g.f))
theorem o_lst {t : DA} (hP : C.Tags P) (h : QA X C es t) : QO X C (.List es pos) (dLst P t) := QO.of (pe_lst h.pa) fun σ H Q hq => by
  obtain ⟨F, ρ, q, S, ht, k⟩ := hq
  refine ⟨F, ρ, _, S, ht, fun os ρ1 F1 H1 vs hq S1 s1 d1 => ⟨?_, fun p hp => ?_⟩⟩
  · rw [d1.length]; exact le_line hq.1
  · obtain ⟨ds, ρ2, F2, w, S2, s2, r⟩ := Sim.shareAll hP S1 d1 hq.2
    obtain ⟨S3, fr⟩ := S2.layL hp r
    exact k _ _ _ _ _ w S3 (s1.trans s2) fr

/-! ### built-ins -/
def dCB (f : OpN) (t : DA) : DE := fun ρ Q => t ρ fun os ρ1 => withAll ρ1 os fun ds => f ds fun g => Q (.val g) ρ1
theorem lE_call {r : List V → Hp → VK → Prop} {f : OpN} {t : DA} (ok : CallOk X r f) {σ : L2.St} {H : Hp} {Q : VK} (h : lE X.K C (dCB f t) σ H Q) : tCB r (lA X.K C t) σ H Q := by
  obtain ⟨F, ρ, q, S, ht, k⟩ := h
  refine ⟨F, ρ, _, S, ht, fun os ρ1 F1 H1 vs h1 S1 s1 d1 => ?_⟩
  obtain ⟨ds, v1, w1⟩ := S1.seeAll d1 h1
  exact ok F1 H1 vs ds _ Q S1.sub v1 w1 (kont_of (ρ1 := ρ1) (F1 := F1) (H1 := H1) S1 s1 k)
section
variable {id : String} {x : Str} {p : Pos} {T : String}
theorem q_callB {r : List V → Hp → VK → Prop} {f : OpN} {t : DA} (hc : CallR X (.builtin id) r) (ok : CallOk X r f) (hm : X.mg x = none) (hv : bootBuiltins x = some (.builtin id)) (ha : QA X C (e :: es) t) (hg : Gl X x := by rfl) (hn : x ≠ "__name__" := by decide) (hdb : (x == ("__debug__" : Str)) = false := by decide)
    (he : starEach (e :: es) X.env = (false, eval e X.env) :: starEach es X.env := by rfl) (hpl : (backTo pos (starEach es X.env)).any (·.1) = false := by rfl) : QE X C (.Call (.Name x p) (e :: es) [] pos) (dCB f t) :=
  QE.of (pe_callB hc hg hm hv ha.pa hn hdb he hpl) fun _ _ _ h => lE_call ok h
theorem q_callTy {r : List V → Hp → VK → Prop} {f : OpN} {t : DA} (hc : CallR X (.type T) r) (ok : CallOk X r f) (hm : X.mg x = none) (hv : bootBuiltins x = some (.type T)) (ha : QA X C (e :: es) t) (hg : Gl X x := by rfl) (hn : x ≠ "__name__" := by decide) (hdb : (x == ("__debug__" : Str)) = false := by decide)
    (he : starEach (e :: es) X.env = (false, eval e X.env) :: starEach es X.env := by rfl) (hpl : (backTo pos (starEach es X.env)).any (·.1) = false := by rfl) : QE X C (.Call (.Name x p) (e :: es) [] pos) (dCB f t) :=
  QE.of (pe_callTy hc hg hm hv ha.pa hn hdb he hpl) fun _ _ _ h => lE_call ok h
end
/-- .. that give a new list -/
def KontL (K : PySem.W.Frag) (F H : Hp) (q : List PyData → Prop) (Q : VK) : Prop := ∀ ds xs p, q ds → H p = none → RepAll K F xs ds → Q (.ref p) (upd H p (.lst xs))
abbrev OpNL := List PyData → (List PyData → Prop) → Prop
def CallOkL (X : Cx) (r : List V → Hp → VK → Prop) (f : OpNL) : Prop := ∀ F H vs ds q Q, Same F H → ViewAll X.K F H vs ds → f ds q → KontL X.K F H q Q → r vs H Q
def dCBL (f : OpNL) (t : DA) : DO := fun ρ Q => t ρ fun os ρ1 => withAll ρ1 os fun ds => f ds fun g => Q (.list g) ρ1
theorem lO_call {r : List V → Hp → VK → Prop} {f : OpNL} {t : DA} (ok : CallOkL X r f) {σ : L2.St} {H : Hp} {Q : VK} (h : lO X.K C (dCBL f t) σ H Q) : tCB r (lA X.K C t) σ H Q := by
  obtain ⟨F, ρ, q, S, ht, k⟩ := h
  refine ⟨F, ρ, _, S, ht, fun os ρ1 F1 H1 vs h1 S1 s1 d1 => ?_⟩
  obtain ⟨ds, v1, w1⟩ := S1.seeAll d1 h1
  refine ok F1 H1 vs ds _ Q S1.sub v1 w1 fun g xs p hq hp hr => ?_
  obtain ⟨S3, fr⟩ := S1.layL hp hr
  exact k _ _ _ _ _ hq S3 s1 fr
section
variable {id : String} {x : Str} {p : Pos} {T : String}
theorem o_callB {r : List V → Hp → VK → Prop} {f : OpNL} {t : DA} (hc : CallR X (.builtin id) r) (ok : CallOkL X r f) (hm : X.mg x = none) (hv : bootBuiltins x = some (.builtin id)) (ha : QA X C (e :: es) t) (hg : Gl X x := by rfl) (hn : x ≠ "__name__" := by decide) (hdb : (x == ("__debug__" : Str)) = false := by decide)
    (he : starEach (e :: es) X.env = (false, eval e X.env) :: starEach es X.env := by rfl) (hpl : (backTo pos (starEach es X.env)).any (·.1) = false := by rfl) : QO X C (.Call (.Name x p) (e :: es) [] pos) (dCBL f t) :=
  QO.of (pe_callB hc hg hm hv ha.pa hn hdb he hpl) fun _ _ _ h => lO_call ok h
theorem o_callTy {r : List V → Hp → VK → Prop} {f : OpNL} {t : DA} (hc : CallR X (.type T) r) (ok : CallOkL X r f) (hm : X.mg x = none) (hv : bootBuiltins x = some (.type T)) (ha : QA X C (e :: es) t) (hg : Gl X x := by rfl) (hn : x ≠ "__name__" := by decide) (hdb : (x == ("__debug__" : Str)) = false := by decide)
    (he : starEach (e :: es) X.env = (false, eval e X.env) :: starEach es X.env := by rfl) (hpl : (backTo pos (starEach es X.env)).any (·.1) = false := by rfl) : QO X C (.Call (.Name x p) (e :: es) [] pos) (dCBL f t) :=
  QO.of (pe_callTy hc hg hm hv ha.pa hn hdb he hpl) fun _ _ _ h => lO_call ok h
end
/-- a binary operator that gives a new list -/
abbrev Op2L := PyData → PyData → (List PyData → Prop) → Prop
def OpOkL (X : Cx) (r : R2) (f : Op2L) : Prop := ∀ F H x y d e q Q, Same F H → View X.K F H x d → View X.K F H y e → f d e q → KontL X.K F H q Q → r x y H Q
def dBinL (f : Op2L) (a b : DE) : DO := fun ρ Q => a ρ fun o1 ρ1 => b ρ1 fun o2 ρ2 => withO ρ2 o1 fun d => withO ρ2 o2 fun e => f d e fun g => Q (.list g) ρ2
theorem o_bin {op : Operator} {r : R2} {f : Op2L} (ho : OpR X (binaryOp op) r) (ok : OpOkL X r f) (ha : QE X C a ta) (hb : QE X C b tb) : QO X C (.BinOp a op b pos) (dBinL f ta tb) :=
  QO.of (pe_op ho ha.pe hb.pe) fun σ H Q h => by
    obtain ⟨F, ρ, q, S, ht, k⟩ := h
    refine ⟨F, ρ, _, S, ht, fun o1 ρ1 F1 H1 x h1 S1 s1 d1 => ?_⟩
    refine ⟨F1, ρ1, _, S1, h1, fun o2 ρ2 F2 H2 y h2 S2 s2 d2 => ?_⟩
    obtain ⟨d, v1, w1⟩ := S2.see (d1.mono s2) h2
    obtain ⟨e, v2, w2⟩ := S2.see d2 w1
    refine ok F2 H2 x y d e _ Q S2.sub v1 v2 w2 fun g xs p hq hp hr => ?_
    obtain ⟨S3, fr⟩ := S2.layL hp hr
    exact k _ _ _ _ _ hq S3 (s1.trans s2) fr
/-! ### chains -/
theorem q_chain {op op' : CmpOp} {r r' : R2} {f g : Op2} (ho : OpR X (compareOp op) r) (ok : OpOk X r f) (ho' : OpR X (compareOp op') r') (ok' : OpOk X r' g) (ha : QE X C a ta) (hb : QE X C b tb) (hc : QE X C c tc)
    (h : PE X (.Compare a [op, op'] [b, c] pos) (tChain r r' (lE X.K C ta) (lE X.K C tb) (lE X.K C tc))) : QE X C (.Compare a [op, op'] [b, c] pos) (dChain f g ta tb tc) :=
  QE.of h fun σ H Q h => by
    obtain ⟨F, ρ, q, S, ht, k⟩ := h
    refine ⟨F, ρ, _, S, ht, fun o1 ρ1 F1 H1 x h1 S1 s1 d1 => ?_⟩
    refine ⟨F1, ρ1, _, S1, h1, fun o2 ρ2 F2 H2 y h2 S2 s2 d2 => ?_⟩
    obtain ⟨d, v1, w1⟩ := S2.see (d1.mono s2) h2
    obtain ⟨e, v2, w2⟩ := S2.see d2 w1
    refine ok F2 H2 x y d e _ _ S2.sub v1 v2 w2 fun z F3 H3 zv hz gr rz => ?_
    have S3 := S2.grow gr
    cases z with
    | bool bz =>
      cases rz
      refine ⟨bz, rfl, ?_⟩
      cases bz with
      | true =>
        refine ⟨F3, ρ2, _, S3, hz, fun o3 ρ3 F4 H4 w h4 S4 s4 d4 => ?_⟩
        obtain ⟨e', v3, w3⟩ := S4.see (d2.mono (gr.f.trans s4)) h4
        obtain ⟨d3, v4, w4⟩ := S4.see d4 w3
        exact ok' F4 H4 y w e' d3 _ Q S4.sub v3 v4 w4 (kont_of (ρ1 := ρ1) (F1 := F1) (H1 := H1) S4 (((s1.trans s2).trans gr.f).trans s4) k)
      | false => exact k _ _ _ _ _ hz S3 ((s1.trans s2).trans gr.f) (.bl false)
    | _ => exact hz.elim
end
end Dv

set_option Elab.async false
set_option linter.all false
set_option maxRecDepth 100000
namespace Dv
open PySem PySem.Spec L2

/-! ### statements -/
structure DEnds where
  nx : DEnv → Prop
  rt : SV → DEnv → Prop
  bk : DEnv → Prop := fun _ => False
  ct : DEnv → Prop := fun _ => False
abbrev DS := DEnds → DEnv → Prop
/-- what is given back: a datum, or a new owned object -/
def RepR (K : PySem.W.Frag) (C : FC) (F H : Hp) (v : V) : SV → Prop
  | .frz d => Rep K F v d
  | .own d => ∃ a, v = .ref a ∧ F a = none ∧ Own K F H a d ∧ C.H0 a = none
  | .own2 _ => False
structure EndsOk (K : PySem.W.Frag) (C : FC) (F : Hp) (E : DEnds) (D : Ends) : Prop where
  nx : ∀ ρ' F' H' σ', E.nx ρ' → Sim K C F' H' ρ' σ' → Same F F' → D.nx σ' H'
  rt : ∀ r ρ' F' H' σ' v, E.rt r ρ' → Sim K C F' H' ρ' σ' → Same F F' → RepR K C F' H' v r → D.rt v H'
  bk : ∀ ρ' F' H' σ', E.bk ρ' → Sim K C F' H' ρ' σ' → Same F F' → D.bk σ' H'
  ct : ∀ ρ' F' H' σ', E.ct ρ' → Sim K C F' H' ρ' σ' → Same F F' → D.ct σ' H'
theorem EndsOk.mono {K : PySem.W.Frag} {C : FC} {F F' : Hp} {E : DEnds} {D : Ends} (e : Same F F') (h : EndsOk K C F E D) : EndsOk K C F' E D :=
  ⟨fun _ _ _ _ a b c => h.nx _ _ _ _ a b (e.trans c), fun _ _ _ _ _ _ a b c d => h.rt _ _ _ _ _ _ a b (e.trans c) d, fun _ _ _ _ a b c => h.bk _ _ _ _ a b (e.trans c), fun _ _ _ _ a b c => h.ct _ _ _ _ a b (e.trans c)⟩
def lS (K : PySem.W.Frag) (C : FC) (t : DS) : TS := fun D σ H => ∃ F ρ E, Sim K C F H ρ σ ∧ t E ρ ∧ EndsOk K C F E D
structure QS (X : Cx) (C : FC) (s : Stmt) (t : DS) : Prop where
  ps : PS X s (lS X.K C t)
structure QSs (X : Cx) (C : FC) (s : List Stmt) (t : DS) : Prop where
  pss : PSs X s (lS X.K C t)
section
variable {X : Cx} {C : FC} {P : List Bool} {st : Stmt} {rest body : List Stmt} {a b c e : Expr} {es : List Expr} {pos : Pos} {ta tb tc : DE} {t u : DS}
theorem QS.of {t' : TS} (h : PS X st t') (w : ∀ D σ H, lS X.K C t D σ H → t' D σ H) : QS X C st t := ⟨⟨fun pins s σ H D I hq => h.run pins s σ H D I (w D σ H hq)⟩⟩
theorem QSs.of {t' : TS} (h : PSs X rest t') (w : ∀ D σ H, lS X.K C t D σ H → t' D σ H) : QSs X C rest t := ⟨⟨fun pins s σ H D I hq => h.run pins s σ H D I (w D σ H hq)⟩⟩
def dNext : DS := fun E ρ => E.nx ρ
def dSeq (t u : DS) : DS := fun E ρ => t { E with nx := u E } ρ
theorem s_nil : QSs X C [] dNext := QSs.of pss_nil fun D σ H ⟨F, ρ, E, S, ht, ok⟩ => ok.nx _ _ _ _ ht S (Same.refl F)
theorem lS_seq {D : Ends} {σ : L2.St} {H : Hp} (h : lS X.K C (dSeq t u) D σ H) : lS X.K C t { D with nx := lS X.K C u D } σ H := by
  obtain ⟨F, ρ, E, S, ht, ok⟩ := h
  exact ⟨F, ρ, _, S, ht, ⟨fun ρ' F' H' σ' h1 S1 s1 => ⟨F', ρ', E, S1, h1, ok.mono s1⟩, ok.rt, ok.bk, ok.ct⟩⟩
theorem s_cons (h1 : QS X C st t) (h2 : QSs X C rest u) : QSs X C (st :: rest) (dSeq t u) := QSs.of (pss_cons h1.ps h2.pss) fun _ _ _ h => lS_seq h
theorem s_one (h1 : QS X C st t) : QSs X C [st] t := ⟨pss_one h1.ps⟩
theorem s_pass : QS X C (.Pass pos) dNext := QS.of ps_pass fun D σ H ⟨F, ρ, E, S, ht, ok⟩ => ok.nx _ _ _ _ ht S (Same.refl F)
def dBreak : DS := fun E ρ => E.bk ρ
theorem s_break : QS X C (.Break pos) dBreak := QS.of ps_break fun D σ H ⟨F, ρ, E, S, ht, ok⟩ => ok.bk _ _ _ _ ht S (Same.refl F)
/-- an expression whose value is dropped -/
def dDrop (t : DE) : DS := fun E ρ => t ρ fun _ ρ' => E.nx ρ'
theorem s_expr (he : QE X C e ta) (hs : swapsWith e none pos.line X.env = pure false := by rfl) : QS X C (.Expr e pos) (dDrop ta) := QS.of (ps_expr he.pe hs) fun D σ H ⟨F, ρ, E, S, ht, ok⟩ =>
  ⟨F, ρ, _, S, ht, fun o ρ' F' H' v hq S' s' _ => ok.nx _ _ _ _ hq S' s'⟩
/-- return e -/
def dRet (P : List Bool) (t : DE) : DS := fun E ρ => t ρ fun o ρ' => match o with
  | .val d => E.rt (.frz d) ρ'
  | .slot i => match ρ'[i]? with
    | some (some (.own d)) => P[i]? ≠ some true ∧ E.rt (.own d) ρ'
    | _ => False
theorem s_ret (hP : C.Tags P) (he : QE X C e ta) : QS X C (.Return (some e) pos) (dRet P ta) := QS.of (ps_ret he.pe) fun D σ H ⟨F, ρ, E, S, ht, ok⟩ => by
  refine ⟨F, ρ, _, S, ht, fun o ρ' F' H' v hq S' s' d' => ?_⟩
  cases o with
  | val d => exact ok.rt _ _ _ _ _ _ hq S' s' d'
  | slot i =>
    dsimp only at hq
    cases q : ρ'[i]? with
    | none => rw [q] at hq; exact hq.elim
    | some x =>
      cases x with
      | none => rw [q] at hq; exact hq.elim
      | some y =>
        cases y with
        | frz d => rw [q] at hq; exact hq.elim
        | own2 d => rw [q] at hq; exact hq.elim
        | own d =>
          rw [q] at hq
          obtain ⟨a, h1, h2, h3, h4⟩ := S'.own i d q
          have d'' : σ[i]? = some (some v) := d'
          rw [h1] at d''; cases d''
          refine ok.rt _ _ _ _ _ _ hq.2 S' s' ⟨a, rfl, h2, h3, ?_⟩
          rcases h4 with z | z
          · exact z
          · exact absurd (hP i ⟨a, z⟩) hq.1
/-- return a new object -/
def dRetO (t : DO) : DS := fun E ρ => t ρ fun d ρ' => E.rt (.own d) ρ'
theorem s_retO {t : DO} (he : QO X C e t) : QS X C (.Return (some e) pos) (dRetO t) := QS.of (ps_ret he.pe) fun D σ H ⟨F, ρ, E, S, ht, ok⟩ =>
  ⟨F, ρ, _, S, ht, fun d ρ' F' H' a hq S' s' fr => ok.rt _ _ _ _ _ _ hq S' s' ⟨a, rfl, fr.f, fr.o, fr.h0⟩⟩
def dRetN : DS := fun E ρ => E.rt (.frz .none) ρ
theorem s_retN : QS X C (.Return none pos) dRetN := QS.of ps_retN fun D σ H ⟨F, ρ, E, S, ht, ok⟩ => ok.rt _ _ _ _ _ _ ht S (Same.refl F) .non
/-- if -/
def dIf (c : DT) (t u : DS) : DS := fun E ρ => c ρ fun b ρ1 => by2 b (t E ρ1) (u E ρ1)
theorem s_if {tc : DT} (hc : QT X C c tc) (ha : QSs X C body t) (hb : QSs X C rest u) : QS X C (.If c body rest pos) (dIf tc t u) := QS.of (ps_if hc.pt ha.pss hb.pss) fun D σ H ⟨F, ρ, E, S, ht, ok⟩ => by
  refine ⟨F, ρ, _, S, ht, fun b ρ1 F1 H1 h1 S1 s1 => ?_⟩
  cases b with
  | true => rw [if_pos rfl]; exact ⟨F1, ρ1, E, S1, h1, ok.mono s1⟩
  | false => rw [if_neg Bool.false_ne_true]; exact ⟨F1, ρ1, E, S1, h1, ok.mono s1⟩

/-! ### targets -/
abbrev DG := PyData → DEnv → (DEnv → Prop) → Prop
abbrev DGs := List PyData → DEnv → (DEnv → Prop) → Prop
def lG (K : PySem.W.Frag) (C : FC) (t : DG) : TG := fun v σ H Q => ∃ F ρ d q, Sim K C F H ρ σ ∧ Rep K F v d ∧ t d ρ q ∧ ∀ ρ' F' H' σ', q ρ' → Sim K C F' H' ρ' σ' → Same F F' → Q σ' H'
def lGs (K : PySem.W.Frag) (C : FC) (t : DGs) : TGs := fun v σ H Q => ∃ F ρ d q, Sim K C F H ρ σ ∧ RepAll K F v d ∧ t d ρ q ∧ ∀ ρ' F' H' σ', q ρ' → Sim K C F' H' ρ' σ' → Same F F' → Q σ' H'
structure QG (X : Cx) (C : FC) (tg : Expr) (t : DG) : Prop where
  pg : PG X tg (lG X.K C t)
structure QGs (X : Cx) (C : FC) (tg : List Expr) (t : DGs) : Prop where
  pgs : PGs X tg (lGs X.K C t)
theorem QG.of {tg : Expr} {t' : TG} {t : DG} (h : PG X tg t') (w : ∀ v σ H Q, lG X.K C t v σ H Q → t' v σ H Q) : QG X C tg t := ⟨⟨fun pins s σ H v u Q I r hq => h.run pins s σ H v u Q I r (w v σ H Q hq)⟩⟩
theorem QGs.of {tg : List Expr} {t' : TGs} {t : DGs} (h : PGs X tg t') (w : ∀ v σ H Q, lGs X.K C t v σ H Q → t' v σ H Q) : QGs X C tg t := ⟨⟨fun pins s σ H v u Q I r hq => h.run pins s σ H v u Q I r (w v σ H Q hq)⟩⟩
/-- setting a slot, whatever its place -/
theorem setF' {K : PySem.W.Frag} {F H : Hp} {ρ : DEnv} {σ : L2.St} (S : Sim K C F H ρ σ) {i : Nat} {v : V} {d : PyData} (hp : ¬ C.isP i) (r : Rep K F v d) : Sim K C F H (ρ.set i (some (.frz d))) (σ.set i (some v)) := by
  by_cases hi : i < σ.length
  · exact S.setF hi hp r
  · rw [List.set_eq_of_length_le (by rw [S.len]; omega), List.set_eq_of_length_le (by omega)]; exact S
theorem setO' {K : PySem.W.Frag} {F H : Hp} {ρ : DEnv} {σ : L2.St} (S : Sim K C F H ρ σ) {i : Nat} {a : Addr} {d : PyData} (hp : ¬ C.isP i) (fr : Fresh K C F H ρ σ a d) : Sim K C F H (ρ.set i (some (.own d))) (σ.set i (some (.ref a))) := by
  by_cases hi : i < σ.length
  · exact S.setO hi hp fr.f fr.o fr.h0 fr.pn fr.ne fr.nf
  · rw [List.set_eq_of_length_le (by rw [S.len]; omega), List.set_eq_of_length_le (by omega)]; exact S
theorem noP (hP : C.Tags P) {i : Nat} (h : P[i]? ≠ some true) : ¬ C.isP i := fun z => h (hP i z)
def gN (i : Nat) : DG := fun d ρ Q => Q (ρ.set i (some (.frz d)))
theorem g_name {i : Nat} {x : Str} (hP : C.Tags P) (hN : X.N.Nodup) (hi : X.N[i]? = some x := by rfl) (hx : Loc X.env.scope x := by first | exact .inl rfl | exact .inr rfl) (hp : P[i]? ≠ some true := by decide)
    (hf : X.fn x = true ∨ X.env.scope.names.lookup x = some .local := by first | exact .inl rfl | exact .inr rfl | assumption) : QG X C (.Name x pos) (gN i) :=
  QG.of (pg_name hN hi hx hf) fun v σ H Q ⟨F, ρ, d, q, S, r, ht, k⟩ => k _ _ _ _ ht (setF' S (noP hP hp) r) (Same.refl F)
def gNil' : DGs := fun ds ρ Q => match ds with
  | [] => Q ρ
  | _ => False
def gCons' (t : DG) (u : DGs) : DGs := fun ds ρ Q => match ds with
  | d :: r => t d ρ fun ρ' => u r ρ' Q
  | [] => False
theorem gs_nil : QGs X C [] gNil' := QGs.of pgs_nil fun v σ H Q ⟨F, ρ, d, q, S, r, ht, k⟩ => by
  cases r with
  | nil => exact ⟨rfl, k _ _ _ _ ht S (Same.refl F)⟩
  | cons _ _ => exact ht.elim
theorem gs_cons {tg : Expr} {tgs : List Expr} {t : DG} {u : DGs} (h1 : QG X C tg t) (h2 : QGs X C tgs u) (hs : (assignEach (tg :: tgs) X.env).map (·.2) = assign tg X.env :: (assignEach tgs X.env).map (·.2) := by rfl) : QGs X C (tg :: tgs) (gCons' t u) :=
  QGs.of (pgs_cons h1.pg h2.pgs hs) fun v σ H Q ⟨F, ρ, d, q, S, r, ht, k⟩ => by
    cases r with
    | nil => exact ht.elim
    | cons r1 r2 => exact ⟨_, _, rfl, F, ρ, _, _, S, r1, ht, fun ρ' F' H' σ' h1 S1 s1 => ⟨F', ρ', _, q, S1, r2.mono s1, h1, fun ρ2 F2 H2 σ2 h2 S2 s2 => k _ _ _ _ h2 S2 (s1.trans s2)⟩⟩
def gTup' (n : Nat) (t : DGs) : DG := fun d ρ Q => match d with
  | .tuple ds => ds.length = n ∧ t ds ρ Q
  | _ => False
theorem g_tup {tgs : List Expr} {k : Nat} {t : DGs} {n : Nat} (hc : X.calm = true) (h : QGs X C tgs t) (hn : (assignEach tgs X.env).length = n := by rfl) (hst : (assignEach tgs X.env).findIdx? (·.1) = none := by rfl) : QG X C (.Tuple tgs k pos) (gTup' n t) :=
  QG.of (pg_tup hc h.pgs hn hst) fun v σ H Q ⟨F, ρ, d, q, S, r, ht, k⟩ => by
    cases r with
    | tup hs hr => exact ⟨_, _, rfl, sqT_mono S.sub hs, by rw [hr.length]; exact ht.1, F, ρ, _, q, S, hr, ht.2, k⟩
    | _ => exact ht.elim
/-- target = value -/
def dAsg (P : List Bool) (t : DE) (g : DG) : DS := fun E ρ => t ρ fun o ρ1 => share P ρ1 o fun d ρ2 => g d ρ2 E.nx
theorem s_asg {tg : Expr} {g : DG} (hP : C.Tags P) (he : QE X C e ta) (hg : QG X C tg g) (hs : swapsWithSole [tg] e pos.line X.env = pure false := by rfl) (hw : swappedStores [tg] e X.env = pure none := by rfl)
    (h1 : (assignEach [tg] X.env).map (·.2) = [assign tg X.env] := by rfl) : QS X C (.Assign [tg] e pos) (dAsg P ta g) :=
  QS.of (ps_asg he.pe hg.pg hs hw h1) fun D σ H ⟨F, ρ, E, S, ht, ok⟩ => by
    refine ⟨F, ρ, _, S, ht, fun o ρ1 F1 H1 v hq S1 s1 d1 => ?_⟩
    obtain ⟨d, ρ2, F2, w, S2, s2, r⟩ := S1.share hP d1 hq
    exact ⟨F2, ρ2, d, _, S2, r, w, fun ρ' F' H' σ' h' S' s' => ok.nx _ _ _ _ h' S' ((s1.trans s2).trans s')⟩
def dSet (P : List Bool) (i : Nat) (t : DE) : DS := fun E ρ => t ρ fun o ρ1 => share P ρ1 o fun d ρ2 => E.nx (ρ2.set i (some (.frz d)))
theorem s_set {i : Nat} {x : Str} {pos' : Pos} (hP : C.Tags P) (hN : X.N.Nodup) (he : QE X C e ta) (hi : X.N[i]? = some x := by rfl) (hx : Loc X.env.scope x := by first | exact .inl rfl | exact .inr rfl) (hp : P[i]? ≠ some true := by decide)
    (hs : swapsWith e (some (.Name x pos')) pos.line X.env = pure false := by rfl) (hf : X.fn x = true ∨ X.env.scope.names.lookup x = some .local := by first | exact .inl rfl | exact .inr rfl | assumption) :
    QS X C (.Assign [.Name x pos'] e pos) (dSet P i ta) := QS.of (ps_set hN hi hx he.pe hs hf) fun D σ H ⟨F, ρ, E, S, ht, ok⟩ => by
  refine ⟨F, ρ, _, S, ht, fun o ρ1 F1 H1 v hq S1 s1 d1 => ?_⟩
  obtain ⟨d, ρ2, F2, w, S2, s2, r⟩ := S1.share hP d1 hq
  exact ok.nx _ _ _ _ w (setF' S2 (noP hP hp) r) (s1.trans s2)
def dSetO (i : Nat) (t : DO) : DS := fun E ρ => t ρ fun d ρ1 => E.nx (ρ1.set i (some (.own d)))
theorem s_setO {i : Nat} {x : Str} {pos' : Pos} {t : DO} (hP : C.Tags P) (hN : X.N.Nodup) (he : QO X C e t) (hi : X.N[i]? = some x := by rfl) (hx : Loc X.env.scope x := by first | exact .inl rfl | exact .inr rfl) (hp : P[i]? ≠ some true := by decide)
    (hs : swapsWith e (some (.Name x pos')) pos.line X.env = pure false := by rfl) (hf : X.fn x = true ∨ X.env.scope.names.lookup x = some .local := by first | exact .inl rfl | exact .inr rfl | assumption) :
    QS X C (.Assign [.Name x pos'] e pos) (dSetO i t) := QS.of (ps_set hN hi hx he.pe hs hf) fun D σ H ⟨F, ρ, E, S, ht, ok⟩ =>
  ⟨F, ρ, _, S, ht, fun d ρ1 F1 H1 a hq S1 s1 fr => ok.nx _ _ _ _ hq (setO' S1 (noP hP hp) fr) s1⟩

/-! ### while -/
def dWhile (c : DT) (b : DS) : DS := fun E ρ => ∃ W : Nat → DEnv → Prop, (∃ m, W m ρ) ∧ ∀ m ρ, W m ρ → c ρ fun x ρ1 => by2 x (b { E with nx := fun ρ' => ∃ m', m' < m ∧ W m' ρ', ct := fun ρ' => ∃ m', m' < m ∧ W m' ρ', bk := E.nx } ρ1) (E.nx ρ1)
theorem s_while {tc : DT} (hp : PassesOwn (model X.prog X.w) X.A X.env X.xe) (hc : QT X C c tc) (hb : QSs X C body t) : QS X C (.While c body [] pos) (dWhile tc t) := QS.of (ps_while hp hc.pt hb.pss) fun D σ H ⟨F, ρ, E, S, ⟨W, ⟨m0, w0⟩, turn⟩, ok⟩ => by
  refine ⟨fun m σ H => ∃ F' ρ', Sim X.K C F' H ρ' σ ∧ Same F F' ∧ W m ρ', ⟨m0, F, ρ, S, Same.refl F, w0⟩, fun m σ H ⟨F1, ρ1, S1, s1, w1⟩ => ?_⟩
  refine ⟨F1, ρ1, _, S1, turn m ρ1 w1, fun b ρ2 F2 H2 h2 S2 s2 => ?_⟩
  cases b with
  | true =>
    rw [if_pos rfl]
    refine ⟨fun σ' H' => ∃ m', m' < m ∧ ∃ F' ρ', Sim X.K C F' H' ρ' σ' ∧ Same F F' ∧ W m' ρ', fun σ' H' h => h, F2, ρ2, _, S2, h2, ⟨?_, ?_, ?_, ?_⟩⟩
    · rintro ρ' F' H' σ' ⟨m', hm, w'⟩ S' s'
      exact ⟨m', hm, F', ρ', S', (s1.trans s2).trans s', w'⟩
    · intro r ρ' F' H' σ' v h S' s' rr
      exact ok.rt _ _ _ _ _ _ h S' ((s1.trans s2).trans s') rr
    · intro ρ' F' H' σ' h S' s'
      exact ok.nx _ _ _ _ h S' ((s1.trans s2).trans s')
    · rintro ρ' F' H' σ' ⟨m', hm, w'⟩ S' s'
      exact ⟨m', hm, F', ρ', S', (s1.trans s2).trans s', w'⟩
  | false =>
    rw [if_neg Bool.false_ne_true]
    exact ok.nx _ _ _ _ h2 S2 (s1.trans s2)

/-! ### what is walked -/
def ItOk (K : PySem.W.Frag) (J : It) (F0 : Hp) (ds : List PyData) : Prop := ∀ F H, Same F0 F → Same F H → J.stop ds.length H ∧ ∀ (i : Nat) d, ds[i]? = some d → J.go i H ∧ ∀ x H', J.yld i H x H' → ∃ F', Gr F H F' H' ∧ Rep K F' x d
abbrev DI := DEnv → (List PyData → DEnv → Prop) → Prop
def lI (K : PySem.W.Frag) (C : FC) (t : DI) : TI := fun σ H R => ∃ F ρ q, Sim K C F H ρ σ ∧ t ρ q ∧ ∀ ds ρ' F' H' J, q ds ρ' → Sim K C F' H' ρ' σ → Same F F' → ItOk K J F' ds → R J H'
structure QI (X : Cx) (C : FC) (tg it : Expr) (t : DI) : Prop where
  pi : PI X tg it (lI X.K C t)
theorem QI.of {tg it : Expr} {t' : TI} {t : DI} (h : PI X tg it t') (w : ∀ σ H R, lI X.K C t σ H R → t' σ H R) : QI X C tg it t := ⟨⟨fun pins s σ H R I hq => h.run pins s σ H R I (w σ H R hq)⟩⟩
def dLoop (g : DG) (b : DS) (E : DEnds) : List PyData → DEnv → Prop
  | [], ρ => E.nx ρ
  | d :: ds, ρ => g d ρ fun ρ1 => b { E with nx := dLoop g b E ds, ct := dLoop g b E ds, bk := E.nx } ρ1
def dFor (it : DI) (g : DG) (b : DS) : DS := fun E ρ => it ρ fun ds ρ1 => dLoop g b E ds ρ1
theorem s_for {tg it : Expr} {ti : DI} {g : DG} (hp : PassesOwn (model X.prog X.w) X.A X.env X.xe) (hc : X.calm = true) (hi : QI X C tg it ti) (hg : QG X C tg g) (hb : QSs X C body t) (hs : ∀ x, foldedSetIterable it X.env x = pure x := by intro _; rfl) :
    QS X C (.For tg it body [] pos) (dFor ti g t) := QS.of (ps_for hp hc hi.pi hg.pg hb.pss hs) fun D σ H ⟨F, ρ, E, S, ht, ok⟩ => by
  refine ⟨F, ρ, _, S, ht, fun ds ρ1 F1 H1 J h1 S1 s1 iok => ?_⟩
  refine ⟨fun i m σ H => m + i = ds.length ∧ ∃ F' ρ', Sim X.K C F' H ρ' σ ∧ Same F1 F' ∧ dLoop g t E (ds.drop i) ρ', ⟨ds.length, rfl, F1, ρ1, S1, Same.refl F1, h1⟩, fun i m σ H ⟨hm, F2, ρ2, S2, s2, w2⟩ => ?_⟩
  obtain ⟨st, go⟩ := iok F2 H s2 S2.sub
  by_cases hi : i < ds.length
  · rw [List.drop_eq_getElem_cons hi] at w2
    obtain ⟨g1, y1⟩ := go i ds[i] (List.getElem?_eq_getElem hi)
    refine .inr ⟨g1, fun σ' H' => ∃ F' ρ', Sim X.K C F' H' ρ' σ' ∧ Same F1 F' ∧ dLoop g t E (ds.drop (i + 1)) ρ', fun σ' H' h => ⟨m - 1, by omega, by omega, h⟩, fun x H' hy => ?_⟩
    obtain ⟨F3, gr, r⟩ := y1 x H' hy
    refine ⟨F3, ρ2, ds[i], _, S2.grow gr, r, w2, fun ρ4 F4 H4 σ4 h4 S4 s4 => ?_⟩
    have s14 := (s2.trans gr.f).trans s4
    refine ⟨F4, ρ4, _, S4, h4, ⟨?_, ?_, ?_, ?_⟩⟩
    · intro ρ' F' H' σ' h S' s'
      exact ⟨F', ρ', S', s14.trans s', h⟩
    · intro r ρ' F' H' σ' v h S' s' rr
      exact ok.rt _ _ _ _ _ _ h S' (s1.trans (s14.trans s')) rr
    · intro ρ' F' H' σ' h S' s'
      exact ok.nx _ _ _ _ h S' (s1.trans (s14.trans s'))
    · intro ρ' F' H' σ' h S' s'
      exact ⟨F', ρ', S', s14.trans s', h⟩
  · rw [List.drop_eq_nil_of_le (by omega)] at w2
    have e : i = ds.length := by omega
    subst e
    exact .inl ⟨st, ok.nx _ _ _ _ w2 S2 (s1.trans s2)⟩
end
end Dv

set_option Elab.async false
set_option linter.all false
set_option maxRecDepth 100000
/-! ### a def's promise where no repr is under way -/
namespace Dv
open PySem PySem.Spec L2
open PyProof.Rows (AllBare)
/-- room on the stack, and nothing under way that a repr would look for -/
structure RG (k : Nat) (A : Around) : Prop where
  r : Room k A
  g : A.guards = some []
theorem RG.mono {j k : Nat} {A : Around} (h : RG k A) (hjk : j ≤ k) : RG j A := ⟨h.r.mono hjk, h.g⟩
structure FnG (Pg : Program) (w : World) (K : PySem.W.Frag) (mg : Str → Option Value) (base : Heap) (k : Nat) (f : Addr) (fd : FuncData) (ps : List Str) (S : Sp) : Prop where
  len : ∀ {vs H Q E}, S vs H Q E → vs.length = ps.length
  go : ∀ {A : Around} {outer : List Env} {s : Shared} {H : Hp} {args : PySem.Args} {us : List Value} {vs : List V} {Q : VK} {E : XK}, RG k A → Env0 Pg w K mg base A outer s H → BindsTo s fd args (ps.zip us) → Vals vs us → S vs H Q E → codeAny (model Pg w) A (.call (.ref f) args) (CR CX0 outer Pg w H s Q E) s
section
variable {Pg : Program} {w : World} {K : PySem.W.Frag} {mg : Str → Option Value} {base : Heap} {j k : Nat} {f : Addr} {fd : FuncData} {ps : List Str} {S T : Sp}
theorem FnG.mono (h : FnG Pg w K mg base j f fd ps S) (hjk : j ≤ k) : FnG Pg w K mg base k f fd ps S := ⟨h.len, fun r => h.go (r.mono hjk)⟩
theorem FnG.imp (h : FnG Pg w K mg base k f fd ps S) (i : ∀ {vs H Q E}, T vs H Q E → S vs H Q E) : FnG Pg w K mg base k f fd ps T := ⟨fun t => h.len (i t), fun r e b v t => h.go r e b v (i t)⟩
end
/-- a call of such a def by its name -/
theorem pe_callG {X : Cx} {k : Nat} {f : Addr} {fd : FuncData} {ps : List Str} {S : Sp} {x : Str} {p pos : Pos} {e : Expr} {es : List Expr} {t : TA} {E : XK} (h : FnG X.prog X.w X.K X.mg X.base k f fd ps S) (hr : RG k X.A) (hg : Gl X x) (hm : X.mg x = some (.ref f)) (hk : PySem.W.keepIn X.K (.ref f) = true) (hb : Binds X.K fd ps []) (hx : Passes CX0 X E)
    (ha : PA X (e :: es) t) (hdb : (x == ("__debug__" : Str)) = false) (he : starEach (e :: es) X.env = (false, eval e X.env) :: starEach es X.env) (hpl : (backTo pos (starEach es X.env)).any (·.1) = false) :
    PE X (.Call (.Name x p) (e :: es) [] pos) (tCall S [] E t) := by
  constructor
  intro pins s σ H Q I hq
  apply wpAny_Call_Name_kw
  apply ld_glob I hg hm _ hdb
  refine PySem.W.callWith_K (h₀ := X.base) I.ok.mod.kin hk (thn (ha.run pos pins s σ H _ I hq) ?_) he hpl
  rintro us s2 ⟨vs, H2, J, rv, hS⟩
  refine ⟨J.kIn, ?_⟩
  rw [List.append_nil] at hS
  have hl : us.length = ps.length := rv.length.symm.trans (h.len hS)
  have bind : BindsTo s2 fd ⟨us, []⟩ (ps.zip us) := by simpa using hb s2 us J.kIn (by simpa using hl)
  apply wpAny_call
  refine codeAny_mono (h.go hr J.env0 bind rv hS) ?_
  rintro (er | (_ | _ | _ | u)) s3 hc
  all_goals first | exact hx pins σ H2 s2 _ s3 J hc | exact J.after hc | exact hc.elim
/-- a def by its body -/
theorem fnG_def {Pg : Program} {w : World} {K : PySem.W.Frag} {mg : Str → Option Value} {base : Heap} {x qual : Str} {st : Stmt} {f : Addr} {fd : FuncData} {N ps : List Str} {k : Nat} {S : Sp} (F : Fun K x qual st f fd) (Sc : FnScope N ps (defScope st)) (len : ∀ {vs H Q E}, S vs H Q E → vs.length = ps.length)
    (body : ∀ (cdv : Value) (A : Around) (outer : List Env) (s : Shared) (H : Hp) (vs : List V) (Q : VK) (E : XK), RG k (A.deeper (PyProof.Rows.envOfC qual (defScope st) s.heap.objs.size f cdv)) → S vs H Q E →
      ∃ t, PSs (cxOf CX0 Pg w K mg base N qual (defScope st) f cdv A outer s H E).nox (defBody st) t ∧ t { nx := fun _ H' => Q .non H', rt := Q } (start N vs) H) : FnG Pg w K mg base (k + 1) f fd ps S := by
  obtain ⟨oc, od, kV, doc, pm, an, cdv, ct, osl, rfl, lk, code⟩ := F.ex
  refine ⟨len, ?_⟩
  intro A outer s H args us vs Q E hr e0 hb rv hS
  have old : ∀ b o, base.get? b = some o → s.heap.get? b = some o := fun b o z => (e0.bs b o z).1
  have KX : K.In s.heap := e0.mod.kin.keeps old
  refine codeAny_call_function hr.r.depth (KX _ _ lk) rfl Sc.co Sc.gen rfl (PySem.W.codeRec_of KX code) (hb _ _ _ _ ?_)
  refine wpAny_newFunctionEnv_cells Sc.kind (fun y hy => ?_) ?_
  · rcases Sc.par y.1 (List.of_mem_zip (show (y.1, y.2) ∈ ps.zip us from hy)).1 with z | z
    · exact .inl z
    · exact .inr ⟨z, PySem.W.cellsFrom_some _ _ _ (.inl z)⟩
  rintro _ rfl s1 hc
  refine ⟨(e0.mod.nolimit.keeps old).keeps hc.toInCall.keep, codeAny_func ?_⟩
  obtain ⟨t, ht, hq⟩ := body cdv A outer s H vs Q E ⟨hr.r.deeper _, hr.g⟩ hS
  have I : Inv (cxOf CX0 Pg w K mg base N qual (defScope st) f cdv A outer s H E) [] (start N vs) H s1 := inv_start Sc hr.r.hd e0 (len hS) rv hc
  refine wpAny_mono (ht.nox.run [] s1 (start N vs) H _ I hq) ?_ fun _ _ z => z
  rintro (_ | _ | _ | u) s2 hz
  · obtain ⟨σ', H', J, z⟩ := hz
    exact ⟨.non, H', J.os, J.bare, J.base, J.hok, rfl, z⟩
  · obtain ⟨_, _, _, z⟩ := hz
    exact z.elim
  · obtain ⟨_, _, _, z⟩ := hz
    exact z.elim
  · obtain ⟨v, σ', H', J, r, z⟩ := hz
    exact ⟨v, H', J.os, J.bare, J.base, J.hok, r, z⟩
/-- the law's own call -/
theorem lawG {Pg : Program} {w : World} {K : PySem.W.Frag} {mg mb : Str → Option Value} {k : Nat} {fa a : Addr} {fd : FuncData} {x : Str} {S : Sp} {s : Shared} {vs : List Value} {ns : List Int}
    (KX : K.In s.heap) (gl : s.heap.Ns mainGlobals mg) (bl : s.heap.Ns builtinsNs mb) (boot : ∀ y : Str, y ≠ "__name__" → mb y = bootBuiltins y) (lim : s.heap.NoLimit) (gens : s.gens = #[])
    (ha : s.heap.get? a = some { cls := .type "list", data := .seq vs.toArray }) (hi : PyProof.Rows.IntsAre vs ns) (hl : ns.length ≤ sizeLine) (hr : RG k callerA)
    (F : ∀ base : Heap, K.In base → base.Ns mainGlobals mg → FnG Pg w K mg base k fa fd [x] S) (bind : ∀ (s : Shared) (u : Value), BindsTo s fd ⟨[u], []⟩ [(x, u)])
    (hS : ∀ H : Hp, SqL K H a (ns.map V.int) → S [.ref a] H (fun v _ => v = .bl true) fun _ _ _ => False) :
    codeAny (model Pg w) callerA (.call (.ref fa) ⟨[.ref a], []⟩) (fun r s' => r = .ok (.ret (.bool true)) ∧ OldK s.heap s'.heap ∧ s'.os = s.os ∧ AllBare s'.gens) s := by
  have rv := vals_ints hi
  have hvl := hi.length
  -- what may be tracked: the script alone, frozen, where it is not the module's own
  have main : ∀ H : Hp, (∀ b, H b = none ∨ (b = a ∧ K.lookup a = none ∧ ∃ o ys, H b = some (.frz o (.lst ys)))) → SqL K H a (ns.map V.int) → HOk Pg w H s.heap →
      codeAny (model Pg w) callerA (.call (.ref fa) ⟨[.ref a], []⟩) (fun r s' => r = .ok (.ret (.bool true)) ∧ OldK s.heap s'.heap ∧ s'.os = s.os ∧ AllBare s'.gens) s := by
    intro H only sq ok
    have stay : ∀ {b : Addr} {m : Str → Option Value}, s.heap.Ns b m → (hidT s.heap H).Ns b m := by
      rintro b m ⟨o, es, ep, e, d, z⟩
      refine ⟨o, es, ep, hidT_get e ?_, d, z⟩
      rcases only b with q | ⟨rfl, _⟩
      · exact q
      · rw [ha] at e
        cases e
        exact absurd d (by intro h; nomatch h)
    have kin : K.In (hidT s.heap H) := fun b o e => hidT_get (KX b o e) (by
      rcases only b with q | ⟨rfl, q, _⟩
      · exact q
      · rw [q] at e; cases e)
    obtain ⟨mc, l1, l2⟩ := lim
    have e0 : Env0 Pg w K mg (hidT s.heap H) callerA [] s H :=
      { frames := rfl, mod := ⟨kin, stay gl, ⟨mb, stay bl, boot⟩, ⟨mc, stay l1, l2⟩⟩, bs := fun _ _ e => of_hidT e, bsz := Nat.le_of_eq (hidT_size _ _), funs := trivial, frf := fun b z => (List.not_mem_nil z).elim, hok := ok, bare := .of_eq gens }
    refine codeAny_mono ((F _ kin (stay gl)).go (us := [.ref a]) (vs := [.ref a]) hr e0 (bind s (.ref a)) (.cons rfl .nil) (hS H sq)) ?_
    rintro (er | (_ | _ | _ | u)) s' hc
    · exact hc.elim
    · exact hc.elim
    · exact hc.elim
    · exact hc.elim
    · obtain ⟨v, H', os, bare, un, ok', r, rfl⟩ := hc
      obtain rfl : u = Value.bool true := r
      refine ⟨rfl, OldK.of_keep fun b o e => ?_, os, bare⟩
      rcases only b with q | ⟨_, _, ob, ys, q⟩
      · exact un.keep b o e q (fun z => (List.not_mem_nil z).elim) (by simp)
      · have h1 := (ok b _ q).1
        have h2 := (ok' b _ (un.frzs b ob _ q)).1
        rw [e] at h1
        cases h1
        exact h2
  cases hk : K.lookup a with
  | some o =>
    have e := KX a o hk
    rw [ha] at e
    cases e
    refine main (fun _ => none) (fun _ => .inl rfl) (.inr ⟨_, vs.toArray, _, hk, rfl, rfl, rfl, ?_, ?_⟩) (fun b u z => by cases z)
    · rw [List.size_toArray, hvl]; exact hl
    · simpa using rv
  | none =>
    refine main (fun b => if b = a then some (.frz { cls := .type "list", data := .seq vs.toArray } (.lst (ns.map V.int))) else none) (fun b => ?_) (.inl (.inr ⟨{ cls := .type "list", data := .seq vs.toArray }, if_pos rfl⟩)) (fun b u z => ?_)
    · by_cases h : b = a
      · exact .inr ⟨h, hk, _, _, if_pos h⟩
      · exact .inl (if_neg h)
    · by_cases h : b = a
      · have z2 := (if_pos h).symm.trans z
        cases z2
        subst h
        exact ⟨ha, by rw [List.length_map]; exact hl, vs, _, rv, ha⟩
      · have z2 := (if_neg h).symm.trans z
        cases z2
theorem walkG {l : PySem.W.OpenLaw} {n k : Nat} {q : Program} {loose : List Str} {XP : (Str → Option Value) → Heap → Prop} {YP : World → Heap → Prop} {d : DefRec} {K : Params → PySem.W.Frag} {sp : World → Sp} {x : Str}
    (hn : l.most = some n) (hn2 : n ≤ sizeLine) (hdf : d.params.defaults = []) (hr : RG k callerA) (hY : ∀ (w : World) (h : Heap), YP w h → (K w.params).In h)
    (F : ∀ (w : World) (mg : Str → Option Value) (fa : Addr) (h : Heap), (K w.params).In h → h.Ns mainGlobals mg → mg d.name = some (.ref fa) →
      ∃ fd : FuncData, (∀ (s : Shared) (u : Value), BindsTo s fd ⟨[u], []⟩ [(x, u)]) ∧ ∀ base : Heap, (K w.params).In base → base.Ns mainGlobals mg → FnG l.prog w (K w.params) mg base k fa fd [x] (sp w))
    (hS : ∀ (w : World) (H : Hp) (a : Addr) (ns : List Int), ns.length ≤ n → SqL (K w.params) H a (ns.map V.int) → sp w [.ref a] H (fun v _ => v = .bl true) fun _ _ _ => False) :
    PySem.W.WalkO q loose XP YP l.row.toRowW d [] (fun f vs => PySem.call f vs) := by
  refine Att.attach_call hn hdf ?_
  intro w s0 s1 mg mb fa o pm cd doc a vs ns G Y ho hd hcd hmg hobj hints hlen hg
  obtain ⟨fd, hb, hF⟩ := F w mg fa _ (hY w _ Y) G.T.g hmg
  exact lawG (hY w _ Y) G.T.g G.T.b G.T.builtins G.T.nolimit hg hobj hints (Nat.le_trans hlen hn2) hr hF hb fun H sq => hS w H a ns hlen sq
end Dv

set_option Elab.async false
set_option linter.all false
set_option maxRecDepth 100000
set_option autoImplicit false
namespace Dv
open PySem PySem.Spec L2

/-! ### a def's promise over data -/
abbrev Outs := List (Option PyData)
abbrev SpD := List PyData → (SV → Outs → Prop) → Prop
def SV.d : SV → PyData
  | .frz d => d
  | .own d => d
  | .own2 d => d
def isT : Option Bool → Bool
  | some true => true
  | _ => false
structure Args (K : PySem.W.Frag) (F H : Hp) (P : List Bool) (vs : List V) (ds : List PyData) : Prop where
  len : vs.length = ds.length
  lenP : P.length = ds.length
  frz : ∀ (i : Nat) (v : V) (d : PyData), vs[i]? = some v → ds[i]? = some d → P[i]? = some false → Rep K F v d
  own : ∀ (i : Nat) (v : V) (d : PyData), vs[i]? = some v → ds[i]? = some d → P[i]? = some true → ∃ a, v = .ref a ∧ F a = none ∧ Own K F H a d
  ne : ∀ (i j : Nat) (a : Addr), P[i]? = some true → P[j]? = some true → vs[i]? = some (.ref a) → vs[j]? = some (.ref a) → i = j
structure Post (K : PySem.W.Frag) (P : List Bool) (F H : Hp) (vs : List V) (F' H' : Hp) (outs : Outs) (r : SV) (v : V) : Prop where
  s : Same F' H'
  f : Same F F'
  n : ∀ b, F' b ≠ none → F b ≠ none ∨ H b = none
  h : ∀ b o, H b = some o → (∀ (i : Nat), P[i]? = some true → vs[i]? ≠ some (.ref b)) → H' b = some o
  o : ∀ (i : Nat) (a : Addr), P[i]? = some true → vs[i]? = some (.ref a) → ∃ d, outs[i]? = some (some d) ∧ F' a = none ∧ Own K F' H' a d
  oN : ∀ (i : Nat) (d : PyData), outs[i]? = some (some d) → P[i]? = some true
  res : match r with
    | .frz d => Rep K F' v d
    | .own d => ∃ a, v = .ref a ∧ F' a = none ∧ Own K F' H' a d ∧ H a = none
    | .own2 _ => False
def spOf (K : PySem.W.Frag) (P : List Bool) (S : SpD) : Sp := fun vs H Q _ => ∃ F ds q, Same F H ∧ Args K F H P vs ds ∧ S ds q ∧ ∀ r outs F' H' v, q r outs → Post K P F H vs F' H' outs r v → Q v H'

/-! ### its body -/
def startE (n : Nat) : List Bool → List PyData → DEnv
  | b :: P, d :: ds => some (if b then .own d else .frz d) :: startE (n - 1) P ds
  | _, _ => List.replicate n none
def outE : Bool → Option SV → Option PyData
  | true, some (.own d) => some d
  | _, _ => none
def outsOf : List Bool → DEnv → Outs
  | b :: P, x :: ρ => outE b x :: outsOf P ρ
  | _, _ => []
theorem outsOf_at : ∀ {P : List Bool} {ρ : DEnv} {i : Nat} {d : PyData}, P[i]? = some true → ρ[i]? = some (some (.own d)) → (outsOf P ρ)[i]? = some (some d)
  | [], _, _, _, h, _ => by simp at h
  | _ :: _, [], _, _, _, h => by simp at h
  | b :: P, x :: ρ, 0, d, h1, h2 => by
    simp at h1 h2
    subst h1 h2
    rfl
  | b :: P, x :: ρ, i + 1, d, h1, h2 => by
    have ih := outsOf_at (P := P) (ρ := ρ) (i := i) (d := d) (by simpa using h1) (by simpa using h2)
    simpa [outsOf] using ih
theorem outsOf_true : ∀ {P : List Bool} {ρ : DEnv} {i : Nat} {d : PyData}, (outsOf P ρ)[i]? = some (some d) → P[i]? = some true
  | [], _, _, _, h => by simp [outsOf] at h
  | _ :: _, [], _, _, h => by simp [outsOf] at h
  | b :: P, x :: ρ, 0, d, h => by
    simp [outsOf] at h
    cases b with
    | true => rfl
    | false => simp [outE] at h
  | b :: P, x :: ρ, i + 1, d, h => by
    simp [outsOf] at h
    simpa using outsOf_true h
theorem startE_get : ∀ {n : Nat} {P : List Bool} {ds : List PyData} {i : Nat}, P.length = ds.length → (startE n P ds)[i]? = match P[i]?, ds[i]? with
    | some b, some d => some (some (if b then .own d else .frz d))
    | _, _ => if i < ds.length + (n - ds.length) then some none else none
  | n, [], [], i, _ => by
    simp [startE, List.getElem?_replicate]
  | n, b :: P, d :: ds, 0, h => by simp [startE]
  | n, b :: P, d :: ds, i + 1, h => by
    have ih := startE_get (n := n - 1) (P := P) (ds := ds) (i := i) (by simpa using h)
    simp only [startE, List.getElem?_cons_succ, List.length_cons]
    rw [ih]
    have e : (i < ds.length + (n - 1 - ds.length)) = (i + 1 < ds.length + 1 + (n - (ds.length + 1))) := by
      rw [Nat.sub_sub, Nat.add_comm 1 ds.length]
      apply propext; constructor <;> intro <;> omega
    simp only [e]
  | n, [], _ :: _, _, h => by simp at h
  | n, _ :: _, [], _, h => by simp at h
theorem startE_length : ∀ {n : Nat} {P : List Bool} {ds : List PyData}, P.length = ds.length → ds.length ≤ n → (startE n P ds).length = n
  | n, [], [], _, _ => by simp [startE]
  | n, b :: P, d :: ds, h, hn => by
    simp only [startE, List.length_cons] at hn ⊢
    rw [startE_length (n := n - 1) (by simpa using h) (by omega)]
    omega
  | n, [], _ :: _, h, _ => by simp at h
  | n, _ :: _, [], h, _ => by simp at h
def paE : Bool → V → Option Addr
  | true, .ref a => some a
  | _, _ => none
def paOf : List Bool → List V → List (Option Addr)
  | b :: P, v :: vs => paE b v :: paOf P vs
  | _, _ => []
theorem paE_some {b : Bool} {v : V} {a : Addr} : paE b v = some a ↔ b = true ∧ v = .ref a := by
  cases b <;> cases v <;> simp [paE]
theorem paOf_get : ∀ {P : List Bool} {vs : List V} {i : Nat} {a : Addr}, (paOf P vs)[i]? = some (some a) ↔ P[i]? = some true ∧ vs[i]? = some (.ref a)
  | [], _, _, _ => by simp [paOf]
  | _ :: _, [], _, _ => by simp [paOf]
  | b :: P, v :: vs, 0, a => by simp [paOf, paE_some]
  | b :: P, v :: vs, i + 1, a => by simpa [paOf] using paOf_get
theorem start_get {N : List Str} {vs : List V} {i : Nat} {v : V} : (L2.start N vs)[i]? = some (some v) ↔ vs[i]? = some v := by
  unfold L2.start
  by_cases h : i < vs.length
  · rw [List.getElem?_append_left (by simpa using h), List.getElem?_map, List.getElem?_eq_getElem h]; simp
  · rw [List.getElem?_append_right (by simpa using h), List.getElem?_replicate, List.getElem?_eq_none (l := vs) (by omega)]
    constructor
    · intro z; split at z <;> cases z
    · intro z; cases z
section
variable {K : PySem.W.Frag} {F H : Hp} {P : List Bool} {vs : List V} {ds : List PyData} {N : List Str}
def fcOf (F H : Hp) (P : List Bool) (vs : List V) : FC := ⟨F, H, paOf P vs, fun _ => none⟩
theorem fc_tags : (fcOf F H P vs).Tags P := fun i ⟨a, h⟩ => (paOf_get.mp h).1
theorem sim_start (s : Same F H) (A : Args K F H P vs ds) (hN : ds.length ≤ N.length) : Sim K (fcOf F H P vs) F H (startE N.length P ds) (L2.start N vs) where
  len := by
    rw [startE_length A.lenP hN]; unfold L2.start
    have := A.len
    simp; omega
  sub := s
  frz := fun i d h => by
    rw [startE_get A.lenP] at h
    split at h
    · rename_i b e h1 h2
      cases b with
      | true => cases h
      | false =>
        cases h
        have hl : i < vs.length := by rw [A.len]; exact (List.getElem?_eq_some_iff.mp h2).1
        exact ⟨vs[i], start_get.mpr (List.getElem?_eq_getElem hl), A.frz i _ _ (List.getElem?_eq_getElem hl) h2 h1⟩
    · split at h <;> cases h
  own := fun i d h => by
    rw [startE_get A.lenP] at h
    split at h
    · rename_i b e h1 h2
      cases b with
      | false => cases h
      | true =>
        cases h
        have hl : i < vs.length := by rw [A.len]; exact (List.getElem?_eq_some_iff.mp h2).1
        obtain ⟨a, e1, e2, e3⟩ := A.own i _ _ (List.getElem?_eq_getElem hl) h2 h1
        have hv : vs[i]? = some (.ref a) := by rw [List.getElem?_eq_getElem hl, e1]
        exact ⟨a, start_get.mpr hv, e2, e3, .inr (paOf_get.mpr ⟨h1, hv⟩)⟩
    · split at h <;> cases h
  ne := fun i j a d e h1 h2 h3 h4 => by
    rw [startE_get A.lenP] at h1 h2
    split at h1
    · rename_i b1 _ p1 _
      cases b1 with
      | false => cases h1
      | true =>
        split at h2
        · rename_i b2 _ p2 _
          cases b2 with
          | false => cases h2
          | true => exact A.ne i j a p1 p2 (start_get.mp h3) (start_get.mp h4)
        · split at h2 <;> cases h2
    · split at h1 <;> cases h1
  par := fun i a h => by
    obtain ⟨h1, h2⟩ := paOf_get.mp h
    have hl : i < ds.length := by rw [← A.len]; exact (List.getElem?_eq_some_iff.mp h2).1
    refine ⟨ds[i], ?_, start_get.mpr h2⟩
    rw [startE_get A.lenP, h1, List.getElem?_eq_getElem hl]
    rfl
  f0 := Same.refl F
  h0 := fun b o e _ => e
  new := fun b e => .inl e
  pin := fun b o e => nomatch e
  dp := fun i d h => by
    rw [startE_get A.lenP] at h
    split at h
    · rename_i b _ _ _
      cases b <;> cases h
    · split at h <;> cases h
/-- what is wanted behind the body -/
def endsOf (P : List Bool) (q : SV → Outs → Prop) : DEnds := { nx := fun ρ => q (.frz .none) (outsOf P ρ), rt := fun r ρ => q r (outsOf P ρ) }
theorem post_of {F' H' : Hp} {ρ' : DEnv} {σ' : L2.St} {r : SV} {v : V} (S : Sim K (fcOf F H P vs) F' H' ρ' σ') (rr : RepR K (fcOf F H P vs) F' H' v r) : Post K P F H vs F' H' (outsOf P ρ') r v where
  s := S.sub
  f := S.f0
  n := S.new
  h := fun b o e hb => S.h0 b o e fun z => by
    obtain ⟨i, hi⟩ := List.mem_iff_getElem?.mp z
    obtain ⟨h1, h2⟩ := paOf_get.mp hi
    exact hb i h1 h2
  o := fun i a h1 h2 => by
    obtain ⟨d, e1, e2⟩ := S.par i a (paOf_get.mpr ⟨h1, h2⟩)
    obtain ⟨a', e3, e4, e5, _⟩ := S.own i d e1
    rw [e2] at e3; cases e3
    exact ⟨d, outsOf_at h1 e1, e4, e5⟩
  oN := fun i d h => outsOf_true h
  res := by
    cases r with
    | frz d => exact rr
    | own2 d => exact rr
    | own d => obtain ⟨a, h1, h2, h3, h4⟩ := rr; exact ⟨a, h1, h2, h3, h4⟩
end
/-- THE RULE for a def -/
theorem fn_ok {Pg : Program} {w : World} {K : PySem.W.Frag} {mg : Str → Option Value} {base : Heap} {x qual : Str} {st : Stmt} {f : Addr} {fd : FuncData} {N ps : List Str} {k : Nat} {P : List Bool} {S : SpD} {g : DS}
    (F : Fun K x qual st f fd) (Sc : FnScope N ps (defScope st)) (hl : P.length = ps.length) (hN : ps.length ≤ N.length)
    (der : ∀ (cdv : Value) (A : Around) (outer : List Env) (s : Shared) (H : Hp) (E : XK) (C : FC), RG k (A.deeper (PyProof.Rows.envOfC qual (defScope st) s.heap.objs.size f cdv)) → C.Tags P → QSs (cxOf CX0 Pg w K mg base N qual (defScope st) f cdv A outer s H E).nox C (defBody st) g)
    (pure : ∀ ds q, S ds q → ds.length = P.length → g (endsOf P q) (startE N.length P ds)) : FnG Pg w K mg base (k + 1) f fd ps (spOf K P S) := by
  refine fnG_def F Sc (fun {vs H Q E} h => ?_) (fun cdv A outer s H vs Q E hr h => ?_)
  · obtain ⟨F, ds, q, _, A, _⟩ := h
    rw [A.len, ← A.lenP, hl]
  · obtain ⟨F1, ds, q, sF, Ar, hS, k1⟩ := h
    refine ⟨_, (der cdv A outer s H E (fcOf F1 H P vs) hr fc_tags).pss, F1, startE N.length P ds, endsOf P q, sim_start sF Ar (by rw [← Ar.lenP, hl]; exact hN), pure ds q hS Ar.lenP.symm, ⟨?_, ?_, ?_, ?_⟩⟩
    · intro ρ' F' H' σ' h S' s'
      exact k1 _ _ _ _ _ h (post_of S' Rep.non)
    · intro r ρ' F' H' σ' v h S' s' rr
      exact k1 _ _ _ _ _ h (post_of S' rr)
    · intro _ _ _ _ h
      exact h.elim
    · intro _ _ _ _ h
      exact h.elim
end Dv

set_option Elab.async false
set_option linter.all false
set_option maxRecDepth 100000
set_option autoImplicit false
namespace Dv
open PySem PySem.Spec L2

/-! ### calls -/
/-- the arguments that are not owned are shared -/
def shareSel (P : List Bool) : List Bool → DEnv → List Opd → (DEnv → Prop) → Prop
  | false :: ts, ρ, o :: os, k => share P ρ o fun _ ρ1 => shareSel P ts ρ1 os k
  | true :: ts, ρ, _ :: os, k => shareSel P ts ρ os k
  | _, ρ, _, k => k ρ
def selOk : List Bool → DEnv → List Opd → Prop
  | false :: ts, ρ, .val _ :: os => selOk ts ρ os
  | false :: ts, ρ, .slot i :: os => (match ρ[i]? with
    | some (some (.frz _)) => True
    | _ => False) ∧ selOk ts ρ os
  | true :: ts, ρ, .slot i :: os => (match ρ[i]? with
    | some (some (.own _)) => True
    | _ => False) ∧ selOk ts ρ os
  | [], _, [] => True
  | _, _, _ => False
def selSlots : List Bool → List Opd → List Nat
  | true :: ts, .slot i :: os => i :: selSlots ts os
  | _ :: ts, _ :: os => selSlots ts os
  | _, _ => []
def wb1 : Opd → Option PyData → DEnv → DEnv
  | .slot i, some d, ρ => ρ.set i (some (.own d))
  | _, _, ρ => ρ
def wb : List Opd → Outs → DEnv → DEnv
  | o :: os, x :: xs, ρ => wb os xs (wb1 o x ρ)
  | _, _, ρ => ρ
theorem wb1_length (o : Opd) (x : Option PyData) (ρ : DEnv) : (wb1 o x ρ).length = ρ.length := by
  cases o <;> cases x <;> simp [wb1]
theorem wb_length : ∀ (os : List Opd) (xs : Outs) (ρ : DEnv), (wb os xs ρ).length = ρ.length
  | [], _, _ => by simp [wb]
  | _ :: _, [], _ => by simp [wb]
  | o :: os, x :: xs, ρ => by rw [wb, wb_length os xs, wb1_length]
/-- the slots that are written -/
theorem wb_out : ∀ {os : List Opd} {xs : Outs} {ρ : DEnv} {i : Nat}, (∀ (j : Nat) d, os[j]? = some (.slot i) → xs[j]? ≠ some (some d)) → (wb os xs ρ)[i]? = ρ[i]?
  | [], _, _, _, _ => by simp [wb]
  | _ :: _, [], _, _, _ => by simp [wb]
  | o :: os, x :: xs, ρ, i, h => by
    rw [wb, wb_out (fun j d e => by simpa using h (j + 1) d (by simpa using e))]
    cases o with
    | val d => rfl
    | slot k =>
      cases x with
      | none => rfl
      | some d =>
        have : k ≠ i := fun z => h 0 d (by simp [z]) (by simp)
        simp [wb1, List.getElem?_set_ne this]
theorem selSlots_mem : ∀ {ts : List Bool} {os : List Opd} {i : Nat}, i ∈ selSlots ts os ↔ ∃ (j : Nat), ts[j]? = some true ∧ os[j]? = some (.slot i)
  | [], _, _ => by simp [selSlots]
  | t :: ts, [], _ => by cases t <;> simp [selSlots]
  | t :: ts, o :: os, i => by
    have ih := selSlots_mem (ts := ts) (os := os) (i := i)
    have shift : (∃ (j : Nat), (t :: ts)[j]? = some true ∧ (o :: os)[j]? = some (.slot i)) ↔ (t = true ∧ o = .slot i) ∨ ∃ (j : Nat), ts[j]? = some true ∧ os[j]? = some (.slot i) := by
      constructor
      · rintro ⟨j, h1, h2⟩
        cases j with
        | zero => simp at h1 h2; exact .inl ⟨h1, h2⟩
        | succ j => simp at h1 h2; exact .inr ⟨j, h1, h2⟩
      · rintro (⟨h1, h2⟩ | ⟨j, h1, h2⟩)
        · exact ⟨0, by simp [h1], by simp [h2]⟩
        · exact ⟨j + 1, by simpa using h1, by simpa using h2⟩
    rw [shift, ← ih]
    cases t <;> cases o <;> simp [selSlots, eq_comm]
theorem wb_in : ∀ {ts : List Bool} {os : List Opd} {xs : Outs} {ρ : DEnv} {i j : Nat} {d : PyData}, (selSlots ts os).Nodup → (∀ (j : Nat) d, xs[j]? = some (some d) → ts[j]? = some true) → i < ρ.length → ts[j]? = some true → os[j]? = some (.slot i) → xs[j]? = some (some d) →
    (wb os xs ρ)[i]? = some (some (.own d))
  | [], _, _, _, _, _, _, _, _, _, h, _, _ => by simp at h
  | _ :: _, [], _, _, _, _, _, _, _, _, _, h, _ => by simp at h
  | _ :: _, _ :: _, [], _, _, _, _, _, _, _, _, _, h => by simp at h
  | t :: ts, o :: os, x :: xs, ρ, i, 0, d, nd, ht, hl, h1, h2, h3 => by
    simp at h1 h2 h3
    subst h1 h2 h3
    simp only [selSlots, List.nodup_cons] at nd
    rw [wb, wb_out fun j d' e z => nd.1 (selSlots_mem.mpr ⟨j, by simpa using ht (j + 1) d' (by simpa using z), e⟩)]
    simp [wb1, List.getElem?_set_self hl]
  | t :: ts, o :: os, x :: xs, ρ, i, j + 1, d, nd, ht, hl, h1, h2, h3 => by
    rw [wb]
    refine wb_in (ts := ts) (j := j) ?_ (fun j d e => by simpa using ht (j + 1) d (by simpa using e)) (by rw [wb1_length]; exact hl) (by simpa using h1) (by simpa using h2) (by simpa using h3)
    cases t with
    | false => simpa [selSlots] using nd
    | true =>
      cases o with
      | val _ => simpa [selSlots] using nd
      | slot _ => simp only [selSlots, List.nodup_cons] at nd; exact nd.2
section
variable {K : PySem.W.Frag} {C : FC} {P : List Bool} {F H F' H' : Hp} {ρ ρ' : DEnv} {σ : L2.St}
/-- behind a call that turns the objects of the slots sl -/
theorem Sim.after (S : Sim K C F H ρ σ) (sl : List Nat) (f : Same F F') (s : Same F' H') (n : ∀ b, F' b ≠ none → F b ≠ none ∨ H b = none)
    (h : ∀ b o, H b = some o → (∀ i ∈ sl, σ[i]? ≠ some (some (.ref b))) → H' b = some o) (len : ρ'.length = ρ.length)
    (was : ∀ i ∈ sl, ∃ d, ρ[i]? = some (some (.own d))) (out : ∀ i, i ∉ sl → ρ'[i]? = ρ[i]?)
    (o : ∀ i ∈ sl, ∃ a d, σ[i]? = some (some (.ref a)) ∧ ρ'[i]? = some (some (.own d)) ∧ F' a = none ∧ Own K F' H' a d) : Sim K C F' H' ρ' σ := by
  have wasOwn : ∀ (i : Nat) d, ρ'[i]? = some (some (.own d)) → ∃ e, ρ[i]? = some (some (.own e)) := fun i d e => by
    by_cases hi : i ∈ sl
    · exact was i hi
    · exact ⟨d, by rw [← out i hi]; exact e⟩
  have keepF : ∀ b x, H b = some x → F b = none → F' b = none := fun b x e1 e2 => by
    cases q : F' b with
    | none => rfl
    | some u =>
      rcases n b (by rw [q]; intro z; cases z) with z | z
      · exact absurd e2 z
      · rw [z] at e1; cases e1
  refine ⟨by rw [len, S.len], s, fun i d e => ?_, fun i d e => ?_, fun i j a d e h1 h2 h3 h4 => ?_, fun i a e => ?_, S.f0.trans f, fun b x e hb => ?_, fun b e => ?_, fun b x e => ?_, S.dp.keep f (fun i d e => ?_) fun b hb ⟨h1, h2, h3, h4, h5⟩ => ?_⟩
  · by_cases hi : i ∈ sl
    · obtain ⟨_, _, _, z, _⟩ := o i hi
      rw [z] at e; cases e
    · rw [out i hi] at e
      obtain ⟨v, h1, h2⟩ := S.frz i d e
      exact ⟨v, h1, h2.mono f⟩
  · by_cases hi : i ∈ sl
    · obtain ⟨a, d', h1, h2, h3, h4⟩ := o i hi
      rw [h2] at e; cases e
      obtain ⟨e0, he0⟩ := was i hi
      obtain ⟨a', g1, _, _, g4⟩ := S.own i e0 he0
      rw [h1] at g1; cases g1
      exact ⟨a, h1, h3, h4, g4⟩
    · rw [out i hi] at e
      obtain ⟨a, h1, h2, h3, h4⟩ := S.own i d e
      obtain ⟨x, hx⟩ := h3.there
      have na : ∀ j ∈ sl, σ[j]? ≠ some (some (.ref a)) := fun j hj z => by
        obtain ⟨e0, he0⟩ := was j hj
        exact hi (S.ne j i a e0 d he0 e z h1 ▸ hj)
      exact ⟨a, h1, keepF a x hx h2, h3.mono f fun y hy => h a y hy na, h4⟩
  · obtain ⟨x1, g1⟩ := wasOwn i d h1
    obtain ⟨x2, g2⟩ := wasOwn j e h2
    exact S.ne i j a x1 x2 g1 g2 h3 h4
  · obtain ⟨d, h1, h2⟩ := S.par i a e
    by_cases hi : i ∈ sl
    · obtain ⟨a', d', g1, g2, _⟩ := o i hi
      exact ⟨d', g2, h2⟩
    · exact ⟨d, by rw [out i hi]; exact h1, h2⟩
  · refine h b x (S.h0 b x e hb) fun i hi z => ?_
    obtain ⟨e0, he0⟩ := was i hi
    obtain ⟨a', g1, _, _, g4⟩ := S.own i e0 he0
    rw [z] at g1; cases g1
    rcases g4 with q | q
    · rw [q] at e; cases e
    · exact hb (List.mem_of_getElem? q)
  · rcases n b e with z | z
    · exact S.new b z
    · exact .inr (S.h0none z)
  · obtain ⟨h1, h2, h3⟩ := S.pin b x e
    refine ⟨h b x h1 fun i hi z => ?_, keepF b x h1 h2, fun j y hy => ?_⟩
    · obtain ⟨e0, he0⟩ := was i hi
      exact h3 i e0 he0 z
    · obtain ⟨x1, g1⟩ := wasOwn j y hy
      exact h3 j x1 g1
  · by_cases hi : i ∈ sl
    · obtain ⟨_, _, _, z, _⟩ := o i hi
      rw [z] at e; cases e
    · rw [out i hi] at e; exact ⟨e, rfl⟩
  · cases q : H b with
    | none => exact absurd q h1
    | some u =>
      have hH : H' b = some u := h b u q fun i hi z => by
        obtain ⟨e0, he0⟩ := was i hi
        exact h5 i e0 he0 z
      refine ⟨fun o' e => hH.trans e, ⟨fun z => ?_, keepF b u q h2, h3, h4, fun j y hy => ?_⟩⟩
      · rw [hH] at z; cases z
      · obtain ⟨x1, g1⟩ := wasOwn j y hy
        exact h5 j x1 g1
/-- what was free ahead is in no parts behind -/
theorem Sim.footAfter (S : Sim K C F H ρ σ) (S' : Sim K C F' H' ρ' σ) {a : Addr} (hH : H a = none) (h : ∀ (i : Nat) (d : PyData), ρ'[i]? = some (some (.own2 d)) → ρ[i]? = some (some (.own2 d)) ∧ ∀ b, InFoot H ρ σ b → ∀ o, H b = some o → H' b = some o) : ¬ InFoot H' ρ' σ a := fun ⟨i, d, b, h1, h2, h3⟩ => by
  obtain ⟨g1, g2⟩ := h i d h1
  obtain ⟨a', bs, e1, e2, e3, e4, _⟩ := S.dp i d g1
  rw [h2] at e1; cases e1
  have fb : InFoot H ρ σ b := ⟨i, d, b, g1, h2, .inl rfl⟩
  rcases h3 with z | z
  · subst z
    exact (e3 a List.mem_cons_self).1 hH
  · have : Inner H b a := by
      cases q : H b with
      | none => exact absurd q (e3 b List.mem_cons_self).1
      | some o =>
        have q' := g2 b fb o q
        unfold Inner at z ⊢
        rw [q'] at z
        rw [q]
        exact z
    exact (e3 a (List.mem_cons_of_mem _ (e4.inner.mp this))).1 hH
theorem Sim.shareSel (hP : C.Tags P) : ∀ {ts : List Bool} {vs : List V} {os : List Opd} {F : Hp} {ρ : DEnv} {k : DEnv → Prop}, Sim K C F H ρ σ → DenAll K F σ vs os → shareSel P ts ρ os k → ∃ ρ' F', k ρ' ∧ Sim K C F' H ρ' σ ∧ Same F F'
  | [], _, _, F, ρ, k, S, _, w => by
    unfold Dv.shareSel at w
    exact ⟨ρ, F, w, S, Same.refl F⟩
  | t :: ts, _, _, F, ρ, k, S, .nil, w => by
    unfold Dv.shareSel at w
    cases t <;> exact ⟨ρ, F, w, S, Same.refl F⟩
  | true :: ts, _, _, F, ρ, k, S, .cons h r, w => Sim.shareSel hP S r (by unfold Dv.shareSel at w; exact w)
  | false :: ts, _, _, F, ρ, k, S, .cons h r, w => by
    unfold Dv.shareSel at w
    obtain ⟨d, ρ1, F1, w1, S1, s1, r1⟩ := S.share hP h w
    obtain ⟨ρ2, F2, w2, S2, s2⟩ := Sim.shareSel hP S1 (r.mono s1) w1
    exact ⟨ρ2, F2, w2, S2, s1.trans s2⟩
theorem selOk_at : ∀ {ts : List Bool} {ρ : DEnv} {os : List Opd} {i : Nat} {b : Bool} {o : Opd}, selOk ts ρ os → ts[i]? = some b → os[i]? = some o →
    match b, o with
    | false, .val _ => True
    | false, .slot j => ∃ d, ρ[j]? = some (some (.frz d))
    | true, .slot j => ∃ d, ρ[j]? = some (some (.own d))
    | true, .val _ => False
  | [], _, _, _, _, _, _, h, _ => by simp at h
  | _ :: _, _, [], _, _, _, _, _, h => by simp at h
  | t :: ts, ρ, o :: os, 0, b, o', h, h1, h2 => by
    simp at h1 h2
    subst h1 h2
    cases t <;> cases o
    · trivial
    · simp only [selOk] at h
      rename_i j
      cases q : ρ[j]? with
      | none => rw [q] at h; exact h.1.elim
      | some x =>
        cases x with
        | none => rw [q] at h; exact h.1.elim
        | some y =>
          cases y with
          | frz d => exact ⟨d, q⟩
          | own2 d => rw [q] at h; exact h.1.elim
          | own d => rw [q] at h; exact h.1.elim
    · exact h
    · simp only [selOk] at h
      rename_i j
      cases q : ρ[j]? with
      | none => rw [q] at h; exact h.1.elim
      | some x =>
        cases x with
        | none => rw [q] at h; exact h.1.elim
        | some y =>
          cases y with
          | own d => exact ⟨d, q⟩
          | own2 d => rw [q] at h; exact h.1.elim
          | frz d => rw [q] at h; exact h.1.elim
  | t :: ts, ρ, o :: os, i + 1, b, o', h, h1, h2 => by
    refine selOk_at (ts := ts) (ρ := ρ) (os := os) (i := i) ?_ (by simpa using h1) (by simpa using h2)
    cases t <;> cases o
    · exact h
    · exact h.2
    · exact h.elim
    · exact h.2
theorem selOk_len : ∀ {ts : List Bool} {ρ : DEnv} {os : List Opd}, selOk ts ρ os → ts.length = os.length
  | [], _, [], _ => rfl
  | [], _, _ :: _, h => h.elim
  | true :: _, _, [], h => h.elim
  | false :: _, _, [], h => h.elim
  | t :: ts, ρ, o :: os, h => by
    have : selOk ts ρ os := by
      cases t <;> cases o
      · exact h
      · exact h.2
      · exact h.elim
      · exact h.2
    simp [selOk_len this]
theorem withAll_get : ∀ {os : List Opd} {ρ : DEnv} {k : List PyData → Prop}, withAll ρ os k → ∃ ds, k ds ∧ ds.length = os.length ∧ ∀ (i : Nat) (o : Opd), os[i]? = some o → ∃ d, ds[i]? = some d ∧ withO ρ o fun e => e = d
  | [], ρ, k, h => ⟨[], h, rfl, fun i o e => by simp at e⟩
  | o :: os, ρ, k, h => by
    have h1 : withO ρ o fun d => withAll ρ os fun ds => k (d :: ds) := h
    have : ∃ d, (withO ρ o fun e => e = d) ∧ withAll ρ os fun ds => k (d :: ds) := by
      cases o with
      | val d => exact ⟨d, rfl, h1⟩
      | slot i =>
        unfold withO at h1 ⊢
        dsimp only at h1 ⊢
        cases q : ρ[i]? with
        | none => rw [q] at h1; exact h1.elim
        | some x =>
          cases x with
          | none => rw [q] at h1; exact h1.elim
          | some y =>
            cases y with
            | frz d => rw [q] at h1; exact ⟨d, rfl, h1⟩
            | own2 d => rw [q] at h1; exact h1.elim
            | own d => rw [q] at h1; exact ⟨d, rfl, h1⟩
    obtain ⟨d, w, h2⟩ := this
    obtain ⟨ds, k2, l2, g2⟩ := withAll_get h2
    refine ⟨d :: ds, k2, by simp [l2], fun i o' e => ?_⟩
    cases i with
    | zero => simp at e; subst e; exact ⟨d, rfl, w⟩
    | succ i => simp at e ⊢; exact g2 i o' e
theorem DenAll.get : ∀ {vs : List V} {os : List Opd} {i : Nat} {o : Opd}, DenAll K F σ vs os → os[i]? = some o → ∃ v, vs[i]? = some v ∧ Den K F σ v o
  | _, _, _, _, .nil, e => by simp at e
  | _, _, 0, _, .cons r _, e => by simp at e; subst e; exact ⟨_, rfl, r⟩
  | _, _, i + 1, o, .cons _ t, e => by
    obtain ⟨v, h1, h2⟩ := DenAll.get (i := i) (o := o) t (by simpa using e)
    exact ⟨v, by simpa using h1, h2⟩
end
def dCallS (P ts : List Bool) (S : SpD) (a : DA) (ρ : DEnv) (Q : SV → DEnv → Prop) : Prop := a ρ fun os ρ1 => shareSel P ts ρ1 os fun ρ2 => selOk ts ρ2 os ∧ (selSlots ts os).Nodup ∧ withAll ρ2 os fun ds => S ds fun r outs => Q r (wb os outs ρ2)
section
variable {X : Cx} {C : FC} {P ts : List Bool} {S : SpD} {ta : DA}
theorem call_low (hP : C.Tags P) {σ : L2.St} {H : Hp} {Q : VK} {F : Hp} {ρ : DEnv} {q : SV → DEnv → Prop} (Sm : Sim X.K C F H ρ σ) (h : dCallS P ts S ta ρ q)
    (k : ∀ r ρ' F' H' v, q r ρ' → Sim X.K C F' H' ρ' σ → Same F F' → (match r with
      | .frz d => Rep X.K F' v d
      | .own d => ∃ a, v = .ref a ∧ Fresh X.K C F' H' ρ' σ a d
      | .own2 _ => False) → Q v H') : tCall (spOf X.K ts S) [] E0 (lA X.K C ta) σ H Q := by
  refine ⟨F, ρ, _, Sm, h, fun os ρ1 F1 H1 vs h1 S1 s1 d1 => ?_⟩
  obtain ⟨ρ2, F2, ⟨sok, nd, h2⟩, S2, s2⟩ := Sim.shareSel hP S1 d1 h1
  obtain ⟨ds, hS, hl, hget⟩ := withAll_get h2
  have d2 := d1.mono s2
  have lts := selOk_len sok
  rw [List.append_nil]
  have osAt : ∀ (i : Nat) b, ts[i]? = some b → ∃ o, os[i]? = some o := fun i b e => by
    have : i < os.length := by rw [← lts]; exact (List.getElem?_eq_some_iff.mp e).1
    exact ⟨os[i], List.getElem?_eq_getElem this⟩
  -- an owned argument stands in a slot
  have ownAt : ∀ (i : Nat), ts[i]? = some true → ∃ j e, os[i]? = some (.slot j) ∧ ρ2[j]? = some (some (.own e)) ∧ ds[i]? = some e ∧ vs[i]? = (σ[j]?).join := fun i e => by
    obtain ⟨o, ho⟩ := osAt i true e
    have z := selOk_at sok e ho
    cases o with
    | val _ => exact z.elim
    | slot j =>
      obtain ⟨x, hx⟩ := z
      obtain ⟨d, hd, wd⟩ := hget i _ ho
      unfold withO at wd
      dsimp only at wd
      rw [hx] at wd
      subst wd
      obtain ⟨v, hv, dv⟩ := d2.get ho
      have dv' : σ[j]? = some (some v) := dv
      exact ⟨j, _, ho, hx, hd, by rw [dv', hv]; rfl⟩
  refine ⟨F2, ds, _, S2.sub, ⟨by rw [d2.length, hl], by rw [lts, hl], fun i v d hv hd ht => ?_, fun i v d hv hd ht => ?_, fun i j a hi hj hvi hvj => ?_⟩, hS, fun r outs F' H' v hq post => ?_⟩
  · obtain ⟨o, ho⟩ := osAt i false ht
    have z := selOk_at sok ht ho
    obtain ⟨d', hd', wd⟩ := hget i _ ho
    rw [hd] at hd'; cases hd'
    obtain ⟨v', hv', dv⟩ := d2.get ho
    rw [hv] at hv'; cases hv'
    cases o with
    | val e => have : e = d := wd; subst this; exact dv
    | slot j =>
      obtain ⟨x, hx⟩ := z
      unfold withO at wd
      dsimp only at wd
      rw [hx] at wd
      subst wd
      obtain ⟨v', g1, g2⟩ := S2.frz j _ hx
      have dv' : σ[j]? = some (some v) := dv
      rw [g1] at dv'; cases dv'
      exact g2
  · obtain ⟨j, e, ho, hx, he, hvj⟩ := ownAt i ht
    rw [hd] at he; cases he
    obtain ⟨a, g1, g2, g3, _⟩ := S2.own j d hx
    rw [hv, g1] at hvj
    exact ⟨a, Option.some.inj hvj, g2, g3⟩
  · obtain ⟨j1, e1, ho1, hx1, _, hv1⟩ := ownAt i hi
    obtain ⟨j2, e2, ho2, hx2, _, hv2⟩ := ownAt j hj
    obtain ⟨a1, g1, _⟩ := S2.own j1 e1 hx1
    obtain ⟨a2, g2, _⟩ := S2.own j2 e2 hx2
    rw [hvi, g1] at hv1
    rw [hvj, g2] at hv2
    have c1 : V.ref a = V.ref a1 := Option.some.inj hv1
    have c2 : V.ref a = V.ref a2 := Option.some.inj hv2
    cases c1; cases c2
    have ej := S2.ne j1 j2 a e1 e2 hx1 hx2 g1 g2
    subst ej
    -- the same slot twice: the places are the same
    have key : ∀ (ts : List Bool) (os : List Opd) (i j m : Nat), (selSlots ts os).Nodup → ts[i]? = some true → ts[j]? = some true → os[i]? = some (.slot m) → os[j]? = some (.slot m) → i = j := by
      intro ts
      induction ts with
      | nil => intro os i j m _ h; simp at h
      | cons t ts ih =>
        intro os i j m nd hi hj oi oj
        cases os with
        | nil => simp at oi
        | cons o os =>
          cases i with
          | zero =>
            cases j with
            | zero => rfl
            | succ j =>
              simp at hi hj oi oj
              subst hi oi
              simp only [selSlots, List.nodup_cons] at nd
              exact absurd (selSlots_mem.mpr ⟨j, hj, oj⟩) nd.1
          | succ i =>
            cases j with
            | zero =>
              simp at hi hj oi oj
              subst hj oj
              simp only [selSlots, List.nodup_cons] at nd
              exact absurd (selSlots_mem.mpr ⟨i, hi, oi⟩) nd.1
            | succ j =>
              simp at hi hj oi oj
              have nd' : (selSlots ts os).Nodup := by
                cases t with
                | false => simpa [selSlots] using nd
                | true =>
                  cases o with
                  | val _ => simpa [selSlots] using nd
                  | slot _ => simp only [selSlots, List.nodup_cons] at nd; exact nd.2
              rw [ih os i j m nd' hi hj oi oj]
    exact key ts os i j j1 nd hi hj ho1 ho2
  · have Sa : Sim X.K C F' H' (wb os outs ρ2) σ := by
      refine S2.after (selSlots ts os) post.f post.s post.n (fun b o e hb => post.h b o e fun i hi z => ?_) (wb_length os outs ρ2) (fun i hi => ?_) (fun i hi => ?_) (fun i hi => ?_)
      · obtain ⟨j, e', ho, hx, _, hv⟩ := ownAt i hi
        obtain ⟨a, g1, _⟩ := S2.own j e' hx
        rw [z, g1] at hv
        have c : V.ref b = V.ref a := Option.some.inj hv
        cases c
        exact hb j (selSlots_mem.mpr ⟨i, hi, ho⟩) g1
      · obtain ⟨j, ht, ho⟩ := selSlots_mem.mp hi
        obtain ⟨j1, e', ho', hx, _⟩ := ownAt j ht
        rw [ho] at ho'; cases ho'
        exact ⟨e', hx⟩
      · exact wb_out fun j d ho hx => hi (selSlots_mem.mpr ⟨j, post.oN j d hx, ho⟩)
      · obtain ⟨j, ht, ho⟩ := selSlots_mem.mp hi
        obtain ⟨j1, e', ho', hx, _, hv⟩ := ownAt j ht
        rw [ho] at ho'; cases ho'
        obtain ⟨a, g1, _⟩ := S2.own i e' hx
        rw [g1] at hv
        obtain ⟨d, p1, p2, p3⟩ := post.o j a ht hv
        exact ⟨a, d, g1, wb_in nd post.oN (List.getElem?_eq_some_iff.mp hx).1 ht ho p1, p2, p3⟩
    refine k r _ F' H' v hq Sa ((s1.trans s2).trans post.f) ?_
    have res := post.res
    cases r with
    | frz d => exact res
    | own2 d => exact res
    | own d =>
      obtain ⟨a, e1, e2, e3, e4⟩ := res
      refine ⟨a, e1, e2, e3, S2.h0none e4, S2.pnone e4, fun j y hy z => ?_, S2.footAfter Sa e4 fun j y hy => ?_⟩
      rotate_left
      · by_cases hj : j ∈ selSlots ts os
        · obtain ⟨m, ht, ho⟩ := selSlots_mem.mp hj
          obtain ⟨j1, e', ho', hx, _, hv⟩ := ownAt m ht
          rw [ho] at ho'; cases ho'
          obtain ⟨a, g1, _⟩ := S2.own j e' hx
          rw [g1] at hv
          obtain ⟨d, p1, p2, p3⟩ := post.o m a ht hv
          rw [wb_in nd post.oN (List.getElem?_eq_some_iff.mp hx).1 ht ho p1] at hy
          cases hy
        · rw [wb_out fun m d ho hx => hj (selSlots_mem.mpr ⟨m, post.oN m d hx, ho⟩)] at hy
          exact ⟨hy, fun b hb o hH => post.h b o hH fun m hm z => by
            obtain ⟨j1, e', ho', hx, _, hv⟩ := ownAt m hm
            obtain ⟨a, g1, _⟩ := S2.own j1 e' hx
            rw [z, g1] at hv
            have c : V.ref b = V.ref a := Option.some.inj hv
            cases c
            exact (S2.dp.loose hb).2.2.2.2 j1 e' hx g1⟩
      obtain ⟨b, hb1, hb2, hb3, _⟩ := Sa.own j y hy
      rw [z] at hb1; cases hb1
      -- the slot owned an object ahead of the call too
      by_cases hj : j ∈ selSlots ts os
      · obtain ⟨m, ht, ho⟩ := selSlots_mem.mp hj
        obtain ⟨j1, e', ho', hx, _⟩ := ownAt m ht
        rw [ho] at ho'; cases ho'
        obtain ⟨b', g1, _, g3, _⟩ := S2.own j e' hx
        rw [z] at g1; cases g1
        obtain ⟨o, ho2⟩ := g3.there
        rw [e4] at ho2; cases ho2
      · rw [wb_out fun m d ho hx => hj (selSlots_mem.mpr ⟨m, post.oN m d hx, ho⟩)] at hy
        obtain ⟨b', g1, _, g3, _⟩ := S2.own j y hy
        rw [z] at g1; cases g1
        obtain ⟨o, ho2⟩ := g3.there
        rw [e4] at ho2; cases ho2
end
end Dv

set_option Elab.async false
set_option linter.all false
set_option maxRecDepth 100000
set_option autoImplicit false
namespace Dv
open PySem PySem.Spec L2
section
variable {X : Cx} {C : FC} {P ts : List Bool} {S : SpD} {ta : DA} {k : Nat} {f : Addr} {fd : FuncData} {ps : List Str} {x : Str} {p pos : Pos} {e : Expr} {es : List Expr}
def dCall (P ts : List Bool) (S : SpD) (a : DA) : DE := fun ρ Q => dCallS P ts S a ρ fun r ρ' => Q (.val r.d) ρ'
def dCallO (P ts : List Bool) (S : SpD) (a : DA) : DO := fun ρ Q => dCallS P ts S a ρ fun r ρ' => match r with
  | .own d => Q d ρ'
  | _ => False
theorem q_call (hP : C.Tags P) (F : FnG X.prog X.w X.K X.mg X.base k f fd ps (spOf X.K ts S)) (hr : RG k X.A) (hm : X.mg x = some (.ref f)) (hk : PySem.W.keepIn X.K (.ref f) = true) (hb : Binds X.K fd ps [])
    (ha : QA X C (e :: es) ta) (hg : Gl X x := by rfl) (hdb : (x == ("__debug__" : Str)) = false := by decide) (he : starEach (e :: es) X.env = (false, eval e X.env) :: starEach es X.env := by rfl) (hpl : (backTo pos (starEach es X.env)).any (·.1) = false := by rfl) :
    QE X C (.Call (.Name x p) (e :: es) [] pos) (dCall P ts S ta) :=
  QE.of (pe_callG F hr hg hm hk hb pass0 ha.pa hdb he hpl) fun σ H Q ⟨F1, ρ, q, Sm, ht, kk⟩ => by
    refine call_low hP Sm ht fun r ρ' F' H' v hq S' s' res => ?_
    cases r with
    | frz d => exact kk _ _ _ _ _ hq S' s' res
    | own2 d => exact res.elim
    | own d =>
      obtain ⟨a, e1, fr⟩ := res
      subst e1
      obtain ⟨F2, s2, S2, r2⟩ := S'.froze fr
      exact kk _ _ _ _ _ hq S2 (s'.trans s2) r2
theorem o_call (hP : C.Tags P) (F : FnG X.prog X.w X.K X.mg X.base k f fd ps (spOf X.K ts S)) (hr : RG k X.A) (hm : X.mg x = some (.ref f)) (hk : PySem.W.keepIn X.K (.ref f) = true) (hb : Binds X.K fd ps [])
    (ha : QA X C (e :: es) ta) (hg : Gl X x := by rfl) (hdb : (x == ("__debug__" : Str)) = false := by decide) (he : starEach (e :: es) X.env = (false, eval e X.env) :: starEach es X.env := by rfl) (hpl : (backTo pos (starEach es X.env)).any (·.1) = false := by rfl) :
    QO X C (.Call (.Name x p) (e :: es) [] pos) (dCallO P ts S ta) :=
  QO.of (pe_callG F hr hg hm hk hb pass0 ha.pa hdb he hpl) fun σ H Q ⟨F1, ρ, q, Sm, ht, kk⟩ => by
    refine call_low hP Sm ht fun r ρ' F' H' v hq S' s' res => ?_
    cases r with
    | frz d => exact hq.elim
    | own2 d => exact hq.elim
    | own d =>
      obtain ⟨a, e1, fr⟩ := res
      subst e1
      exact kk _ _ _ _ _ hq S' s' fr
/-! ### a call that only looks at owned arguments and gives a scalar -/
mutual
/-- no object but tuples in it -/
def scalD : PyData → Bool
  | .none => true
  | .bool _ => true
  | .int _ => true
  | .str _ => true
  | .tuple ds => scalDs ds
  | _ => false
def scalDs : List PyData → Bool
  | [] => true
  | d :: ds => scalD d && scalDs ds
end
mutual
theorem Rep.scal {K : PySem.W.Frag} {F F' : Hp} (hT : ∀ a xs, SqT K F a xs → SqT K F' a xs) : ∀ {v : V} {d : PyData}, scalD d = true → Rep K F v d → Rep K F' v d
  | _, _, _, .non => .non
  | _, _, _, .bl b => .bl b
  | _, _, _, .int i => .int i
  | _, _, _, .str x => .str x
  | _, _, h, .lst _ _ => by simp [scalD] at h
  | _, _, h, .tup e r => .tup (hT _ _ e) (RepAll.scal hT (by simpa [scalD] using h) r)
  | _, _, h, .dct _ _ => by simp [scalD] at h
  | _, _, h, .dcn _ _ _ => by simp [scalD] at h
  | _, _, h, .exc _ _ _ _ => by simp [scalD] at h
theorem RepAll.scal {K : PySem.W.Frag} {F F' : Hp} (hT : ∀ a xs, SqT K F a xs → SqT K F' a xs) : ∀ {vs : List V} {ds : List PyData}, scalDs ds = true → RepAll K F vs ds → RepAll K F' vs ds
  | _, _, _, .nil => .nil
  | _, _, h, .cons r t => .cons (Rep.scal hT (by simp [scalDs] at h; exact h.1) r) (RepAll.scal hT (by simp [scalDs] at h; exact h.2) t)
end
/-- the slots that are looked at -/
def bSlots (ρ : DEnv) : List Opd → List Nat
  | .slot i :: os => (match ρ[i]? with
    | some (some (.own _)) => [i]
    | _ => []) ++ bSlots ρ os
  | _ :: os => bSlots ρ os
  | [] => []
def dCallB (n : Nat) (S : SpD) (a : DA) : DE := fun ρ Q => a ρ fun os ρ1 => os.length = n ∧ withAll ρ1 os fun ds => S ds fun r _ => match r with
  | .frz d => scalD d = true ∧ Q (.val d) ρ1
  | _ => False
open Classical in
/-- a part of the heap with the objects of some addresses in it -/
noncomputable def plus (F H : Hp) (B : Addr → Prop) : Hp := fun b => if B b then H b else F b
open Classical in
noncomputable def minus (F : Hp) (B : Addr → Prop) : Hp := fun b => if B b then none else F b
theorem q_callB' {n : Nat} (F : FnG X.prog X.w X.K X.mg X.base k f fd ps (spOf X.K (List.replicate n false) S)) (hr : RG k X.A) (hm : X.mg x = some (.ref f)) (hk : PySem.W.keepIn X.K (.ref f) = true) (hb : Binds X.K fd ps [])
    (ha : QA X C (e :: es) ta) (hg : Gl X x := by rfl) (hdb : (x == ("__debug__" : Str)) = false := by decide) (he : starEach (e :: es) X.env = (false, eval e X.env) :: starEach es X.env := by rfl) (hpl : (backTo pos (starEach es X.env)).any (·.1) = false := by rfl) :
    QE X C (.Call (.Name x p) (e :: es) [] pos) (dCallB n S ta) :=
  QE.of (pe_callG F hr hg hm hk hb pass0 ha.pa hdb he hpl) fun σ H Q ⟨F1, ρ, q, Sm, ht, kk⟩ => by
    refine ⟨F1, ρ, _, Sm, ht, fun os ρ1 F2 H2 vs ⟨hn, h1⟩ S2 s1 d1 => ?_⟩
    show spOf X.K _ S (vs ++ []) H2 Q E0
    rw [List.append_nil]
    obtain ⟨ds, hS, hl, hget⟩ := withAll_get h1
    let B : Addr → Prop := fun b => ∃ (j : Nat) (e : PyData), ρ1[j]? = some (some (.own e)) ∧ σ[j]? = some (some (.ref b))
    have BF : ∀ b, B b → F2 b = none := fun b ⟨j, y, h1, h2⟩ => by
      obtain ⟨a, g1, g2, _⟩ := S2.own j y h1
      rw [h2] at g1; cases g1
      exact g2
    have BH : ∀ b, B b → H2 b ≠ none := fun b ⟨j, y, h1, h2⟩ => by
      obtain ⟨a, g1, _, g3, _⟩ := S2.own j y h1
      rw [h2] at g1; cases g1
      obtain ⟨o, ho⟩ := g3.there
      rw [ho]; intro z; cases z
    have sFp : Same F2 (plus F2 H2 B) := fun b o h => by
      unfold plus
      rw [if_neg fun z => by rw [BF b z] at h; cases h]
      exact h
    have sPH : Same (plus F2 H2 B) H2 := fun b o h => by
      unfold plus at h
      split at h
      · exact h
      · exact S2.sub b o h
    have nt : ∀ (i : Nat), (List.replicate n false)[i]? ≠ some true := fun i z => by
      rw [List.getElem?_replicate] at z
      split at z <;> cases z
    refine ⟨plus F2 H2 B, ds, _, sPH, ⟨by rw [d1.length, hl], by rw [List.length_replicate, hl, hn], fun i v d hv hd _ => ?_, fun i _ _ _ _ z => absurd z (nt i), fun i _ _ z => absurd z (nt i)⟩, hS, fun r outs F' H' v hq post => ?_⟩
    · have hi : i < os.length := by rw [← hl]; exact (List.getElem?_eq_some_iff.mp hd).1
      obtain ⟨d', hd', wd⟩ := hget i _ (List.getElem?_eq_getElem hi)
      rw [hd] at hd'; cases hd'
      obtain ⟨v', hv', dv⟩ := d1.get (List.getElem?_eq_getElem hi)
      rw [hv] at hv'; cases hv'
      cases q : os[i] with
      | val e' => rw [q] at wd dv; have : e' = d := wd; subst this; exact Rep.mono sFp dv
      | slot j =>
        rw [q] at wd dv
        have dv' : σ[j]? = some (some v) := dv
        unfold withO at wd
        dsimp only at wd
        cases q2 : ρ1[j]? with
        | none => rw [q2] at wd; exact wd.elim
        | some y =>
          cases y with
          | none => rw [q2] at wd; exact wd.elim
          | some z =>
            cases z with
            | own2 e' => rw [q2] at wd; exact wd.elim
            | frz e' =>
              rw [q2] at wd
              have : e' = d := wd
              subst this
              obtain ⟨v', g1, g2⟩ := S2.frz j _ q2
              rw [g1] at dv'; cases dv'
              exact g2.mono sFp
            | own e' =>
              rw [q2] at wd
              have : e' = d := wd
              subst this
              obtain ⟨a, g1, g2, g3, _⟩ := S2.own j _ q2
              rw [g1] at dv'; cases dv'
              have pa : plus F2 H2 B a = H2 a := by
                unfold plus
                rw [if_pos ⟨j, _, q2, g1⟩]
              cases e' with
              | list xs => obtain ⟨ys, h1, h2⟩ := g3; exact .lst (SqL.of (pa.trans h1)) (h2.mono sFp)
              | dict xs =>
                rcases g3 with ⟨ys, h1, h2⟩ | ⟨w0, ys, n, h1, h2⟩
                · exact .dct (.inl (pa.trans h1)) (h2.mono sFp)
                · exact .dcn n (.inl (pa.trans h1)) (h2.mono sFp)
              | _ => exact g3.elim
    · cases r with
      | own d => exact hq.elim
      | own2 d => exact hq.elim
      | frz d =>
        obtain ⟨sc, hq⟩ := hq
        have keepH : ∀ b o, H2 b = some o → H' b = some o := fun b o h => post.h b o h fun i z => absurd z (nt i)
        have sFm : Same F2 (minus F' B) := fun b o h => by
          unfold minus
          rw [if_neg fun z => by rw [BF b z] at h; cases h]
          exact post.f b o (sFp b o h)
        have S3 : Sim X.K C (minus F' B) H' ρ1 σ := S2.grow ⟨sFm, keepH, fun b o h => by
            unfold minus at h
            split at h
            · cases h
            · exact post.s b o h, fun b h => by
            unfold minus at h
            split at h
            · exact absurd rfl h
            · rename_i nb
              rcases post.n b h with z | z
              · unfold plus at z
                rw [if_neg nb] at z
                exact .inl z
              · exact .inr z⟩
        refine kk _ _ _ _ _ hq S3 (s1.trans sFm) (Rep.scal (fun a xs h => ?_) sc post.res)
        have noB : ∀ u : HO, (∃ ys, u = .tup ys) ∨ (∃ o ys, u = .frz o (.tup ys)) → F' a = some u → minus F' B a = some u := fun u hu e => by
          unfold minus
          have nb : ¬ B a := fun ⟨j, y, z1, z2⟩ => by
            obtain ⟨a', g1, _, g3, _⟩ := S2.own j y z1
            rw [z2] at g1; cases g1
            have e' := post.s _ _ e
            cases y with
            | list ds =>
              obtain ⟨ys, h1, _⟩ := g3
              have e2 := keepH _ _ h1
              rw [e'] at e2
              rcases hu with ⟨zs, rfl⟩ | ⟨o, zs, rfl⟩ <;> cases e2
            | dict ds =>
              rcases g3 with ⟨ys, h1, _⟩ | ⟨w0, ys, _, h1, _⟩
              · have e2 := keepH _ _ h1
                rw [e'] at e2
                rcases hu with ⟨zs, rfl⟩ | ⟨o, zs, rfl⟩ <;> cases e2
              · have e2 := keepH _ _ h1
                rw [e'] at e2
                rcases hu with ⟨zs, rfl⟩ | ⟨o, zs, rfl⟩ <;> cases e2
            | _ => exact g3.elim
          rw [if_neg nb]
          exact e
        rcases h with (h | ⟨o, h⟩) | h
        · exact .inl (.inl (noB _ (.inl ⟨_, rfl⟩) h))
        · exact .inl (.inr ⟨o, noB _ (.inr ⟨_, _, rfl⟩) h⟩)
        · exact .inr h
end
end Dv

set_option Elab.async false
set_option linter.all false
set_option maxRecDepth 100000
set_option autoImplicit false
namespace Dv
open PySem PySem.Spec L2

/-! ### comprehensions -/
def wipeE (ρ : DEnv) : List Nat → DEnv
  | [] => ρ
  | v :: vs => (wipeE ρ vs).set v none
def keepF : Option (Option SV) → Option SV
  | some (some (.frz d)) => some (.frz d)
  | _ => none
def restE (ρ' ρ : DEnv) : List Nat → DEnv
  | [] => ρ'
  | v :: vs => (restE ρ' ρ vs).set v (keepF ρ[v]?)
theorem restE_length (ρ' ρ : DEnv) : ∀ vs : List Nat, (restE ρ' ρ vs).length = ρ'.length
  | [] => rfl
  | v :: vs => by unfold restE; rw [List.length_set, restE_length ρ' ρ vs]
theorem restE_out {ρ' ρ : DEnv} {i : Nat} : ∀ {vs : List Nat}, i ∉ vs → (restE ρ' ρ vs)[i]? = ρ'[i]?
  | [], _ => rfl
  | v :: vs, h => by
    simp only [List.mem_cons, not_or] at h
    unfold restE
    rw [List.getElem?_set_ne (Ne.symm h.1), restE_out h.2]
theorem restE_in {ρ' ρ : DEnv} {i : Nat} {y : SV} : ∀ {vs : List Nat}, i ∈ vs → (restE ρ' ρ vs)[i]? = some (some y) → ∃ d, y = .frz d ∧ ρ[i]? = some (some (.frz d))
  | [], h, _ => by simp at h
  | v :: vs, h, e => by
    unfold restE at e
    by_cases hv : v = i
    · subst hv
      by_cases hl : v < (restE ρ' ρ vs).length
      · rw [List.getElem?_set_self hl] at e
        have e' := Option.some.inj e
        unfold keepF at e'
        split at e'
        · rename_i d q; cases e'; exact ⟨d, rfl, q⟩
        · cases e'
      · rw [List.getElem?_eq_none (by simpa using hl)] at e; cases e
    · rw [List.getElem?_set_ne hv] at e
      have h' : i ∈ vs := by
        rcases List.mem_cons.mp h with z | z
        · exact absurd z.symm hv
        · exact z
      exact restE_in h' e
section
variable {K : PySem.W.Frag} {C : FC} {P : List Bool} {F H F' H' : Hp} {ρ ρ' : DEnv} {σ σ2 : L2.St}
/-- a name is forgotten -/
theorem Sim.setN (S : Sim K C F H ρ σ) {i : Nat} (hp : ¬ C.isP i) : Sim K C F H (ρ.set i none) (σ.set i none) := by
  by_cases hi : i < σ.length
  · have hr : i < ρ.length := by rw [S.len]; exact hi
    refine ⟨by simp [S.len], S.sub, fun j d e => ?_, fun j d e => ?_, fun j k a d e h1 h2 h3 h4 => ?_, fun j a e => ?_, S.f0, S.h0, S.new, fun b o e => ?_, S.dp.keep (Same.refl F) (fun j d e => ?_) fun b hb ⟨h1, h2, h3, h4, h5⟩ => ⟨fun o e => e, ⟨h1, h2, h3, h4, fun j x h => ?_⟩⟩⟩
    · rw [get_set hr] at e
      split at e
      · cases e
      · rename_i q; rw [get_set hi, if_neg q]; exact S.frz j d e
    · rw [get_set hr] at e
      split at e
      · cases e
      · rename_i q; rw [get_set hi, if_neg q]; exact S.own j d e
    · rw [get_set hr] at h1 h2
      split at h1
      · cases h1
      · rename_i q1
        split at h2
        · cases h2
        · rename_i q2
          rw [get_set hi, if_neg q1] at h3
          rw [get_set hi, if_neg q2] at h4
          exact S.ne j k a d e h1 h2 h3 h4
    · have q : j ≠ i := fun z => hp ⟨a, z ▸ e⟩
      rw [get_set hr, get_set hi, if_neg q, if_neg q]
      exact S.par j a e
    · obtain ⟨h1, h2, h3⟩ := S.pin b o e
      refine ⟨h1, h2, fun j x h => ?_⟩
      rw [get_set hr] at h
      split at h
      · cases h
      · rename_i q; rw [get_set hi, if_neg q]; exact h3 j x h
    · rw [get_set hr] at e
      split at e
      · cases e
      · rename_i q; rw [get_set hi, if_neg q]; exact ⟨e, rfl⟩
    · rw [get_set hr] at h
      split at h
      · cases h
      · rename_i q; rw [get_set hi, if_neg q]; exact h5 j x h
  · rw [List.set_eq_of_length_le (by rw [S.len]; omega), List.set_eq_of_length_le (by omega)]; exact S
theorem Sim.wipe (S : Sim K C F H ρ σ) : ∀ {vs : List Nat}, (∀ v ∈ vs, ¬ C.isP v) → Sim K C F H (wipeE ρ vs) (L2.wipe σ vs)
  | [], _ => S
  | v :: vs, h => (Sim.wipe S fun u hu => h u (List.mem_cons_of_mem _ hu)).setN (h v List.mem_cons_self)
theorem Sim.unwipe (S : Sim K C F H ρ σ) {vs : List Nat} (hv : ∀ v ∈ vs, ¬ C.isP v) (S2 : Sim K C F' H' ρ' σ2) (hw : L2.wipe σ2 vs = L2.wipe σ vs) (f : Same F F') : Sim K C F' H' (restE ρ' ρ vs) σ := by
  have hl : σ2.length = σ.length := by rw [← wipe_length σ2 vs, hw, wipe_length]
  have ho : ∀ i, i ∉ vs → σ2[i]? = σ[i]? := fun i hi => by rw [← wipe_out (σ := σ2) hi, hw, wipe_out hi]
  have ow : ∀ (i : Nat) d, (restE ρ' ρ vs)[i]? = some (some (.own d)) → i ∉ vs ∧ ρ'[i]? = some (some (.own d)) := fun i d e => by
    by_cases hi : i ∈ vs
    · obtain ⟨_, z, _⟩ := restE_in hi e
      cases z
    · rw [restE_out hi] at e; exact ⟨hi, e⟩
  refine ⟨by rw [restE_length, S2.len, hl], S2.sub, fun i d e => ?_, fun i d e => ?_, fun i j a d e h1 h2 h3 h4 => ?_, fun i a e => ?_, S2.f0, S2.h0, S2.new, fun b o e => ?_, S2.dp.keep (Same.refl _) (fun i d e => ?_) fun b hb ⟨h1, h2, h3, h4, h5⟩ => ⟨fun o e => e, ⟨h1, h2, h3, h4, fun j x h => ?_⟩⟩⟩
  · by_cases hi : i ∈ vs
    · obtain ⟨d', z, q⟩ := restE_in hi e
      cases z
      obtain ⟨v, h1, h2⟩ := S.frz i d q
      exact ⟨v, h1, h2.mono f⟩
    · rw [restE_out hi] at e
      obtain ⟨v, h1, h2⟩ := S2.frz i d e
      exact ⟨v, by rw [← ho i hi]; exact h1, h2⟩
  · obtain ⟨hi, e'⟩ := ow i d e
    obtain ⟨a, h1, h2, h3, h4⟩ := S2.own i d e'
    exact ⟨a, by rw [← ho i hi]; exact h1, h2, h3, h4⟩
  · obtain ⟨hi, h1'⟩ := ow i d h1
    obtain ⟨hj, h2'⟩ := ow j e h2
    exact S2.ne i j a d e h1' h2' (by rw [ho i hi]; exact h3) (by rw [ho j hj]; exact h4)
  · have hi : i ∉ vs := fun z => hv i z ⟨a, e⟩
    obtain ⟨d, h1, h2⟩ := S2.par i a e
    exact ⟨d, by rw [restE_out hi]; exact h1, by rw [← ho i hi]; exact h2⟩
  · obtain ⟨h1, h2, h3⟩ := S2.pin b o e
    refine ⟨h1, h2, fun j x h => ?_⟩
    obtain ⟨hj, h'⟩ := ow j x h
    rw [← ho j hj]; exact h3 j x h'
  · by_cases hi : i ∈ vs
    · obtain ⟨_, z, _⟩ := restE_in hi e
      cases z
    · rw [restE_out hi] at e; exact ⟨e, (ho i hi).symm⟩
  · obtain ⟨hj, h'⟩ := ow j x h
    rw [← ho j hj]; exact h5 j x h'
/-- with a pinned object more -/
def FC.pin (C : FC) (D : Addr) (o : HO) : FC := { C with pn := upd C.pn D o }
theorem FC.pin_tags {D : Addr} {o : HO} (h : C.Tags P) : (C.pin D o).Tags P := h
theorem Sim.pinned (S : Sim K C F H ρ σ) {D : Addr} {o : HO} (h1 : H D = some o) (h2 : F D = none) (h3 : ∀ (j : Nat) (e : PyData), ρ[j]? = some (some (.own e)) → σ[j]? ≠ some (some (.ref D))) (h4 : ¬ InFoot H ρ σ D) : Sim K (C.pin D o) F H ρ σ :=
  ⟨S.len, S.sub, S.frz, S.own, S.ne, S.par, S.f0, S.h0, S.new, fun b u e => by
    by_cases hb : b = D
    · subst hb
      have e' : upd C.pn b o b = some u := e
      rw [upd_same] at e'; cases e'
      exact ⟨h1, h2, h3⟩
    · have e' : upd C.pn D o b = some u := e
      rw [upd_ne hb] at e'
      exact S.pin b u e', S.dp.keep (Same.refl F) (fun j e h => ⟨h, rfl⟩) fun b hb ⟨g1, g2, g3, g4, g5⟩ => ⟨fun o e => e, ⟨g1, g2, g3, by
      show upd C.pn D o b = none
      rw [upd_ne (show b ≠ D from fun z => h4 (z ▸ hb))]
      exact g4, g5⟩⟩⟩
theorem Sim.unpinned {D : Addr} {o : HO} (hD : C.pn D = none) (S : Sim K (C.pin D o) F H ρ σ) : Sim K C F H ρ σ ∧ H D = some o ∧ F D = none ∧ (∀ (j : Nat) (e : PyData), ρ[j]? = some (some (.own e)) → σ[j]? ≠ some (some (.ref D))) ∧ ¬ InFoot H ρ σ D := by
  have nf : ¬ InFoot H ρ σ D := fun z => by
    have q : upd C.pn D o D = none := (S.dp.loose z).2.2.2.1
    rw [upd_same] at q; cases q
  obtain ⟨p1, p2, p3⟩ := S.pin D o (show upd C.pn D o D = some o from upd_same)
  exact ⟨⟨S.len, S.sub, S.frz, S.own, S.ne, S.par, S.f0, S.h0, S.new, fun b u e => S.pin b u (by
    have nb : b ≠ D := fun z => by
      rw [z, hD] at e; cases e
    show upd C.pn D o b = some u
    rw [upd_ne nb]
    exact e), S.dp.keep (Same.refl F) (fun j e h => ⟨h, rfl⟩) fun b hb ⟨g1, g2, g3, g4, g5⟩ => ⟨fun o e => e, ⟨g1, g2, g3, by
      have q : upd C.pn D o b = none := g4
      rw [upd_ne (show b ≠ D from fun z => nf (z ▸ hb))] at q
      exact q, g5⟩⟩⟩, p1, p2, p3, nf⟩
end
/-- a target that binds the block's own names -/
def TgtOk (K : PySem.W.Frag) (P : List Bool) (vs : List Nat) (g : TG) (gd : DG) : Prop := ∀ (C : FC) (F H : Hp) (ρ : DEnv) (σ : L2.St) (v : V) (d : PyData) (q : DEnv → Prop), C.Tags P → Sim K C F H ρ σ → Rep K F v d → gd d ρ q →
  ∃ σ' ρ', q ρ' ∧ Sim K C F H ρ' σ' ∧ (∀ Q : L2.St → Hp → Prop, Q σ' H → g v σ H Q) ∧ L2.wipe σ' vs = L2.wipe σ vs
theorem wipe_set {σ : L2.St} {i : Nat} {x : Option V} {vs : List Nat} (h : i ∈ vs) : L2.wipe (σ.set i x) vs = L2.wipe σ vs := by
  apply List.ext_getElem?
  intro j
  by_cases hj : j ∈ vs
  · have : ∀ (σ : L2.St) (vs : List Nat), j ∈ vs → (L2.wipe σ vs)[j]? = if j < σ.length then some none else none := by
      intro σ vs
      induction vs with
      | nil => intro h; simp at h
      | cons v vs ih =>
        intro h
        unfold L2.wipe
        by_cases hv : v = j
        · subst hv
          by_cases hl : v < σ.length
          · rw [List.getElem?_set_self (by rw [wipe_length]; exact hl), if_pos hl]
          · rw [List.getElem?_eq_none (by rw [List.length_set, wipe_length]; omega), if_neg hl]
        · rw [List.getElem?_set_ne hv]
          rcases List.mem_cons.mp h with z | z
          · exact absurd z.symm hv
          · exact ih z
    rw [this _ _ hj, this _ _ hj, List.length_set]
  · rw [wipe_out hj, wipe_out hj, List.getElem?_set_ne]
    rintro rfl
    exact hj h
theorem tgt_name {K : PySem.W.Frag} {P : List Bool} {vs : List Nat} {i : Nat} (hi : i ∈ vs) (hp : P[i]? ≠ some true) : TgtOk K P vs (gName i) (gN i) := fun C F H ρ σ v d q hP S r hq =>
  ⟨σ.set i (some v), ρ.set i (some (.frz d)), hq, setF' S (noP hP hp) r, fun Q h => h, wipe_set hi⟩
def gNs : List Nat → TGs
  | [] => gNil
  | i :: r => gCons (gName i) (gNs r)
def gNs' : List Nat → DGs
  | [] => gNil'
  | i :: r => gCons' (gN i) (gNs' r)
theorem tgt_names {K : PySem.W.Frag} {P : List Bool} {vs : List Nat} {C : FC} {F H : Hp} (hP : C.Tags P) : ∀ {is : List Nat} {ρ : DEnv} {σ : L2.St} {xs : List V} {ds : List PyData} {q : DEnv → Prop}, (∀ i ∈ is, i ∈ vs ∧ P[i]? ≠ some true) → Sim K C F H ρ σ → RepAll K F xs ds → gNs' is ds ρ q →
    ∃ σ' ρ', q ρ' ∧ Sim K C F H ρ' σ' ∧ (∀ Q : L2.St → Hp → Prop, Q σ' H → gNs is xs σ H Q) ∧ L2.wipe σ' vs = L2.wipe σ vs
  | [], ρ, σ, xs, ds, q, _, S, r, h => by
    cases r with
    | nil => exact ⟨σ, ρ, h, S, fun Q h => ⟨rfl, h⟩, rfl⟩
    | cons _ _ => exact h.elim
  | i :: is, ρ, σ, xs, ds, q, hi, S, r, h => by
    cases r with
    | nil => exact h.elim
    | cons r1 r2 =>
      obtain ⟨h1, h2⟩ := hi i List.mem_cons_self
      obtain ⟨σ', ρ', q', S', k', w'⟩ := tgt_names hP (fun j hj => hi j (List.mem_cons_of_mem _ hj)) (setF' S (noP hP h2) r1) r2 h
      exact ⟨σ', ρ', q', S', fun Q z => ⟨_, _, rfl, k' Q z⟩, w'.trans (wipe_set h1)⟩
theorem tgt_tup {K : PySem.W.Frag} {P : List Bool} {vs is : List Nat} {n : Nat} (hi : ∀ i ∈ is, i ∈ vs ∧ P[i]? ≠ some true) : TgtOk K P vs (gTup K n (gNs is)) (gTup' n (gNs' is)) := fun C F H ρ σ v d q hP S r hq => by
  cases r with
  | tup hs hr =>
    obtain ⟨σ', ρ', q', S', k', w'⟩ := tgt_names hP hi S hr hq.2
    exact ⟨σ', ρ', q', S', fun Q z => ⟨_, _, rfl, sqT_mono S.sub hs, by rw [hr.length]; exact hq.1, k' Q z⟩, w'⟩
  | _ => exact hq.elim
/-- readings over any pinned context -/
def lE' (K : PySem.W.Frag) (P : List Bool) (t : DE) : TE := fun σ H Q => ∃ C : FC, C.Tags P ∧ lE K C t σ H Q
def lT' (K : PySem.W.Frag) (P : List Bool) (t : DT) : TT := fun σ H Q => ∃ C : FC, C.Tags P ∧ lT K C t σ H Q
theorem pe' {X : Cx} {P : List Bool} {e : Expr} {t : DE} (h : ∀ C : FC, C.Tags P → QE X C e t) : PE X e (lE' X.K P t) := ⟨fun pins s σ H Q I ⟨C, hP, hq⟩ => (h C hP).pe.run pins s σ H Q I hq⟩
def dYes : DT := fun ρ Q => Q true ρ
structure QTs (X : Cx) (C : FC) (ifs : List Expr) (t : DT) : Prop where
  pts : PTs X ifs (lT X.K C t)
theorem ts_nil {X : Cx} {C : FC} : QTs X C [] dYes := ⟨⟨fun pins s σ H Q I ⟨F, ρ, q, S, ht, k⟩ => pts_nil.run pins s σ H Q I (k _ _ _ _ ht S (Same.refl F))⟩⟩
theorem ts_one {X : Cx} {C : FC} {c : Expr} {t : DT} (h : QT X C c t) : QTs X C [c] t := ⟨pts_one h.pt⟩
theorem pts' {X : Cx} {P : List Bool} {e : List Expr} {t : DT} (h : ∀ C : FC, C.Tags P → QTs X C e t) : PTs X e (lT' X.K P t) := ⟨fun pins s σ H Q I ⟨C, hP, hq⟩ => (h C hP).pts.run pins s σ H Q I hq⟩
def dLcL (P : List Bool) (g : DG) (tt : DT) (te : DE) (vs : List Nat) (Q : PyData → DEnv → Prop) : List PyData → List PyData → DEnv → Prop
  | [], acc, ρ => Q (.list acc) ρ
  | d :: ds, acc, ρ => g d (wipeE ρ vs) fun ρ2 => tt ρ2 fun b ρ3 => by2 b (te ρ3 fun o ρ4 => share P ρ4 o fun e ρ5 => acc.length < big ∧ dLcL P g tt te vs Q ds (acc ++ [e]) (restE ρ5 ρ vs)) (dLcL P g tt te vs Q ds acc (restE ρ3 ρ vs))
def dLc (P : List Bool) (ti : DI) (g : DG) (tt : DT) (te : DE) (vs : List Nat) : DO := fun ρ Q => ti ρ fun ds ρ1 => dLcL P g tt te vs Q ds [] ρ1
section
variable {X : Cx} {C : FC} {P : List Bool}
/-- what a comprehension asks of its iterator -/
def lcBody (g : TG) (tt : TT) (te : TE) (vs : List Nat) (σ : L2.St) (Q : VK) (J : It) (H1 : Hp) : Prop := ∀ D, H1 D = none → ∃ W : Nat → Nat → Hp → Prop, (∃ m, W 0 m (upd H1 D (.lst []))) ∧ ∀ i m H, W i m H →
  (J.stop i H ∧ Q (.ref D) H) ∨ (J.go i H ∧ ∃ Nx : Hp → Prop, (∀ H', Nx H' → ∃ m', m' < m ∧ W (i + 1) m' H') ∧ ∀ x H', J.yld i H x H' → g x (L2.wipe σ vs) H' fun σ2 H2 => L2.wipe σ2 vs = L2.wipe σ vs ∧ tt σ2 H2 fun b H3 =>
    if b = true then te σ2 H3 fun y H4 => ∃ acc, H4 D = some (.lst acc) ∧ acc.length < sizeLine ∧ Nx (upd H4 D (.lst (acc ++ [y]))) else Nx H3)
theorem lc_bodyG {g : TG} {gd : DG} {tt : DT} {te : DE} {vs : List Nat} (hP : C.Tags P) (tg : TgtOk X.K P vs g gd) (hvs : ∀ v ∈ vs, P[v]? ≠ some true) {σ : L2.St} {Q : VK} {F F1 H1 : Hp} {ρ1 : DEnv} {ds : List PyData} {J : It} {q : PyData → DEnv → Prop}
    (s1 : Same F F1) (S1 : Sim X.K C F1 H1 ρ1 σ) (iok : ∀ F2 H2 ρ2, Same F1 F2 → Sim X.K C F2 H2 ρ2 σ → J.stop ds.length H2 ∧ ∀ (i : Nat) d, ds[i]? = some d → J.go i H2 ∧ ∀ x H3, J.yld i H2 x H3 → ∃ F3, Gr F2 H2 F3 H3 ∧ Rep X.K F3 x d) (h1 : dLcL P gd tt te vs q ds [] ρ1) (k : ∀ d ρ' F' H' a, q d ρ' → Sim X.K C F' H' ρ' σ → Same F F' → Fresh X.K C F' H' ρ' σ a d → Q (.ref a) H') :
    lcBody g (lT' X.K P tt) (lE' X.K P te) vs σ Q J H1 := by
  have nP : ∀ v ∈ vs, ¬ C.isP v := fun v hv => noP hP (hvs v hv)
  intro D hD
  have pnD : C.pn D = none := S1.pnone hD
  refine ⟨fun i m H => m + i = ds.length ∧ ∃ F' ρ' acc xs, Sim X.K (C.pin D (.lst xs)) F' H ρ' σ ∧ RepAll X.K F' xs acc ∧ C.H0 D = none ∧ Same F1 F' ∧ dLcL P gd tt te vs q (ds.drop i) acc ρ', ⟨ds.length, rfl, F1, ρ1, [], [], ?_, .nil, S1.h0none hD, Same.refl F1, h1⟩, fun i m H ⟨hm, F2, ρ2, acc, xs, S2, rA, h0D, s2, w2⟩ => ?_⟩
  · obtain ⟨a, b, c, c', d, f⟩ := S1.lay hD (o := .lst [])
    exact a.pinned upd_same b d f
  obtain ⟨S2', hD2, fD2, oD2, nD2⟩ := Sim.unpinned pnD S2
  obtain ⟨st, go⟩ := iok F2 H ρ2 s2 S2'
  by_cases hi : i < ds.length
  · rw [List.drop_eq_getElem_cons hi] at w2
    obtain ⟨g1, y1⟩ := go i ds[i] (List.getElem?_eq_getElem hi)
    refine .inr ⟨g1, fun H' => ∃ F' ρ' acc xs, Sim X.K (C.pin D (.lst xs)) F' H' ρ' σ ∧ RepAll X.K F' xs acc ∧ C.H0 D = none ∧ Same F1 F' ∧ dLcL P gd tt te vs q (ds.drop (i + 1)) acc ρ', fun H' h => ⟨m - 1, by omega, by omega, h⟩, fun x H' hy => ?_⟩
    obtain ⟨F3, gr, r⟩ := y1 x H' hy
    have S3 := S2.grow gr
    have nP' : ∀ v ∈ vs, ¬ (C.pin D (.lst xs)).isP v := nP
    obtain ⟨σ4, ρ4, w4, S4, k4, wp⟩ := tg (C.pin D (.lst xs)) F3 H' _ _ x ds[i] _ (FC.pin_tags hP) (S3.wipe nP') r w2
    refine k4 _ ⟨by rw [wp]; exact wipe_wipe, C.pin D (.lst xs), FC.pin_tags hP, F3, ρ4, _, S4, w4, fun b ρ5 F5 H5 h5 S5 s5 => ?_⟩
    have wp' : L2.wipe σ4 vs = L2.wipe σ vs := by rw [wp]; exact wipe_wipe
    cases b with
    | false =>
      dsimp only
      rw [if_neg Bool.false_ne_true]
      exact ⟨F5, _, acc, xs, S3.unwipe nP' S5 wp' s5, rA.mono (gr.f.trans s5), h0D, (s2.trans gr.f).trans s5, h5⟩
    | true =>
      dsimp only
      rw [if_pos rfl]
      refine ⟨C.pin D (.lst xs), FC.pin_tags hP, F5, ρ5, _, S5, h5, fun o ρ6 F6 H6 v h6 S6 s6 d6 => ?_⟩
      obtain ⟨e, ρ7, F7, ⟨hlen, w7⟩, S7, s7, r7⟩ := S6.share (FC.pin_tags hP) d6 h6
      obtain ⟨S7', hD7, fD7, oD7⟩ := Sim.unpinned pnD S7
      have fx : Same F2 F7 := ((gr.f.trans s5).trans s6).trans s7
      refine ⟨xs, hD7, ?_, ?_⟩
      · rw [rA.length]; exact lt_line hlen
      · have S8 := S3.unwipe nP' S7 wp' ((s5.trans s6).trans s7)
        obtain ⟨S8', hD8, fD8, oD8, nD8⟩ := Sim.unpinned pnD S8
        -- the list at D grows
        have S9 : Sim X.K (C.pin D (.lst (xs ++ [v]))) F7 (upd H6 D (.lst (xs ++ [v]))) (restE ρ7 ρ2 vs) σ := by
          refine Sim.pinned (C := C) ⟨S8'.len, fun b o e => ?_, S8'.frz, fun j e' hj => ?_, S8'.ne, S8'.par, S8'.f0, fun b o e hb => ?_, S8'.new, fun b o e => ?_, S8'.dp.upd nD8⟩ upd_same fD8 oD8 (S8'.dp.updF nD8)
          · rw [upd_ne (ne_of_none e fD8)]; exact S8'.sub b o e
          · obtain ⟨b, g1, g2, g3, g4⟩ := S8'.own j e' hj
            have nb : b ≠ D := fun z => oD8 j e' hj (z ▸ g1)
            exact ⟨b, g1, g2, g3.mono (Same.refl _) fun o ho => by rw [upd_ne nb]; exact ho, g4⟩
          · have nb : b ≠ D := fun z => by rw [z, h0D] at e; cases e
            rw [upd_ne nb]; exact S8'.h0 b o e hb
          · obtain ⟨g1, g2, g3⟩ := S8'.pin b o e
            have nb : b ≠ D := fun z => by rw [z, pnD] at e; cases e
            exact ⟨by rw [upd_ne nb]; exact g1, g2, g3⟩
        exact ⟨F7, _, acc ++ [e], xs ++ [v], S9, (rA.mono fx).append (.cons r7 .nil), h0D, s2.trans fx, w7⟩
  · rw [List.drop_eq_nil_of_le (by omega)] at w2
    have e : i = ds.length := by omega
    subst e
    exact .inl ⟨st, k _ _ _ _ _ w2 S2' (s1.trans s2) ⟨fD2, ⟨xs, hD2, rA⟩, h0D, pnD, oD2, nD2⟩⟩
where
  wipe_wipe {σ : L2.St} {vs : List Nat} : L2.wipe (L2.wipe σ vs) vs = L2.wipe σ vs := by
    apply List.ext_getElem?
    intro j
    by_cases hj : j ∈ vs
    · have : ∀ (σ : L2.St) (vs : List Nat), j ∈ vs → (L2.wipe σ vs)[j]? = if j < σ.length then some none else none := by
        intro σ vs
        induction vs with
        | nil => intro h; simp at h
        | cons v vs ih =>
          intro h
          unfold L2.wipe
          by_cases hv : v = j
          · subst hv
            by_cases hl : v < σ.length
            · rw [List.getElem?_set_self (by rw [wipe_length]; exact hl), if_pos hl]
            · rw [List.getElem?_eq_none (by rw [List.length_set, wipe_length]; omega), if_neg hl]
          · rw [List.getElem?_set_ne hv]
            rcases List.mem_cons.mp h with z | z
            · exact absurd z.symm hv
            · exact ih z
      rw [this _ _ hj, this _ _ hj, wipe_length]
    · rw [wipe_out hj]
theorem lc_body {g : TG} {gd : DG} {tt : DT} {te : DE} {vs : List Nat} (hP : C.Tags P) (tg : TgtOk X.K P vs g gd) (hvs : ∀ v ∈ vs, P[v]? ≠ some true) {σ : L2.St} {Q : VK} {F F1 H1 : Hp} {ρ1 : DEnv} {ds : List PyData} {J : It} {q : PyData → DEnv → Prop}
    (s1 : Same F F1) (S1 : Sim X.K C F1 H1 ρ1 σ) (iok : ItOk X.K J F1 ds) (h1 : dLcL P gd tt te vs q ds [] ρ1) (k : ∀ d ρ' F' H' a, q d ρ' → Sim X.K C F' H' ρ' σ → Same F F' → Fresh X.K C F' H' ρ' σ a d → Q (.ref a) H') :
    lcBody g (lT' X.K P tt) (lE' X.K P te) vs σ Q J H1 :=
  lc_bodyG hP tg hvs s1 S1 (fun F2 H2 ρ2 s S => iok F2 H2 s S.sub) h1 k
theorem lc_low {g : TG} {gd : DG} {ti : DI} {tt : DT} {te : DE} {vs : List Nat} (hP : C.Tags P) (tg : TgtOk X.K P vs g gd) (hvs : ∀ v ∈ vs, P[v]? ≠ some true) {σ : L2.St} {H : Hp} {Q : VK} (h : lO X.K C (dLc P ti gd tt te vs) σ H Q) :
    tLc (lI X.K C ti) g (lT' X.K P tt) (lE' X.K P te) vs σ H Q := by
  obtain ⟨F, ρ, q, S, ht, k⟩ := h
  exact ⟨F, ρ, _, S, ht, fun ds ρ1 F1 H1 J h1 S1 s1 iok => lc_body hP tg hvs s1 S1 iok h1 k⟩
variable {tg it elt : Expr} {ifs : List Expr} {scope : Scope} {own : List (Str × Nat)} {pos spos : Pos} {ti : DI} {g : TG} {gd : DG} {tt : DT} {te : DE}
/-- [..] as a new list -/
theorem o_lc (hP : C.Tags P) (hc : X.calm = true) (hN : X.N.Nodup) (hi : QI X C tg it ti) (ok : BlkOk X.N X.env.scope scope own)
    (hg : ∀ (s : Shared) (H : Hp) (Ca : Addr) (cl : List (Str × Addr)) (fp : List Addr), PG (X.blk s H scope (compEnvC scope cl Ca X.env) fp) tg g) (tgk : TgtOk X.K P (own.map (·.2)) g gd)
    (ht : ∀ (s : Shared) (H : Hp) (Ca : Addr) (cl : List (Str × Addr)) (fp : List Addr) (C' : FC), C'.Tags P → QTs (X.blk s H scope (compEnvC scope cl Ca X.env) fp) C' ifs tt)
    (he : ∀ (s : Shared) (H : Hp) (Ca : Addr) (cl : List (Str × Addr)) (fp : List Addr) (C' : FC), C'.Tags P → QE (X.blk s H scope (compEnvC scope cl Ca X.env) fp) C' elt te)
    (hvs : ∀ v ∈ own.map (·.2), P[v]? ≠ some true := by decide) (hs : ∀ x, foldedSetIterable it X.env x = pure x := by intro _; rfl) : QO X C (.ListComp elt [⟨tg, it, ifs, 0⟩] scope pos) (dLc P ti gd tt te (own.map (·.2))) :=
  QO.of (pe_lc hc hN hi.pi ok hg (fun s H Ca cl fp => pts' (ht s H Ca cl fp)) (fun s H Ca cl fp => pe' (he s H Ca cl fp)) hs) fun _ _ _ h => lc_low hP tgk hvs h
/-- y = [..] -/
theorem s_setLcO {i : Nat} {y : Str} {py : Pos} (hP : C.Tags P) (hc : X.calm = true) (hN : X.N.Nodup) (hi : QI X C tg it ti) (ok : BlkOk X.N X.env.scope scope own)
    (hg : ∀ (s : Shared) (H : Hp) (Ca : Addr) (cl : List (Str × Addr)) (fp : List Addr), PG (X.blk s H scope (compEnvC scope cl Ca X.env) fp) tg g) (tgk : TgtOk X.K P (own.map (·.2)) g gd)
    (ht : ∀ (s : Shared) (H : Hp) (Ca : Addr) (cl : List (Str × Addr)) (fp : List Addr) (C' : FC), C'.Tags P → QTs (X.blk s H scope (compEnvC scope cl Ca X.env) fp) C' ifs tt)
    (he : ∀ (s : Shared) (H : Hp) (Ca : Addr) (cl : List (Str × Addr)) (fp : List Addr) (C' : FC), C'.Tags P → QE (X.blk s H scope (compEnvC scope cl Ca X.env) fp) C' elt te)
    (hsw : swapsWith (.ListComp elt [⟨tg, it, ifs, 0⟩] scope pos) (some (.Name y py)) spos.line X.env = pure true) (hy : X.N[i]? = some y := by rfl) (hyl : X.env.scope.names.lookup y = some .local := by rfl)
    (hvs : ∀ v ∈ own.map (·.2), P[v]? ≠ some true := by decide) (hp : P[i]? ≠ some true := by decide) (hs : ∀ x, foldedSetIterable it X.env x = pure x := by intro _; rfl) :
    QS X C (.Assign [.Name y py] (.ListComp elt [⟨tg, it, ifs, 0⟩] scope pos) spos) (dSetO i (dLc P ti gd tt te (own.map (·.2)))) :=
  QS.of (ps_setLc hc hN hy hyl hsw hi.pi ok hg (fun s H Ca cl fp => pts' (ht s H Ca cl fp)) (fun s H Ca cl fp => pe' (he s H Ca cl fp)) hs) fun D σ H ⟨F, ρ, E, S, h, okE⟩ =>
    lc_low hP tgk hvs ⟨F, ρ, _, S, h, fun d ρ1 F1 H1 a hq S1 s1 fr => okE.nx _ _ _ _ hq (setO' S1 (noP hP hp) fr) s1⟩
/-- .. bound as a datum -/
theorem s_setLc {i : Nat} {y : Str} {py : Pos} (hP : C.Tags P) (hc : X.calm = true) (hN : X.N.Nodup) (hi : QI X C tg it ti) (ok : BlkOk X.N X.env.scope scope own)
    (hg : ∀ (s : Shared) (H : Hp) (Ca : Addr) (cl : List (Str × Addr)) (fp : List Addr), PG (X.blk s H scope (compEnvC scope cl Ca X.env) fp) tg g) (tgk : TgtOk X.K P (own.map (·.2)) g gd)
    (ht : ∀ (s : Shared) (H : Hp) (Ca : Addr) (cl : List (Str × Addr)) (fp : List Addr) (C' : FC), C'.Tags P → QTs (X.blk s H scope (compEnvC scope cl Ca X.env) fp) C' ifs tt)
    (he : ∀ (s : Shared) (H : Hp) (Ca : Addr) (cl : List (Str × Addr)) (fp : List Addr) (C' : FC), C'.Tags P → QE (X.blk s H scope (compEnvC scope cl Ca X.env) fp) C' elt te)
    (hsw : swapsWith (.ListComp elt [⟨tg, it, ifs, 0⟩] scope pos) (some (.Name y py)) spos.line X.env = pure true) (hy : X.N[i]? = some y := by rfl) (hyl : X.env.scope.names.lookup y = some .local := by rfl)
    (hvs : ∀ v ∈ own.map (·.2), P[v]? ≠ some true := by decide) (hp : P[i]? ≠ some true := by decide) (hs : ∀ x, foldedSetIterable it X.env x = pure x := by intro _; rfl) :
    QS X C (.Assign [.Name y py] (.ListComp elt [⟨tg, it, ifs, 0⟩] scope pos) spos) (dSet P i (dFroz (dLc P ti gd tt te (own.map (·.2))))) :=
  QS.of (ps_setLc hc hN hy hyl hsw hi.pi ok hg (fun s H Ca cl fp => pts' (ht s H Ca cl fp)) (fun s H Ca cl fp => pe' (he s H Ca cl fp)) hs) fun D σ H ⟨F, ρ, E, S, h, okE⟩ =>
    lc_low hP tgk hvs ⟨F, ρ, _, S, h, fun d ρ1 F1 H1 a hq S1 s1 fr => by
      obtain ⟨F2, s2, S2, r⟩ := S1.froze fr
      exact okE.nx _ _ _ _ hq (setF' S2 (noP hP hp) r) (s1.trans s2)⟩
end
end Dv

set_option Elab.async false
set_option linter.all false
set_option maxRecDepth 100000
set_option autoImplicit false
namespace Dv
open PySem PySem.Spec L2

/-! ### built-ins over any list -/
section
open PyProof.Rows
theorem list_mulW (l : Addr) (items : Array Value) (n : Nat) (dd : Option Addr) (sl : Array (Option Value)) (x : Int) (u : Tok) (hc0 : ¬(!Builtin.List.listFitsIndex x) = true) (hc1 : ¬items.size * x.toNat > (2 ^ 63 - 1) / 8) (hc2 : ¬Builtin.List.listTooLong (items.size * x.toNat) = true) :
    Meets (Builtin.«list.__mul__» ⟨[.ref l, .int x u], []⟩) (fun _ R s => s.heap.get? l = some { cls := .type "list", dict := dd, data := .seq items n, slots := sl } ∧ R (.ok (.ret (Value.ref s.heap.objs.size))) { s with heap := s.heap.push { cls := Value.type "list", data := Data.seq (List.foldl (fun x1 x2 => x1 ++ x2) #[] (List.replicate (if items.isEmpty = true then 0 else x.toNat) items)) }, toks := s.toks }) :=
  .of_wp fun prog w A R s h => by
    obtain ⟨hp, g, d, tk, os⟩ := s; obtain ⟨hl, h⟩ := h
    have hsz := AutoListH.joined_fits hc2
    wp_walk using wpAny_loadPart' hl; refine wpAny_ite_false (decide_eq_false (Nat.not_lt.mpr hsz)) ?_; wp_walk using wpAny_loadPart' hl; exact ⟨_, rfl, h⟩
theorem int_rmul_listW (a : Int) (t : Tok) (l : Addr) (items : Array Value) (n : Nat) (dd : Option Addr) (sl : Array (Option Value)) :
    Meets (Builtin.«int.__rmul__» ⟨[.int a t, .ref l], []⟩) (fun _ R s => s.heap.get? l = some { cls := .type "list", dict := dd, data := .seq items n, slots := sl } ∧ R (.ok (.ret Value.notImplemented)) s) :=
  .of_wp fun prog w A R s h => by obtain ⟨hp, g, d, tk, os⟩ := s; obtain ⟨hl, h⟩ := h; wp_walk using wpAny_loadPart' hl; exact ⟨_, rfl, h⟩
theorem list_extendW (l : Addr) (items : Array Value) (n : Nat) (b : Addr) (items2 : Array Value) (n2 : Nat) (dd2 : Option Addr) (sl2 : Array (Option Value)) (hc0 : ¬(!items.isEmpty && Builtin.List.listTooLong (items.size + items2.size)) = true) (hc1 : items.size ≤ sizeLine) (hs2 : items.size + items2.size ≤ sizeLine + 1) :
    Meets (Builtin.«list.extend» ⟨[.ref l, .ref b], []⟩) (fun _ R s => s.heap.get? l = some { cls := .type "list", dict := none, data := .seq items n, slots := #[] } ∧ s.heap.get? b = some { cls := .type "list", dict := dd2, data := .seq items2 n2, slots := sl2 } ∧ R (.ok (.ret Value.none)) { s with heap := s.heap.update l (Obj.mapSeq fun x => x ++ items2), toks := s.toks }) :=
  .of_wp fun prog w A R s h => by
    obtain ⟨hp, g, d, tk, os⟩ := s; obtain ⟨hl, hb, h⟩ := h; have f1 := AutoSeq1.idx_int; have f2 := AutoSeq1.sub_tuple_tuple; have f3 := AutoSeq1.sub_list_list; have f4 := AutoSeq1.sub_tuple_list; have f5 := AutoSeq1.sub_list_tuple;
    have hz' : (items ++ items2).size ≤ sizeLine + 1 := by rw [Array.size_append]; exact hs2
    wp_walk using (wpAny_updateSeq hl rfl (hz := hc1) (_hz' := hz')), wpAny_loadPart' hl, wpAny_loadPart' hb; exact ⟨_, rfl, h⟩
end
/-! ### what is walked -/
def iSeq (K : PySem.W.Frag) (tl : TE) : TI := fun σ H R => tl σ H fun x H1 => (∃ a, x = .ref a ∧ (∃ xs, SqL K H1 a xs) ∧ R (Itl K a) H1) ∨ (∃ a, x = .ref a ∧ (∃ xs, SqT K H1 a xs) ∧ R (Itt K a) H1) ∨ (∃ z, x = .str z ∧ R (Its z) H1)
theorem pi_seq {X : Cx} {tg l : Expr} {tl : TE} (hl : PE X l tl) : PI X tg l (iSeq X.K tl) := by
  refine ⟨fun pins s σ H R I h => ?_⟩
  refine thn (hl.run pins s σ H _ I h) fun v s1 ⟨x, H1, I1, r1, q1⟩ => ?_
  rcases q1 with ⟨a, e, ⟨xs, hq⟩, q⟩ | ⟨a, e, ⟨xs, hq⟩, q⟩ | ⟨z, e, q⟩
  · subst e
    cases r1
    obtain ⟨its, rv, p, hz⟩ := I1.list hq
    refine PySem.wpAny_pyIter_list p.isList ?_
    refine ⟨s1.heap.objs.size, [s1.heap.objs.size], _, _, H1, rfl, I1.kept (t' := s1.toks) fun b o e => Heap.get?_push_of_some _ e, turn_list a _, ⟨_, Heap.get?_push_size _ rfl, rfl, rfl⟩, fun b hb => ?_, q⟩
    have e : b = s1.heap.objs.size := by simpa using hb
    subst e
    exact I1.fpOk (Nat.le_refl _) (I1.hok.fresh (Nat.le_refl _))
  · subst e
    cases r1
    obtain ⟨its, rv, p, hz⟩ := I1.tuple hq
    refine PySem.wpAny_pyIter_tuple (show s1.heap.IsTuple a its.toArray from p) ?_
    refine ⟨s1.heap.objs.size, [s1.heap.objs.size], _, _, H1, rfl, I1.kept (t' := s1.toks) fun b o e => Heap.get?_push_of_some _ e, turn_tuple a _, ⟨_, Heap.get?_push_size _ rfl, rfl, rfl⟩, fun b hb => ?_, q⟩
    have e : b = s1.heap.objs.size := by simpa using hb
    subst e
    exact I1.fpOk (Nat.le_refl _) (I1.hok.fresh (Nat.le_refl _))
  · subst e
    obtain ⟨t, rfl⟩ := r1
    cases ha : z.cps.all (· < 128)
    · exact PySem.wpAny_pyIter_wide ha (pi_one (tk := s1.toks) I1 _ (turn_str _ z t "str_iterator" (.inr rfl)) ⟨_, Heap.get?_push_size _ rfl, rfl, rfl⟩ q)
    · exact PySem.wpAny_pyIter_ascii ha (pi_one (tk := s1.toks) I1 _ (turn_str _ z t "str_ascii_iterator" (.inl rfl)) ⟨_, Heap.get?_push_size _ rfl, rfl, rfl⟩ q)
/-- the signs of a text -/
def signsD (x : Str) : List PyData := x.cps.toList.map fun c => .str ⟨#[c]⟩
/-- the items of what can be walked -/
def itemsD : PyData → Option (List PyData)
  | .list ds => some ds
  | .tuple ds => some ds
  | .str x => some (signsD x)
  | _ => none
def dSeqI (P : List Bool) (t : DE) : DI := fun ρ Q => t ρ fun o ρ1 => share P ρ1 o fun d ρ2 => match itemsD d with
  | some ds => Q ds ρ2
  | none => False
section
variable {X : Cx} {C : FC} {P : List Bool} {tg l : Expr} {t : DE}
theorem itl_ok {K : PySem.W.Frag} {F0 : Hp} {a : Addr} {xs : List V} {ds : List PyData} (h : SqL K F0 a xs) (r : RepAll K F0 xs ds) : ItOk K (Itl K a) F0 ds := fun F H s0 s1 => by
  have hq : SqL K H a xs := sqL_mono s1 (sqL_mono s0 h)
  refine ⟨⟨xs, hq, by rw [r.length]; exact Nat.le_refl _⟩, fun i d hd => ?_⟩
  obtain ⟨v, hv, rv⟩ := r.get hd
  refine ⟨⟨xs, v, hq, hv⟩, fun x H' hy => ?_⟩
  obtain ⟨e, hy⟩ := hy
  subst e
  have := hy xs hq
  rw [hv] at this; cases this
  exact ⟨F, Gr.refl s1, rv.mono s0⟩
theorem itt_ok {K : PySem.W.Frag} {F0 : Hp} {a : Addr} {xs : List V} {ds : List PyData} (h : SqT K F0 a xs) (r : RepAll K F0 xs ds) : ItOk K (Itt K a) F0 ds := fun F H s0 s1 => by
  have hq : SqT K H a xs := sqT_mono s1 (sqT_mono s0 h)
  refine ⟨⟨xs, hq, by rw [r.length]; exact Nat.le_refl _⟩, fun i d hd => ?_⟩
  obtain ⟨v, hv, rv⟩ := r.get hd
  refine ⟨⟨xs, v, hq, hv⟩, fun x H' hy => ?_⟩
  obtain ⟨e, hy⟩ := hy
  subst e
  have := hy xs hq
  rw [hv] at this; cases this
  exact ⟨F, Gr.refl s1, rv.mono s0⟩
theorem its_ok {K : PySem.W.Frag} {F0 : Hp} {z : Str} : ItOk K (Its z) F0 (signsD z) := fun F H s0 s1 => by
  refine ⟨by show z.cps.size ≤ (signsD z).length; simp [signsD], fun i d hd => ?_⟩
  have hl : i < z.cps.size := by
    have := (List.getElem?_eq_some_iff.mp hd).1
    simpa [signsD] using this
  refine ⟨hl, fun x H' hy => ?_⟩
  obtain ⟨e, c, hc, hx⟩ := hy
  subst e hx
  refine ⟨F, Gr.refl s1, ?_⟩
  have : d = .str ⟨#[c]⟩ := by
    have h2 : z.cps.toList[i]? = some c := by simpa using hc
    simp only [signsD, List.getElem?_map, h2] at hd
    exact (Option.some.inj hd).symm
  subst this
  exact .str _
theorem i_seq (hP : C.Tags P) (h : QE X C l t) : QI X C tg l (dSeqI P t) := QI.of (pi_seq h.pe) fun σ H R ⟨F, ρ, q, S, ht, k⟩ => by
  refine ⟨F, ρ, _, S, ht, fun o ρ1 F1 H1 v hq S1 s1 d1 => ?_⟩
  obtain ⟨d, ρ2, F2, w, S2, s2, r⟩ := S1.share hP d1 hq
  cases r with
  | lst h1 h2 => exact .inl ⟨_, rfl, ⟨_, sqL_mono S2.sub h1⟩, k _ _ _ _ _ w S2 (s1.trans s2) (itl_ok h1 h2)⟩
  | tup h1 h2 => exact .inr (.inl ⟨_, rfl, ⟨_, sqT_mono S2.sub h1⟩, k _ _ _ _ _ w S2 (s1.trans s2) (itt_ok h1 h2)⟩)
  | str x => exact .inr (.inr ⟨_, rfl, k _ _ _ _ _ w S2 (s1.trans s2) its_ok⟩)
  | _ => exact w.elim
/-- range -/
def rangeD (lo : Int) (n : Nat) : List PyData := (List.range n).map fun i => .int (lo + (i : Nat))
theorem itr_ok {K : PySem.W.Frag} {F0 : Hp} {lo : Int} {n : Nat} : ItOk K (Itr lo n) F0 (rangeD lo n) := fun F H s0 s1 => by
  refine ⟨by show n ≤ (rangeD lo n).length; simp [rangeD], fun i d hd => ?_⟩
  have hl : i < n := by
    have := (List.getElem?_eq_some_iff.mp hd).1
    simpa [rangeD] using this
  refine ⟨hl, fun x H' hy => ?_⟩
  obtain ⟨e, hx⟩ := hy
  subst e hx
  have : d = .int (lo + (i : Nat)) := by
    simp [rangeD, List.getElem?_map, List.getElem?_range hl] at hd
    exact hd.symm
  subst this
  exact ⟨F, Gr.refl s1, .int _⟩
def dRng1 (t : DA) : DI := fun ρ Q => t ρ fun os ρ1 => withAll ρ1 os fun ds => match ds with
  | [.int n] => n < 2 ^ 62 ∧ -(2 ^ 62) ≤ n ∧ Q (rangeD 0 n.toNat) ρ1
  | _ => False
theorem i_range1 {a : Expr} {ta : DA} {p pos : Pos} (hm : X.mg "range" = none) (ha : QA X C [a] ta) (hg : Gl X "range" := by rfl) (hs : starEach [a] X.env = [(false, eval a X.env)] := by rfl) : QI X C tg (.Call (.Name "range" p) [a] [] pos) (dRng1 ta) :=
  QI.of (pi_range1 hg hm ha.pa hs) fun σ H R ⟨F, ρ, q, S, ht, k⟩ => by
    refine ⟨F, ρ, _, S, ht, fun os ρ1 F1 H1 vs hq S1 s1 d1 => ?_⟩
    obtain ⟨ds, v1, w1⟩ := S1.seeAll d1 hq
    cases v1 with
    | nil => exact w1.elim
    | @cons v _ d _ hv hr =>
      cases hr with
      | cons _ _ => cases d <;> exact w1.elim
      | nil =>
        cases d with
        | int n =>
          cases (show Rep X.K F1 v (.int n) from hv)
          exact ⟨n, rfl, w1.2.1, w1.1, k _ _ _ _ _ w1.2.2 S1 s1 itr_ok⟩
        | _ => exact w1.elim
def dRng2 (t : DA) : DI := fun ρ Q => t ρ fun os ρ1 => withAll ρ1 os fun ds => match ds with
  | [.int m, .int n] => (-(2 ^ 62) ≤ m ∧ m < 2 ^ 62 ∧ -(2 ^ 62) ≤ n ∧ n < 2 ^ 62) ∧ Q (rangeD m (n - m).toNat) ρ1
  | _ => False
theorem i_range2 {a b : Expr} {ta : DA} {p pos : Pos} (hm : X.mg "range" = none) (ha : QA X C [a, b] ta) (hg : Gl X "range" := by rfl) (hs : starEach [a, b] X.env = [(false, eval a X.env), (false, eval b X.env)] := by rfl) (hs2 : starEach [b] X.env = [(false, eval b X.env)] := by rfl) :
    QI X C tg (.Call (.Name "range" p) [a, b] [] pos) (dRng2 ta) :=
  QI.of (pi_range2 hg hm ha.pa hs hs2) fun σ H R ⟨F, ρ, q, S, ht, k⟩ => by
    refine ⟨F, ρ, _, S, ht, fun os ρ1 F1 H1 vs hq S1 s1 d1 => ?_⟩
    obtain ⟨ds, v1, w1⟩ := S1.seeAll d1 hq
    cases v1 with
    | nil => exact w1.elim
    | @cons v _ d _ hv hr =>
      cases hr with
      | nil => cases d <;> exact w1.elim
      | @cons v2 _ d2 _ hv2 hr =>
        cases hr with
        | cons _ _ => cases d <;> first | exact w1.elim | (cases d2 <;> exact w1.elim)
        | nil =>
          cases d with
          | int n =>
            cases d2 with
            | int m =>
              cases (show Rep X.K F1 v (.int n) from hv)
              cases (show Rep X.K F1 v2 (.int m) from hv2)
              exact ⟨n, m, rfl, w1.1, k _ _ _ _ _ w1.2 S1 s1 itr_ok⟩
            | _ => exact w1.elim
          | _ => exact w1.elim
/-- zip of two lists or two tuples -/
def zipD (xs ys : List PyData) : List PyData := List.zipWith (fun x y => .tuple [x, y]) xs ys
theorem zip_get {xs ys : List PyData} {i : Nat} {d : PyData} (h : (zipD xs ys)[i]? = some d) : ∃ x y, xs[i]? = some x ∧ ys[i]? = some y ∧ d = .tuple [x, y] := by
  unfold zipD at h
  rw [List.getElem?_zipWith] at h
  cases hx : xs[i]? with
  | none => rw [hx] at h; cases h
  | some x =>
    cases hy : ys[i]? with
    | none => rw [hx, hy] at h; cases h
    | some y => rw [hx, hy] at h; cases h; exact ⟨x, y, rfl, rfl, rfl⟩
theorem pair_new {K : PySem.W.Frag} {F H : Hp} {T : Addr} {x y : V} {d e : PyData} (s : Same F H) (hT : H T = none) (h1 : Rep K F x d) (h2 : Rep K F y e) : ∃ F', Gr F H F' (upd H T (.tup [x, y])) ∧ Rep K F' (.ref T) (.tuple [d, e]) := by
  have g := Gr.new (o := .tup [x, y]) s hT
  exact ⟨_, g, .tup (SqT.of upd_same) (.cons (h1.mono g.f) (.cons (h2.mono g.f) .nil))⟩
theorem itz_ok {K : PySem.W.Frag} {F0 : Hp} {a b : Addr} {xs ys : List V} {ds es : List PyData} (h : SqL K F0 a xs) (r : RepAll K F0 xs ds) (h2 : SqL K F0 b ys) (r2 : RepAll K F0 ys es) : ItOk K (Itz K a b) F0 (zipD ds es) := fun F H s0 s1 => by
  have hq : SqL K H a xs := sqL_mono s1 (sqL_mono s0 h)
  have hq2 : SqL K H b ys := sqL_mono s1 (sqL_mono s0 h2)
  refine ⟨⟨xs, ys, hq, hq2, ?_⟩, fun i d hd => ?_⟩
  · have e1 := r.length
    have e2 := r2.length
    simp only [zipD, List.length_zipWith]
    omega
  obtain ⟨d1, d2, g1, g2, e⟩ := zip_get hd
  subst e
  obtain ⟨v, hv, rv⟩ := r.get g1
  obtain ⟨v2, hv2, rv2⟩ := r2.get g2
  refine ⟨⟨xs, ys, v, v2, hq, hq2, hv, hv2⟩, fun x H' hy => ?_⟩
  obtain ⟨T, x1, x2, e, hT, e', k1, k2⟩ := hy
  subst e e'
  have z1 := k1 xs hq
  have z2 := k2 ys hq2
  rw [hv] at z1; rw [hv2] at z2
  cases z1; cases z2
  exact pair_new s1 hT (rv.mono s0) (rv2.mono s0)
theorem itzT_ok {K : PySem.W.Frag} {F0 : Hp} {a b : Addr} {xs ys : List V} {ds es : List PyData} (h : SqT K F0 a xs) (r : RepAll K F0 xs ds) (h2 : SqT K F0 b ys) (r2 : RepAll K F0 ys es) : ItOk K (RZ.ItzT K a b) F0 (zipD ds es) := fun F H s0 s1 => by
  have hq : SqT K H a xs := sqT_mono s1 (sqT_mono s0 h)
  have hq2 : SqT K H b ys := sqT_mono s1 (sqT_mono s0 h2)
  refine ⟨⟨xs, ys, hq, hq2, ?_⟩, fun i d hd => ?_⟩
  · have e1 := r.length
    have e2 := r2.length
    simp only [zipD, List.length_zipWith]
    omega
  obtain ⟨d1, d2, g1, g2, e⟩ := zip_get hd
  subst e
  obtain ⟨v, hv, rv⟩ := r.get g1
  obtain ⟨v2, hv2, rv2⟩ := r2.get g2
  refine ⟨⟨xs, ys, v, v2, hq, hq2, hv, hv2⟩, fun x H' hy => ?_⟩
  obtain ⟨T, x1, x2, e, hT, e', k1, k2⟩ := hy
  subst e e'
  have z1 := k1 xs hq
  have z2 := k2 ys hq2
  rw [hv] at z1; rw [hv2] at z2
  cases z1; cases z2
  exact pair_new s1 hT (rv.mono s0) (rv2.mono s0)
def dZip (P : List Bool) (t : DA) : DI := fun ρ Q => t ρ fun os ρ1 => shareAll P ρ1 os fun ds ρ2 => match ds with
  | [.list xs, .list ys] => Q (zipD xs ys) ρ2
  | [.tuple xs, .tuple ys] => Q (zipD xs ys) ρ2
  | _ => False
theorem i_zip {e e2 : Expr} {ta : DA} {p pos tpos : Pos} {elts : List Expr} {kk : Nat} (hP : C.Tags P) (hm : X.mg "zip" = none) (ha : QA X C [e, e2] ta) (hg : Gl X "zip" := by rfl)
    (h : PI X (.Tuple elts kk tpos) (.Call (.Name "zip" p) [e, e2] [] pos) (RZ.iZipA X.K (lA X.K C ta)) := by exact RZ.pi_zipA hg hm ha.pa) : QI X C (.Tuple elts kk tpos) (.Call (.Name "zip" p) [e, e2] [] pos) (dZip P ta) :=
  QI.of h fun σ H R ⟨F, ρ, q, S, ht, k⟩ => by
    refine ⟨F, ρ, _, S, ht, fun os ρ1 F1 H1 vs hq S1 s1 d1 => ?_⟩
    obtain ⟨ds, ρ2, F2, w, S2, s2, r⟩ := Sim.shareAll hP S1 d1 hq
    cases r with
    | nil => exact w.elim
    | @cons v _ d _ hv hr =>
      cases hr with
      | nil => cases d <;> exact w.elim
      | @cons v2 _ d2 _ hv2 hr =>
        cases hr with
        | cons _ _ => cases d <;> first | exact w.elim | (cases d2 <;> exact w.elim)
        | nil =>
          cases hv with
          | lst a1 a2 =>
            cases hv2 with
            | lst b1 b2 => exact ⟨_, _, _, _, rfl, .inl ⟨sqL_mono S2.sub a1, sqL_mono S2.sub b1, k _ _ _ _ _ w S2 (s1.trans s2) (itz_ok a1 a2 b1 b2)⟩⟩
            | _ => exact w.elim
          | tup a1 a2 =>
            cases hv2 with
            | tup b1 b2 => exact ⟨_, _, _, _, rfl, .inr ⟨sqT_mono S2.sub a1, sqT_mono S2.sub b1, k _ _ _ _ _ w S2 (s1.trans s2) (itzT_ok a1 a2 b1 b2)⟩⟩
            | _ => exact w.elim
          | _ => exact w.elim
end
/-! ### methods that turn an owned object -/
def tyD (T : String) : PyData → Prop
  | .str _ => T = "str"
  | .list _ => T = "list"
  | .int _ => T = "int"
  | _ => False
theorem View.ty {K : PySem.W.Frag} {F H : Hp} {v : V} {d : PyData} {T : String} (h : View K F H v d) (t : tyD T d) : tyV K T v H := by
  cases d with
  | str x => cases (show Rep K F v (.str x) from h); exact t
  | int x => cases (show Rep K F v (.int x) from h); exact t
  | list xs => obtain ⟨a, ys, e, h1, _⟩ := h; subst e; exact .inl ⟨t, _, h1⟩
  | _ => exact t.elim
abbrev OpM := PyData → List PyData → (PyData → PyData → Prop) → Prop
def MutOk (X : Cx) (r : V → List V → Hp → VK → Prop) (f : OpM) : Prop := ∀ F H a vs d ds (q : PyData → PyData → Prop) (Q : VK), Same F H → F a = none → Own X.K F H a d → RepAll X.K F vs ds → f d ds q →
  (∀ d' g o v, q d' g → Own X.K F (upd H a o) a d' → Rep X.K F v g → Q v (upd H a o)) → r (.ref a) vs H Q
def dMut (P : List Bool) (T : String) (i : Nat) (f : OpM) (a : DA) : DE := fun ρ Q => match ρ[i]? with
  | some (some (.own d0)) => tyD T d0 ∧ a ρ fun os ρ1 => shareAll P ρ1 os fun ds ρ2 => match ρ2[i]? with
    | some (some (.own d)) => f d ds fun d' g => Q (.val g) (ρ2.set i (some (.own d')))
    | _ => False
  | _ => False
def dMut0 (T : String) (i : Nat) (f : OpM) : DE := fun ρ Q => match ρ[i]? with
  | some (some (.own d)) => tyD T d ∧ f d [] fun d' g => Q (.val g) (ρ.set i (some (.own d')))
  | _ => False
section
variable {X : Cx} {C : FC} {P : List Bool} {T id : String} {name x : Str} {r : V → List V → Hp → VK → Prop} {f : OpM} {i : Nat} {e : Expr} {es : List Expr} {ta : DA} {p apos cpos : Pos}
theorem own_split {ρ : DEnv} {i : Nat} {k : PyData → Prop} (h : match ρ[i]? with
    | some (some (.own d)) => k d
    | _ => False) : ∃ d, ρ[i]? = some (some (.own d)) ∧ k d := by
  cases q : ρ[i]? with
  | none => rw [q] at h; exact h.elim
  | some y =>
    cases y with
    | none => rw [q] at h; exact h.elim
    | some z =>
      cases z with
      | frz d => rw [q] at h; exact h.elim
      | own2 d => rw [q] at h; exact h.elim
      | own d => rw [q] at h; exact ⟨d, rfl, h⟩
theorem Own.view {K : PySem.W.Frag} {F H : Hp} {a : Addr} {d : PyData} (h : Own K F H a d) : View K F H (.ref a) d := by
  cases d with
  | list xs => obtain ⟨ys, e, r⟩ := h; exact ⟨a, ys, rfl, SqL.of e, r⟩
  | dict xs =>
    rcases h with ⟨ys, e, r⟩ | ⟨w, ys, n, e, r⟩
    · exact ⟨a, rfl, .inl ⟨ys, .inl e, r⟩⟩
    · exact ⟨a, rfl, .inr (.inl ⟨w, ys, n, .inl e, r⟩)⟩
  | _ => exact h.elim
theorem m_mut (hP : C.Tags P) (pa : PlainAttrs T) (slot : Slot T name id) (hty : typeOf (.builtin id) = pure (.type "method_descriptor")) (hm : MtR X id r) (ok : MutOk X r f) (ha : QA X C (e :: es) ta)
    (hv : PE X (.Name x p) (tVar i)) (hbase : attributeBase (.Name x p) name X.env (eval (.Name x p) X.env) = eval (.Name x p) X.env := by rfl)
    (hfew : ((backTo cpos (starEach (e :: es) X.env)).all (fun x => !x.1) && (backToKw cpos (keywordEach [] X.env)).all (fun x => x.1.isSome)
      && decide ((e :: es).length + ([] : List Keyword).length + (if ([] : List Keyword).isEmpty then 0 else 1) < 30)) = true := by rfl)
    (hline : (apos.endLine == cpos.line) = true := by rfl) (hs : starEach (e :: es) X.env = (false, eval e X.env) :: starEach es X.env := by rfl) (hplain : (backTo cpos (starEach es X.env)).any (·.1) = false := by rfl) :
    QE X C (.Call (.Attribute (.Name x p) name apos) (e :: es) [] cpos) (dMut P T i f ta) :=
  QE.of (pe_bm pa slot hty hm hv ha.pa hbase hfew hline hs hplain) fun σ H Q ⟨F, ρ, q, S, ht, k⟩ => by
    obtain ⟨d0, hd0, ty, ht⟩ := own_split ht
    obtain ⟨a, g1, g2, g3, _⟩ := S.own i d0 hd0
    refine ⟨.ref a, g1, View.ty (Own.view g3) ty, F, ρ, _, S, ht, fun os ρ1 F1 H1 vs h1 S1 s1 d1 => ?_⟩
    obtain ⟨ds, ρ2, F2, w, S2, s2, rr⟩ := Sim.shareAll hP S1 d1 h1
    obtain ⟨d, hd, w⟩ := own_split w
    obtain ⟨a', e1, e2, e3, _⟩ := S2.own i d hd
    rw [g1] at e1; cases e1
    exact ok F2 H1 a vs d ds _ Q S2.sub e2 e3 rr w fun d' g o v hq hO hr => k _ _ _ _ _ hq (S2.turn hd g1 hO) (s1.trans s2) hr
theorem m_mut0 (pa : PlainAttrs T) (slot : Slot T name id) (hty : typeOf (.builtin id) = pure (.type "method_descriptor")) (hm : MtR X id r) (ok : MutOk X r f)
    (hv : PE X (.Name x p) (tVar i)) (hbase : attributeBase (.Name x p) name X.env (eval (.Name x p) X.env) = eval (.Name x p) X.env := by rfl) (hline : (apos.endLine == cpos.line) = true := by rfl) :
    QE X C (.Call (.Attribute (.Name x p) name apos) [] [] cpos) (dMut0 T i f) :=
  QE.of (pe_bm0 pa slot hty hm hv hbase hline) fun σ H Q ⟨F, ρ, q, S, ht, k⟩ => by
    obtain ⟨d, hd, ty, w⟩ := own_split ht
    obtain ⟨a, g1, g2, g3, _⟩ := S.own i d hd
    exact ⟨.ref a, g1, View.ty (Own.view g3) ty, ok F H a [] d [] _ Q S.sub g2 g3 .nil w fun d' g o v hq hO hr => k _ _ _ _ _ hq (S.turn hd g1 hO) (Same.refl F) hr⟩
/-- o.m(e, ..) of a built-in, o is only looked at -/
def dBM (T : String) (f : OpN) (o : DE) (a : DA) : DE := fun ρ Q => o ρ fun o1 ρ1 => withO ρ1 o1 fun d0 => tyD T d0 ∧ a ρ1 fun os ρ2 => withO ρ2 o1 fun d => withAll ρ2 os fun ds => f (d :: ds) fun g => Q (.val g) ρ2
def dBM0 (T : String) (f : OpN) (o : DE) : DE := fun ρ Q => o ρ fun o1 ρ1 => withO ρ1 o1 fun d => tyD T d ∧ f [d] fun g => Q (.val g) ρ1
def MtOk (X : Cx) (r : V → List V → Hp → VK → Prop) (f : OpN) : Prop := ∀ F H v vs d ds q Q, Same F H → View X.K F H v d → ViewAll X.K F H vs ds → f (d :: ds) q → Kont X.K F H q Q → r v vs H Q
variable {o : Expr} {to : DE} {f' : OpN}
theorem m_look (pa : PlainAttrs T) (slot : Slot T name id) (hty : typeOf (.builtin id) = pure (.type "method_descriptor")) (hm : MtR X id r) (ok : MtOk X r f') (ho : QE X C o to) (ha : QA X C (e :: es) ta)
    (hbase : attributeBase o name X.env (eval o X.env) = eval o X.env := by rfl)
    (hfew : ((backTo cpos (starEach (e :: es) X.env)).all (fun x => !x.1) && (backToKw cpos (keywordEach [] X.env)).all (fun x => x.1.isSome)
      && decide ((e :: es).length + ([] : List Keyword).length + (if ([] : List Keyword).isEmpty then 0 else 1) < 30)) = true := by rfl)
    (hline : (apos.endLine == cpos.line) = true := by rfl) (hs : starEach (e :: es) X.env = (false, eval e X.env) :: starEach es X.env := by rfl) (hplain : (backTo cpos (starEach es X.env)).any (·.1) = false := by rfl) :
    QE X C (.Call (.Attribute o name apos) (e :: es) [] cpos) (dBM T f' to ta) :=
  QE.of (pe_bm pa slot hty hm ho.pe ha.pa hbase hfew hline hs hplain) fun σ H Q ⟨F, ρ, q, S, ht, k⟩ => by
    refine ⟨F, ρ, _, S, ht, fun o1 ρ1 F1 H1 v h1 S1 s1 d1 => ?_⟩
    obtain ⟨d0, v0, ty, h1⟩ := S1.see d1 h1
    refine ⟨v0.ty ty, F1, ρ1, _, S1, h1, fun os ρ2 F2 H2 vs h2 S2 s2 d2 => ?_⟩
    obtain ⟨d, vd, h2⟩ := S2.see (d1.mono s2) h2
    obtain ⟨ds, vds, h2⟩ := S2.seeAll d2 h2
    exact ok F2 H2 v vs d ds _ Q S2.sub vd vds h2 (kont_of (ρ1 := ρ1) (F1 := F1) (H1 := H1) S2 (s1.trans s2) k)
theorem m_look0 (pa : PlainAttrs T) (slot : Slot T name id) (hty : typeOf (.builtin id) = pure (.type "method_descriptor")) (hm : MtR X id r) (ok : MtOk X r f') (ho : QE X C o to)
    (hbase : attributeBase o name X.env (eval o X.env) = eval o X.env := by rfl) (hline : (apos.endLine == cpos.line) = true := by rfl) : QE X C (.Call (.Attribute o name apos) [] [] cpos) (dBM0 T f' to) :=
  QE.of (pe_bm0 pa slot hty hm ho.pe hbase hline) fun σ H Q ⟨F, ρ, q, S, ht, k⟩ => by
    refine ⟨F, ρ, _, S, ht, fun o1 ρ1 F1 H1 v h1 S1 s1 d1 => ?_⟩
    obtain ⟨d0, v0, ty, h1⟩ := S1.see d1 h1
    exact ⟨v0.ty ty, ok F1 H1 v [] d0 [] _ Q S1.sub v0 .nil h1 (kont_of (ρ1 := ρ1) (F1 := F1) (H1 := H1) S1 s1 k)⟩
/-! ### o[i] = v on an owned object -/
abbrev OpS := PyData → PyData → PyData → (PyData → Prop) → Prop
def SetOk (X : Cx) (t : TSet) (f : OpS) : Prop := ∀ F H a iv v d di dv (q : PyData → Prop) (Q : Hp → Prop), Same F H → F a = none → Own X.K F H a d → View X.K F H iv di → Rep X.K F v dv → f d di dv q →
  (∀ d' o, q d' → Own X.K F (upd H a o) a d' → Q (upd H a o)) → t (.ref a) iv v H Q
def dSetIx (P : List Bool) (i : Nat) (f : OpS) (tv ti : DE) : DS := fun E ρ => tv ρ fun ov ρ1 => share P ρ1 ov fun dv ρ2 => match ρ2[i]? with
  | some (some (.own _)) => ti ρ2 fun oi ρ3 => withO ρ3 oi fun di => match ρ3[i]? with
    | some (some (.own d)) => f d di dv fun d' => E.nx (ρ3.set i (some (.own d')))
    | _ => False
  | _ => False
theorem s_setIx {ix val : Expr} {ti tv : DE} {t : TSet} {f : OpS} {tpos pos : Pos} (hP : C.Tags P) (hset : PSet X t) (ok : SetOk X t f) (hval : QE X C val tv) (hix : QE X C ix ti) (hv : PE X (.Name x p) (tVar i))
    (hasg : ∀ v, assign (.Subscript (.Name x p) ix tpos) X.env v = (do
      let ov ← holding [v] (eval (.Name x p) X.env)
      let iv ← holding [v, ov] (eval ix X.env)
      standAt tpos
      holding [v, ov, iv] (setItem ov iv v)
      release [v, ov, iv] []) := by intro _; rfl)
    (hs : swapsWithSole [.Subscript (.Name x p) ix tpos] val pos.line X.env = pure false := by rfl) (hw : swappedStores [.Subscript (.Name x p) ix tpos] val X.env = pure none := by rfl)
    (h1 : (assignEach [.Subscript (.Name x p) ix tpos] X.env).map (·.2) = [assign (.Subscript (.Name x p) ix tpos) X.env] := by rfl) : QS X C (.Assign [.Subscript (.Name x p) ix tpos] val pos) (dSetIx P i f tv ti) :=
  QS.of (ps_asg hval.pe (pg_sub hv hix.pe hset hasg) hs hw h1) fun D σ H ⟨F, ρ, E, S, ht, okE⟩ => by
    refine ⟨F, ρ, _, S, ht, fun ov ρ1 F1 H1 v hq S1 s1 d1 => ?_⟩
    obtain ⟨dv, ρ2, F2, w, S2, s2, rv⟩ := S1.share hP d1 hq
    obtain ⟨d0, hd0, w⟩ := own_split w
    obtain ⟨a, g1, g2, g3, _⟩ := S2.own i d0 hd0
    refine ⟨.ref a, g1, F2, ρ2, _, S2, w, fun oi ρ3 F3 H3 iv hq3 S3 s3 d3 => ?_⟩
    obtain ⟨di, vi, w3⟩ := S3.see d3 hq3
    obtain ⟨d, hd, w3⟩ := own_split w3
    obtain ⟨a', e1, e2, e3, _⟩ := S3.own i d hd
    rw [g1] at e1; cases e1
    exact ok F3 H3 a iv v d di dv _ _ S3.sub e2 e3 vi (rv.mono s3) w3 fun d' o hq hO => okE.nx _ _ _ _ hq (S3.turn hd g1 hO) ((s1.trans s2).trans s3)
end
end Dv

set_option Elab.async false
set_option linter.all false
set_option maxRecDepth 100000
set_option autoImplicit false
namespace Dv
open PySem PySem.Spec L2

section
variable {X : Cx}
/-! ### arithmetic -/
/-- what the left and the right operand are -/
theorem view_int {K : PySem.W.Frag} {F H : Hp} {v : V} {i : Int} (h : View K F H v (.int i)) : v = .int i := by cases (show Rep K F v (.int i) from h); rfl
theorem view_bl {K : PySem.W.Frag} {F H : Hp} {v : V} {i : Bool} (h : View K F H v (.bool i)) : v = .bl i := by cases (show Rep K F v (.bool i) from h); rfl
theorem view_str {K : PySem.W.Frag} {F H : Hp} {v : V} {i : Str} (h : View K F H v (.str i)) : v = .str i := by cases (show Rep K F v (.str i) from h); rfl
theorem view_non {K : PySem.W.Frag} {F H : Hp} {v : V} (h : View K F H v .none) : v = .non := by cases (show Rep K F v .none from h); rfl
theorem view_tup {K : PySem.W.Frag} {F H : Hp} {v : V} {ds : List PyData} (s : Same F H) (h : View K F H v (.tuple ds)) : ∃ a xs, v = .ref a ∧ SqT K H a xs ∧ RepAll K F xs ds ∧ Rep K F v (.tuple ds) := by
  have h' : Rep K F v (.tuple ds) := h
  cases h' with
  | tup a b => exact ⟨_, _, rfl, sqT_mono s a, b, .tup a b⟩
def addD : Op2 := fun d e k => match d, e with
  | .int i, .int j => k (.int (i + j))
  | .str x, .str y => x.length + y.length ≤ big ∧ k (.str (x ++ y))
  | .tuple xs, .tuple ys => xs.length + ys.length ≤ big ∧ k (.tuple (xs ++ ys))
  | _, _ => False
def rAddA (K : PySem.W.Frag) : R2 := fun x y H Q => rI0 (fun i j => .int (i + j)) x y H Q ∨ (∃ i j, x = .str i ∧ y = .str j ∧ i.length + j.length ≤ sizeLine ∧ Q (.str (i ++ j)) H) ∨ rCatA K x y H Q
theorem op_addA : OpR X (binaryOp .Add) (rAddA X.K) := op_add.or (op_add_str.or op_catA)
theorem ok_add : OpOk X (rAddA X.K) addD := fun F H x y d e q Q s v1 v2 w k => by
  cases d with
  | int i =>
    cases e with
    | int j => rw [view_int v1, view_int v2]; exact .inl ⟨i, j, rfl, rfl, k _ _ _ _ w (Gr.refl s) (.int _)⟩
    | _ => exact w.elim
  | str i =>
    cases e with
    | str j => rw [view_str v1, view_str v2]; exact .inr (.inl ⟨i, j, rfl, rfl, le_line w.1, k _ _ _ _ w.2 (Gr.refl s) (.str _)⟩)
    | _ => exact w.elim
  | tuple xs =>
    cases e with
    | tuple ys =>
      obtain ⟨a, us, e1, h1, r1, p1⟩ := view_tup s v1
      obtain ⟨b, ws, e2, h2, r2, p2⟩ := view_tup s v2
      subst e1 e2
      refine .inr (.inr ⟨a, b, us, ws, rfl, rfl, h1, h2, by rw [r1.length, r2.length]; exact le_line w.1, fun z => ?_, fun z1 z2 => ?_, fun z1 z2 p hp => ?_⟩)
      · subst z
        cases r1
        exact k _ _ _ _ w.2 (Gr.refl s) p2
      · subst z2
        cases r2
        refine k _ _ _ _ w.2 (Gr.refl s) ?_
        rw [List.append_nil]; exact p1
      · have g := Gr.new (o := .tup (us ++ ws)) s hp
        exact k _ _ _ _ w.2 g (.tup (SqT.of upd_same) ((r1.append r2).mono g.f))
    | _ => exact w.elim
  | _ => exact w.elim
theorem q_add {C : FC} {a b : Expr} {pos : Pos} {ta tb : DE} (ha : QE X C a ta) (hb : QE X C b tb) : QE X C (.BinOp a .Add b pos) (dBin addD ta tb) := q_bin op_addA ok_add ha hb
/-- list + list -/
theorem Inv.lstR {pins : List (Addr × Obj)} {σ : L2.St} {H : Hp} {s : Shared} {l : Addr} {xs : List V} (I : Inv X pins σ H s) (hH : SqL X.K H l xs) :
    xs.length ≤ sizeLine ∧ ∃ (its : List Value) (n : Nat) (dd : Option Addr) (sl : Array (Option Value)), Vals xs its ∧ xs.length = its.length ∧ s.heap.get? l = some { cls := .type "list", dict := dd, data := .seq its.toArray n, slots := sl } := by
  obtain ⟨its, r, ⟨⟨c, dd, dt, sl⟩, n, e, hc, _, hd⟩, z⟩ := I.list hH
  simp only at hc hd
  subst hc hd
  exact ⟨z, its, n, dd, sl, r, r.length, e⟩
def rCatR (K : PySem.W.Frag) : R2 := fun x y H Q => ∃ l b xs zs, x = .ref l ∧ y = .ref b ∧ SqL K H l xs ∧ SqL K H b zs ∧ xs.length + zs.length ≤ sizeLine ∧ ∀ p, H p = none → Q (.ref p) (upd H p (.lst (xs ++ zs)))
open PyProof.Rows in
theorem op_catR : OpR X (binaryOp .Add) (rCatR X.K) := by
  intro pins s σ H x y v u Q I rx ry h
  obtain ⟨l, b, xs, zs, rfl, rfl, hH, hB, hz, q⟩ := h
  cases rx
  cases ry
  obtain ⟨z, its, n, dd, sl, r, hl, e⟩ := Inv.lstR I hH
  obtain ⟨z2, its2, n2, dd2, sl2, r2, hl2, e2⟩ := Inv.lstR I hB
  refine concat_meets ⟨_, e, rfl⟩ ⟨_, e2, rfl⟩ noFill_list_add seq_list_add PySem.F.slot_list_add PySem.F.entry_list_add (PySem.F.args_list_add_2 _ _) (list_addW l b its.toArray its2.toArray n n2 dd dd2 sl sl2 (by rw [List.size_toArray, List.size_toArray]; omega)) ⟨e, e2, ?_⟩
  have ea : its.toArray ++ its2.toArray = (its ++ its2).toArray := by simp
  rw [ea]
  exact ⟨.ref _, _, I.lnew (t' := s.toks) (r.append r2) (by rw [List.length_append]; omega), rfl, q _ I.fresh⟩
def catD : Op2L := fun d e k => match d, e with
  | .list xs, .list ys => xs.length + ys.length ≤ big ∧ k (xs ++ ys)
  | _, _ => False
theorem ok_cat : OpOkL X (rCatR X.K) catD := fun F H x y d e q Q s v1 v2 w k => by
  cases d with
  | list xs =>
    cases e with
    | list ys =>
      obtain ⟨a, us, e1, h1, r1⟩ := v1
      obtain ⟨b, ws, e2, h2, r2⟩ := v2
      subst e1 e2
      exact ⟨a, b, us, ws, rfl, rfl, h1, h2, by rw [r1.length, r2.length]; exact le_line w.1, fun p hp => k _ _ p w.2 hp (r1.append r2)⟩
    | _ => exact w.elim
  | _ => exact w.elim
theorem o_cat {C : FC} {a b : Expr} {pos : Pos} {ta tb : DE} (ha : QE X C a ta) (hb : QE X C b tb) : QO X C (.BinOp a .Add b pos) (dBinL catD ta tb) := o_bin op_catR ok_cat ha hb
/-- list * int -/
def rRepR (K : PySem.W.Frag) : R2 := fun x y H Q => ∃ l k xs, x = .ref l ∧ y = .int k ∧ SqL K H l xs ∧ -(2 ^ 63) ≤ k ∧ k < 2 ^ 63 ∧ xs.length * k.toNat ≤ sizeLine ∧
  ∀ p, H p = none → Q (.ref p) (upd H p (.lst (List.replicate k.toNat xs).flatten))
open PyProof.Rows in
theorem op_repR : OpR X (binaryOp .Mult) (rRepR X.K) := by
  intro pins s σ H x y v u Q I rx ry h
  obtain ⟨l, k, xs, rfl, rfl, hH, h1, h2, hz, q⟩ := h
  cases rx
  obtain ⟨t, rfl⟩ := ry
  obtain ⟨z, its, n, dd, sl, r, hl, e⟩ := Inv.lstR I hH
  have hlen : its.toArray.size * k.toNat ≤ sizeLine := by rw [List.size_toArray, ← hl]; exact hz
  have hcap : ¬ its.toArray.size * k.toNat > (2 ^ 63 - 1) / 8 := by
    have : (sizeLine : Nat) ≤ (2 ^ 63 - 1) / 8 := by decide
    omega
  have hfit : ¬ (!Builtin.List.listFitsIndex k) = true := by
    rw [fitsIndex_both h1 h2]
    exact Bool.false_ne_true
  have hlong : ¬ Builtin.List.listTooLong (its.toArray.size * k.toNat) = true := by
    rw [notLongL hlen]
    exact Bool.false_ne_true
  have hnew : List.foldl (fun x1 x2 => x1 ++ x2) #[] (List.replicate (if its.toArray.isEmpty = true then 0 else k.toNat) its.toArray) = (List.replicate k.toNat its).flatten.toArray := by
    have f0 : ∀ m : Nat, List.foldl (fun x1 x2 => x1 ++ x2) #[] (List.replicate m its.toArray) = (List.replicate m its).flatten.toArray := fun m => by
      have := foldl_rep its m []
      rw [List.nil_append] at this
      exact this
    rw [f0]
    cases its with
    | nil => simp
    | cons a r' => rw [if_neg (by simp)]
  refine wpAny_binaryOp_repeat_ref (T := "list") (U := "int") (by decide) ⟨_, e, rfl⟩ (fun s' => typeIs_int s' k t) noFill_list_mul F.fills_int_mul F.slot_int_rmul repeat_list F.slot_int_index.lookup
    (call_meets F.slot_int_rmul (typeIs_int s k t) F.entry_int_rmul (F.args_int_rmul_2 _ _) (int_rmul_listW k t l its.toArray n dd sl)
      ⟨e, rfl, ⟨_, e, rfl⟩, call_meets F.slot_list_mul ⟨_, e, rfl⟩ F.entry_list_mul (F.args_list_mul_2 _ _) (list_mulW l its.toArray n dd sl k t hfit hcap hlong) ⟨e, ?_⟩⟩)
  rw [hnew]
  exact ⟨.ref _, _, I.lnew (t' := s.toks) (r.rep k.toNat) (by rw [PyProof.Rows.lm_len_rep_flat, Nat.mul_comm]; exact hz), rfl, q _ I.fresh⟩
def repD : Op2L := fun d e k => match d, e with
  | .list xs, .int n => -(2 ^ 63) ≤ n ∧ n < 2 ^ 63 ∧ xs.length * n.toNat ≤ big ∧ k (List.replicate n.toNat xs).flatten
  | _, _ => False
theorem RepAll.rep {K : PySem.W.Frag} {F : Hp} {xs : List V} {us : List PyData} (h : RepAll K F xs us) : ∀ k : Nat, RepAll K F (List.replicate k xs).flatten (List.replicate k us).flatten
  | 0 => .nil
  | k + 1 => by rw [List.replicate_succ, List.replicate_succ, List.flatten_cons, List.flatten_cons]; exact h.append (RepAll.rep h k)
theorem ok_rep : OpOkL X (rRepR X.K) repD := fun F H x y d e q Q s v1 v2 w k => by
  cases d with
  | list xs =>
    cases e with
    | int n =>
      obtain ⟨a, us, e1, h1, r1⟩ := v1
      subst e1
      rw [view_int v2]
      exact ⟨a, n, us, rfl, rfl, h1, w.1, w.2.1, by rw [r1.length]; exact le_line w.2.2.1, fun p hp => k _ _ p w.2.2.2 hp (r1.rep _)⟩
    | _ => exact w.elim
  | _ => exact w.elim
theorem o_rep {C : FC} {a b : Expr} {pos : Pos} {ta tb : DE} (ha : QE X C a ta) (hb : QE X C b tb) : QO X C (.BinOp a .Mult b pos) (dBinL repD ta tb) := o_bin op_repR ok_rep ha hb
/-- operations of two ints -/
def intD (c : Int → Int → Prop) (g : Int → Int → PyData) : Op2 := fun d e k => match d, e with
  | .int i, .int j => c i j ∧ k (g i j)
  | _, _ => False
theorem ok_int {c : Int → Int → Prop} {g : Int → Int → Int} : OpOk X (rI c fun i j => .int (g i j)) (intD c fun i j => .int (g i j)) := fun F H x y d e q Q s v1 v2 w k => by
  cases d with
  | int i =>
    cases e with
    | int j => rw [view_int v1, view_int v2]; exact ⟨i, j, rfl, rfl, w.1, k _ _ _ _ w.2 (Gr.refl s) (.int _)⟩
    | _ => exact w.elim
  | _ => exact w.elim
abbrev cT : Int → Int → Prop := fun _ _ => True
theorem ok_int0 {g : Int → Int → Int} : OpOk X (rI0 fun i j => .int (g i j)) (intD cT fun i j => .int (g i j)) := fun F H x y d e q Q s v1 v2 w k => by
  cases d with
  | int i =>
    cases e with
    | int j => rw [view_int v1, view_int v2]; exact ⟨i, j, rfl, rfl, k _ _ _ _ w.2 (Gr.refl s) (.int _)⟩
    | _ => exact w.elim
  | _ => exact w.elim
section
variable {C : FC} {a b : Expr} {pos : Pos} {ta tb : DE}
abbrev subD : Op2 := intD cT fun i j => .int (i - j)
abbrev mulD : Op2 := intD CMul fun i j => .int (i * j)
abbrev fdivD : Op2 := intD CDiv fun i j => .int (i / j)
abbrev modD : Op2 := intD (fun _ j => 0 < j) fun i j => .int (i % j)
abbrev powD : Op2 := intD CPow fun i j => .int (i ^ j.toNat)
theorem q_sub (ha : QE X C a ta) (hb : QE X C b tb) : QE X C (.BinOp a .Sub b pos) (dBin subD ta tb) := q_bin op_sub ok_int0 ha hb
theorem q_mul (ha : QE X C a ta) (hb : QE X C b tb) : QE X C (.BinOp a .Mult b pos) (dBin mulD ta tb) := q_bin op_mul ok_int ha hb
theorem q_fdiv (ha : QE X C a ta) (hb : QE X C b tb) : QE X C (.BinOp a .FloorDiv b pos) (dBin fdivD ta tb) := q_bin op_fdiv ok_int ha hb
theorem q_mod (ha : QE X C a ta) (hb : QE X C b tb) : QE X C (.BinOp a .Mod b pos) (dBin modD ta tb) := q_bin op_mod ok_int ha hb
theorem q_pow (ha : QE X C a ta) (hb : QE X C b tb) : QE X C (.BinOp a .Pow b pos) (dBin powD ta tb) := q_bin op_pow ok_int ha hb
/-- -a -/
def dNeg (a : DE) : DE := fun ρ Q => a ρ fun o ρ1 => withO ρ1 o fun d => match d with
  | .int i => Q (.val (.int (-i))) ρ1
  | _ => False
theorem q_neg (ha : QE X C a ta) : QE X C (.UnaryOp .USub a pos) (dNeg ta) := QE.of (pe_un un_neg ha.pe) fun σ H Q ⟨F, ρ, q, S, ht, k⟩ => by
  refine ⟨F, ρ, _, S, ht, fun o ρ1 F1 H1 v hq S1 s1 d1 => ?_⟩
  obtain ⟨d, vd, w⟩ := S1.see d1 hq
  cases d with
  | int i => rw [view_int vd]; exact ⟨i, rfl, k _ _ _ _ _ w S1 s1 (.int _)⟩
  | _ => exact w.elim
end
/-! ### order -/
def ordD (f : Int → Int → Bool) (g : List Nat → List Nat → Bool) : Op2 := fun d e k => match d, e with
  | .int i, .int j => k (.bool (f i j))
  | .str x, .str y => k (.bool (g x.cps.toList y.cps.toList))
  | _, _ => False
def rOrd (f : Int → Int → Bool) (g : List Nat → List Nat → Bool) : R2 := fun x y H Q => rI0 (fun i j => .bl (f i j)) x y H Q ∨ ∃ i j, x = .str i ∧ y = .str j ∧ Q (.bl (g i.cps.toList j.cps.toList)) H
theorem ok_ord {f : Int → Int → Bool} {g : List Nat → List Nat → Bool} : OpOk X (rOrd f g) (ordD f g) := fun F H x y d e q Q s v1 v2 w k => by
  cases d with
  | int i =>
    cases e with
    | int j => rw [view_int v1, view_int v2]; exact .inl ⟨i, j, rfl, rfl, k _ _ _ _ w (Gr.refl s) (.bl _)⟩
    | _ => exact w.elim
  | str i =>
    cases e with
    | str j => rw [view_str v1, view_str v2]; exact .inr ⟨i, j, rfl, rfl, k _ _ _ _ w (Gr.refl s) (.bl _)⟩
    | _ => exact w.elim
  | _ => exact w.elim
abbrev ltD : Op2 := ordD (fun i j => decide (i < j)) (fun x y => decide (x < y))
abbrev leD : Op2 := ordD (fun i j => decide (i ≤ j)) (fun x y => !decide (y < x))
abbrev gtD : Op2 := ordD (fun i j => decide (j < i)) (fun x y => decide (y < x))
abbrev geD : Op2 := ordD (fun i j => decide (j ≤ i)) (fun x y => !decide (x < y))
end
end Dv

set_option Elab.async false
set_option linter.all false
set_option maxRecDepth 100000
set_option autoImplicit false
namespace Dv
open PySem PySem.Spec L2
section
variable {X : Cx} {C : FC} {P : List Bool} {a b c e : Expr} {es : List Expr} {pos p : Pos} {ta tb tc : DE} {k : Nat}
theorem op_ltA : OpR X (compareOp .Lt) (rOrd (fun i j => decide (i < j)) (fun x y => decide (x < y))) := op_lt.or op_lt_str
theorem op_leA : OpR X (compareOp .LtE) (rOrd (fun i j => decide (i ≤ j)) (fun x y => !decide (y < x))) := op_le.or op_le_str
theorem op_gtA : OpR X (compareOp .Gt) (rOrd (fun i j => decide (j < i)) (fun x y => decide (y < x))) := op_gt.or op_gt_str
theorem op_geA : OpR X (compareOp .GtE) (rOrd (fun i j => decide (j ≤ i)) (fun x y => !decide (x < y))) := op_ge.or op_ge_str
theorem q_lt (ha : QE X C a ta) (hb : QE X C b tb) : QE X C (.Compare a [.Lt] [b] pos) (dBin ltD ta tb) := q_cmp op_ltA ok_ord ha hb
theorem q_le (ha : QE X C a ta) (hb : QE X C b tb) : QE X C (.Compare a [.LtE] [b] pos) (dBin leD ta tb) := q_cmp op_leA ok_ord ha hb
theorem q_gt (ha : QE X C a ta) (hb : QE X C b tb) : QE X C (.Compare a [.Gt] [b] pos) (dBin gtD ta tb) := q_cmp op_gtA ok_ord ha hb
theorem q_ge (ha : QE X C a ta) (hb : QE X C b tb) : QE X C (.Compare a [.GtE] [b] pos) (dBin geD ta tb) := q_cmp op_geA ok_ord ha hb
theorem t_lt (ha : QE X C a ta) (hb : QE X C b tb) : QT X C (.Compare a [.Lt] [b] pos) (dTest (dBin ltD ta tb)) := t_cmp op_ltA ok_ord ha hb
theorem t_le (ha : QE X C a ta) (hb : QE X C b tb) : QT X C (.Compare a [.LtE] [b] pos) (dTest (dBin leD ta tb)) := t_cmp op_leA ok_ord ha hb
theorem t_gt (ha : QE X C a ta) (hb : QE X C b tb) : QT X C (.Compare a [.Gt] [b] pos) (dTest (dBin gtD ta tb)) := t_cmp op_gtA ok_ord ha hb
theorem t_ge (ha : QE X C a ta) (hb : QE X C b tb) : QT X C (.Compare a [.GtE] [b] pos) (dTest (dBin geD ta tb)) := t_cmp op_geA ok_ord ha hb
/-! ### == of data -/
mutual
theorem Rep.dp {K : PySem.W.Frag} {F H : Hp} (s : Same F H) : ∀ {v : V} {d : PyData}, PyData.canLay0 d = true → Rep K F v d → Dp K H v d
  | _, _, _, .non => .non
  | _, _, _, .bl b => .bl b
  | _, _, _, .int i => .int i
  | _, _, _, .str x => .str x
  | _, _, h, .lst h1 r => .lst (sqL_mono s h1) (RepAll.dp s (by simpa [PyData.canLay0] using h) r)
  | _, _, h, .tup h1 r => .tup (sqT_mono s h1) (RepAll.dp s (by simpa [PyData.canLay0] using h) r)
  | _, _, h, .dct h1 r => by simp [PyData.canLay0] at h
  | _, _, h, .dcn _ h1 r => by simp [PyData.canLay0] at h
  | _, _, h, .exc _ _ _ _ => by simp [PyData.canLay0] at h
theorem RepAll.dp {K : PySem.W.Frag} {F H : Hp} (s : Same F H) : ∀ {vs : List V} {ds : List PyData}, PyData.canLayAll0 ds = true → RepAll K F vs ds → DpAll K H vs ds
  | _, _, _, .nil => .nil
  | _, _, h, .cons r t => by
    simp only [PyData.canLayAll0, Bool.and_eq_true] at h
    exact .cons (Rep.dp s h.1 r) (RepAll.dp s h.2 t)
end
theorem View.dp {K : PySem.W.Frag} {F H : Hp} {v : V} {d : PyData} (s : Same F H) (h : PyData.canLay0 d = true) (w : View K F H v d) : Dp K H v d := by
  cases d with
  | list ds => obtain ⟨a, xs, e, h1, r⟩ := w; subst e; exact .lst h1 (r.dp s (by simpa [PyData.canLay0] using h))
  | dict ds => simp [PyData.canLay0] at h
  | none => exact Rep.dp s h w
  | bool _ => exact Rep.dp s h w
  | int _ => exact Rep.dp s h w
  | str _ => exact Rep.dp s h w
  | tuple _ => exact Rep.dp s h w
abbrev shp (d : PyData) : Prop := SeqAt.shaped d = true
def eqD : Op2 := fun d e k => shp d ∧ shp e ∧ k (.bool (PyData.eqv d e))
def neD : Op2 := fun d e k => shp d ∧ shp e ∧ k (.bool (!PyData.eqv d e))
theorem ok_eq : OpOk X (rEqD X.K) eqD := fun F H x y d e q Q s v1 v2 w k =>
  ⟨d, e, v1.dp s (SeqAt.canLay_of_shaped w.1), v2.dp s (SeqAt.canLay_of_shaped w.2.1), w.1, w.2.1, k _ _ _ _ w.2.2 (Gr.refl s) (.bl _)⟩
theorem ok_ne : OpOk X (rNeD X.K) neD := fun F H x y d e q Q s v1 v2 w k =>
  ⟨d, e, v1.dp s (SeqAt.canLay_of_shaped w.1), v2.dp s (SeqAt.canLay_of_shaped w.2.1), w.1, w.2.1, k _ _ _ _ w.2.2 (Gr.refl s) (.bl _)⟩
theorem q_eq (hr : Room k X.A) (ha : QE X C a ta) (hb : QE X C b tb) : QE X C (.Compare a [.Eq] [b] pos) (dBin eqD ta tb) := q_cmp (op_eqD hr.units) ok_eq ha hb
theorem q_ne (hr : Room k X.A) (ha : QE X C a ta) (hb : QE X C b tb) : QE X C (.Compare a [.NotEq] [b] pos) (dBin neD ta tb) := q_cmp (op_neD hr.units) ok_ne ha hb
theorem t_eq (hr : Room k X.A) (ha : QE X C a ta) (hb : QE X C b tb) : QT X C (.Compare a [.Eq] [b] pos) (dTest (dBin eqD ta tb)) := t_cmp (op_eqD hr.units) ok_eq ha hb
theorem t_ne (hr : Room k X.A) (ha : QE X C a ta) (hb : QE X C b tb) : QT X C (.Compare a [.NotEq] [b] pos) (dTest (dBin neD ta tb)) := t_cmp (op_neD hr.units) ok_ne ha hb
/-! ### is None, is not None -/
def isND (pol : Bool) : Op2 := fun d e k => match e with
  | .none => match d with
    | .none => k (.bool pol)
    | _ => k (.bool (!pol))
  | _ => False
theorem view_nn {K : PySem.W.Frag} {F H : Hp} {v : V} {d : PyData} (h : View K F H v d) (hd : d ≠ .none) : v ≠ .non := by
  cases d with
  | none => exact absurd rfl hd
  | bool b => rw [view_bl h]; intro z; cases z
  | int b => rw [view_int h]; intro z; cases z
  | str b => rw [view_str h]; intro z; cases z
  | list b => obtain ⟨a, xs, e, _⟩ := h; subst e; intro z; cases z
  | dict b => obtain ⟨a, e, _⟩ := h; subst e; intro z; cases z
  | tuple b => cases (show Rep K F v (.tuple b) from h); intro z; cases z
theorem ok_isN : OpOk X (fun x y H Q => y = .non ∧ Q (.bl (decide (x = .non))) H) (isND true) := fun F H x y d e q Q s v1 v2 w k => by
  cases e with
  | none =>
    refine ⟨view_non v2, ?_⟩
    by_cases hd : d = .none
    · subst hd
      rw [view_non v1]
      exact k _ _ _ _ w (Gr.refl s) (.bl _)
    · rw [decide_eq_false (view_nn v1 hd)]
      refine k (.bool false) _ _ _ ?_ (Gr.refl s) (.bl _)
      cases d <;> first | exact absurd rfl hd | exact w
  | _ => exact w.elim
theorem ok_notN : OpOk X (fun x y H Q => y = .non ∧ Q (.bl (!decide (x = .non))) H) (isND false) := fun F H x y d e q Q s v1 v2 w k => by
  cases e with
  | none =>
    refine ⟨view_non v2, ?_⟩
    by_cases hd : d = .none
    · subst hd
      rw [view_non v1]
      exact k _ _ _ _ w (Gr.refl s) (.bl _)
    · rw [decide_eq_false (view_nn v1 hd)]
      refine k (.bool true) _ _ _ ?_ (Gr.refl s) (.bl _)
      cases d <;> first | exact absurd rfl hd | exact w
  | _ => exact w.elim
theorem q_isN (ha : QE X C a ta) (hb : QE X C b tb) : QE X C (.Compare a [.Is] [b] pos) (dBin (isND true) ta tb) := q_cmp op_isN ok_isN ha hb
theorem q_notN (ha : QE X C a ta) (hb : QE X C b tb) : QE X C (.Compare a [.IsNot] [b] pos) (dBin (isND false) ta tb) := q_cmp op_notN ok_notN ha hb
theorem t_isN (ha : QE X C a ta) (hb : QE X C b tb) : QT X C (.Compare a [.Is] [b] pos) (dTest (dBin (isND true) ta tb)) := t_cmp op_isN ok_isN ha hb
theorem t_notN (ha : QE X C a ta) (hb : QE X C b tb) : QT X C (.Compare a [.IsNot] [b] pos) (dTest (dBin (isND false) ta tb)) := t_cmp op_notN ok_notN ha hb
/-! ### in -/
def flatD : PyData → Bool
  | .none => true
  | .bool _ => true
  | .int _ => true
  | .str _ => true
  | _ => false
theorem flat_rep {K : PySem.W.Frag} {F : Hp} {v : V} {d : PyData} (h : flatD d = true) (r : Rep K F v d) : flatV v = true := by
  cases r with
  | non => rfl
  | bl _ => rfl
  | int _ => rfl
  | str _ => rfl
  | lst _ _ => cases h
  | tup _ _ => cases h
  | dct _ _ => cases h
  | dcn _ _ _ => cases h
  | exc _ _ _ _ => cases h
theorem flat_eqv {K : PySem.W.Frag} {F F' : Hp} {x y : V} {d e : PyData} (hd : flatD d = true) (he : flatD e = true) (r1 : Rep K F x d) (r2 : Rep K F' y e) : eqV x y = PyData.eqv d e := by
  cases r1 <;> cases r2 <;> first | (exfalso; simp [flatD] at hd; done) | (exfalso; simp [flatD] at he; done) | simp [eqV, PyData.eqv]
theorem flat_all {K : PySem.W.Frag} {F : Hp} : ∀ {vs : List V} {ds : List PyData}, RepAll K F vs ds → ds.all flatD = true → vs.all flatV = true
  | _, _, .nil, _ => rfl
  | _, _, .cons r t, h => by
    simp only [List.all_cons, Bool.and_eq_true] at h ⊢
    exact ⟨flat_rep h.1 r, flat_all t h.2⟩
theorem flat_any {K : PySem.W.Frag} {F F' : Hp} {x : V} {d : PyData} (hd : flatD d = true) (rx : Rep K F' x d) : ∀ {vs : List V} {ds : List PyData}, RepAll K F vs ds → ds.all flatD = true → inV x vs = ds.any fun e => PyData.eqv e d
  | _, _, .nil, _ => rfl
  | _, _, .cons r t, h => by
    simp only [List.all_cons, Bool.and_eq_true] at h
    have ih := flat_any hd rx t h.2
    unfold inV at ih ⊢
    simp only [List.any_cons]
    rw [ih, flat_eqv h.1 hd r rx]
theorem view_flat {K : PySem.W.Frag} {F H : Hp} {v : V} {d : PyData} (h : View K F H v d) (hd : flatD d = true) : Rep K F v d := by
  cases d <;> first | exact h | cases hd
def inD (pol : Bool) : Op2 := fun d e k => match e with
  | .list ds => flatD d = true ∧ ds.all flatD = true ∧ k (.bool (if pol then ds.any fun x => PyData.eqv x d else !ds.any fun x => PyData.eqv x d))
  | .tuple ds => flatD d = true ∧ ds.all flatD = true ∧ k (.bool (if pol then ds.any fun x => PyData.eqv x d else !ds.any fun x => PyData.eqv x d))
  | .str z => match d with
    | .str x => x.cps.size = 1 ∧ k (.bool (if pol then decide (x.cps.getD 0 0 ∈ z.cps.toList) else !decide (x.cps.getD 0 0 ∈ z.cps.toList)))
    | _ => False
  | _ => False
def rInA (K : PySem.W.Frag) (neg : Bool) : R2 := fun x y H Q => rIn K neg x y H Q ∨ ∃ c z, x = .str ⟨#[c]⟩ ∧ y = .str z ∧ Q (.bl (if neg then !decide (c ∈ z.cps.toList) else decide (c ∈ z.cps.toList))) H
theorem one_sign {x : Str} (h : x.cps.size = 1) : x = ⟨#[x.cps.getD 0 0]⟩ := by
  obtain ⟨c⟩ := x
  obtain ⟨l⟩ := c
  match l, h with
  | [a], _ => rfl
theorem ok_in (neg : Bool) : OpOk X (rInA X.K neg) (inD !neg) := fun F H x y d e q Q s v1 v2 w k => by
  cases e with
  | list ds =>
    obtain ⟨fd, fa, w⟩ := w
    obtain ⟨a, xs, e1, h1, r⟩ := v2
    subst e1
    have r1 := view_flat v1 fd
    refine .inl ⟨a, xs, rfl, .inl h1, flat_rep fd r1, flat_all r fa, ?_⟩
    rw [flat_any fd r1 r fa]
    refine k _ _ _ _ w (Gr.refl s) ?_
    cases neg <;> exact .bl _
  | tuple ds =>
    obtain ⟨fd, fa, w⟩ := w
    obtain ⟨a, xs, e1, h1, r, _⟩ := view_tup s v2
    subst e1
    have r1 := view_flat v1 fd
    refine .inl ⟨a, xs, rfl, .inr h1, flat_rep fd r1, flat_all r fa, ?_⟩
    rw [flat_any fd r1 r fa]
    refine k _ _ _ _ w (Gr.refl s) ?_
    cases neg <;> exact .bl _
  | str z =>
    cases d with
    | str x =>
      rw [view_str v1, view_str v2]
      refine .inr ⟨x.cps.getD 0 0, z, congrArg V.str (one_sign w.1), rfl, k _ _ _ _ w.2 (Gr.refl s) ?_⟩
      cases neg <;> exact .bl _
    | _ => exact w.elim
  | _ => exact w.elim
end
end Dv

set_option Elab.async false
set_option linter.all false
set_option maxRecDepth 100000
set_option autoImplicit false
namespace Dv
open PySem PySem.Spec L2
/-! ### dicts whose keys are tuples: what the heap has -/
section
variable {X : Cx} {pins : List (Addr × Obj)} {σ : L2.St} {F H : Hp} {s : Shared}
mutual
theorem nested_of (I : Inv X pins σ H s) (hs : Same F H) : ∀ (k : NestedKey) (v : V) (u : Value), Rep X.K F v k.data → RelV v u → NestedIs s.heap k u
  | .none, v, u, r, q => by
    cases (show Rep X.K F v .none from r)
    cases (show u = Value.none from q)
    exact .none
  | .num i, v, u, r, q => by
    cases (show Rep X.K F v (.int i) from r)
    obtain ⟨t, rfl⟩ := (show ∃ t, u = Value.int i t from q)
    exact .int i t
  | .text x, v, u, r, q => by
    cases (show Rep X.K F v (.str x) from r)
    obtain ⟨t, rfl⟩ := (show ∃ t, u = Value.str x t from q)
    exact .text x t
  | .tup ks, v, u, r, q => by
    cases (show Rep X.K F v (.tuple (NestedKey.datas ks)) from r) with
    | tup h1 h2 =>
      cases q
      obtain ⟨its, rv, ⟨o, g1, g2, n, g3⟩, hz⟩ := I.tuple (sqT_mono hs h1)
      exact .tup g1 g2 g3 (by simpa using nested_all I hs ks _ its h2 rv)
theorem nested_all (I : Inv X pins σ H s) (hs : Same F H) : ∀ (ks : List NestedKey) (vs : List V) (us : List Value), RepAll X.K F vs (NestedKey.datas ks) → Vals vs us → NestedAll s.heap ks us
  | [], vs, us, r, q => by
    cases (show RepAll X.K F vs [] from r)
    cases q
    exact .nil
  | k :: ks, vs, us, r, q => by
    cases (show RepAll X.K F vs (k.data :: NestedKey.datas ks) from r) with
    | cons r1 r2 =>
      cases q with
      | cons q1 q2 => exact .cons (nested_of I hs k _ _ r1 q1) (nested_all I hs ks _ _ r2 q2)
end
/-- the same entries, by the world that runs -/
theorem nk_entries {K : PySem.W.Frag} {w w' : World} : ∀ {xs : List NX} {ds : List (PyData × PyData)} {ys : List (NestedKey × Addr × Value)}, RepNK K F xs ds → Paired NRel xs ys →
    (ys.map fun y => (⟨y.1.hash w, .ref y.2.1, y.2.2⟩ : DictEntry)) = ys.map fun y => ⟨y.1.hash w', .ref y.2.1, y.2.2⟩
  | _, _, _, .nil, .nil => rfl
  | _, _, _, .cons c r1 r2 t, .cons q qs => by
    rw [List.map_cons, List.map_cons, nk_entries t qs, ← q.1, c.wi w w']
theorem nk_is (I : Inv X pins σ H s) (hs : Same F H) : ∀ {xs : List NX} {ds : List (PyData × PyData)} {ys : List (NestedKey × Addr × Value)}, RepNK X.K F xs ds → Paired NRel xs ys → ∀ y ∈ ys, (nestedKind X.prog X.w).is s.heap y.1 y.2.1
  | _, _, _, .nil, .nil, y, hy => absurd hy (by simp)
  | _, _, _, .cons c r1 r2 t, .cons q qs, y, hy => by
    rcases List.mem_cons.mp hy with rfl | hy
    · rw [← q.1, ← q.2.1]
      exact ⟨nested_of I hs _ _ _ r1 rfl, c.dep⟩
    · exact nk_is I hs t qs y hy
theorem nk_keys : ∀ {xs : List NX} {ys : List (NestedKey × Addr × Value)}, Paired NRel xs ys → ys.map (·.1) = xs.map (·.1)
  | _, _, .nil => rfl
  | _, _, .cons q qs => by rw [List.map_cons, List.map_cons, nk_keys qs, q.1]
theorem nk_dict (I : Inv X pins σ H s) (hs : Same F H) {a : Addr} {w : World} {xs : List NX} {ds : List (PyData × PyData)} (e : Rd H a (DN w a xs)) (r : RepNK X.K F xs ds) :
    ∃ ys, Paired NRel xs ys ∧ s.heap.DictOfH (nestedKind X.prog X.w) a ys ∧ (a == sysModules) = false ∧ xs.length ≤ sizeLine := by
  obtain ⟨⟨⟨ys, o, es, ep, pr, g1, g2, g3, g4⟩, n1, n2, n3⟩, _⟩ := e.ok I.hok
  refine ⟨ys, pr, ⟨o, es, ep, g1, g2, g3, ?_, nk_is I hs r pr, by rw [nk_keys pr]; exact n2⟩, n1, n3⟩
  rw [g4]
  exact nk_entries (w' := X.w) r pr
theorem RepNK.length {K : PySem.W.Frag} : ∀ {xs : List NX} {ds : List (PyData × PyData)}, RepNK K F xs ds → xs.length = ds.length
  | _, _, .nil => rfl
  | _, _, .cons _ _ _ t => by rw [List.length_cons, List.length_cons, RepNK.length t]
/-! ### its type -/
theorem dn_kit (I : Inv X pins σ H s) {a : Addr} {w : World} {xs : List NX} (e : Rd H a (DN w a xs)) : ∃ P : Heap → Prop, PySem.W.KitX X.K (.ref a) (.type "dict") P ∧ P s.heap ∧ (Value.ref a) ≠ .builtin "__main__.__loader__#opaque" := by
  obtain ⟨⟨⟨ys, o, es, ep, pr, g1, g2, g3, g4⟩, n1, n2, n3⟩, _⟩ := e.ok I.hok
  exact ⟨_, PySem.W.kitx_dict, ⟨o, g1, g2.1⟩, fun z => nomatch z⟩
theorem exc_kit (I : Inv X pins σ H s) {a D : Addr} {d : Option Addr} {fs : List (Str × V)} (e : Rd H a (ExH D d a)) (c : ExcC X.K D) (f : ExF H d fs) : ∃ P : Heap → Prop, PySem.W.KitX X.K (.ref a) (.ref D) P ∧ P s.heap ∧ (Value.ref a) ≠ .builtin "__main__.__loader__#opaque" := by
  obtain ⟨⟨oe, vs, g1, ⟨z1, z2⟩, g3⟩, _⟩ := e.ok I.hok
  obtain ⟨cd, hc, _⟩ := PySem.W.any_some c.hd
  have hcl : (PySem.W.clsIn X.K D).isSome = true := by rw [hc]; rfl
  have hno : PySem.W.notCls oe = true := by unfold PySem.W.notCls; rw [g3]
  cases d with
  | none => exact ⟨_, PySem.W.kitx_exc (ox := oe) (od := none) hcl c.hg c.hk c.hs c.ha c.hn c.ht c.hm, ⟨g1, z1, hno, by rw [z2]; trivial⟩, fun z => nomatch z⟩
  | some dx =>
    have f : Rd H dx (.xd fs) := f
    obtain ⟨o, ho⟩ := objOk_get (f.ok I.hok)
    exact ⟨_, PySem.W.kitx_exc (ox := oe) (od := some o) hcl c.hg c.hk c.hs c.ha c.hn c.ht c.hm, ⟨g1, z1, hno, by rw [z2]; exact ho⟩, fun z => nomatch z⟩
def TyY (K : PySem.W.Frag) (H : Hp) (x : V) (t : Value) : Prop := TyX K H x t ∨ (∃ a w xs, x = .ref a ∧ t = .type "dict" ∧ Rd H a (DN w a xs)) ∨ ∃ a D d fs, x = .ref a ∧ t = .ref D ∧ Rd H a (ExH D d a) ∧ ExcC K D ∧ ExF H d fs
theorem kit_ofY {x : V} {u t : Value} (I : Inv X pins σ H s) (rx : RelV x u) (ty : TyY X.K H x t) : ∃ P : Heap → Prop, PySem.W.KitX X.K u t P ∧ P s.heap ∧ u ≠ .builtin "__main__.__loader__#opaque" := by
  rcases ty with ty | ⟨a, w, xs, rfl, rfl, e⟩ | ⟨a, D, d, fs, rfl, rfl, e, c, f⟩
  · exact kit_of I rx ty
  · cases (show u = Value.ref a from rx)
    exact dn_kit I e
  · cases (show u = Value.ref a from rx)
    exact exc_kit I e c f
end
def rIsiY (K : PySem.W.Frag) : List V → Hp → VK → Prop := fun xs H Q => ∃ (x c : V) (t u : Value) (b : Bool), xs = [x, c] ∧ ClsV c u ∧ TyY K H x t ∧ PySem.W.kitOne K t u = some b ∧ Q (.bl b) H
def rIsiTY (K : PySem.W.Frag) : List V → Hp → VK → Prop := fun xs H Q => ∃ (x : V) (tp : Addr) (cs : List V) (t : Value) (us : List Value) (b : Bool), xs = [x, .ref tp] ∧ H tp = some (.tup cs) ∧ Paired ClsV cs us ∧ TyY K H x t ∧ PySem.W.kitAny K t us = some b ∧ Q (.bl b) H
section
variable {X : Cx}
theorem call_isiY : CallR X (.builtin "isinstance") (rIsiY X.K) := by
  intro pins s σ H xs us Q I r h
  obtain ⟨x, c, t, u, b, rfl, k, ty, e, q⟩ := h
  obtain ⟨u1, u2, rfl, r1, r2⟩ := vals2 r
  have e2 := k.eq r2
  subst e2
  obtain ⟨P, Z, p, hx⟩ := kit_ofY I r1 ty
  exact PySem.W.kia_one Z I.kIn p e hx fun tk => ⟨.bl b, H, I.tok tk, rfl, q⟩
theorem call_isiTY : CallR X (.builtin "isinstance") (rIsiTY X.K) := by
  intro pins s σ H xs us Q I r h
  obtain ⟨x, tp, cs, t, ws, b, rfl, hT, k, ty, e, q⟩ := h
  obtain ⟨u1, u2, rfl, r1, r2⟩ := vals2 r
  cases (show u2 = Value.ref tp from r2)
  obtain ⟨P, Z, p, hx⟩ := kit_ofY I r1 ty
  obtain ⟨_, its, rv, o, h1, h2, n, h3⟩ := (show ObjOk X.prog X.w H s.heap tp (.tup cs) from I.hok tp _ hT)
  have e3 := ClsV.all k rv
  subst e3
  obtain ⟨oc, od, dt, sl⟩ := o
  simp only at h2 h3
  subst h2 h3
  exact PySem.W.kia_tup Z I.kIn p h1 e hx fun tk => ⟨.bl b, H, I.tok tk, rfl, q⟩
/-- len(d) -/
def rLenN (K : PySem.W.Frag) : List V → Hp → VK → Prop := fun xs H Q => ∃ F a w ns ds, xs = [.ref a] ∧ Same F H ∧ Rd H a (DN w a ns) ∧ RepNK K F ns ds ∧ Q (.int ns.length) H
theorem call_lenN : CallR X (.builtin "len") (rLenN X.K) := by
  intro pins s σ H xs us Q I r h
  obtain ⟨F, a, w, ns, ds, rfl, hs, e, rp, q⟩ := h
  obtain ⟨u, rfl, ru⟩ := vals1 r
  cases ru
  obtain ⟨ys, pr, hm, hd, hz⟩ := nk_dict I hs e rp
  have hl : ns.length = ys.length := Paired.length pr
  rw [sizeLine_eq] at hz
  refine PySem.call_len_dictH hd hm (by omega) ⟨.int ns.length, H, I.tok _, ⟨_, by rw [hl]⟩, q⟩
/-- list(d) -/
def rListN : List V → Hp → VK → Prop := fun xs H Q => ∃ a w ns, xs = [.ref a] ∧ Rd H a (DN w a ns) ∧ ∀ p, H p = none → Q (.ref p) (upd H p (.lst (ns.map fun x => V.ref x.2.1)))
theorem nk_vals : ∀ {xs : List NX} {ys : List (NestedKey × Addr × Value)}, Paired NRel xs ys → Vals (xs.map fun x => V.ref x.2.1) (ys.map fun y => Value.ref y.2.1)
  | _, _, .nil => .nil
  | x :: _, y :: _, .cons q qs => .cons (show Value.ref y.2.1 = Value.ref x.2.1 from by rw [q.2.1]) (nk_vals qs)
theorem call_listN (hcalm : X.calm = true) : CallR X (.type "list") rListN := by
  intro pins s σ H xs us Q I r q
  obtain ⟨a, w, ns, ex, hd, q⟩ := q
  subst ex
  obtain ⟨u, eu, rx⟩ := vals1 r
  subst eu
  cases rx
  obtain ⟨⟨⟨ys, o, es, ep, pr, g1, g2, g3, g4⟩, n1, n2, n3⟩, _⟩ := hd.ok I.hok
  have hl : ns.length = ys.length := Paired.length pr
  have hes : es.size = ys.length := by rw [← Array.length_toList, g4, List.length_map]
  refine PySem.W.kdl_call (PySem.KdlSrc.rawDict (ep := ep) (es := es) n1) (I.ok.hd hcalm) ⟨o, g1, g2, g3⟩ (by omega) fun h' tk acc c' hk hD hacc => ?_
  have hv : acc.toList = ys.map fun y => Value.ref y.2.1 := by
    apply List.ext_getElem?
    intro j
    rw [Array.getElem?_toList, List.getElem?_map]
    by_cases hj : j < es.size
    · have hj2 : j < acc.size := by rw [hacc.1]; exact hj
      obtain ⟨hi, e⟩ := hacc.2 j acc[j] (Array.getElem?_eq_getElem hj2)
      rw [Array.getElem?_eq_getElem hj2, e]
      have e2 : es[j] = es.toList[j]'(by rw [Array.length_toList]; exact hj) := by simp
      have hj3 : j < ys.length := by omega
      rw [List.getElem?_eq_getElem hj3, e2]
      simp only [g4, List.getElem_map, Option.map_some]
    · rw [Array.getElem?_eq_none (by rw [hacc.1]; omega), List.getElem?_eq_none (by omega)]
      rfl
  refine ⟨.ref s.heap.objs.size, upd H s.heap.objs.size (.lst (ns.map fun x => V.ref x.2.1)), I.laid (t' := tk) hk (Nat.le_refl _)
    (show ObjOk X.prog X.w _ _ _ (.lst (ns.map fun x => V.ref x.2.1)) from ⟨by rw [List.length_map]; exact n3, acc.toList, c', by rw [hv]; exact nk_vals pr, by rw [Array.toArray_toList]; exact hD⟩), rfl, q _ (I.hok.fresh (Nat.le_refl _))⟩
theorem nk_keysR {K : PySem.W.Frag} {F : Hp} : ∀ {xs : List NX} {ds : List (PyData × PyData)}, RepNK K F xs ds → RepAll K F (xs.map fun x => V.ref x.2.1) (ds.map (·.1))
  | _, _, .nil => .nil
  | _, _, .cons c r1 r2 t => .cons r1 (nk_keysR t)
end
end Dv

set_option Elab.async false
set_option linter.all false
set_option maxRecDepth 100000
set_option autoImplicit false
namespace Dv
open PySem PySem.Spec L2
section
variable {X : Cx} {C : FC} {P : List Bool} {a b c e : Expr} {es : List Expr} {pos p : Pos} {ta tb tc : DE} {k : Nat}
theorem op_inA : OpR X (compareOp .In) (rInA X.K false) := op_in_seq.or op_in_sign
theorem op_notInA : OpR X (compareOp .NotIn) (rInA X.K true) := op_notIn_seq.or op_notIn_sign
theorem q_in (ha : QE X C a ta) (hb : QE X C b tb) (hm : behindInMarks .In b = false := by rfl) : QE X C (.Compare a [.In] [b] pos) (dBin (inD true) ta tb) := q_cmp op_inA (ok_in false) ha hb hm
theorem q_notin (ha : QE X C a ta) (hb : QE X C b tb) (hm : behindInMarks .NotIn b = false := by rfl) : QE X C (.Compare a [.NotIn] [b] pos) (dBin (inD false) ta tb) := q_cmp op_notInA (ok_in true) ha hb hm
theorem t_in (ha : QE X C a ta) (hb : QE X C b tb) (hm : behindInMarks .In b = false := by rfl) : QT X C (.Compare a [.In] [b] pos) (dTest (dBin (inD true) ta tb)) := t_cmp op_inA (ok_in false) ha hb hm
theorem t_notin (ha : QE X C a ta) (hb : QE X C b tb) (hm : behindInMarks .NotIn b = false := by rfl) : QT X C (.Compare a [.NotIn] [b] pos) (dTest (dBin (inD false) ta tb)) := t_cmp op_notInA (ok_in true) ha hb hm
/-! ### chains -/
theorem lE_chain {r r' : R2} {f g : Op2} (ok : OpOk X r f) (ok' : OpOk X r' g) {σ : L2.St} {H : Hp} {Q : VK} (h : lE X.K C (dChain f g ta tb tc) σ H Q) : tChain r r' (lE X.K C ta) (lE X.K C tb) (lE X.K C tc) σ H Q := by
    obtain ⟨F, ρ, q, S, ht, k⟩ := h
    refine ⟨F, ρ, _, S, ht, fun o1 ρ1 F1 H1 x h1 S1 s1 d1 => ?_⟩
    refine ⟨F1, ρ1, _, S1, h1, fun o2 ρ2 F2 H2 y h2 S2 s2 d2 => ?_⟩
    obtain ⟨d, v1, w1⟩ := S2.see (d1.mono s2) h2
    obtain ⟨e, v2, w2⟩ := S2.see d2 w1
    refine ok F2 H2 x y d e _ _ S2.sub v1 v2 w2 fun z F3 H3 zv hz gr rz => ?_
    have S3 := S2.grow gr
    cases z with
    | bool bz =>
      cases rz
      refine ⟨bz, rfl, ?_⟩
      cases bz with
      | true =>
        refine ⟨F3, ρ2, _, S3, hz, fun o3 ρ3 F4 H4 w h4 S4 s4 d4 => ?_⟩
        obtain ⟨e', v3, w3⟩ := S4.see (d2.mono (gr.f.trans s4)) h4
        obtain ⟨d3, v4, w4⟩ := S4.see d4 w3
        exact ok' F4 H4 y w e' d3 _ Q S4.sub v3 v4 w4 (kont_of (ρ1 := ρ1) (F1 := F1) (H1 := H1) S4 (((s1.trans s2).trans gr.f).trans s4) k)
      | false => exact k _ _ _ _ _ hz S3 ((s1.trans s2).trans gr.f) (.bl false)
    | _ => exact hz.elim
theorem q_chn {op op' : CmpOp} {r r' : R2} {f g : Op2} (ho : OpR X (compareOp op) r) (ok : OpOk X r f) (ho' : OpR X (compareOp op') r') (ok' : OpOk X r' g) (ha : QE X C a ta) (hb : QE X C b tb) (hc : QE X C c tc)
    (hm : lastMarks [op, op'] [b, c] = false := by with_unfolding_all rfl) : QE X C (.Compare a [op, op'] [b, c] pos) (dChain f g ta tb tc) := QE.of (pe_chain ho ho' ha.pe hb.pe hc.pe hm) fun _ _ _ h => lE_chain ok ok' h
theorem t_chn {op op' : CmpOp} {r r' : R2} {f g : Op2} (ho : OpR X (compareOp op) r) (ok : OpOk X r f) (ho' : OpR X (compareOp op') r') (ok' : OpOk X r' g) (ha : QE X C a ta) (hb : QE X C b tb) (hc : QE X C c tc)
    (hm : lastMarks [op, op'] [b, c] = false := by with_unfolding_all rfl) : QT X C (.Compare a [op, op'] [b, c] pos) (dTest (dChain f g ta tb tc)) := QT.of (pt_chain ho ho' ha.pe hb.pe hc.pe hm) fun σ H Q h => by
  obtain ⟨F, ρ, q, S, ht, kk⟩ := lT_test h
  exact lE_chain ok ok' ⟨F, ρ, q, S, ht, kk⟩
theorem q_lele (ha : QE X C a ta) (hb : QE X C b tb) (hc : QE X C c tc) : QE X C (.Compare a [.LtE, .LtE] [b, c] pos) (dChain leD leD ta tb tc) := q_chn op_leA ok_ord op_leA ok_ord ha hb hc (nomark c)
theorem t_lele (ha : QE X C a ta) (hb : QE X C b tb) (hc : QE X C c tc) : QT X C (.Compare a [.LtE, .LtE] [b, c] pos) (dTest (dChain leD leD ta tb tc)) := t_chn op_leA ok_ord op_leA ok_ord ha hb hc (nomark c)
theorem q_lelt (ha : QE X C a ta) (hb : QE X C b tb) (hc : QE X C c tc) : QE X C (.Compare a [.LtE, .Lt] [b, c] pos) (dChain leD ltD ta tb tc) := q_chn op_leA ok_ord op_ltA ok_ord ha hb hc (nomark c)
theorem t_lelt (ha : QE X C a ta) (hb : QE X C b tb) (hc : QE X C c tc) : QT X C (.Compare a [.LtE, .Lt] [b, c] pos) (dTest (dChain leD ltD ta tb tc)) := t_chn op_leA ok_ord op_ltA ok_ord ha hb hc (nomark c)
/-! ### subscripts -/
def keyD : PyData → Option Key
  | .int i => some (.inl i)
  | .str x => some (.inr x)
  | _ => none
/-- whether all keys are numbers and texts -/
def keysK (kvs : List (PyData × PyData)) : Bool := kvs.all fun p => (keyD p.1).isSome
/-- a key of such a dict -/
def keyG (kvs : List (PyData × PyData)) (d : PyData) : Option Key := match keysK kvs with
  | true => keyD d
  | false => none
/-- what a dict has under a key -/
def lookD (kvs : List (PyData × PyData)) (k : Key) : Option PyData := (kvs.find? fun p => decide (keyD p.1 = some k)).map (·.2)
def ixD : Op2 := fun d e k => match d, e with
  | .list ds, .int i => match atI ds i with
    | some x => k x
    | none => False
  | .tuple ds, .int i => match atI ds i with
    | some x => k x
    | none => False
  | .str z, .int i => z.length ≤ big ∧ match atI z.cps.toList i with
    | some c => k (.str ⟨#[c]⟩)
    | none => False
  | .dict kvs, e => match keyD e with
    | some q => match lookD kvs q with
      | some x => k x
      | none => False
    | none => False
  | _, _ => False
def rIxA (K : PySem.W.Frag) : R2 := fun x y H Q => rIx K x y H Q ∨ ∃ a v, x = .ref a ∧ DGet H a y (some v) ∧ Q v H
theorem ix_dict (hu : X.A.units + 1 < cLine) : IxR X (fun x y H Q => ∃ a v, x = .ref a ∧ DGet H a y (some v) ∧ Q v H) := by
  intro value slice pins s σ H x y v u Q I rx ry h hs
  obtain ⟨a, z, rfl, g, q⟩ := h
  cases rx
  exact PyProof.Rows.tail_any (dict_typeIs I g) PySem.F.slot_dict_getitem.lookup (d_getItem hu I g ry fun w' s3 I3 rw' => ⟨z, H, I3, rw', q⟩) hs
theorem ix_all (hu : X.A.units + 1 < cLine) : IxR X (rIxA X.K) := ix_seq.or (ix_dict hu)
theorem RepAll.atI {K : PySem.W.Frag} {F : Hp} {xs : List V} {ds : List PyData} {i : Int} {d : PyData} (r : RepAll K F xs ds) (h : L2.atI ds i = some d) : ∃ v, L2.atI xs i = some v ∧ Rep K F v d := by
  unfold L2.atI at h ⊢
  rw [r.length]
  cases q : ixN ds.length i with
  | none => rw [q] at h; cases h
  | some j => rw [q] at h; exact r.get h
theorem kD_keyD : ∀ k : Key, keyD (kD k) = some k
  | .inl _ => rfl
  | .inr _ => rfl
theorem kD_of {d : PyData} {k : Key} (h : keyD d = some k) : d = kD k := by
  cases d <;> simp [keyD] at h <;> subst h <;> rfl
theorem kV_kD {K : PySem.W.Frag} {F : Hp} : ∀ k : Key, Rep K F (kV k) (kD k)
  | .inl i => .int i
  | .inr x => .str x
theorem key_view {K : PySem.W.Frag} {F H : Hp} {v : V} {d : PyData} {k : Key} (w : View K F H v d) (h : keyD d = some k) : v = kV k := by
  have := kD_of h
  subst this
  cases k with
  | inl i => exact view_int w
  | inr x => exact view_str w
theorem RepKV.look {K : PySem.W.Frag} {F : Hp} {k : Key} : ∀ {kvs : List (Key × V)} {ds : List (PyData × PyData)}, RepKV K F kvs ds → match lookD ds k with
    | some d => ∃ v, valV kvs k = some v ∧ Rep K F v d
    | none => valV kvs k = none
  | _, _, .nil => rfl
  | _, _, .cons (k := k') (v := v) (vs := vs) (d := d) (ds := ds) r t => by
    have ih := RepKV.look (k := k) t
    by_cases e : k' = k
    · subst e
      have : lookD ((kD k', d) :: ds) k' = some d := by simp [lookD, List.find?_cons, kD_keyD]
      rw [this]
      exact ⟨v, valV_pos rfl, r⟩
    · have : lookD ((kD k', d) :: ds) k = lookD ds k := by
        have ne : ¬ (some k' = some k) := fun z => e (Option.some.inj z)
        simp [lookD, List.find?_cons, kD_keyD, ne, e]
      rw [this, valV_neg (p := (k', v)) e]
      exact ih
theorem nk_key {K : PySem.W.Frag} {F : Hp} {b : Addr} {k : NestedKey} (r : Rep K F (.ref b) k.data) : keyD k.data = none := by
  cases k with
  | none => rfl
  | num i => cases r
  | text x => cases r
  | tup ks => rfl
theorem RepNK.look {K : PySem.W.Frag} {F : Hp} {k : Key} : ∀ {xs : List NX} {ds : List (PyData × PyData)}, RepNK K F xs ds → lookD ds k = none
  | _, _, .nil => rfl
  | _, _, .cons c r1 r2 t => by
    have ih := RepNK.look (k := k) t
    unfold lookD at ih ⊢
    rw [List.find?_cons, nk_key r1]
    simpa using ih
theorem RepFs.look {K : PySem.W.Frag} {F : Hp} {k : Key} : ∀ {xs : List (Str × V)} {ds : List (PyData × PyData)}, RepFs K F xs ds → lookD ds k = none
  | _, _, .nil => rfl
  | _, _, .cons r t => by
    have ih := RepFs.look (k := k) t
    unfold lookD at ih ⊢
    rw [List.find?_cons_of_neg (by show ¬ decide ((none : Option Key) = some k) = true; simp)]
    exact ih
theorem ExcV.look {K : PySem.W.Frag} {F : Hp} {k : Key} {a : Addr} {ds : List (PyData × PyData)} (h : ExcV K F a ds) : lookD ds k = none := by
  obtain ⟨_, _, n, _, es, rfl, _, _, _, r⟩ := h
  have ih := RepFs.look (k := k) r
  unfold lookD at ih ⊢
  rw [List.find?_cons_of_neg (by show ¬ decide ((none : Option Key) = some k) = true; simp)]
  exact ih
theorem ExcV.keysK {K : PySem.W.Frag} {F : Hp} {a : Addr} {ds : List (PyData × PyData)} (h : ExcV K F a ds) : Dv.keysK ds = false := by
  obtain ⟨_, _, n, _, es, rfl, _⟩ := h
  simp [Dv.keysK, keyD]
theorem RepNK.keysK {K : PySem.W.Frag} {F : Hp} {xs : List NX} {ds : List (PyData × PyData)} (r : RepNK K F xs ds) (h : xs ≠ []) : Dv.keysK ds = false := by
  cases r with
  | nil => exact absurd rfl h
  | cons c r1 r2 t => simp [Dv.keysK, nk_key r1]
theorem RepKV.keysK {K : PySem.W.Frag} {F : Hp} : ∀ {xs : List (Key × V)} {ds : List (PyData × PyData)}, RepKV K F xs ds → Dv.keysK ds = true
  | _, _, .nil => rfl
  | _, _, .cons r t => by
    have ih := RepKV.keysK t
    unfold Dv.keysK at ih ⊢
    rw [List.all_cons, ih, kD_keyD]; rfl
theorem keyG_some {ds : List (PyData × PyData)} {d : PyData} {k : Key} (h : keyG ds d = some k) : Dv.keysK ds = true ∧ keyD d = some k := by
  unfold keyG at h
  split at h
  · next e => exact ⟨e, h⟩
  · cases h
theorem keyG_of {ds : List (PyData × PyData)} (h : Dv.keysK ds = true) (d : PyData) : keyG ds d = keyD d := by unfold keyG; rw [h]
theorem ok_ix : OpOk X (rIxA X.K) ixD := fun F H x y d e q Q s v1 v2 w k => by
  cases d with
  | list ds =>
    cases e with
    | int i =>
      rw [view_int v2]
      obtain ⟨a, xs, e1, h1, r⟩ := v1
      subst e1
      have w : (match atI ds i with | some x => q x | none => False) := w
      cases z : atI ds i with
      | none => rw [z] at w; exact w.elim
      | some x =>
        rw [z] at w
        obtain ⟨v, hv, rv⟩ := r.atI z
        exact .inl (.inl ⟨a, xs, i, v, rfl, rfl, h1, hv, k _ _ _ _ w (Gr.refl s) rv⟩)
    | _ => exact w.elim
  | tuple ds =>
    cases e with
    | int i =>
      rw [view_int v2]
      obtain ⟨a, xs, e1, h1, r, _⟩ := view_tup s v1
      subst e1
      have w : (match atI ds i with | some x => q x | none => False) := w
      cases z : atI ds i with
      | none => rw [z] at w; exact w.elim
      | some x =>
        rw [z] at w
        obtain ⟨v, hv, rv⟩ := r.atI z
        exact .inl (.inr (.inl ⟨a, xs, i, v, rfl, rfl, h1, hv, k _ _ _ _ w (Gr.refl s) rv⟩))
    | _ => exact w.elim
  | str z =>
    cases e with
    | int i =>
      rw [view_int v2, view_str v1]
      obtain ⟨wl, w⟩ := w
      cases zz : atI z.cps.toList i with
      | none => rw [zz] at w; exact w.elim
      | some x =>
        rw [zz] at w
        exact .inl (.inr (.inr ⟨z, i, x, rfl, rfl, le_line wl, zz, k _ _ _ _ w (Gr.refl s) (.str _)⟩))
    | _ => exact w.elim
  | dict kvs =>
    have w : (match keyD e with
      | some q' => match lookD kvs q' with
        | some x => q x
        | none => False
      | none => False) := by cases e <;> exact w
    cases ke : keyD e with
    | none => rw [ke] at w; exact w.elim
    | some key =>
      rw [ke] at w
      obtain ⟨a, e1, ⟨ks, h1, r⟩ | ⟨w0, ks, _, h1, r⟩ | hx⟩ := v1
      rotate_left
      · have w : (match lookD kvs key with | some x => q x | none => False) := w
        rw [RepNK.look r] at w
        exact w.elim
      · have w : (match lookD kvs key with | some x => q x | none => False) := w
        rw [hx.look] at w
        exact w.elim
      subst e1
      have lk := RepKV.look (k := key) r
      dsimp only at w
      cases z : lookD kvs key with
      | none => rw [z] at w; exact w.elim
      | some x =>
        rw [z] at w lk
        obtain ⟨v, hv, rv⟩ := lk
        rw [key_view v2 ke]
        refine .inr ⟨a, v, rfl, ?_, k _ _ _ _ w (Gr.refl s) rv⟩
        rw [← hv]
        exact .inl ⟨ks, key, h1, rfl, rfl⟩
  | _ => exact w.elim
theorem q_idx (hr : Room k X.A) (ha : QE X C a ta) (hb : QE X C b tb) (hs : PlainIx b := by exact fun _ _ => rfl) : QE X C (.Subscript a b pos) (dBin ixD ta tb) := q_ix (ix_all (hu_of hr)) ok_ix ha hb hs
/-! ### slices -/
def cutD (xs : List PyData) (lo hi : Option Int) : List PyData := (xs.drop (HT.sIx xs.length 0 lo)).take (HT.sIx xs.length xs.length hi - HT.sIx xs.length 0 lo)
theorem RepAll.cut {K : PySem.W.Frag} {F : Hp} {xs : List V} {ds : List PyData} (r : RepAll K F xs ds) (lo hi : Option Int) : RepAll K F (cutV xs lo hi) (cutD ds lo hi) := by
  unfold cutV cutD
  rw [r.length]
  exact (r.drop _).take _
abbrev DP := DEnv → (Option Int → DEnv → Prop) → Prop
def lP (K : PySem.W.Frag) (C : FC) (t : DP) : TO := fun σ H Q => ∃ F ρ q, Sim K C F H ρ σ ∧ t ρ q ∧ ∀ o ρ' F' H', q o ρ' → Sim K C F' H' ρ' σ → Same F F' → Q o H'
structure QP (X : Cx) (C : FC) (e : Option Expr) (t : DP) : Prop where
  po : PO X e (lP X.K C t)
def dNoP : DP := fun ρ Q => Q none ρ
def dPart (t : DE) : DP := fun ρ Q => t ρ fun o ρ1 => withO ρ1 o fun d => match d with
  | .int i => Q (some i) ρ1
  | _ => False
theorem p_none : QP X C none dNoP := ⟨⟨fun pins s σ H Q I ⟨F, ρ, q, S, ht, k⟩ => po_none.run pins s σ H Q I (k _ _ _ _ ht S (Same.refl F))⟩⟩
theorem p_some (h : QE X C e ta) : QP X C (some e) (dPart ta) := ⟨⟨fun pins s σ H Q I ⟨F, ρ, q, S, ht, k⟩ => (po_some h.pe).run pins s σ H Q I (by
  refine ⟨F, ρ, _, S, ht, fun o ρ1 F1 H1 v hq S1 s1 d1 => ?_⟩
  obtain ⟨d, vd, w⟩ := S1.see d1 hq
  cases d with
  | int i => rw [view_int vd]; exact ⟨i, rfl, k _ _ _ _ w S1 s1⟩
  | _ => exact w.elim)⟩⟩
/-- a slice of a tuple or a text -/
def dSl (t : DE) (lo hi : DP) : DE := fun ρ Q => t ρ fun o ρ1 => lo ρ1 fun l ρ2 => hi ρ2 fun h ρ3 => withO ρ3 o fun d => match d with
  | .tuple ds => Q (.val (.tuple (cutD ds l h))) ρ3
  | .str z => z.length ≤ big ∧ Q (.val (.str (cutS z l h))) ρ3
  | _ => False
def rSlTS (K : PySem.W.Frag) : V → Option Int → Option Int → Hp → VK → Prop := fun x lo hi H Q => rSlA K x lo hi H Q ∨ rSlS x lo hi H Q
theorem cut_whole {K : PySem.W.Frag} {F : Hp} {xs : List V} {ds : List PyData} {lo hi : Option Int} (r : RepAll K F xs ds) (h1 : HT.sIx xs.length 0 lo = 0) (h2 : HT.sIx xs.length xs.length hi = xs.length) : cutD ds lo hi = ds := by
  rw [r.length] at h1 h2
  unfold cutD
  rw [h1, h2]
  simp
theorem q_slice {lo hi : Option Expr} {tl th : DP} {p2 : Pos} (ha : QE X C a ta) (hl : QP X C lo tl) (hh : QP X C hi th) : QE X C (.Subscript a (.Slice lo hi none p2) pos) (dSl ta tl th) :=
  QE.of (pe_slice (SlR.or sl_tupA sl_str) ha.pe hl.po hh.po) fun σ H Q ⟨F, ρ, q, S, ht, k⟩ => by
    refine ⟨F, ρ, _, S, ht, fun o ρ1 F1 H1 v h1 S1 s1 d1 => ⟨F1, ρ1, _, S1, h1, fun l ρ2 F2 H2 h2 S2 s2 => ⟨F2, ρ2, _, S2, h2, fun u ρ3 F3 H3 h3 S3 s3 => ?_⟩⟩⟩
    have s03 := (s1.trans s2).trans s3
    obtain ⟨d, vd, w⟩ := S3.see (d1.mono (s2.trans s3)) h3
    cases d with
    | tuple ds =>
      obtain ⟨a, xs, e1, hq, r, rp⟩ := view_tup S3.sub vd
      subst e1
      refine .inl ⟨a, xs, rfl, hq, fun z => ?_, fun z p hp => ?_⟩
      · refine k _ _ _ _ _ w S3 s03 ?_
        show Rep X.K F3 (.ref a) (.tuple (cutD ds l u))
        rw [cut_whole r z.1 z.2]; exact rp
      · have g := Gr.new (o := .tup (cutV xs l u)) S3.sub hp
        exact k _ _ _ _ _ w (S3.grow g) (s03.trans g.f) (.tup (SqT.of upd_same) ((r.cut l u).mono g.f))
    | str z =>
      rw [view_str vd]
      exact .inr ⟨z, rfl, le_line w.1, k _ _ _ _ _ w.2 S3 s03 (.str _)⟩
    | _ => exact w.elim
/-- a slice of a list: a new list -/
def dSlL (t : DE) (lo hi : DP) : DO := fun ρ Q => t ρ fun o ρ1 => lo ρ1 fun l ρ2 => hi ρ2 fun h ρ3 => withO ρ3 o fun d => match d with
  | .list ds => Q (.list (cutD ds l h)) ρ3
  | _ => False
theorem o_slice {lo hi : Option Expr} {tl th : DP} {p2 : Pos} (ha : QE X C a ta) (hl : QP X C lo tl) (hh : QP X C hi th) : QO X C (.Subscript a (.Slice lo hi none p2) pos) (dSlL ta tl th) :=
  QO.of (pe_slice sl_list ha.pe hl.po hh.po) fun σ H Q ⟨F, ρ, q, S, ht, k⟩ => by
    refine ⟨F, ρ, _, S, ht, fun o ρ1 F1 H1 v h1 S1 s1 d1 => ⟨F1, ρ1, _, S1, h1, fun l ρ2 F2 H2 h2 S2 s2 => ⟨F2, ρ2, _, S2, h2, fun u ρ3 F3 H3 h3 S3 s3 => ?_⟩⟩⟩
    obtain ⟨d, vd, w⟩ := S3.see (d1.mono (s2.trans s3)) h3
    cases d with
    | list ds =>
      obtain ⟨a, xs, e1, hq, r⟩ := vd
      subst e1
      refine ⟨a, xs, rfl, hq, fun p hp => ?_⟩
      obtain ⟨S4, fr⟩ := S3.layL hp (r.cut l u)
      exact k _ _ _ _ _ w S4 ((s1.trans s2).trans s3) fr
    | _ => exact w.elim
end
end Dv

set_option Elab.async false
set_option linter.all false
set_option maxRecDepth 100000
set_option autoImplicit false
namespace Dv
open PySem PySem.Spec L2
section
variable {X : Cx} {C : FC} {P : List Bool} {a b c e : Expr} {es : List Expr} {pos p : Pos} {ta tb tc : DE} {k : Nat} {tA : DA}
/-- one argument -/
theorem va1 {K : PySem.W.Frag} {F H : Hp} {vs : List V} {d : PyData} (h : ViewAll K F H vs [d]) : ∃ v, vs = [v] ∧ View K F H v d := by
  cases h with
  | cons h1 h2 => cases h2; exact ⟨_, rfl, h1⟩
theorem va2 {K : PySem.W.Frag} {F H : Hp} {vs : List V} {d d2 : PyData} (h : ViewAll K F H vs [d, d2]) : ∃ v v2, vs = [v, v2] ∧ View K F H v d ∧ View K F H v2 d2 := by
  cases h with
  | cons h1 h2 =>
    cases h2 with
    | cons h3 h4 => cases h4; exact ⟨_, _, rfl, h1, h3⟩
/-! ### len -/
def lenD : OpN := fun ds k => match ds with
  | [.list xs] => k (.int xs.length)
  | [.tuple xs] => k (.int xs.length)
  | [.str x] => x.length ≤ big ∧ k (.int x.length)
  | [.dict xs] => noX (.dict xs) = true ∧ k (.int xs.length)
  | _ => False
def rLenA (K : PySem.W.Frag) : List V → Hp → VK → Prop := fun xs H Q => (∃ p ys, xs = [.ref p] ∧ (SqL K H p ys ∨ SqT K H p ys) ∧ Q (.int ys.length) H) ∨ (∃ z, xs = [.str z] ∧ z.length ≤ sizeLine ∧ Q (.int z.length) H) ∨ (∃ d kvs, xs = [.ref d] ∧ Rd H d (.dK kvs) ∧ Q (.int kvs.length) H) ∨ rLenN K xs H Q
theorem call_lenDk : CallR X (.builtin "len") (fun xs H Q => ∃ d kvs, xs = [.ref d] ∧ Rd H d (.dK kvs) ∧ Q (.int kvs.length) H) := by
  intro pins s σ H xs us Q I r h
  obtain ⟨d, kvs, rfl, hd, q⟩ := h
  obtain ⟨u, rfl, ru⟩ := vals1 r
  cases ru
  exact d_len I hd fun t s' I' => ⟨.int kvs.length, H, I', ⟨t, rfl⟩, q⟩
theorem call_lenA : CallR X (.builtin "len") (rLenA X.K) := call_len_seq.or (call_len_str.or (call_lenDk.or call_lenN))
theorem RepKV.length {K : PySem.W.Frag} {F : Hp} : ∀ {vs : List (Key × V)} {ds : List (PyData × PyData)}, RepKV K F vs ds → vs.length = ds.length
  | _, _, .nil => rfl
  | _, _, .cons _ r => by simp [RepKV.length r]
theorem ok_len : CallOk X (rLenA X.K) lenD := fun F H vs ds q Q s v w k => by
  match ds, v, w with
  | [.list xs], v, w =>
    obtain ⟨v, e, a, ys, e2, h, r⟩ := va1 v
    subst e e2
    exact .inl ⟨a, ys, rfl, .inl h, by rw [r.length]; exact k _ _ _ _ w (Gr.refl s) (.int _)⟩
  | [.tuple xs], v, w =>
    obtain ⟨v, e, vv⟩ := va1 v
    obtain ⟨a, ys, e2, h, r, _⟩ := view_tup s vv
    subst e e2
    exact .inl ⟨a, ys, rfl, .inr h, by rw [r.length]; exact k _ _ _ _ w (Gr.refl s) (.int _)⟩
  | [.str x], v, w =>
    obtain ⟨v, e, vv⟩ := va1 v
    rw [view_str vv] at e
    subst e
    exact .inr (.inl ⟨x, rfl, le_line w.1, k _ _ _ _ w.2 (Gr.refl s) (.int _)⟩)
  | [.dict xs], v, w =>
    obtain ⟨v, e, a, e2, ⟨ys, h, r⟩ | ⟨w0, ys, _, h, r⟩ | hx⟩ := va1 v
    · subst e e2
      exact .inr (.inr (.inl ⟨a, ys, rfl, h, by rw [r.length]; exact k _ _ _ _ w.2 (Gr.refl s) (.int _)⟩))
    · subst e e2
      exact .inr (.inr (.inr ⟨F, a, w0, ys, _, rfl, s, h, r, by rw [r.length]; exact k _ _ _ _ w.2 (Gr.refl s) (.int _)⟩))
    · exact absurd (hx.noX.symm.trans w.1) (by decide)
theorem q_len (hm : X.mg "len" = none) (ha : QA X C [a] tA) (hg : Gl X "len" := by rfl)
    (he : starEach [a] X.env = (false, eval a X.env) :: starEach [] X.env := by rfl) (hpl : (backTo pos (starEach [] X.env)).any (·.1) = false := by rfl) : QE X C (.Call (.Name "len" p) [a] [] pos) (dCB lenD tA) :=
  q_callB call_lenA ok_len hm PySem.boot_len ha hg (by decide) (by decide) he hpl
/-! ### of ints -/
def absD : OpN := fun ds k => match ds with
  | [.int i] => k (.int (if i < 0 then -i else i))
  | _ => False
theorem ok_abs : CallOk X (fun xs H Q => ∃ i, xs = [.int i] ∧ Q (.int (if i < 0 then -i else i)) H) absD := fun F H vs ds q Q s v w k => by
  match ds, v, w with
  | [.int i], v, w =>
    obtain ⟨v, e, vv⟩ := va1 v
    rw [view_int vv] at e
    subst e
    exact ⟨i, rfl, k _ _ _ _ w (Gr.refl s) (.int _)⟩
def max2D : OpN := fun ds k => match ds with
  | [.int i, .int j] => k (.int (if j > i then j else i))
  | _ => False
def min2D : OpN := fun ds k => match ds with
  | [.int i, .int j] => k (.int (if j < i then j else i))
  | _ => False
theorem ok_max2 : CallOk X (fun xs H Q => ∃ i j, xs = [.int i, .int j] ∧ Q (.int (if j > i then j else i)) H) max2D := fun F H vs ds q Q s v w k => by
  match ds, v, w with
  | [.int i, .int j], v, w =>
    obtain ⟨v, v2, e, vv, vv2⟩ := va2 v
    rw [view_int vv, view_int vv2] at e
    subst e
    exact ⟨i, j, rfl, k _ _ _ _ w (Gr.refl s) (.int _)⟩
theorem ok_min2 : CallOk X (fun xs H Q => ∃ i j, xs = [.int i, .int j] ∧ Q (.int (if j < i then j else i)) H) min2D := fun F H vs ds q Q s v w k => by
  match ds, v, w with
  | [.int i, .int j], v, w =>
    obtain ⟨v, v2, e, vv, vv2⟩ := va2 v
    rw [view_int vv, view_int vv2] at e
    subst e
    exact ⟨i, j, rfl, k _ _ _ _ w (Gr.refl s) (.int _)⟩
theorem q_abs (hm : X.mg "abs" = none) (ha : QA X C [a] tA) (hg : Gl X "abs" := by rfl)
    (he : starEach [a] X.env = (false, eval a X.env) :: starEach [] X.env := by rfl) (hpl : (backTo pos (starEach [] X.env)).any (·.1) = false := by rfl) : QE X C (.Call (.Name "abs" p) [a] [] pos) (dCB absD tA) :=
  q_callB call_abs ok_abs hm (by decide +kernel) ha hg (by decide) (by decide) he hpl
theorem q_max2 (hc : X.calm = true) (hm : X.mg "max" = none) (ha : QA X C [a, b] tA) (hg : Gl X "max" := by rfl)
    (he : starEach [a, b] X.env = (false, eval a X.env) :: starEach [b] X.env := by rfl) (hpl : (backTo pos (starEach [b] X.env)).any (·.1) = false := by rfl) : QE X C (.Call (.Name "max" p) [a, b] [] pos) (dCB max2D tA) :=
  q_callB (call_max2 hc) ok_max2 hm (by decide +kernel) ha hg (by decide) (by decide) he hpl
theorem q_min2 (hc : X.calm = true) (hm : X.mg "min" = none) (ha : QA X C [a, b] tA) (hg : Gl X "min" := by rfl)
    (he : starEach [a, b] X.env = (false, eval a X.env) :: starEach [b] X.env := by rfl) (hpl : (backTo pos (starEach [b] X.env)).any (·.1) = false := by rfl) : QE X C (.Call (.Name "min" p) [a, b] [] pos) (dCB min2D tA) :=
  q_callB (call_min2 hc) ok_min2 hm (by decide +kernel) ha hg (by decide) (by decide) he hpl
def intOfD : OpN := fun ds k => match ds with
  | [.int i] => k (.int i)
  | [.bool b] => k (.int (if b then 1 else 0))
  | _ => False
theorem ok_intOf : CallOk X (fun xs H Q => (∃ i, xs = [.int i] ∧ Q (.int i) H) ∨ ∃ k, xs = [.bl k] ∧ Q (.int (if k then 1 else 0)) H) intOfD := fun F H vs ds q Q s v w k => by
  match ds, v, w with
  | [.int i], v, w =>
    obtain ⟨v, e, vv⟩ := va1 v
    rw [view_int vv] at e
    subst e
    exact .inl ⟨i, rfl, k _ _ _ _ w (Gr.refl s) (.int _)⟩
  | [.bool i], v, w =>
    obtain ⟨v, e, vv⟩ := va1 v
    rw [view_bl vv] at e
    subst e
    exact .inr ⟨i, rfl, k _ _ _ _ w (Gr.refl s) (.int _)⟩
theorem q_intOf (hm : X.mg "int" = none) (ha : QA X C [a] tA) (hg : Gl X "int" := by rfl)
    (he : starEach [a] X.env = (false, eval a X.env) :: starEach [] X.env := by rfl) (hpl : (backTo pos (starEach [] X.env)).any (·.1) = false := by rfl) : QE X C (.Call (.Name "int" p) [a] [] pos) (dCB intOfD tA) :=
  q_callTy call_int1 ok_intOf hm (by decide +kernel) ha hg (by decide) (by decide) he hpl
/-! ### list(x), tuple(x) -/
def listD : OpNL := fun ds k => match ds with
  | [.list xs] => k xs
  | [.tuple xs] => k xs
  | _ => False
theorem ok_list : CallOkL X (fun xs H Q => ∃ p ys, xs = [.ref p] ∧ (SqL X.K H p ys ∨ SqT X.K H p ys) ∧ ∀ l, H l = none → Q (.ref l) (upd H l (.lst ys))) listD := fun F H vs ds q Q s v w k => by
  match ds, v, w with
  | [.list xs], v, w =>
    obtain ⟨v, e, a, ys, e2, h, r⟩ := va1 v
    subst e e2
    exact ⟨a, ys, rfl, .inl h, fun l hl => k _ _ l w hl r⟩
  | [.tuple xs], v, w =>
    obtain ⟨v, e, vv⟩ := va1 v
    obtain ⟨a, ys, e2, h, r, _⟩ := view_tup s vv
    subst e e2
    exact ⟨a, ys, rfl, .inr h, fun l hl => k _ _ l w hl r⟩
theorem o_list (hm : X.mg "list" = none) (ha : QA X C [a] tA) (hg : Gl X "list" := by rfl)
    (he : starEach [a] X.env = (false, eval a X.env) :: starEach [] X.env := by rfl) (hpl : (backTo pos (starEach [] X.env)).any (·.1) = false := by rfl) : QO X C (.Call (.Name "list" p) [a] [] pos) (dCBL listD tA) :=
  o_callTy call_list_of ok_list hm (by decide +kernel) ha hg (by decide) (by decide) he hpl
def tupleD : OpN := fun ds k => match ds with
  | [.list xs] => k (.tuple xs)
  | [.tuple xs] => k (.tuple xs)
  | _ => False
theorem ok_tuple : CallOk X (fun xs H Q => ∃ p ys, xs = [.ref p] ∧ ((SqL X.K H p ys ∧ ∀ l, H l = none → Q (.ref l) (upd H l (.tup ys))) ∨ (SqT X.K H p ys ∧ Q (.ref p) H))) tupleD := fun F H vs ds q Q s v w k => by
  match ds, v, w with
  | [.list xs], v, w =>
    obtain ⟨v, e, a, ys, e2, h, r⟩ := va1 v
    subst e e2
    refine ⟨a, ys, rfl, .inl ⟨h, fun l hl => ?_⟩⟩
    have g := Gr.new (o := .tup ys) s hl
    exact k _ _ _ _ w g (.tup (SqT.of upd_same) (r.mono g.f))
  | [.tuple xs], v, w =>
    obtain ⟨v, e, vv⟩ := va1 v
    obtain ⟨a, ys, e2, h, r, rp⟩ := view_tup s vv
    subst e e2
    exact ⟨a, ys, rfl, .inr ⟨h, k _ _ _ _ w (Gr.refl s) rp⟩⟩
theorem q_tuple (hm : X.mg "tuple" = none) (ha : QA X C [a] tA) (hg : Gl X "tuple" := by rfl)
    (he : starEach [a] X.env = (false, eval a X.env) :: starEach [] X.env := by rfl) (hpl : (backTo pos (starEach [] X.env)).any (·.1) = false := by rfl) : QE X C (.Call (.Name "tuple" p) [a] [] pos) (dCB tupleD tA) :=
  q_callTy call_tuple_of ok_tuple hm (by decide +kernel) ha hg (by decide) (by decide) he hpl
/-! ### all, any, sum -/
def boolsD : List PyData → Option (List Bool)
  | [] => some []
  | .bool b :: ds => (boolsD ds).map (b :: ·)
  | _ => none
theorem bools_map : ∀ {ds : List PyData} {bs : List Bool}, boolsD ds = some bs → ds = bs.map PyData.bool
  | [], bs, h => by simp [boolsD] at h; subst h; rfl
  | .bool b :: ds, bs, h => by
    simp only [boolsD, Option.map_eq_some_iff] at h
    obtain ⟨r, h1, h2⟩ := h
    subst h2
    rw [List.map_cons, ← bools_map h1]
  | .none :: _, _, h => by simp [boolsD] at h
  | .int _ :: _, _, h => by simp [boolsD] at h
  | .str _ :: _, _, h => by simp [boolsD] at h
  | .list _ :: _, _, h => by simp [boolsD] at h
  | .tuple _ :: _, _, h => by simp [boolsD] at h
  | .dict _ :: _, _, h => by simp [boolsD] at h
theorem boolsD_map (bs : List Bool) : boolsD (bs.map PyData.bool) = some bs := by
  induction bs with
  | nil => rfl
  | cons b bs ih => simp [boolsD, ih]
def allD : OpN := fun ds k => match ds with
  | [.list xs] => match boolsD xs with
    | some bs => k (.bool (bs.all id))
    | none => False
  | _ => False
def anyD : OpN := fun ds k => match ds with
  | [.list xs] => match boolsD xs with
    | some bs => k (.bool (bs.any id))
    | none => False
  | _ => False
theorem ok_all : CallOk X (rAll X.K) allD := fun F H vs ds q Q s v w k => by
  match ds, v, w with
  | [.list xs], v, w =>
    obtain ⟨v, e, a, ys, e2, h, r⟩ := va1 v
    subst e e2
    have w : (match boolsD xs with | some bs => q (.bool (bs.all id)) | none => False) := w
    cases z : boolsD xs with
    | none => rw [z] at w; exact w.elim
    | some bs =>
      rw [z] at w
      rw [bools_map z] at r
      have := r.bls
      subst this
      exact ⟨a, bs, rfl, h, k _ _ _ _ w (Gr.refl s) (.bl _)⟩
theorem ok_any : CallOk X (rAny X.K) anyD := fun F H vs ds q Q s v w k => by
  match ds, v, w with
  | [.list xs], v, w =>
    obtain ⟨v, e, a, ys, e2, h, r⟩ := va1 v
    subst e e2
    have w : (match boolsD xs with | some bs => q (.bool (bs.any id)) | none => False) := w
    cases z : boolsD xs with
    | none => rw [z] at w; exact w.elim
    | some bs =>
      rw [z] at w
      rw [bools_map z] at r
      have := r.bls
      subst this
      exact ⟨a, bs, rfl, h, k _ _ _ _ w (Gr.refl s) (.bl _)⟩
theorem q_all (hc : X.calm = true) (hm : X.mg "all" = none) (ha : QA X C [a] tA) (hg : Gl X "all" := by rfl)
    (he : starEach [a] X.env = (false, eval a X.env) :: starEach [] X.env := by rfl) (hpl : (backTo pos (starEach [] X.env)).any (·.1) = false := by rfl) : QE X C (.Call (.Name "all" p) [a] [] pos) (dCB allD tA) :=
  q_callB (cr_all hc) ok_all hm (by decide +kernel) ha hg (by decide) (by decide) he hpl
theorem q_any (hc : X.calm = true) (hm : X.mg "any" = none) (ha : QA X C [a] tA) (hg : Gl X "any" := by rfl)
    (he : starEach [a] X.env = (false, eval a X.env) :: starEach [] X.env := by rfl) (hpl : (backTo pos (starEach [] X.env)).any (·.1) = false := by rfl) : QE X C (.Call (.Name "any" p) [a] [] pos) (dCB anyD tA) :=
  q_callB (cr_any hc) ok_any hm (by decide +kernel) ha hg (by decide) (by decide) he hpl
/-! ### isinstance -/
def tyName : PyData → String
  | .none => "NoneType"
  | .bool _ => "bool"
  | .int _ => "int"
  | .str _ => "str"
  | .list _ => "list"
  | .tuple _ => "tuple"
  | .dict _ => "dict"
/-- isinstance over data -/
def isTyD (T : String) (d : PyData) : Bool := T == tyName d || (T == "int" && tyName d == "bool")
theorem kit_all {T : String} (hT : T ∈ ["str", "int", "bool", "list", "tuple", "dict"]) (d : PyData) : kitB (tyName d) T = some (isTyD T d) := by
  simp only [List.mem_cons, List.not_mem_nil, or_false] at hT
  rcases hT with h | h | h | h | h | h <;> subst h <;> cases d <;> first | decide +kernel | (simp only [tyName, isTyD]; decide +kernel)
theorem View.tyX {K : PySem.W.Frag} {F H : Hp} {v : V} {d : PyData} (s : Same F H) (w : View K F H v d) : TyY K H v (.type (tyName d)) ∨ ∃ a D dd n fs, v = .ref a ∧ Rd H a (ExH D dd a) ∧ ClsN K n D ∧ ExF H dd fs ∧ tyName d = "dict" ∧ noX d = false := by
  cases d with
  | none => rw [view_non w]; exact .inl (.inl (.base .non))
  | bool b => rw [view_bl w]; exact .inl (.inl (.base (.bl b)))
  | int b => rw [view_int w]; exact .inl (.inl (.base (.int b)))
  | str b => rw [view_str w]; exact .inl (.inl (.base (.str b)))
  | list b =>
    obtain ⟨a, xs, e, h, _⟩ := w
    subst e
    rcases h with (h | ⟨o, h⟩) | ⟨o, its, n, h1, h2, _⟩
    · exact .inl (.inl (.base (.lst h)))
    · exact .inl (.inl (.base (.frz h)))
    · exact .inl (.inl (.kList h1 h2))
  | dict b =>
    obtain ⟨a, e, ⟨xs, h, _⟩ | ⟨w0, xs, _, h, _⟩ | hx⟩ := w
    · subst e
      rcases h with h | ⟨o, h⟩
      · exact .inl (.inl (.base (.dK h)))
      · exact .inl (.inl (.fDict h))
    · subst e
      exact .inl (.inr (.inl ⟨a, w0, xs, rfl, rfl, h⟩))
    · have hn := hx.noX
      obtain ⟨D, dd, n, fs, es, _, h1, h2, h3, _⟩ := hx
      exact .inr ⟨a, D, dd, n, fs, e, rd_mono s h1, h2, exF_mono s h3, rfl, hn⟩
  | tuple b =>
    obtain ⟨a, xs, e, h, _⟩ := view_tup s w
    subst e
    rcases h with (h | ⟨o, h⟩) | ⟨o, its, n, h1, h2, _⟩
    · exact .inl (.inl (.base (.tup h)))
    · exact .inl (.inl (.fTuple h))
    · exact .inl (.inl (.kTuple h1 h2))
/-- what isinstance answers of a builtin type but dict -/
theorem View.kit {K : PySem.W.Frag} {F H : Hp} {v : V} {d : PyData} (s : Same F H) (w : View K F H v d) {T : String} (hT : T ∈ ["str", "int", "bool", "list", "tuple", "dict"]) (hD : T ≠ "dict" ∨ noX d = true) : ∃ t, TyY K H v t ∧ PySem.W.kitOne K t (.type T) = some (isTyD T d) := by
  rcases w.tyX s with h | ⟨a, D, dd, n, fs, e, h1, h2, h3, h4, h5⟩
  · exact ⟨_, h, kit_ty (kit_all hT d)⟩
  · have hT2 : T ≠ "dict" := hD.resolve_right (by rw [h5]; decide)
    have hT3 : T ∈ ["str", "int", "bool", "list", "tuple"] := by
      simp only [List.mem_cons, List.not_mem_nil, or_false] at hT ⊢
      rcases hT with h | h | h | h | h | h
      · exact .inl h
      · exact .inr (.inl h)
      · exact .inr (.inr (.inl h))
      · exact .inr (.inr (.inr (.inl h)))
      · exact .inr (.inr (.inr (.inr h)))
      · exact absurd h hT2
    refine ⟨.ref D, .inr (.inr ⟨a, D, dd, fs, e, rfl, h1, h2.ec, h3⟩), ?_⟩
    rw [h2.kt T hT3]
    unfold isTyD
    rw [h4]
    have e1 : (T == "dict") = false := by simpa using hT2
    rw [e1]
    simp
theorem View.kit2 {K : PySem.W.Frag} {F H : Hp} {v : V} {d : PyData} (s : Same F H) (w : View K F H v d) {T U : String} (hT : T ∈ ["str", "int", "bool", "list", "tuple", "dict"]) (hD : T ≠ "dict" ∨ noX d = true) (hU : U ∈ ["str", "int", "bool", "list", "tuple", "dict"]) (hE : U ≠ "dict" ∨ noX d = true) :
    ∃ t, TyY K H v t ∧ PySem.W.kitOne K t (.type T) = some (isTyD T d) ∧ PySem.W.kitOne K t (.type U) = some (isTyD U d) := by
  rcases w.tyX s with h | ⟨a, D, dd, n, fs, e, h1, h2, h3, h4, h5⟩
  · exact ⟨_, h, kit_ty (kit_all hT d), kit_ty (kit_all hU d)⟩
  · have key : ∀ {T : String}, T ∈ ["str", "int", "bool", "list", "tuple", "dict"] → (T ≠ "dict" ∨ noX d = true) → PySem.W.kitOne K (.ref D) (.type T) = some (isTyD T d) := fun {T} hT hD => by
      have hT2 : T ≠ "dict" := hD.resolve_right (by rw [h5]; decide)
      have hT3 : T ∈ ["str", "int", "bool", "list", "tuple"] := by
        simp only [List.mem_cons, List.not_mem_nil, or_false] at hT ⊢
        rcases hT with h | h | h | h | h | h
        · exact .inl h
        · exact .inr (.inl h)
        · exact .inr (.inr (.inl h))
        · exact .inr (.inr (.inr (.inl h)))
        · exact .inr (.inr (.inr (.inr h)))
        · exact absurd h hT2
      rw [h2.kt T hT3]
      unfold isTyD
      rw [h4]
      have e1 : (T == "dict") = false := by simpa using hT2
      rw [e1]
      simp
    exact ⟨.ref D, .inr (.inr ⟨a, D, dd, fs, e, rfl, h1, h2.ec, h3⟩), key hT hD, key hU hE⟩
theorem mem6 {T : String} (h : T ∈ ["str", "int", "bool", "list", "tuple"]) : T ∈ ["str", "int", "bool", "list", "tuple", "dict"] := by
  simp only [List.mem_cons, List.not_mem_nil, or_false] at h ⊢
  rcases h with h | h | h | h | h
  · exact .inl h
  · exact .inr (.inl h)
  · exact .inr (.inr (.inl h))
  · exact .inr (.inr (.inr (.inl h)))
  · exact .inr (.inr (.inr (.inr (.inl h))))
theorem ne_dict {T : String} (h : T ∈ ["str", "int", "bool", "list", "tuple"]) : T ≠ "dict" := by
  intro e
  subst e
  exact absurd h (by decide)
def dIsi (T : String) (t : DE) : DE := fun ρ Q => t ρ fun o ρ1 => withO ρ1 o fun d => Q (.val (.bool (isTyD T d))) ρ1
theorem q_isi {x : Str} {T : String} {p2 : Pos} (hT : T ∈ ["str", "int", "bool", "list", "tuple"]) (hm : X.mg "isinstance" = none) (hm2 : X.mg x = none) (hv : bootBuiltins x = some (.type T)) (ha : QE X C a ta)
    (hg : Gl X "isinstance" := by rfl) (hg2 : Gl X x := by rfl) (hx : x ≠ "__name__" := by decide) (hdx : (x == ("__debug__" : Str)) = false := by decide)
    (hs : starEach [a, .Name x p2] X.env = (false, eval a X.env) :: starEach [.Name x p2] X.env := by rfl) (hs2 : starEach [.Name x p2] X.env = (false, eval (.Name x p2) X.env) :: starEach [] X.env := by rfl)
    (hpl : (backTo pos (starEach [.Name x p2] X.env)).any (·.1) = false := by rfl) : QE X C (.Call (.Name "isinstance" p) [a, .Name x p2] [] pos) (dIsi T ta) :=
  QE.of (pe_callB call_isiY hg hm (by decide +kernel) (pa_cons ha.pe (pa_cons (pe_bltn (v := .ty T) hg2 hm2 hv rfl hx hdx) pa_nil hs2) hs) (by decide) (by decide) hs hpl) fun σ H Q ⟨F, ρ, q, S, ht, k⟩ => by
    refine ⟨F, ρ, _, S, ht, fun o ρ1 F1 H1 v hq S1 s1 d1 => ?_⟩
    obtain ⟨d, vd, w⟩ := S1.see d1 hq
    obtain ⟨t, h1, h2⟩ := vd.kit S1.sub (mem6 hT) (.inl (ne_dict hT))
    exact ⟨v, .ty T, t, .type T, _, rfl, .ty T, h1, h2, k _ _ _ _ _ w S1 s1 (.bl _)⟩
/-- isinstance(x, dict) -/
def dIsiD (t : DE) : DE := fun ρ Q => t ρ fun o ρ1 => withO ρ1 o fun d => noX d = true ∧ Q (.val (.bool (isTyD "dict" d))) ρ1
theorem q_isiD {x : Str} {p2 : Pos} (hm : X.mg "isinstance" = none) (hm2 : X.mg x = none) (hv : bootBuiltins x = some (.type "dict")) (ha : QE X C a ta)
    (hg : Gl X "isinstance" := by rfl) (hg2 : Gl X x := by rfl) (hx : x ≠ "__name__" := by decide) (hdx : (x == ("__debug__" : Str)) = false := by decide)
    (hs : starEach [a, .Name x p2] X.env = (false, eval a X.env) :: starEach [.Name x p2] X.env := by rfl) (hs2 : starEach [.Name x p2] X.env = (false, eval (.Name x p2) X.env) :: starEach [] X.env := by rfl)
    (hpl : (backTo pos (starEach [.Name x p2] X.env)).any (·.1) = false := by rfl) : QE X C (.Call (.Name "isinstance" p) [a, .Name x p2] [] pos) (dIsiD ta) :=
  QE.of (pe_callB call_isiY hg hm (by decide +kernel) (pa_cons ha.pe (pa_cons (pe_bltn (v := .ty "dict") hg2 hm2 hv rfl hx hdx) pa_nil hs2) hs) (by decide) (by decide) hs hpl) fun σ H Q ⟨F, ρ, q, S, ht, k⟩ => by
    refine ⟨F, ρ, _, S, ht, fun o ρ1 F1 H1 v hq S1 s1 d1 => ?_⟩
    obtain ⟨d, vd, w⟩ := S1.see d1 hq
    obtain ⟨t, h1, h2⟩ := vd.kit S1.sub (T := "dict") (by decide) (.inr w.1)
    exact ⟨v, .ty "dict", t, .type "dict", _, rfl, .ty "dict", h1, h2, k _ _ _ _ _ w.2 S1 s1 (.bl _)⟩
theorem View.grow {K : PySem.W.Frag} {F H F' H' : Hp} {v : V} {d : PyData} (w : View K F H v d) (g : Gr F H F' H') : View K F' H' v d := by
  cases d with
  | list b => obtain ⟨a, xs, e, h, r⟩ := w; exact ⟨a, xs, e, sqL_mono g.h h, r.mono g.f⟩
  | dict b =>
    obtain ⟨a, e, ⟨xs, h, r⟩ | ⟨w0, xs, n, h, r⟩ | hx⟩ := w
    · exact ⟨a, e, .inl ⟨xs, rd_mono g.h h, r.mono g.f⟩⟩
    · exact ⟨a, e, .inr (.inl ⟨w0, xs, n, rd_mono g.h h, r.mono g.f⟩)⟩
    · exact ⟨a, e, .inr (.inr (hx.mono g.f))⟩
  | _ => exact Rep.mono g.f w
/-- isinstance(x, (T, U)) -/
def dIsi2 (T U : String) (t : DE) : DE := fun ρ Q => t ρ fun o ρ1 => withO ρ1 o fun d => Q (.val (.bool (isTyD T d || isTyD U d))) ρ1
theorem q_isi2 {x y : Str} {T U : String} {p2 p3 p4 : Pos} {kk : Nat} (hT : T ∈ ["str", "int", "bool", "list", "tuple"]) (hU : U ∈ ["str", "int", "bool", "list", "tuple"]) (hm : X.mg "isinstance" = none) (hm2 : X.mg x = none) (hv : bootBuiltins x = some (.type T)) (hm3 : X.mg y = none) (hv3 : bootBuiltins y = some (.type U)) (ha : QE X C a ta)
    (hg : Gl X "isinstance" := by rfl) (hg2 : Gl X x := by rfl) (hg3 : Gl X y := by rfl) (hx : x ≠ "__name__" := by decide) (hdx : (x == ("__debug__" : Str)) = false := by decide) (hy : y ≠ "__name__" := by decide) (hdy : (y == ("__debug__" : Str)) = false := by decide)
    (hs : starEach [a, .Tuple [.Name x p2, .Name y p3] kk p4] X.env = (false, eval a X.env) :: starEach [.Tuple [.Name x p2, .Name y p3] kk p4] X.env := by rfl) (hs2 : starEach [.Tuple [.Name x p2, .Name y p3] kk p4] X.env = (false, eval (.Tuple [.Name x p2, .Name y p3] kk p4) X.env) :: starEach [] X.env := by rfl)
    (hs3 : starEach [.Name x p2, .Name y p3] X.env = (false, eval (.Name x p2) X.env) :: starEach [.Name y p3] X.env := by rfl) (hs4 : starEach [.Name y p3] X.env = (false, eval (.Name y p3) X.env) :: starEach [] X.env := by rfl)
    (hpl : (backTo pos (starEach [.Tuple [.Name x p2, .Name y p3] kk p4] X.env)).any (·.1) = false := by rfl) : QE X C (.Call (.Name "isinstance" p) [a, .Tuple [.Name x p2, .Name y p3] kk p4] [] pos) (dIsi2 T U ta) :=
  QE.of (pe_callB call_isiTY hg hm (by decide +kernel) (pa_cons ha.pe (pa_cons (pe_tup (pa_cons (pe_bltn (v := .ty T) hg2 hm2 hv rfl hx hdx) (pa_cons (pe_bltn (v := .ty U) hg3 hm3 hv3 rfl hy hdy) pa_nil hs4) hs3)) pa_nil hs2) hs) (by decide) (by decide) hs hpl) fun σ H Q ⟨F, ρ, q, S, ht, k⟩ => by
    refine ⟨F, ρ, _, S, ht, fun o ρ1 F1 H1 v hq S1 s1 d1 => ?_⟩
    obtain ⟨d, vd, w⟩ := S1.see d1 hq
    refine ⟨by show 2 ≤ sizeLine; decide, fun pp hp => ?_⟩
    have S2 := S1.grow (Gr.new (o := .tup [.ty T, .ty U]) S1.sub hp)
    have vd2 := vd.grow (Gr.new (o := .tup [.ty T, .ty U]) S1.sub hp)
    obtain ⟨t, g1, g2, g3⟩ := vd2.kit2 S2.sub (mem6 hT) (.inl (ne_dict hT)) (mem6 hU) (.inl (ne_dict hU))
    exact ⟨v, pp, _, t, [.type T, .type U], _, rfl, upd_same, .cons (.ty T) (.cons (.ty U) .nil), g1, kitAny_cons g2 (fun e1 => kitAny_cons g3 (fun e2 => by rw [e1, e2]; exact kitAny_nil) (fun e2 => by rw [e2, Bool.or_true])) (fun e1 => by rw [e1, Bool.true_or]), k _ _ _ _ _ w S2 (s1.trans (Gr.new (o := .tup [.ty T, .ty U]) S1.sub hp).f) (.bl _)⟩
end
end Dv

set_option Elab.async false
set_option linter.all false
set_option maxRecDepth 100000
set_option autoImplicit false
namespace Dv
open PySem PySem.Spec L2
section
variable {X : Cx} {C : FC} {P : List Bool} {a b c e o : Expr} {es : List Expr} {pos p apos cpos : Pos} {ta tb tc to : DE} {k i : Nat} {tA : DA} {x : Str}
/-! ### texts -/
def strsD : List PyData → Option (List Str)
  | [] => some []
  | .str b :: ds => (strsD ds).map (b :: ·)
  | _ => none
theorem strs_map : ∀ {ds : List PyData} {bs : List Str}, strsD ds = some bs → ds = bs.map PyData.str
  | [], bs, h => by simp [strsD] at h; subst h; rfl
  | .str b :: ds, bs, h => by
    simp only [strsD, Option.map_eq_some_iff] at h
    obtain ⟨r, h1, h2⟩ := h
    subst h2
    rw [List.map_cons, ← strs_map h1]
  | .none :: _, _, h => by simp [strsD] at h
  | .int _ :: _, _, h => by simp [strsD] at h
  | .bool _ :: _, _, h => by simp [strsD] at h
  | .list _ :: _, _, h => by simp [strsD] at h
  | .tuple _ :: _, _, h => by simp [strsD] at h
  | .dict _ :: _, _, h => by simp [strsD] at h
theorem strsD_map (bs : List Str) : strsD (bs.map PyData.str) = some bs := by
  induction bs with
  | nil => rfl
  | cons b bs ih => simp [strsD, ih]
def joinD : OpN := fun ds k => match ds with
  | [.str a, .list xs] => match strsD xs with
    | some ys => (ys.map (·.length)).sum + ys.length * a.length ≤ 16777216 ∧ k (.str (Txt.join a ys))
    | none => False
  | [.str a, .tuple xs] => match strsD xs with
    | some ys => (ys.map (·.length)).sum + ys.length * a.length ≤ 16777216 ∧ k (.str (Txt.join a ys))
    | none => False
  | _ => False
theorem ok_join : MtOk X (fun x xs H Q => ∃ a p, ∃ ys : List Str, x = .str a ∧ xs = [.ref p] ∧ (SqL X.K H p (ys.map V.str) ∨ SqT X.K H p (ys.map V.str)) ∧
    (ys.map (·.length)).sum + ys.length * a.length ≤ 16777216 ∧ Q (.str (Txt.join a ys)) H) joinD := fun F H v vs d ds q Q s w0 w1 w k => by
  cases d with
  | str a =>
    rw [view_str w0]
    cases w1 with
    | nil => exact w.elim
    | @cons v1 _ d1 _ hv hr =>
      cases hr with
      | cons _ _ => cases d1 <;> exact w.elim
      | nil =>
        cases d1 with
        | list xs =>
          obtain ⟨p, ys, e2, h, r⟩ := hv
          subst e2
          have w : (match strsD xs with | some ys => (ys.map (·.length)).sum + ys.length * a.length ≤ 16777216 ∧ q (.str (Txt.join a ys)) | none => False) := w
          cases z : strsD xs with
          | none => rw [z] at w; exact w.elim
          | some bs =>
            rw [z] at w
            rw [strs_map z] at r
            have := r.strs
            subst this
            exact ⟨a, p, bs, rfl, rfl, .inl h, w.1, k _ _ _ _ w.2 (Gr.refl s) (.str _)⟩
        | tuple xs =>
          obtain ⟨p, ys, e2, h, r, _⟩ := view_tup s hv
          subst e2
          have w : (match strsD xs with | some ys => (ys.map (·.length)).sum + ys.length * a.length ≤ 16777216 ∧ q (.str (Txt.join a ys)) | none => False) := w
          cases z : strsD xs with
          | none => rw [z] at w; exact w.elim
          | some bs =>
            rw [z] at w
            rw [strs_map z] at r
            have := r.strs
            subst this
            exact ⟨a, p, bs, rfl, rfl, .inr h, w.1, k _ _ _ _ w.2 (Gr.refl s) (.str _)⟩
        | _ => exact w.elim
  | _ => exact w.elim
def upperD : OpN := fun ds k => match ds with
  | [.str a] => a.length ≤ 5592405 ∧ k (.str (Txt.upper a))
  | _ => False
theorem ok_upper : MtOk X (fun x xs H Q => ∃ a, x = .str a ∧ xs = [] ∧ a.length ≤ 5592405 ∧ Q (.str (Txt.upper a)) H) upperD := fun F H v vs d ds q Q s w0 w1 w k => by
  cases d with
  | str a =>
    rw [view_str w0]
    cases w1 with
    | nil => exact ⟨a, rfl, rfl, w.1, k _ _ _ _ w.2 (Gr.refl s) (.str _)⟩
    | cons _ _ => exact w.elim
  | _ => exact w.elim
theorem q_join (ho : QE X C o to) (ha : QA X C [e] tA) (hbase : attributeBase o "join" X.env (eval o X.env) = eval o X.env := by rfl)
    (hfew : ((backTo cpos (starEach [e] X.env)).all (fun x => !x.1) && (backToKw cpos (keywordEach [] X.env)).all (fun x => x.1.isSome)
      && decide ([e].length + ([] : List Keyword).length + (if ([] : List Keyword).isEmpty then 0 else 1) < 30)) = true := by rfl)
    (hline : (apos.endLine == cpos.line) = true := by rfl) (hs : starEach [e] X.env = (false, eval e X.env) :: starEach [] X.env := by rfl) (hplain : (backTo cpos (starEach [] X.env)).any (·.1) = false := by rfl) :
    QE X C (.Call (.Attribute o "join" apos) [e] [] cpos) (dBM "str" joinD to tA) :=
  m_look PySem.F.plainAttrs_str PySem.F.slot_str_join PySem.F.type_str_join mt_join ok_join ho ha hbase hfew hline hs hplain
theorem q_upper (ho : QE X C o to) (hbase : attributeBase o "upper" X.env (eval o X.env) = eval o X.env := by rfl) (hline : (apos.endLine == cpos.line) = true := by rfl) :
    QE X C (.Call (.Attribute o "upper" apos) [] [] cpos) (dBM0 "str" upperD to) :=
  m_look0 PySem.F.plainAttrs_str PySem.F.slot_str_upper PySem.F.type_str_upper mt_upper ok_upper ho hbase hline
/-! ### lists that turn -/
theorem ra1 {K : PySem.W.Frag} {F : Hp} {vs : List V} {d : PyData} (h : RepAll K F vs [d]) : ∃ v, vs = [v] ∧ Rep K F v d := by
  cases h with
  | cons h1 h2 => cases h2; exact ⟨_, rfl, h1⟩
theorem ra2 {K : PySem.W.Frag} {F : Hp} {vs : List V} {d d2 : PyData} (h : RepAll K F vs [d, d2]) : ∃ v v2, vs = [v, v2] ∧ Rep K F v d ∧ Rep K F v2 d2 := by
  cases h with
  | cons h1 h2 =>
    cases h2 with
    | cons h3 h4 => cases h4; exact ⟨_, _, rfl, h1, h3⟩
def appendD : OpM := fun d ds k => match d, ds with
  | .list xs, [y] => xs.length < big ∧ k (.list (xs ++ [y])) .none
  | _, _ => False
theorem ok_append : MutOk X rAppend appendD := fun F H a vs d ds q Q s hF hO r w k => by
  match d, ds, hO, r, w with
  | .list xs, [y], hO, r, w =>
    obtain ⟨us, e, ru⟩ := hO
    obtain ⟨v, e1, rv⟩ := ra1 r
    subst e1
    exact ⟨a, us, v, rfl, rfl, e, by rw [ru.length]; exact lt_line w.1, k _ _ _ _ w.2 ⟨_, upd_same, ru.append (.cons rv .nil)⟩ .non⟩
def rExtendR (K : PySem.W.Frag) : V → List V → Hp → VK → Prop := fun x vs H Q => ∃ l b xs zs, x = .ref l ∧ vs = [.ref b] ∧ H l = some (.lst xs) ∧ SqL K H b zs ∧ xs.length + zs.length ≤ sizeLine ∧ Q .non (upd H l (.lst (xs ++ zs)))
open PyProof.Rows in
theorem mt_extendR : MtR X "list.extend" (rExtendR X.K) := by
  intro pins s σ H x vs v us Q I rx rv h
  obtain ⟨l, b, xs, zs, rfl, rfl, hH, hB, hz, q⟩ := h
  cases rx
  obtain ⟨u, rfl, ru⟩ := Vals.one rv
  cases ru
  obtain ⟨z, its, n, r, hl, e⟩ := I.lstM hH
  obtain ⟨z2, its2, n2, dd2, sl2, r2, hl2, e2⟩ := Inv.lstR I hB
  have hsz : its.toArray.size + its2.toArray.size ≤ sizeLine := by rw [List.size_toArray, List.size_toArray]; omega
  have hlong : ¬ (!its.toArray.isEmpty && Builtin.List.listTooLong (its.toArray.size + its2.toArray.size)) = true := by
    rw [notLongL hsz, Bool.and_false]
    exact Bool.false_ne_true
  refine call_meets F.slot_list_extend ⟨_, e, rfl⟩ F.entry_list_extend (F.args_list_extend_2 _ _)
    (list_extendW l its.toArray n b its2.toArray n2 dd2 sl2 hlong (by rw [List.size_toArray]; omega) (by omega)) ⟨e, e2, ?_⟩
  refine ⟨.non, _, I.lset (its' := its ++ its2) hH e (by simp) (r.append r2) ?_, rfl, q⟩
  rw [List.length_append]
  omega
def extendD : OpM := fun d ds k => match d, ds with
  | .list xs, [.list ys] => xs.length + ys.length ≤ big ∧ k (.list (xs ++ ys)) .none
  | _, _ => False
theorem ok_extend : MutOk X (rExtendR X.K) extendD := fun F H a vs d ds q Q s hF hO r w k => by
  match d, ds, hO, r, w with
  | .list xs, [.list ys], hO, r, w =>
    obtain ⟨us, e, ru⟩ := hO
    obtain ⟨v, e1, rv⟩ := ra1 r
    subst e1
    cases rv with
    | lst h1 h2 => exact ⟨a, _, us, _, rfl, rfl, e, sqL_mono s h1, by rw [ru.length, h2.length]; exact le_line w.1, k _ _ _ _ w.2 ⟨_, upd_same, ru.append h2⟩ .non⟩
def popD : OpM := fun d ds k => match d, ds with
  | .list xs, [] => match xs.getLast? with
    | some y => k (.list xs.dropLast) y
    | none => False
  | _, _ => False
theorem ok_pop : MutOk X rPop popD := fun F H a vs d ds q Q s hF hO r w k => by
  match d, ds, hO, r, w with
  | .list xs, [], hO, r, w =>
    obtain ⟨us, e, ru⟩ := hO
    cases r
    have w : (match xs.getLast? with | some y => q (.list xs.dropLast) y | none => False) := w
    cases z : xs.getLast? with
    | none => rw [z] at w; exact w.elim
    | some y =>
      rw [z] at w
      rw [List.getLast?_eq_getElem?] at z
      obtain ⟨v, hv, rv⟩ := ru.get z
      exact ⟨a, us, v, rfl, rfl, e, by rw [ru.length]; exact hv, k _ _ _ _ w ⟨_, upd_same, ru.dropLast⟩ rv⟩
def reverseD : OpM := fun d ds k => match d, ds with
  | .list xs, [] => k (.list xs.reverse) .none
  | _, _ => False
theorem ok_reverse : MutOk X rReverse reverseD := fun F H a vs d ds q Q s hF hO r w k => by
  match d, ds, hO, r, w with
  | .list xs, [], hO, r, w =>
    obtain ⟨us, e, ru⟩ := hO
    cases r
    exact ⟨a, us, rfl, rfl, e, k _ _ _ _ w ⟨_, upd_same, ru.reverse⟩ .non⟩
def insertD : OpM := fun d ds k => match d, ds with
  | .list xs, [.int i, y] => xs.length < big ∧ 0 ≤ i ∧ i < 2 ^ 63 ∧ k (.list (xs.take i.toNat ++ [y] ++ xs.drop i.toNat)) .none
  | _, _ => False
theorem ok_insert : MutOk X (fun x vs H Q => ∃ (l : Addr) (xs : List V) (i : Int) (y : V), x = .ref l ∧ vs = [.int i, y] ∧ H l = some (.lst xs) ∧ xs.length < sizeLine ∧ 0 ≤ i ∧ i < 2 ^ 63 ∧
    Q .non (upd H l (.lst (xs.take i.toNat ++ [y] ++ xs.drop i.toNat)))) insertD := fun F H a vs d ds q Q s hF hO r w k => by
  match d, ds, hO, r, w with
  | .list xs, [.int i, y], hO, r, w =>
    obtain ⟨us, e, ru⟩ := hO
    obtain ⟨v, v2, e1, rv, rv2⟩ := ra2 r
    subst e1
    cases rv
    exact ⟨a, us, i, v2, rfl, rfl, e, by rw [ru.length]; exact lt_line w.1, w.2.1, w.2.2.1, k _ _ _ _ w.2.2.2 ⟨_, upd_same, ((ru.take _).append (.cons rv2 .nil)).append (ru.drop _)⟩ .non⟩
section
variable (hv : PE X (.Name x p) (tVar i))
theorem m_append (hP : C.Tags P) (ha : QA X C [e] tA) (hN : X.N[i]? = some x := by rfl) (hvis : Vis X.env.scope x := by first | exact Or.inl rfl | exact Or.inr (Or.inl rfl) | exact Or.inr (Or.inr rfl)) (hd : (x == ("__debug__" : Str)) = false := by decide) (hcd : (x == ("__classdict__" : Str)) = false := by decide)
    (hbase : attributeBase (.Name x p) "append" X.env (eval (.Name x p) X.env) = eval (.Name x p) X.env := by rfl)
    (hfew : ((backTo cpos (starEach [e] X.env)).all (fun x => !x.1) && (backToKw cpos (keywordEach [] X.env)).all (fun x => x.1.isSome)
      && decide ([e].length + ([] : List Keyword).length + (if ([] : List Keyword).isEmpty then 0 else 1) < 30)) = true := by rfl)
    (hline : (apos.endLine == cpos.line) = true := by rfl) (hs : starEach [e] X.env = (false, eval e X.env) :: starEach [] X.env := by rfl) (hplain : (backTo cpos (starEach [] X.env)).any (·.1) = false := by rfl) :
    QE X C (.Call (.Attribute (.Name x p) "append" apos) [e] [] cpos) (dMut P "list" i appendD tA) :=
  m_mut hP PySem.F.plainAttrs_list PySem.F.slot_list_append PySem.F.type_list_append mt_append ok_append ha (pe_var hN hvis hd hcd) hbase hfew hline hs hplain
theorem m_extend (hP : C.Tags P) (ha : QA X C [e] tA) (hN : X.N[i]? = some x := by rfl) (hvis : Vis X.env.scope x := by first | exact Or.inl rfl | exact Or.inr (Or.inl rfl) | exact Or.inr (Or.inr rfl)) (hd : (x == ("__debug__" : Str)) = false := by decide) (hcd : (x == ("__classdict__" : Str)) = false := by decide)
    (hbase : attributeBase (.Name x p) "extend" X.env (eval (.Name x p) X.env) = eval (.Name x p) X.env := by rfl)
    (hfew : ((backTo cpos (starEach [e] X.env)).all (fun x => !x.1) && (backToKw cpos (keywordEach [] X.env)).all (fun x => x.1.isSome)
      && decide ([e].length + ([] : List Keyword).length + (if ([] : List Keyword).isEmpty then 0 else 1) < 30)) = true := by rfl)
    (hline : (apos.endLine == cpos.line) = true := by rfl) (hs : starEach [e] X.env = (false, eval e X.env) :: starEach [] X.env := by rfl) (hplain : (backTo cpos (starEach [] X.env)).any (·.1) = false := by rfl) :
    QE X C (.Call (.Attribute (.Name x p) "extend" apos) [e] [] cpos) (dMut P "list" i extendD tA) :=
  m_mut hP PySem.F.plainAttrs_list PySem.F.slot_list_extend PySem.F.type_list_extend mt_extendR ok_extend ha (pe_var hN hvis hd hcd) hbase hfew hline hs hplain
theorem m_insert (hP : C.Tags P) (ha : QA X C [e, o] tA) (hN : X.N[i]? = some x := by rfl) (hvis : Vis X.env.scope x := by first | exact Or.inl rfl | exact Or.inr (Or.inl rfl) | exact Or.inr (Or.inr rfl)) (hd : (x == ("__debug__" : Str)) = false := by decide) (hcd : (x == ("__classdict__" : Str)) = false := by decide)
    (hbase : attributeBase (.Name x p) "insert" X.env (eval (.Name x p) X.env) = eval (.Name x p) X.env := by rfl)
    (hfew : ((backTo cpos (starEach [e, o] X.env)).all (fun x => !x.1) && (backToKw cpos (keywordEach [] X.env)).all (fun x => x.1.isSome)
      && decide ([e, o].length + ([] : List Keyword).length + (if ([] : List Keyword).isEmpty then 0 else 1) < 30)) = true := by rfl)
    (hline : (apos.endLine == cpos.line) = true := by rfl) (hs : starEach [e, o] X.env = (false, eval e X.env) :: starEach [o] X.env := by rfl) (hplain : (backTo cpos (starEach [o] X.env)).any (·.1) = false := by rfl) :
    QE X C (.Call (.Attribute (.Name x p) "insert" apos) [e, o] [] cpos) (dMut P "list" i insertD tA) :=
  m_mut hP PySem.F.plainAttrs_list PySem.F.slot_list_insert PySem.F.type_list_insert mt_insert ok_insert ha (pe_var hN hvis hd hcd) hbase hfew hline hs hplain
theorem m_pop (hN : X.N[i]? = some x := by rfl) (hvis : Vis X.env.scope x := by first | exact Or.inl rfl | exact Or.inr (Or.inl rfl) | exact Or.inr (Or.inr rfl)) (hd : (x == ("__debug__" : Str)) = false := by decide) (hcd : (x == ("__classdict__" : Str)) = false := by decide)
    (hbase : attributeBase (.Name x p) "pop" X.env (eval (.Name x p) X.env) = eval (.Name x p) X.env := by rfl) (hline : (apos.endLine == cpos.line) = true := by rfl) :
    QE X C (.Call (.Attribute (.Name x p) "pop" apos) [] [] cpos) (dMut0 "list" i popD) :=
  m_mut0 PySem.F.plainAttrs_list PySem.F.slot_list_pop PySem.F.type_list_pop mt_pop ok_pop (pe_var hN hvis hd hcd) hbase hline
theorem m_reverse (hN : X.N[i]? = some x := by rfl) (hvis : Vis X.env.scope x := by first | exact Or.inl rfl | exact Or.inr (Or.inl rfl) | exact Or.inr (Or.inr rfl)) (hd : (x == ("__debug__" : Str)) = false := by decide) (hcd : (x == ("__classdict__" : Str)) = false := by decide)
    (hbase : attributeBase (.Name x p) "reverse" X.env (eval (.Name x p) X.env) = eval (.Name x p) X.env := by rfl) (hline : (apos.endLine == cpos.line) = true := by rfl) :
    QE X C (.Call (.Attribute (.Name x p) "reverse" apos) [] [] cpos) (dMut0 "list" i reverseD) :=
  m_mut0 PySem.F.plainAttrs_list PySem.F.slot_list_reverse PySem.F.type_list_reverse mt_reverse ok_reverse (pe_var hN hvis hd hcd) hbase hline
end
/-! ### o[i] = v -/
def putD (kvs : List (PyData × PyData)) (q : Key) (v : PyData) : List (PyData × PyData) :=
  if (kvs.any fun p => decide (keyD p.1 = some q)) then kvs.map (fun p => if keyD p.1 = some q then (p.1, v) else p) else kvs ++ [(kD q, v)]
theorem RepKV.any {K : PySem.W.Frag} {F : Hp} {q : Key} : ∀ {ks : List (Key × V)} {ds : List (PyData × PyData)}, RepKV K F ks ds → (ds.any fun p => decide (keyD p.1 = some q)) = ks.any fun kv => decide (kv.1 = q)
  | _, _, .nil => rfl
  | _, _, .cons (k := k') r t => by
    simp only [List.any_cons, kD_keyD]
    rw [RepKV.any t]
    congr 1
    by_cases e : k' = q
    · simp [e]
    · simp [e]
theorem RepKV.repl {K : PySem.W.Frag} {F : Hp} {q : Key} {v : V} {d : PyData} (rv : Rep K F v d) : ∀ {ks : List (Key × V)} {ds : List (PyData × PyData)}, RepKV K F ks ds → RepKV K F (ks.map fun kv => if kv.1 = q then (kv.1, v) else kv) (ds.map fun p => if keyD p.1 = some q then (p.1, d) else p)
  | _, _, .nil => .nil
  | _, _, .cons (k := k') (v := v') (d := d') r t => by
    rw [List.map_cons, List.map_cons]
    by_cases e : k' = q
    · rw [if_pos e, if_pos (by rw [kD_keyD, e])]
      exact .cons rv (RepKV.repl rv t)
    · rw [if_neg e, if_neg (by rw [kD_keyD]; exact fun z => e (Option.some.inj z))]
      exact .cons r (RepKV.repl rv t)
theorem RepKV.snoc {K : PySem.W.Frag} {F : Hp} {q : Key} {v : V} {d : PyData} (rv : Rep K F v d) : ∀ {ks : List (Key × V)} {ds : List (PyData × PyData)}, RepKV K F ks ds → RepKV K F (ks ++ [(q, v)]) (ds ++ [(kD q, d)])
  | _, _, .nil => .cons rv .nil
  | _, _, .cons r t => .cons r (RepKV.snoc rv t)
theorem RepKV.put {K : PySem.W.Frag} {F : Hp} {q : Key} {v : V} {d : PyData} {ks : List (Key × V)} {ds : List (PyData × PyData)} (r : RepKV K F ks ds) (rv : Rep K F v d) : RepKV K F (putK ks q v) (putD ds q d) := by
  unfold putK putD
  rw [r.any]
  split
  · exact r.repl rv
  · exact r.snoc rv
def setD : OpS := fun d di dv k => match d, di with
  | .list xs, .int i => match ixN xs.length i with
    | some j => k (.list (xs.set j dv))
    | none => False
  | .dict kvs, di => match keyG kvs di with
    | some q => kvs.length < big ∧ k (.dict (putD kvs q dv))
    | none => False
  | _, _ => False
def rSetA : TSet := fun o i v H Q => rSetL o i v H Q ∨ ∃ a H', o = .ref a ∧ DPut H a i v H' ∧ Q H'
theorem set_all (hu : X.A.units + 1 < cLine) : PSet X rSetA := by
  intro pins s σ H o i v ov iv u Q I ro ri rv h
  rcases h with h | ⟨a, H', e, g, q⟩
  · exact set_list pins s σ H o i v ov iv u Q I ro ri rv h
  · subst e
    cases ro
    exact d_setItem hu I g ri rv fun s' I' => ⟨H', I', q⟩
theorem ok_set : SetOk X rSetA setD := fun F H a iv v d di dv q Q s hF hO vi rv w k => by
  cases d with
  | list xs =>
    cases di with
    | int i =>
      obtain ⟨us, e, ru⟩ := hO
      rw [view_int vi]
      have w : (match ixN xs.length i with | some j => q (.list (xs.set j dv)) | none => False) := w
      cases z : ixN xs.length i with
      | none => rw [z] at w; exact w.elim
      | some j =>
        rw [z] at w
        exact .inl ⟨a, us, i, j, rfl, rfl, e, by rw [ru.length]; exact z, k _ _ w ⟨_, upd_same, ru.set rv j⟩⟩
    | _ => exact w.elim
  | dict kvs =>
    have w : (match keyG kvs di with | some q' => kvs.length < big ∧ q (.dict (putD kvs q' dv)) | none => False) := by cases di <;> exact w
    cases z : keyG kvs di with
    | none => rw [z] at w; exact w.elim
    | some key =>
      rw [z] at w
      obtain ⟨hk, z⟩ := keyG_some z
      rcases hO with ⟨us, e, ru⟩ | ⟨w0, us, n, e, ru⟩
      · rw [key_view vi z]
        exact .inr ⟨a, _, rfl, DPut.k e (by rw [ru.length]; exact lt_line w.1), k _ _ w.2 (.inl ⟨_, upd_same, ru.put rv⟩)⟩
      · rw [RepNK.keysK ru n] at hk
        cases hk
  | _ => exact w.elim
theorem s_put {ix val : Expr} {ti tv : DE} {tpos : Pos} (hP : C.Tags P) (hr : Room k X.A) (hval : QE X C val tv) (hix : QE X C ix ti) (hN : X.N[i]? = some x := by rfl) (hvis : Vis X.env.scope x := by first | exact Or.inl rfl | exact Or.inr (Or.inl rfl) | exact Or.inr (Or.inr rfl)) (hd : (x == ("__debug__" : Str)) = false := by decide) (hcd : (x == ("__classdict__" : Str)) = false := by decide)
    (hasg : ∀ v, assign (.Subscript (.Name x p) ix tpos) X.env v = (do
      let ov ← holding [v] (eval (.Name x p) X.env)
      let iv ← holding [v, ov] (eval ix X.env)
      standAt tpos
      holding [v, ov, iv] (setItem ov iv v)
      release [v, ov, iv] []) := by intro _; rfl)
    (hs : swapsWithSole [.Subscript (.Name x p) ix tpos] val pos.line X.env = pure false := by rfl) (hw : swappedStores [.Subscript (.Name x p) ix tpos] val X.env = pure none := by rfl)
    (h1 : (assignEach [.Subscript (.Name x p) ix tpos] X.env).map (·.2) = [assign (.Subscript (.Name x p) ix tpos) X.env] := by rfl) : QS X C (.Assign [.Subscript (.Name x p) ix tpos] val pos) (dSetIx P i setD tv ti) :=
  s_setIx hP (set_all (hu_of hr)) ok_set hval hix (pe_var hN hvis hd hcd) hasg hs hw h1
/-! ### {} and {k: v, ..} -/
def dDict0 : DO := fun ρ Q => Q (.dict []) ρ
theorem o_dict0 : QO X C (.Dict [] [] pos) dDict0 := QO.of pe_dnewK fun σ H Q ⟨F, ρ, q, S, ht, k⟩ => fun p hp => by
  obtain ⟨S3, fr⟩ := S.layD hp (.nil)
  exact k _ _ _ _ _ ht S3 (Same.refl F) fr
end
end Dv

set_option Elab.async false
set_option linter.all false
set_option maxRecDepth 100000
set_option autoImplicit false
namespace Dv
open PySem PySem.Spec L2
section
variable {X : Cx} {C : FC} {P : List Bool} {a b c e o : Expr} {es : List Expr} {pos p apos cpos : Pos} {ta tb tc to : DE} {k i : Nat} {tA : DA} {x : Str}
/-! ### {k: v, ..} -/
structure QPs (X : Cx) (P : List Bool) (pos : Pos) (keys : List (Option Expr)) (values : List Expr) (ts : List (DE × DE)) : Prop where
  pps : PPs X pos keys values (ts.map fun t => (lE' X.K P t.1, lE' X.K P t.2))
theorem ps_nil' : QPs X P pos [] [] [] := ⟨pps_nil⟩
theorem ps_cons' {kx v : Expr} {ks : List (Option Expr)} {vs : List Expr} {tk tv : DE} {ts : List (DE × DE)} (hk : ∀ C : FC, C.Tags P → QE X C kx tk) (hv : ∀ C : FC, C.Tags P → QE X C v tv) (hr : QPs X P pos ks vs ts) : QPs X P pos (some kx :: ks) (v :: vs) ((tk, tv) :: ts) :=
  ⟨pps_cons (pe' hk) (pe' hv) hr.pps⟩
def dPairs (P : List Bool) : List (DE × DE) → DEnv → (List (Key × PyData) → DEnv → Prop) → Prop
  | [], ρ, Q => Q [] ρ
  | (tk, tv) :: r, ρ, Q => tk ρ fun o ρ1 => match o with
    | .val d => match keyD d with
      | some q => tv ρ1 fun ov ρ2 => share P ρ2 ov fun dv ρ3 => dPairs P r ρ3 fun ps ρ4 => Q ((q, dv) :: ps) ρ4
      | none => False
    | .slot _ => False
def mergeD (kvs : List (PyData × PyData)) (more : List (Key × PyData)) : List (PyData × PyData) := more.foldl (fun acc kv => putD acc kv.1 kv.2) kvs
def dDisp (P : List Bool) (ts : List (DE × DE)) : DO := fun ρ Q => dPairs P ts ρ fun ps ρ1 => ps.length ≤ 15 ∧ Q (.dict (mergeD [] ps)) ρ1
inductive RepPs (K : PySem.W.Frag) (F : Hp) : List (Key × V) → List (Key × PyData) → Prop
  | nil : RepPs K F [] []
  | cons {k : Key} {v : V} {vs : List (Key × V)} {d : PyData} {ds : List (Key × PyData)} : Rep K F v d → RepPs K F vs ds → RepPs K F ((k, v) :: vs) ((k, d) :: ds)
theorem RepPs.mono {K : PySem.W.Frag} {F F' : Hp} (e : Same F F') : ∀ {vs : List (Key × V)} {ds : List (Key × PyData)}, RepPs K F vs ds → RepPs K F' vs ds
  | _, _, .nil => .nil
  | _, _, .cons h r => .cons (h.mono e) (RepPs.mono e r)
theorem RepPs.length {K : PySem.W.Frag} {F : Hp} : ∀ {vs : List (Key × V)} {ds : List (Key × PyData)}, RepPs K F vs ds → vs.length = ds.length
  | _, _, .nil => rfl
  | _, _, .cons _ r => by simp [RepPs.length r]
theorem RepPs.merge {K : PySem.W.Frag} {F : Hp} : ∀ {vs : List (Key × V)} {ds : List (Key × PyData)} {ks : List (Key × V)} {es : List (PyData × PyData)}, RepPs K F vs ds → RepKV K F ks es → RepKV K F (mergeK ks vs) (mergeD es ds)
  | _, _, _, _, .nil, r => r
  | _, _, ks, es, .cons (k := k) (v := v) (vs := vs) (d := d) (ds := ds) h t, r => by
    show RepKV K F (mergeK (putK ks k v) vs) (mergeD (putD es k d) ds)
    exact RepPs.merge t (r.put h)
theorem pairs_low {D : Addr} {ob : HO} (hP : C.Tags P) (pnD : C.pn D = none) : ∀ {ts : List (DE × DE)} {F H : Hp} {ρ : DEnv} {σ : L2.St} {q : List (Key × PyData) → DEnv → Prop} {Q : List (V × V) → Hp → Prop}, Sim X.K (C.pin D ob) F H ρ σ → dPairs P ts ρ q →
    (∀ ps ρ' F' H' kvs, q ps ρ' → Sim X.K (C.pin D ob) F' H' ρ' σ → Same F F' → RepPs X.K F' kvs ps → Q (kvs.map fun kv => (kV kv.1, kv.2)) H') → tPairs (ts.map fun t => (lE' X.K P t.1, lE' X.K P t.2)) σ H Q
  | [], F, H, ρ, σ, q, Q, S, h, k => k [] ρ F H [] h S (Same.refl F) .nil
  | (tk, tv) :: r, F, H, ρ, σ, q, Q, S, h, k => by
    refine ⟨C.pin D ob, FC.pin_tags hP, F, ρ, _, S, h, fun o ρ1 F1 H1 x h1 S1 s1 d1 => ?_⟩
    cases o with
    | slot i => exact h1.elim
    | val d =>
      dsimp only at h1
      cases kd : keyD d with
      | none => rw [kd] at h1; exact h1.elim
      | some key =>
        rw [kd] at h1
        have ex : x = kV key := key_view (Rep.view S1.sub d1) kd
        subst ex
        refine ⟨C.pin D ob, FC.pin_tags hP, F1, ρ1, _, S1, h1, fun ov ρ2 F2 H2 y h2 S2 s2 d2 => ?_⟩
        obtain ⟨dv, ρ3, F3, h3, S3, s3, r3⟩ := S2.share (FC.pin_tags hP) d2 h2
        exact pairs_low hP pnD S3 h3 fun ps ρ' F' H' kvs hq S' s' rp => k ((key, dv) :: ps) ρ' F' H' ((key, y) :: kvs) hq S' (((s1.trans s2).trans s3).trans s') (.cons (r3.mono s') rp)
theorem o_disp {keys : List (Option Expr)} {values : List Expr} {ts : List (DE × DE)} (hP : C.Tags P) (h : QPs X P pos keys values ts) (hall : keys.all (·.isSome) = true := by rfl) (hl : keys.length = values.length := by rfl) (h0 : keys ≠ [] := by intro z; cases z) (h15 : keys.length ≤ 15 := by decide) :
    QO X C (.Dict keys values pos) (dDisp P ts) := QO.of (pe_disp h.pps hall hl h0 h15) fun σ H Q ⟨F, ρ, q, S, ht, k⟩ => fun D hD => by
  have pnD := S.pnone hD
  obtain ⟨S1, f1, h01, _, ne1, nf1⟩ := S.lay hD (o := .dK [])
  refine pairs_low hP pnD (S1.pinned upd_same f1 ne1 nf1) ht fun ps ρ' F' H' kvs ⟨hlen, hq⟩ S' s' rp => ?_
  obtain ⟨S2, hD2, fD2, oD2, nD2⟩ := Sim.unpinned pnD S'
  refine ⟨hD2, kvs, rfl, by rw [rp.length]; exact hlen, ?_⟩
  refine k _ ρ' F' _ D hq ?_ s' ⟨fD2, .inl ⟨_, upd_same, rp.merge .nil⟩, h01, pnD, oD2, S2.dp.updF nD2⟩
  refine ⟨S2.len, fun b o e => ?_, S2.frz, fun j e' hj => ?_, S2.ne, S2.par, S2.f0, fun b o e hb => ?_, S2.new, fun b o e => ?_, S2.dp.upd nD2⟩
  · rw [upd_ne (ne_of_none e fD2)]; exact S2.sub b o e
  · obtain ⟨b, g1, g2, g3, g4⟩ := S2.own j e' hj
    have nb : b ≠ D := fun z => oD2 j e' hj (z ▸ g1)
    exact ⟨b, g1, g2, g3.mono (Same.refl _) fun o ho => by rw [upd_ne nb]; exact ho, g4⟩
  · have nb : b ≠ D := fun z => by rw [z, h01] at e; cases e
    rw [upd_ne nb]; exact S2.h0 b o e hb
  · obtain ⟨g1, g2, g3⟩ := S2.pin b o e
    have nb : b ≠ D := fun z => by rw [z, pnD] at e; cases e
    exact ⟨by rw [upd_ne nb]; exact g1, g2, g3⟩
/-! ### constants of the module -/
theorem q_gstr {v : Str} {t : Tok} (hm : X.mg x = some (.str v t)) (hg : Gl X x := by rfl) (hd : (x == ("__debug__" : Str)) = false := by decide) : QE X C (.Name x pos) (dC (.str v)) := q_const (pe_glob (v := .str v) hg hm ⟨_, rfl⟩ hd) fun _ => .str v
theorem q_gint {v : Int} {t : Tok} (hm : X.mg x = some (.int v t)) (hg : Gl X x := by rfl) (hd : (x == ("__debug__" : Str)) = false := by decide) : QE X C (.Name x pos) (dC (.int v)) := q_const (pe_glob (v := .int v) hg hm ⟨_, rfl⟩ hd) fun _ => .int v
/-! ### list(text), tuple(text) -/
def signsV (z : Str) : List V := z.cps.toList.map fun c => V.str ⟨#[c]⟩
theorem signs_rep {K : PySem.W.Frag} {F : Hp} (z : Str) : RepAll K F (signsV z) (signsD z) := by
  unfold signsV signsD
  induction z.cps.toList with
  | nil => exact .nil
  | cons c cs ih => exact .cons (.str _) ih
theorem signs_vals {z : Str} {acc : Array Value} (h : ItemsOf (SignAt z) acc z.cps.size) : Vals (signsV z) acc.toList := by
  obtain ⟨hs, hv⟩ := h
  refine vals_of_at (by simp [signsV, hs]) fun j x u h1 h2 => ?_
  have h3 : acc[j]? = some u := by simpa using h2
  obtain ⟨c, tk, e1, e2⟩ := hv j u h3
  have h4 : z.cps.toList[j]? = some c := by simpa using e1
  simp only [signsV, List.getElem?_map, h4, Option.map_some, Option.some.injEq] at h1
  subst h1 e2
  exact ⟨tk, rfl⟩
theorem call_list_strR (hc : X.calm = true) : CallR X (.type "list") (fun xs H Q => ∃ z, xs = [.str z] ∧ z.length ≤ sizeLine ∧ ∀ l, H l = none → Q (.ref l) (upd H l (.lst (signsV z)))) := by
  intro pins s σ H xs us Q I r h
  obtain ⟨z, rfl, hz, q⟩ := h
  obtain ⟨u, rfl, ru⟩ := vals1 r
  obtain ⟨t, rfl⟩ := ru
  refine PySem.call_list_str (I.ok.hd hc) z t (fun h' tk acc c' hk hS hacc => ?_) hz
  refine ⟨.ref _, _, I.laid (t' := tk) (o := .lst (signsV z)) hk (Nat.le_refl _) ⟨by simpa [signsV, Str.length] using hz, acc.toList, c', signs_vals hacc, by simpa using hS⟩, rfl, q _ (I.hok.fresh (Nat.le_refl _))⟩
theorem call_tuple_strR (hc : X.calm = true) : CallR X (.type "tuple") (fun xs H Q => ∃ z, xs = [.str z] ∧ z.length ≤ sizeLine ∧ ∀ l, H l = none → Q (.ref l) (upd H l (.tup (signsV z)))) := by
  intro pins s σ H xs us Q I r h
  obtain ⟨z, rfl, hz, q⟩ := h
  obtain ⟨u, rfl, ru⟩ := vals1 r
  obtain ⟨t, rfl⟩ := ru
  refine PySem.call_tuple_str (I.ok.hd hc) z t (fun h' tk acc hk hacc => ?_) hz
  have I1 : Inv X pins σ H { s with heap := h' } := I.kept (t' := s.toks) hk
  refine ⟨.ref h'.objs.size, _, I1.laid (t' := tk) (o := .tup (signsV z)) (fun b o e => Heap.get?_push_of_some _ e) (Nat.le_refl _) ⟨by simpa [signsV, Str.length] using hz, acc.toList, signs_vals hacc, by simpa using PyProof.Rows.IsTup.new h' acc⟩, rfl, q _ (I1.hok.fresh (Nat.le_refl _))⟩
def listSD : OpNL := fun ds k => match ds with
  | [.list xs] => k xs
  | [.tuple xs] => k xs
  | [.str z] => z.length ≤ big ∧ k (signsD z)
  | _ => False
theorem o_listS (hc : X.calm = true) (hm : X.mg "list" = none) (ha : QA X C [a] tA) (hg : Gl X "list" := by rfl)
    (he : starEach [a] X.env = (false, eval a X.env) :: starEach [] X.env := by rfl) (hpl : (backTo pos (starEach [] X.env)).any (·.1) = false := by rfl) : QO X C (.Call (.Name "list" p) [a] [] pos) (dCBL listSD tA) :=
  o_callTy (call_list_of.or (call_list_strR hc)) (fun F H vs ds q Q s v w k => by
    match ds, v, w with
    | [.list xs], v, w =>
      obtain ⟨v, e, a, ys, e2, h, r⟩ := va1 v
      subst e e2
      exact .inl ⟨a, ys, rfl, .inl h, fun l hl => k _ _ l w hl r⟩
    | [.tuple xs], v, w =>
      obtain ⟨v, e, vv⟩ := va1 v
      obtain ⟨a, ys, e2, h, r, _⟩ := view_tup s vv
      subst e e2
      exact .inl ⟨a, ys, rfl, .inr h, fun l hl => k _ _ l w hl r⟩
    | [.str z], v, w =>
      obtain ⟨v, e, vv⟩ := va1 v
      rw [view_str vv] at e
      subst e
      exact .inr ⟨z, rfl, le_line w.1, fun l hl => k _ _ l w.2 hl (signs_rep z)⟩) hm (by decide +kernel) ha hg (by decide) (by decide) he hpl
def tupleSD : OpN := fun ds k => match ds with
  | [.list xs] => k (.tuple xs)
  | [.tuple xs] => k (.tuple xs)
  | [.str z] => z.length ≤ big ∧ k (.tuple (signsD z))
  | _ => False
theorem q_tupleS (hc : X.calm = true) (hm : X.mg "tuple" = none) (ha : QA X C [a] tA) (hg : Gl X "tuple" := by rfl)
    (he : starEach [a] X.env = (false, eval a X.env) :: starEach [] X.env := by rfl) (hpl : (backTo pos (starEach [] X.env)).any (·.1) = false := by rfl) : QE X C (.Call (.Name "tuple" p) [a] [] pos) (dCB tupleSD tA) :=
  q_callTy (call_tuple_of.or (call_tuple_strR hc)) (fun F H vs ds q Q s v w k => by
    match ds, v, w with
    | [.list xs], v, w =>
      obtain ⟨v, e, a, ys, e2, h, r⟩ := va1 v
      subst e e2
      refine .inl ⟨a, ys, rfl, .inl ⟨h, fun l hl => ?_⟩⟩
      have g := Gr.new (o := .tup ys) s hl
      exact k _ _ _ _ w g (.tup (SqT.of upd_same) (r.mono g.f))
    | [.tuple xs], v, w =>
      obtain ⟨v, e, vv⟩ := va1 v
      obtain ⟨a, ys, e2, h, r, rp⟩ := view_tup s vv
      subst e e2
      exact .inl ⟨a, ys, rfl, .inr ⟨h, k _ _ _ _ w (Gr.refl s) rp⟩⟩
    | [.str z], v, w =>
      obtain ⟨v, e, vv⟩ := va1 v
      rw [view_str vv] at e
      subst e
      refine .inr ⟨z, rfl, le_line w.1, fun l hl => ?_⟩
      have g := Gr.new (o := .tup (signsV z)) s hl
      exact k _ _ _ _ w.2 g (.tup (SqT.of upd_same) (signs_rep z))) hm (by decide +kernel) ha hg (by decide) (by decide) he hpl
end
/-! ### a law -/
/-- what a law is asked -/
def lawSp (n : Nat) (B : List Int → Prop) : SpD := fun ds q => ∃ ns : List Int, ds = [.list (ns.map .int)] ∧ ns.length ≤ n ∧ B ns ∧ q (.frz (.bool true)) [none]
theorem law_sp {K : PySem.W.Frag} {H : Hp} {a : Addr} {ns : List Int} {n : Nat} {B : List Int → Prop} (hl : ns.length ≤ n) (hB : B ns) (hS : SqL K H a (ns.map V.int)) : spOf K [false] (lawSp n B) [.ref a] H (fun v _ => v = .bl true) fun _ _ _ => False := by
  refine ⟨H, [.list (ns.map .int)], fun r _ => r = .frz (.bool true), Same.refl H, ⟨rfl, rfl, fun i v d hv hd _ => ?_, fun i _ _ _ _ z => ?_, fun i _ _ z => ?_⟩, ⟨ns, rfl, hl, hB, rfl⟩, fun r outs F' H' v hq post => ?_⟩
  · cases i with
    | zero =>
      simp at hv hd
      subst hv hd
      exact .lst hS (repAll_ints ns)
    | succ i => simp at hv
  · cases i <;> simp at z
  · cases i <;> simp at z
  · subst hq
    have := post.res
    cases (show Rep K F' v (.bool true) from this)
    rfl
end Dv

set_option Elab.async false
set_option linter.all false
set_option maxRecDepth 100000
set_option autoImplicit false
namespace Dv
open PySem PySem.Spec L2
/-! ### + * and slices whatever they are, new lists frozen -/
section
variable {X : Cx} {C : FC} {P : List Bool} {a b c e o : Expr} {es : List Expr} {pos p p2 apos cpos : Pos} {ta tb tc to : DE} {k i : Nat} {tA : DA} {x : Str}
def addAD : Op2 := fun d e k => match d, e with
  | .int i, .int j => k (.int (i + j))
  | .str x, .str y => x.length + y.length ≤ big ∧ k (.str (x ++ y))
  | .tuple xs, .tuple ys => xs.length + ys.length ≤ big ∧ k (.tuple (xs ++ ys))
  | .list xs, .list ys => xs.length + ys.length ≤ big ∧ k (.list (xs ++ ys))
  | _, _ => False
theorem ok_addA : OpOk X (fun x y H Q => rAddA X.K x y H Q ∨ rCatR X.K x y H Q) addAD := fun F H x y d e q Q s v1 v2 w k => by
  by_cases h : ∃ xs ys, d = .list xs ∧ e = .list ys
  · obtain ⟨xs, ys, e1, e2⟩ := h
    subst e1 e2
    refine .inr (ok_cat F H x y _ _ (fun g => q (.list g)) Q s v1 v2 w fun ds us p hq hp hr => ?_)
    have g := Gr.new (o := .lst us) s hp
    exact k _ _ _ _ hq g (.lst (SqL.of upd_same) (hr.mono g.f))
  · refine .inl (ok_add F H x y d e q Q s v1 v2 ?_ k)
    cases d <;> cases e <;> first | exact w | exact w.elim | exact absurd ⟨_, _, rfl, rfl⟩ h
theorem q_addA (ha : QE X C a ta) (hb : QE X C b tb) : QE X C (.BinOp a .Add b pos) (dBin addAD ta tb) := q_bin (op_addA.or op_catR) ok_addA ha hb
def mulAD : Op2 := fun d e k => match d, e with
  | .int i, .int j => CMul i j ∧ k (.int (i * j))
  | .list xs, .int n => -(2 ^ 63) ≤ n ∧ n < 2 ^ 63 ∧ xs.length * n.toNat ≤ big ∧ k (.list (List.replicate n.toNat xs).flatten)
  | _, _ => False
theorem ok_mulA : OpOk X (fun x y H Q => rI CMul (fun i j => .int (i * j)) x y H Q ∨ rRepR X.K x y H Q) mulAD := fun F H x y d e q Q s v1 v2 w k => by
  cases d with
  | int i =>
    cases e with
    | int j => exact .inl (ok_int F H x y _ _ q Q s v1 v2 w k)
    | _ => exact w.elim
  | list xs =>
    cases e with
    | int j =>
      refine .inr (ok_rep F H x y _ _ (fun g => q (.list g)) Q s v1 v2 w fun ds us p hq hp hr => ?_)
      have g := Gr.new (o := .lst us) s hp
      exact k _ _ _ _ hq g (.lst (SqL.of upd_same) (hr.mono g.f))
    | _ => exact w.elim
  | _ => exact w.elim
theorem q_mulA (ha : QE X C a ta) (hb : QE X C b tb) : QE X C (.BinOp a .Mult b pos) (dBin mulAD ta tb) := q_bin (op_mul.or op_repR) ok_mulA ha hb
def dSlA (t : DE) (lo hi : DP) : DE := fun ρ Q => t ρ fun o ρ1 => lo ρ1 fun l ρ2 => hi ρ2 fun h ρ3 => withO ρ3 o fun d => match d with
  | .tuple ds => Q (.val (.tuple (cutD ds l h))) ρ3
  | .list ds => Q (.val (.list (cutD ds l h))) ρ3
  | .str z => z.length ≤ big ∧ Q (.val (.str (cutS z l h))) ρ3
  | _ => False
theorem q_sliceA {lo hi : Option Expr} {tl th : DP} (ha : QE X C a ta) (hl : QP X C lo tl) (hh : QP X C hi th) : QE X C (.Subscript a (.Slice lo hi none p2) pos) (dSlA ta tl th) :=
  QE.of (pe_slice (SlR.or sl_tupA (SlR.or sl_str sl_list)) ha.pe hl.po hh.po) fun σ H Q ⟨F, ρ, q, S, ht, k⟩ => by
    refine ⟨F, ρ, _, S, ht, fun o ρ1 F1 H1 v h1 S1 s1 d1 => ⟨F1, ρ1, _, S1, h1, fun l ρ2 F2 H2 h2 S2 s2 => ⟨F2, ρ2, _, S2, h2, fun u ρ3 F3 H3 h3 S3 s3 => ?_⟩⟩⟩
    have s03 := (s1.trans s2).trans s3
    obtain ⟨d, vd, w⟩ := S3.see (d1.mono (s2.trans s3)) h3
    cases d with
    | tuple ds =>
      obtain ⟨a, xs, e1, hq, r, rp⟩ := view_tup S3.sub vd
      subst e1
      refine .inl ⟨a, xs, rfl, hq, fun z => ?_, fun z p hp => ?_⟩
      · refine k _ _ _ _ _ w S3 s03 ?_
        show Rep X.K F3 (.ref a) (.tuple (cutD ds l u))
        rw [cut_whole r z.1 z.2]; exact rp
      · have g := Gr.new (o := .tup (cutV xs l u)) S3.sub hp
        exact k _ _ _ _ _ w (S3.grow g) (s03.trans g.f) (.tup (SqT.of upd_same) ((r.cut l u).mono g.f))
    | str z =>
      rw [view_str vd]
      exact .inr (.inl ⟨z, rfl, le_line w.1, k _ _ _ _ _ w.2 S3 s03 (.str _)⟩)
    | list ds =>
      obtain ⟨a, xs, e1, hq, r⟩ := vd
      subst e1
      refine .inr (.inr ⟨a, xs, rfl, hq, fun p hp => ?_⟩)
      have g := Gr.new (o := .lst (cutV xs l u)) S3.sub hp
      exact k _ _ _ _ _ w (S3.grow g) (s03.trans g.f) (.lst (SqL.of upd_same) ((r.cut l u).mono g.f))
    | _ => exact w.elim
end
/-! ### defs of the text -/
structure FunAt (K : PySem.W.Frag) (mg : Str → Option Value) (x : Str) (st : Stmt) (ps : List Str) : Prop where
  ex : ∃ f fd, Fun K x x st f fd ∧ mg x = some (.ref f) ∧ Binds K fd ps []
structure FnAt (Pg : Program) (w : World) (K : PySem.W.Frag) (mg : Str → Option Value) (base : Heap) (k : Nat) (x : Str) (ps : List Str) (P : List Bool) (S : SpD) : Prop where
  ex : ∃ f fd, FnG Pg w K mg base k f fd ps (spOf K P S) ∧ mg x = some (.ref f) ∧ PySem.W.keepIn K (.ref f) = true ∧ Binds K fd ps []
theorem FnAt.mono {Pg : Program} {w : World} {K : PySem.W.Frag} {mg : Str → Option Value} {base : Heap} {j k : Nat} {x : Str} {ps : List Str} {P : List Bool} {S : SpD} (h : FnAt Pg w K mg base j x ps P S) (hjk : j ≤ k := by omega) : FnAt Pg w K mg base k x ps P S := by
  obtain ⟨f, fd, F, a, b, c⟩ := h.ex
  exact ⟨f, fd, F.mono hjk, a, b, c⟩
/-- a weaker promise over data -/
theorem FnAt.imp {Pg : Program} {w : World} {K : PySem.W.Frag} {mg : Str → Option Value} {base : Heap} {k : Nat} {x : Str} {ps : List Str} {P : List Bool} {S S' : SpD} (h : FnAt Pg w K mg base k x ps P S) (hi : ∀ ds q, S' ds q → S ds q) : FnAt Pg w K mg base k x ps P S' := by
  obtain ⟨f, fd, F, a, b, c⟩ := h.ex
  exact ⟨f, fd, F.imp fun {vs H Q E} ⟨F1, ds, q, s, A, hS, kk⟩ => ⟨F1, ds, q, s, A, hi ds q hS, kk⟩, a, b, c⟩
theorem fn_at {Pg : Program} {w : World} {K : PySem.W.Frag} {mg : Str → Option Value} {base : Heap} {x : Str} {st : Stmt} {N ps : List Str} {k : Nat} {P : List Bool} {S : SpD} {g : DS}
    (FA : FunAt K mg x st ps) (Sc : FnScope N ps (defScope st)) (hl : P.length = ps.length) (hN : ps.length ≤ N.length)
    (der : ∀ (f : Addr) (cdv : Value) (A : Around) (outer : List Env) (s : Shared) (H : Hp) (E : XK) (C : FC), RG k (A.deeper (PyProof.Rows.envOfC x (defScope st) s.heap.objs.size f cdv)) → C.Tags P → QSs (cxOf CX0 Pg w K mg base N x (defScope st) f cdv A outer s H E).nox C (defBody st) g)
    (pure : ∀ ds q, S ds q → ds.length = P.length → g (endsOf P q) (startE N.length P ds)) : FnAt Pg w K mg base (k + 1) x ps P S := by
  obtain ⟨f, fd, F, hm, hb⟩ := FA.ex
  exact ⟨f, fd, fn_ok F Sc hl hN (fun cdv A outer s H E C hr hP => der f cdv A outer s H E C hr hP) pure, hm, F.kp, hb⟩
section
variable {X : Cx} {C : FC} {P ts : List Bool} {S : SpD} {ta : DA} {k : Nat} {ps : List Str} {x : Str} {p pos : Pos} {e : Expr} {es : List Expr}
theorem q_callF (hP : C.Tags P) (h : FnAt X.prog X.w X.K X.mg X.base k x ps ts S) (hr : RG k X.A) (ha : QA X C (e :: es) ta) (hg : Gl X x := by rfl) (hdb : (x == ("__debug__" : Str)) = false := by decide) (he : starEach (e :: es) X.env = (false, eval e X.env) :: starEach es X.env := by rfl) (hpl : (backTo pos (starEach es X.env)).any (·.1) = false := by rfl) :
    QE X C (.Call (.Name x p) (e :: es) [] pos) (dCall P ts S ta) := by
  obtain ⟨f, fd, F, a, b, c⟩ := h.ex
  exact q_call hP F hr a b c ha hg hdb he hpl
theorem o_callF (hP : C.Tags P) (h : FnAt X.prog X.w X.K X.mg X.base k x ps ts S) (hr : RG k X.A) (ha : QA X C (e :: es) ta) (hg : Gl X x := by rfl) (hdb : (x == ("__debug__" : Str)) = false := by decide) (he : starEach (e :: es) X.env = (false, eval e X.env) :: starEach es X.env := by rfl) (hpl : (backTo pos (starEach es X.env)).any (·.1) = false := by rfl) :
    QO X C (.Call (.Name x p) (e :: es) [] pos) (dCallO P ts S ta) := by
  obtain ⟨f, fd, F, a, b, c⟩ := h.ex
  exact o_call hP F hr a b c ha hg hdb he hpl
theorem q_callBF {n : Nat} (h : FnAt X.prog X.w X.K X.mg X.base k x ps (List.replicate n false) S) (hr : RG k X.A) (ha : QA X C (e :: es) ta) (hg : Gl X x := by rfl) (hdb : (x == ("__debug__" : Str)) = false := by decide) (he : starEach (e :: es) X.env = (false, eval e X.env) :: starEach es X.env := by rfl) (hpl : (backTo pos (starEach es X.env)).any (·.1) = false := by rfl) :
    QE X C (.Call (.Name x p) (e :: es) [] pos) (dCallB n S ta) := by
  obtain ⟨f, fd, F, a, b, c⟩ := h.ex
  exact q_callB' F hr a b c ha hg hdb he hpl
theorem q_gstr' {v : Str} {C : FC} (hm : ∃ t, X.mg x = some (.str v t)) (hg : Gl X x := by rfl) (hd : (x == ("__debug__" : Str)) = false := by decide) : QE X C (.Name x pos) (dC (.str v)) := let ⟨_, h⟩ := hm; q_gstr h hg hd
theorem q_gint' {v : Int} {C : FC} (hm : ∃ t, X.mg x = some (.int v t)) (hg : Gl X x := by rfl) (hd : (x == ("__debug__" : Str)) = false := by decide) : QE X C (.Name x pos) (dC (.int v)) := let ⟨_, h⟩ := hm; q_gint h hg hd
end
end Dv

set_option Elab.async false
set_option linter.all false
set_option maxRecDepth 100000
set_option autoImplicit false
namespace Dv
open PySem PySem.Spec L2
/-! ### tools for proofs over data -/
theorem by2_i {c : Bool} {a b : Prop} (h1 : c = true → a) (h2 : c = false → b) : by2 c a b := by
  cases c with
  | true => exact h1 rfl
  | false => exact h2 rfl
theorem by2_d {p : Prop} [Decidable p] {a b : Prop} (h1 : p → a) (h2 : ¬ p → b) : by2 (decide p) a b := by2_i (fun h => h1 (of_decide_eq_true h)) fun h => h2 (of_decide_eq_false h)
theorem by2_nd {p : Prop} [Decidable p] {a b : Prop} (h1 : ¬ p → a) (h2 : p → b) : by2 (!decide p) a b := by
  by_cases h : p
  · rw [decide_eq_true h]; exact h2 h
  · rw [decide_eq_false h]; exact h1 h
theorem by2_t {c : Bool} {a b : Prop} (h : c = true) (ha : a) : by2 c a b := by subst h; exact ha
theorem by2_f {c : Bool} {a b : Prop} (h : c = false) (hb : b) : by2 c a b := by subst h; exact hb
/-- sizes of written lists -/
theorem tle {n m : Nat} (h : Nat.ble n m = true := by rfl) : n ≤ m := Nat.le_of_ble_eq_true h
/-- a comprehension's turn -/
def turnE (P : List Bool) (g : DG) (tt : DT) (te : DE) (vs : List Nat) (ρ : DEnv) (d : PyData) (yes : PyData → DEnv → Prop) (no : DEnv → Prop) : Prop :=
  g d (wipeE ρ vs) fun ρ2 => tt ρ2 fun b ρ3 => by2 b (te ρ3 fun o ρ4 => share P ρ4 o fun e ρ5 => yes e (restE ρ5 ρ vs)) (no (restE ρ3 ρ vs))
theorem lc_turn {P : List Bool} {g : DG} {tt : DT} {te : DE} {vs : List Nat} {Q : PyData → DEnv → Prop} {d : PyData} {ds acc : List PyData} {ρ : DEnv}
    (h : turnE P g tt te vs ρ d (fun e ρ' => acc.length < big ∧ dLcL P g tt te vs Q ds (acc ++ [e]) ρ') (fun ρ' => dLcL P g tt te vs Q ds acc ρ')) : dLcL P g tt te vs Q (d :: ds) acc ρ := h
theorem lc_filterMap {P : List Bool} {g : DG} {tt : DT} {te : DE} {vs : List Nat} {Q : PyData → DEnv → Prop} {ρ : DEnv} (f : PyData → Option PyData) : ∀ {ds acc : List PyData},
    (∀ d ∈ ds, ∀ (yes : PyData → DEnv → Prop) (no : DEnv → Prop), (∀ e, f d = some e → yes e ρ) → (f d = none → no ρ) → turnE P g tt te vs ρ d yes no) → acc.length + ds.length ≤ big → Q (.list (acc ++ ds.filterMap f)) ρ → dLcL P g tt te vs Q ds acc ρ
  | [], acc, _, _, hq => by rw [List.filterMap_nil, List.append_nil] at hq; exact hq
  | d :: ds, acc, h, hl, hq => by
    rw [List.length_cons] at hl
    refine lc_turn (h d List.mem_cons_self _ _ (fun e he => ⟨by omega, lc_filterMap f (fun d' hd => h d' (List.mem_cons_of_mem _ hd)) (by rw [List.length_append, List.length_singleton]; omega) ?_⟩) (fun he => lc_filterMap f (fun d' hd => h d' (List.mem_cons_of_mem _ hd)) (by omega) ?_))
    · rw [List.filterMap_cons, he] at hq
      rw [List.append_assoc]; exact hq
    · rw [List.filterMap_cons, he] at hq
      exact hq
theorem lc_map {P : List Bool} {g : DG} {tt : DT} {te : DE} {vs : List Nat} {Q : PyData → DEnv → Prop} {ρ : DEnv} (f : PyData → PyData) {ds : List PyData}
    (h : ∀ d ∈ ds, ∀ (yes : PyData → DEnv → Prop) (no : DEnv → Prop), yes (f d) ρ → turnE P g tt te vs ρ d yes no) (hl : ds.length ≤ big) (hq : Q (.list (ds.map f)) ρ) : dLcL P g tt te vs Q ds [] ρ := by
  refine lc_filterMap (fun d => some (f d)) (fun d hd yes no h1 _ => h d hd yes no (h1 _ rfl)) (by simpa using hl) ?_
  rw [List.nil_append, List.filterMap_eq_map']
  exact hq
/-- a comprehension by what holds between its turns -/
theorem lc_inv {P : List Bool} {g : DG} {tt : DT} {te : DE} {vs : List Nat} {Q : PyData → DEnv → Prop} (I : List PyData → DEnv → Prop) : ∀ {ds acc : List PyData} {ρ : DEnv},
    (∀ d ∈ ds, ∀ (acc : List PyData) (ρ : DEnv) (yes : PyData → DEnv → Prop) (no : DEnv → Prop), I acc ρ → (∀ e ρ', I (acc ++ [e]) ρ' → yes e ρ') → (∀ ρ', I acc ρ' → no ρ') → turnE P g tt te vs ρ d yes no) → I acc ρ → acc.length + ds.length ≤ big →
    (∀ acc' ρ', I acc' ρ' → acc'.length ≤ acc.length + ds.length → Q (.list acc') ρ') → dLcL P g tt te vs Q ds acc ρ
  | [], acc, ρ, _, hI, _, hq => hq acc ρ hI (by omega)
  | d :: ds, acc, ρ, h, hI, hl, hq => by
    rw [List.length_cons] at hl
    refine lc_turn (h d List.mem_cons_self acc ρ _ _ hI (fun e ρ' hI' => ⟨by omega, lc_inv I (fun d' hd => h d' (List.mem_cons_of_mem _ hd)) hI' (by rw [List.length_append, List.length_singleton]; omega) fun a r i l => hq a r i ?_⟩) (fun ρ' hI' => lc_inv I (fun d' hd => h d' (List.mem_cons_of_mem _ hd)) hI' (by omega) fun a r i l => hq a r i ?_))
    · rw [List.length_append, List.length_singleton] at l; rw [List.length_cons]; omega
    · rw [List.length_cons]; omega
/-- .. each turn gives an item: I by the items so far, all of them in the end -/
theorem lc_all {P : List Bool} {g : DG} {tt : DT} {te : DE} {vs : List Nat} {Q : PyData → DEnv → Prop} (I : List PyData → DEnv → Prop) : ∀ {ds acc : List PyData} {ρ : DEnv},
    (∀ d ∈ ds, ∀ (acc : List PyData) (ρ : DEnv) (yes : PyData → DEnv → Prop) (no : DEnv → Prop), I acc ρ → (∀ e ρ', I (acc ++ [e]) ρ' → yes e ρ') → turnE P g tt te vs ρ d yes no) → I acc ρ → acc.length + ds.length ≤ big →
    (∀ acc' ρ', I acc' ρ' → acc'.length = acc.length + ds.length → Q (.list acc') ρ') → dLcL P g tt te vs Q ds acc ρ
  | [], acc, ρ, _, hI, _, hq => hq acc ρ hI (by simp)
  | d :: ds, acc, ρ, h, hI, hl, hq => by
    rw [List.length_cons] at hl
    refine lc_turn (h d List.mem_cons_self acc ρ _ _ hI fun e ρ' hI' => ⟨by omega, lc_all I (fun d' hd => h d' (List.mem_cons_of_mem _ hd)) hI' (by rw [List.length_append, List.length_singleton]; omega) fun a r i l => hq a r i ?_⟩)
    rw [List.length_append, List.length_singleton] at l; rw [List.length_cons]; omega
/-- a loop by what holds between its turns: I of the items that are left -/
theorem loop_inv {g : DG} {b : DS} {E : DEnds} (I : List PyData → DEnv → Prop) : ∀ {ds : List PyData} {ρ : DEnv},
    (∀ (d : PyData) (ds : List PyData) (ρ : DEnv) (nx : DEnv → Prop), I (d :: ds) ρ → (∀ ρ', I ds ρ' → nx ρ') → g d ρ fun ρ1 => b { E with nx := nx, ct := nx, bk := E.nx } ρ1) → I ds ρ → (∀ ρ', I [] ρ' → E.nx ρ') → dLoop g b E ds ρ
  | [], ρ, _, hI, hq => hq ρ hI
  | d :: ds, ρ, h, hI, hq => h d ds ρ _ hI fun ρ' hI' => loop_inv I h hI' hq
/-- .. by a word that does not speak of the items left, but that they are among ds -/
theorem loop_all {g : DG} {b : DS} {E : DEnds} (I : DEnv → Prop) : ∀ {ds : List PyData} {ρ : DEnv},
    (∀ d ∈ ds, ∀ (ρ : DEnv) (nx : DEnv → Prop), I ρ → (∀ ρ', I ρ' → nx ρ') → g d ρ fun ρ1 => b { E with nx := nx, ct := nx, bk := E.nx } ρ1) → I ρ → (∀ ρ', I ρ' → E.nx ρ') → dLoop g b E ds ρ
  | [], ρ, _, hI, hq => hq ρ hI
  | d :: ds, ρ, h, hI, hq => h d List.mem_cons_self ρ _ hI fun ρ' hI' => loop_all I (fun d' hd => h d' (List.mem_cons_of_mem _ hd)) hI' hq
end Dv

set_option Elab.async false
set_option linter.all false
set_option maxRecDepth 100000
set_option autoImplicit false
namespace Dv
open PySem PySem.Spec L2
/-! ### texts -/
abbrev Str.codes (x : Str) : List Nat := x.cps.toList
theorem str_ext {x y : Str} (h : x.cps.toList = y.cps.toList) : x = y := by
  obtain ⟨⟨a⟩⟩ := x
  obtain ⟨⟨b⟩⟩ := y
  simp at h
  subst h
  rfl
theorem codes_app (x y : Str) : (x ++ y).cps.toList = x.cps.toList ++ y.cps.toList := by
  show (Array.append x.cps y.cps).toList = _
  simp
theorem len_codes (x : Str) : x.length = x.cps.toList.length := by simp [Str.length]
theorem len_app (x y : Str) : (x ++ y).length = x.length + y.length := by rw [len_codes, codes_app, List.length_append, ← len_codes, ← len_codes]
theorem join_codes (ys : List Str) : (Txt.join "" ys).cps.toList = (ys.map fun y => y.cps.toList).flatten := by
  rw [show Txt.join "" ys = Str.join "" ys from PySem.StrLaws.glued_eq_join _ _]
  induction ys with
  | nil => decide
  | cons y ys ih =>
    cases ys with
    | nil => simp [Str.join]
    | cons z zs =>
      have e : Str.join "" (y :: z :: zs) = y ++ "" ++ Str.join "" (z :: zs) := rfl
      rw [e, codes_app, codes_app, ih]
      have e0 : (("" : Str)).cps.toList = [] := by decide
      rw [e0]
      simp
theorem join_signs (cs : List Nat) : (Txt.join "" (cs.map fun c => (⟨#[c]⟩ : Str))).cps.toList = cs := by
  rw [join_codes, List.map_map]
  induction cs with
  | nil => rfl
  | cons c cs ih => rw [List.map_cons, List.flatten_cons, ih]; rfl
theorem sum_signs (cs : List Nat) : ((cs.map fun c => (⟨#[c]⟩ : Str)).map fun x => x.length).sum = cs.length := by
  induction cs with
  | nil => rfl
  | cons c cs ih =>
    rw [List.map_cons, List.map_cons, List.sum_cons, ih, List.length_cons]
    show 1 + cs.length = cs.length + 1
    omega
theorem cut_codes (z : Str) (lo hi : Option Int) : (cutS z lo hi).cps.toList = (z.cps.toList.drop (HT.sIx z.length 0 lo)).take (HT.sIx z.length z.length hi - HT.sIx z.length 0 lo) := by simp [cutS]
/-- a text of at most n codes, each one a code -/
structure Tx (n : Nat) (x : Str) : Prop where
  len : x.length ≤ n
  ok : ∀ c ∈ x.cps.toList, c < 0x110000
theorem Tx.mono {m n : Nat} {x : Str} (h : Tx m x) (hmn : m ≤ n) : Tx n x := ⟨Nat.le_trans h.len hmn, h.ok⟩
theorem Tx.app {m n : Nat} {x y : Str} (h : Tx m x) (h2 : Tx n y) : Tx (m + n) (x ++ y) := ⟨by rw [len_app]; exact Nat.add_le_add h.len h2.len, fun c hc => by
  rw [codes_app] at hc
  rcases List.mem_append.mp hc with z | z
  · exact h.ok c z
  · exact h2.ok c z⟩
theorem Tx.cut {m : Nat} {x : Str} (h : Tx m x) (lo hi : Option Int) : Tx m (cutS x lo hi) := by
  refine ⟨?_, fun c hc => ?_⟩
  · rw [len_codes, cut_codes]
    have := h.len
    rw [len_codes] at this
    rw [List.length_take, List.length_drop]
    omega
  · rw [cut_codes] at hc
    exact h.ok c (List.mem_of_mem_drop (List.mem_of_mem_take hc))
theorem Tx.lit {n : Nat} {x : Str} (h : (decide (x.length ≤ n) && x.cps.toList.all fun c => decide (c < 0x110000)) = true) : Tx n x := by
  simp only [Bool.and_eq_true, decide_eq_true_eq, List.all_eq_true] at h
  exact ⟨h.1, h.2⟩
theorem Tx.strOk {n : Nat} {x : Str} (h : Tx n x) : PyData.strOk x = true := by
  unfold PyData.strOk
  rw [Array.all_eq_true']
  intro c hc
  exact decide_eq_true (h.ok c (by simpa using hc))
/-! ### what may be compared -/
theorem canAll_iff : ∀ {ds : List PyData}, PyData.canLayAll0 ds = true ↔ ∀ d ∈ ds, PyData.canLay0 d = true
  | [] => by simp [PyData.canLayAll0]
  | d :: ds => by simp [PyData.canLayAll0, canAll_iff]
theorem depthAll_le : ∀ {ds : List PyData} {n : Nat}, PyData.depthAll ds ≤ n ↔ ∀ d ∈ ds, PyData.depth d ≤ n
  | [], n => by simp [PyData.depthAll]
  | d :: ds, n => by simp [PyData.depthAll, Nat.max_le, depthAll_le]
/-- without dicts, texts of codes, at most n deep -/
structure Shp (n : Nat) (d : PyData) : Prop where
  can : PyData.canLay0 d = true
  dep : PyData.depth d ≤ n
theorem Shp.shp {n : Nat} {d : PyData} (h : Shp n d) (hn : n ≤ 64 := by decide) : shp d := by
  unfold Dv.shp SeqAt.shaped
  rw [h.can, decide_eq_true (Nat.le_trans h.dep hn)]
  rfl
theorem Shp.mono {m n : Nat} {d : PyData} (h : Shp m d) (hmn : m ≤ n := by omega) : Shp n d := ⟨h.can, Nat.le_trans h.dep hmn⟩
theorem Shp.none : Shp 0 .none := ⟨rfl, by simp [PyData.depth]⟩
theorem Shp.bool (b : Bool) : Shp 0 (.bool b) := ⟨rfl, by simp [PyData.depth]⟩
theorem Shp.int (b : Int) : Shp 0 (.int b) := ⟨rfl, by simp [PyData.depth]⟩
theorem Shp.str {n : Nat} {x : Str} (h : Tx n x) : Shp 0 (.str x) := ⟨by simp [PyData.canLay0, h.strOk], by simp [PyData.depth]⟩
theorem Shp.list {n : Nat} {ds : List PyData} (h : ∀ d ∈ ds, Shp n d) : Shp (n + 1) (.list ds) :=
  ⟨by simp only [PyData.canLay0]; exact canAll_iff.mpr fun d hd => (h d hd).can, by simp only [PyData.depth]; exact Nat.succ_le_succ (depthAll_le.mpr fun d hd => (h d hd).dep)⟩
theorem Shp.tuple {n : Nat} {ds : List PyData} (h : ∀ d ∈ ds, Shp n d) : Shp (n + 1) (.tuple ds) :=
  ⟨by simp only [PyData.canLay0]; exact canAll_iff.mpr fun d hd => (h d hd).can, by simp only [PyData.depth]; exact Nat.succ_le_succ (depthAll_le.mpr fun d hd => (h d hd).dep)⟩
end Dv

set_option linter.all false
namespace Dv
open PySem PySem.Spec L2
/-! ### what the top has written, for the end of a claim -/
theorem funAt_mk {K : PySem.W.Frag} {h : Heap} {mg : Str → Option Value} {x : Str} {st : Stmt} {ps : List Str} (X : K.In h) (G : h.Ns mainGlobals mg)
    (hb : ∀ (kV doc pm : Value) (an : Option Addr) (cdv ct : Value) (us : List Value), us.length = ps.length → bindArgs (PySem.W.fnOf x x (defArgs st) (defBody st) (defScope st) .none kV doc pm an cdv ct) ⟨us, []⟩ = pure (ps.zip us))
    {f : Addr} {oc : Value} {od an : Option Addr} {osl : Array (Option Value)} {kV doc pm cdv ct : Value}
    (a : PySem.W.nsIn K mainGlobals x = some (some (.ref f)))
    (l : K.lookup f = some ⟨oc, od, .func (PySem.W.fnOf x x (defArgs st) (defBody st) (defScope st) .none kV doc pm an cdv ct), osl⟩)
    (c : PySem.W.codeIn K cdv x = true) (k : PySem.W.keepIn K (.ref f) = true) : FunAt K mg x st ps :=
  ⟨_, _, fun_mk l c k, PySem.W.mg_of X G a, (fun_mk l c k).binds hb⟩
theorem with_fun {C : Prop} {K : PySem.W.Frag} {h : Heap} {mg : Str → Option Value} {x : Str} {st : Stmt} {ps : List Str} (X : K.In h) (G : h.Ns mainGlobals mg)
    (hb : ∀ (kV doc pm : Value) (an : Option Addr) (cdv ct : Value) (us : List Value), us.length = ps.length → bindArgs (PySem.W.fnOf x x (defArgs st) (defBody st) (defScope st) .none kV doc pm an cdv ct) ⟨us, []⟩ = pure (ps.zip us))
    {f : Addr} {oc : Value} {od an : Option Addr} {osl : Array (Option Value)} {kV doc pm cdv ct : Value}
    (a : PySem.W.nsIn K mainGlobals x = some (some (.ref f)))
    (l : K.lookup f = some ⟨oc, od, .func (PySem.W.fnOf x x (defArgs st) (defBody st) (defScope st) .none kV doc pm an cdv ct), osl⟩)
    (c : PySem.W.codeIn K cdv x = true) (k : PySem.W.keepIn K (.ref f) = true) (go : FunAt K mg x st ps → C) : C := go (funAt_mk X G hb a l c k)
theorem gstr_mk {K : PySem.W.Frag} {h : Heap} {mg : Str → Option Value} {x z : Str} {t : Tok} (X : K.In h) (G : h.Ns mainGlobals mg) (a : PySem.W.nsIn K mainGlobals x = some (some (.str z t))) : ∃ t, mg x = some (.str z t) := ⟨t, PySem.W.mg_of X G a⟩
theorem gint_mk {K : PySem.W.Frag} {h : Heap} {mg : Str → Option Value} {x : Str} {z : Int} {t : Tok} (X : K.In h) (G : h.Ns mainGlobals mg) (a : PySem.W.nsIn K mainGlobals x = some (some (.int z t))) : ∃ t, mg x = some (.int z t) := ⟨t, PySem.W.mg_of X G a⟩
/-- the law's own head -/
theorem law_mk {K : PySem.W.Frag} {h : Heap} {mg : Str → Option Value} {y : Str} {st : Stmt} {fa : Addr} (X : K.In h) (G : h.Ns mainGlobals mg) (hfa : mg "law" = some (.ref fa))
    {pg : Program} {w : World} {lv : Nat} {S : SpD}
    (ok : ∀ (base : Heap) (f : Addr) (fd : FuncData), Fun K "law" "law" st f fd → FnG pg w K mg base lv f fd [y] (spOf K [false] S))
    (hb : ∀ (kV doc pm : Value) (an : Option Addr) (cdv ct : Value) (s : Shared) (v : Value), BindsTo s (PySem.W.fnOf "law" "law" (defArgs st) (defBody st) (defScope st) .none kV doc pm an cdv ct) ⟨[v], []⟩ [(y, v)])
    {f : Addr} {oc : Value} {od an : Option Addr} {osl : Array (Option Value)} {kV doc pm cdv ct : Value}
    (a : PySem.W.nsIn K mainGlobals "law" = some (some (.ref f)))
    (l : K.lookup f = some ⟨oc, od, .func (PySem.W.fnOf "law" "law" (defArgs st) (defBody st) (defScope st) .none kV doc pm an cdv ct), osl⟩)
    (c : PySem.W.codeIn K cdv "law" = true) (k : PySem.W.keepIn K (.ref f) = true) :
    ∃ fd : FuncData, (∀ (s : Shared) (v : Value), BindsTo s fd ⟨[v], []⟩ [(y, v)]) ∧ ∀ base : Heap, K.In base → base.Ns mainGlobals mg → FnG pg w K mg base lv fa fd [y] (spOf K [false] S) := by
  have e := hfa.symm.trans (PySem.W.mg_of X G a)
  cases e
  exact ⟨_, fun s v => hb kV doc pm an cdv ct s v, fun base _ _ => ok base _ _ (fun_mk l c k)⟩
end Dv

set_option Elab.async false
set_option linter.all false
set_option maxRecDepth 100000
namespace Dv
open PySem PySem.Spec PyProof.Rows L2
/-! ### sets of ints and texts, with a table that can be walked -/
def keyV : Value → Key
  | .int i _ => .inl i
  | .str x _ => .inr x
  | _ => .inl 0
theorem keyV_is {k : Key} {v : Value} (h : keyIs k v = true) : keyV v = k := by
  rcases keyIs_shape h with ⟨i, t, e1, e2⟩ | ⟨x, t, e1, e2⟩ <;> rw [e1, e2] <;> rfl
theorem key_scans {k : Key} {v : Value} (h : keyIs k v = true) : v.scannable = true := by
  rcases keyIs_shape h with ⟨i, t, e1, e2⟩ | ⟨x, t, e1, e2⟩ <;> rw [e2] <;> rfl
/-- an entry of such a set -/
def Ent (w : World) (e : Int × Value) : Prop := keyIs (keyV e.2) e.2 = true ∧ e.1 = keyH w (keyV e.2)
def keysE (es : List (Int × Value)) : List Key := es.map fun e => keyV e.2
/-- what can be walked -/
structure Rolls (w : World) (es : Array (Int × Value)) (t : SetTable) : Prop where
  few : es.size < scanBound
  fit : t.fits es.size = true
  ris : Ris t.place.toList
  led : w.params.followText "set-order" = true ∨ t.led = true
structure SetM (w : World) (h : Heap) (a : Addr) (ks : List Key) : Prop where
  ex : ∃ o es ep t, h.get? a = some o ∧ o.ExactSet ∧ o.data = .set es ep t ∧ (∀ e ∈ es.toList, Ent w e) ∧ keysE es.toList = ks ∧ Rolls w es t
  nd : ks.Nodup
section
variable {P : Program} {w : World} {A : Around} {E : Value → Shared → Prop} {s : Shared} {a : Addr} {ks : List Key}
theorem SetM.keep {h h' : Heap} (R : SetM w h a ks) (k : ∀ o, h.get? a = some o → h'.get? a = some o) : SetM w h' a ks :=
  let ⟨o, es, ep, t, h1, r⟩ := R.ex
  ⟨⟨o, es, ep, t, k o h1, r⟩, R.nd⟩
theorem ent_elems {es : List (Int × Value)} (g : ∀ e ∈ es, Ent w e) : ElemsOf (mixKind P w) es := fun e he => ⟨⟨keyV e.2, (g e he).1, (g e he).2⟩, key_scans (g e he).1⟩
/-- the table after an entry more, with room made where it has grown too full -/
theorem set_room {o : Obj} {es es1 : Array (Int × Value)} {ep : Nat} {t t1 : SetTable} (ho : s.heap.get? a = some o) (hx : o.ExactSet) (hd : o.data = .set es ep t) (g : ∀ e ∈ es1.toList, Ent w e) (nd : (keysE es1.toList).Nodup) (r : Rolls w es1 t1)
    {more : Bool} {Q : Option Bool → Shared → Prop} {note : Bool → Sem Unit} (hnote : ∀ (b : Bool) (s1 : Shared) (Q1 : Unit → Shared → Prop), Q1 () s1 → wpAny (model P w) A (note b) Q1 E s1)
    (k : ∀ h' ks', Heap.SameBut a s.heap h' → ks'.Perm (keysE es1.toList) → SetM w h' a ks' → Q (some true) { s with heap := h' }) :
    wpAny (model P w) A (do
      storeSet a es1 t1
      if more = true then do
          note (relayAll t1 es1 (SetTable.grown es1.size)).2.2
          storeSet a (relayAll t1 es1 (SetTable.grown es1.size)).1 (relayAll t1 es1 (SetTable.grown es1.size)).2.1
          pure (some true)
        else pure (some true)) Q E s := by
  have st := store_at (es' := es1) (t' := t1) ho hd
  have b1 := Heap.SameBut.update s.heap a (Obj.putSet es1 t1)
  refine wpAny_bind (wpAny_storeSet_of ho hd ?_ (fits_of_scanBound r.few))
  cases more with
  | false => exact wpAny_pure (k _ _ b1 (.refl _) ⟨⟨_, es1, _, t1, st, hx, rfl, g, rfl, r⟩, nd⟩)
  | true =>
    have p1 := relayAll_perm t1 es1 (SetTable.grown es1.size)
    have p2 := relayAll_fits t1 es1 (SetTable.grown es1.size)
    have p3 := relayAll_ris t1 es1 (SetTable.grown es1.size)
    have p4 := relayAll_led t1 es1 (SetTable.grown es1.size)
    revert p1 p2 p3 p4
    rcases relayAll t1 es1 (SetTable.grown es1.size) with ⟨es2, t2, b⟩
    intro p1 p2 p3 p4
    have e2 : es2.size = es1.size := by simpa using p1.length_eq
    have pk : (keysE es2.toList).Perm (keysE es1.toList) := p1.map _
    refine wpAny_bind (hnote _ _ _ (wpAny_bind (wpAny_storeSet_of st rfl ?_ (by rw [e2]; exact fits_of_scanBound r.few))))
    exact wpAny_pure (k _ _ (b1.trans (Heap.SameBut.update _ a _)) pk ⟨⟨_, es2, _, t2, store_at (es' := es2) (t' := t2) st rfl, hx, rfl, fun e he => g e (p1.mem_iff.mp he), rfl,
      ⟨by rw [e2]; exact r.few, p2, p3, r.led.imp id fun z => p4.trans z⟩⟩, pk.nodup_iff.mpr nd⟩)
theorem keysE_iff {es : List (Int × Value)} (g : ∀ e ∈ es, Ent w e) (k : Key) : k ∈ keysE es ↔ ∃ e ∈ es, keyIs k e.2 = true := by
  unfold keysE
  rw [List.mem_map]
  exact ⟨fun ⟨e, he, q⟩ => ⟨e, he, q ▸ (g e he).1⟩, fun ⟨e, he, q⟩ => ⟨e, he, keyV_is q⟩⟩
/-- one key more -/
theorem set_more {k : Key} {v : Value} {Q : Bool → Shared → Prop} (R : SetM w s.heap a ks) (hk : keyIs k v = true) (room : ks.length + 1 < scanBound)
    (q : ∀ b h' ks', Heap.SameBut a s.heap h' → (∀ j, j ∈ ks' ↔ j = k ∨ j ∈ ks) → ks'.length ≤ ks.length + 1 → SetM w h' a ks' → Q b { s with heap := h' }) :
    wpAny (model P w) A (setAddHashed a v (keyH w k)) Q E s := by
  obtain ⟨⟨o, es, ep, t, ho, hx, hd, g, ek, r⟩, nd⟩ := R
  have el : ElemsOf (mixKind P w) es.toList := ent_elems g
  have hk' : (mixKind P w).is k v = true := hk
  have sc := key_scans hk
  show wpAny (model P w) A (setAddHashed a v ((mixKind P w).hash k)) Q E s
  unfold setAddHashed setAddHashedIn
  refine wpAny_holding <| wpAny_bind <| wpAny_setState_of ho hd r.fit ?_
  simp only [byScan_of sc r.few el, if_true]
  unfold setAddByScan
  refine wpAny_bind <| wpAny_bind <| wpAny_rule <| wpAny_bind <| wpAny_setScan_of hk' ho hd r.fit el ?_
  rcases fi : es.toList.findIdx? (fun e => (mixKind P w).is k e.2) with - | j
  · have no : k ∉ ks := fun z => by
      rw [← ek, keysE_iff g] at z
      obtain ⟨e, he, z⟩ := z
      have := List.findIdx?_eq_none_iff.mp fi e he
      exact absurd (this.symm.trans z) (by decide)
    have p1 := layNew_perm t es ((mixKind P w).hash k) v
    have p2 := layNew_fits t es ((mixKind P w).hash k) v
    have p3 := layNew_ris t es ((mixKind P w).hash k) v r.ris
    have p4 := layNew_led t es ((mixKind P w).hash k) v
    rw [fi]
    revert p1 p2 p3 p4
    dsimp only
    rcases layNew t es ((mixKind P w).hash k) v with ⟨es1, t1, dm, gv⟩
    intro p1 p2 p3 p4
    rw [Array.toList_push] at p1
    have p1 := p1.trans (List.perm_append_singleton _ _)
    have pk : (keysE es1.toList).Perm (k :: ks) := by
      have z : (keysE es1.toList).Perm (keysE (((mixKind P w).hash k, v) :: es.toList)) := p1.map _
      rw [← ek]
      refine z.trans ?_
      show (keyV v :: keysE es.toList).Perm _
      rw [keyV_is hk]
    have g1 : ∀ e ∈ es1.toList, Ent w e := fun e he => by
      rcases List.mem_cons.mp (p1.mem_iff.mp he) with z | z
      · subst z
        refine ⟨?_, ?_⟩
        · show keyIs (keyV v) v = true
          rw [keyV_is hk]; exact hk
        · show keyH w k = keyH w (keyV v)
          rw [keyV_is hk]
      · exact g e z
    have lk : ks.length = es.size := by rw [← ek]; simp [keysE]
    have e1 : es1.size = es.size + 1 := by simpa using p1.length_eq
    have r1 : Rolls w es1 t1 := ⟨by omega, p2, p3, r.led.imp id fun z => p4.trans z⟩
    have nd1 : (keysE es1.toList).Nodup := pk.nodup_iff.mpr (List.nodup_cons.mpr ⟨no, nd⟩)
    have fin : ∀ b h' ks', Heap.SameBut a s.heap h' → ks'.Perm (keysE es1.toList) → SetM w h' a ks' → Q b { s with heap := h' } := fun b h' ks' sb pp R' => q b h' ks' sb (fun j => (pp.trans pk).mem_iff.trans List.mem_cons) (by rw [(pp.trans pk).length_eq]; exact Nat.le_refl _) R'
    dsimp only
    rw [hashByValue_scannable 8 sc]
    have r2 : ∀ b : Bool, Rolls w es1 (if b = true then t1 else { t1 with plain := false }) := fun b => by
      cases b
      · exact ⟨r1.few, SetTable.fits_plain_off r1.fit, r1.ris, r1.led⟩
      · exact r1
    refine wpAny_bind ?_
    have note : ∀ (b : Bool) (s1 : Shared) (Q1 : Unit → Shared → Prop), Q1 () s1 → wpAny (model P w) A (match b with | true => rule "set.scan.the-table-gave-way" | false => pure ()) Q1 E s1 := fun b s1 Q1 z => by
      cases b
      · exact wpAny_pure z
      · exact wpAny_rule z
    refine note gv _ _ ?_
    split
    · refine wpAny_bind (wpAny_pure ?_)
      exact set_room ho hx hd g1 nd1 (r2 _) note fun h' ks' sb pp R' => wpAny_pure (fin _ h' ks' sb pp R')
    · refine wpAny_bind (wpAny_pure ?_)
      exact set_room ho hx hd g1 nd1 r1 note fun h' ks' sb pp R' => wpAny_pure (fin _ h' ks' sb pp R')
  · obtain ⟨hj, pj, _⟩ := List.findIdx?_eq_some_iff_getElem.mp fi
    rw [fi]
    have yes : k ∈ ks := by rw [← ek, keysE_iff g]; exact ⟨_, List.getElem_mem hj, pj⟩
    exact wpAny_pure (wpAny_pure (q _ s.heap ks (Heap.SameBut.refl a s.heap) (fun j => ⟨.inr, fun z => z.elim (fun e => e ▸ yes) id⟩) (Nat.le_succ _) ⟨⟨o, es, ep, t, ho, hx, hd, g, ek, r⟩, nd⟩))
/-- the loop of set(x): one key after the other -/
theorem set_fill {I S : Addr} {fp wr : List Addr} {G : Array GenState → Array GenState → Prop} {Pv : Nat → Value → Prop} {St : Nat → Shared → Prop} {R : Result → Shared → Prop} (all : List Key)
    (W : WalksS P w A.in1 I fp wr G all.length Pv St) (off : S ∉ fp) (few : all.length + 1 < scanBound) (val : ∀ i v, Pv i v → ∃ k, all[i]? = some k ∧ keyIs k v = true) :
    ∀ (m i : Nat) (s : Shared) (had : List Key), all.length - i = m → i ≤ all.length → St i s → had.length ≤ i → (∀ j, j ∈ had ↔ j ∈ all.take i) → SetM w s.heap S had →
      (∀ s' had, Moved (S :: wr) G s s' → had.length ≤ all.length → (∀ j, j ∈ had ↔ j ∈ all) → SetM w s'.heap S had → R (.ok (.ret .none)) s') →
      codeAny (model P w) A (.builtin "set.update.loop" ⟨[.ref S, .ref I], []⟩) R s := by
  have offw : S ∉ wr := fun z => off (W.sub _ z)
  have up : ∀ b ∈ wr, b ∈ S :: wr := fun b => List.mem_cons_of_mem _
  intro m
  induction m with
  | zero =>
    intro i s had hm hi hst hl hj hS k
    refine codeAny_builtin F.entry_set_update_loop (Around.under_plainId F.plain_set_update_loop _ ▸ ?_)
    refine wpAny_bind (W.done s _ _ (by rw [show all.length = i by omega]; exact hst) fun s' mv => wpAny_pure ?_)
    exact k s' had (mv.mono up) (by omega) (fun j => (hj j).trans (by rw [List.take_of_length_le (by omega)])) (hS.keep fun o e => mv.heap S o offw e)
  | succ m ih =>
    intro i s had hm hi hst hl hj hS k
    refine codeAny_builtin F.entry_set_update_loop (Around.under_plainId F.plain_set_update_loop _ ▸ ?_)
    refine wpAny_bind (W.item i s _ _ (by omega) hst fun v s' pv st' mv => ?_)
    obtain ⟨c, hc, hv⟩ := val i v pv
    refine wpAny_bind (wpAny_holding ?_)
    unfold setAdd
    refine wpAny_holding (wpAny_bind ((mixKind P w).pyHash (k := c) hv ?_))
    refine set_more (s := { s' with toks := s'.toks + 1 }) (hS.keep fun o e => mv.heap S o offw e) hv (by omega) fun b h' had' sb hj' hl' hS' => ?_
    refine wpAny_pure ⟨plainId_quiet F.plain_set_update_loop _, ih (i + 1) _ had' (by omega) (by omega) (W.frame _ s' _ _ st' (Nat.le_succ _) fun b hb o e => ?_) (by omega) (fun j => ?_) hS' fun s2 had2 mv2 hl2 hj2 hS2 => ?_⟩
    · rw [sb.2 b (fun z => off (z ▸ hb))]
      exact e
    · rw [hj', hj, List.take_add_one, hc]
      simp [or_comm]
    · refine k s2 had2 (Moved.trans W.gtrans ((mv.mono up).then_heap (Nat.le_succ _) fun b o hb e => ?_) mv2) hl2 hj2 hS2
      rw [sb.2 b (fun z => hb (z ▸ List.mem_cons_self))]
      exact e
/-- a set as it is made -/
def set0 (w : World) : Obj := { cls := .type "set", dict := none, data := .set #[] 0 (.fresh 0 0 (!w.params.followText "set-order")) }
theorem set0_is {h : Heap} (e : h.get? a = some (set0 w)) : SetM w h a [] :=
  ⟨⟨_, #[], 0, _, e, ⟨rfl, rfl, rfl⟩, rfl, (fun _ z => absurd z (by simp)), rfl, ⟨by decide, rfl, List.Pairwise.nil, by
    show _ ∨ (!w.params.followText "set-order") = true
    cases w.params.followText "set-order" <;> simp⟩⟩, List.nodup_nil⟩
theorem wants_is {Q : Value → Shared → Prop} {r : Result} (h : wants Q E r s) : (∃ v, r = .ok (.ret v) ∧ Q v s) ∨ ∃ e, r = .error e ∧ E e s := by
  rcases r with e | f
  · exact .inr ⟨e, rfl, h⟩
  · cases f <;> first | exact .inl ⟨_, rfl, h⟩ | exact h.elim
abbrev FinsW (P : Program) (w : World) (A : Around) (R : Result → Shared → Prop) : Fin → Shared → Prop := fun fin s' => match fin with
  | .done f => R (.ok f) s'
  | .again c => c.quiet = true ∧ codeAny (model P w) A c R s'
/-- what set(l) leaves behind -/
def SetLeft (w : World) (s : Shared) (all : List Key) (s' : Shared) : Prop := ∃ h' tk had, s' = { s with heap := h', toks := tk } ∧ had.length ≤ all.length ∧ (∀ j, j ∈ had ↔ j ∈ all) ∧ SetM w h' s.heap.objs.size had ∧ ∀ b o, s.heap.get? b = some o → h'.get? b = some o
/-- set(l), by what its __init__ does -/
theorem set_by {l : Addr} {Q : Value → Shared → Prop} {all : List Key}
    (inside : wpAny (model P w) A.in1.in1 (Builtin.«set.__init__» ⟨[.ref s.heap.objs.size, .ref l], []⟩) (FinsW P w A.in1 (wants (fun r s2 => r = .none ∧ SetLeft w s all s2) E)) (fun e s' => wants (fun r s2 => r = .none ∧ SetLeft w s all s2) E (.error e) s') { s with heap := s.heap.push (set0 w) })
    (k : ∀ s', SetLeft w s all s' → Q (.ref s.heap.objs.size) s') :
    wpAny (model P w) A (call (.type "set") [.ref l]) Q E s := by
  obtain ⟨c, tl, hmro⟩ := F.called_set.mro
  have f1 := F.called_set.made
  have f2 := F.called_set.sub
  refine wpAny_call (codeAny_of_tree (wpAny_pure ⟨Code.quiet_builtin _ (by decide +kernel), codeAny_builtin F.entry_type_call ?_⟩))
  rw [Around.under_plain (weight_type_call_type "set" [.ref l] []) rfl]
  have f3 := F.called_set.notType
  have f4 := F.called_set.canCreate
  have f5 := F.typeCall_set_1 (.ref l)
  repeat (any_goals (first | assumption | wp_step))
  refine codeAny_mono (code_set_led1 (.ref l) (E := E) (Q₁ := fun ob s1 => ob = .ref s.heap.objs.size ∧ s1 = { s with heap := s.heap.push (set0 w) }) ⟨rfl, rfl⟩) fun r s1 hr => ?_
  rcases wants_is hr with ⟨ob, rfl, rfl, rfl⟩ | ⟨e, rfl, he⟩
  · have g0 : (s.heap.push (set0 w)).get? s.heap.objs.size = some (set0 w) := Heap.get?_push_size _ rfl
    have ty : Shared.TypeIs { s with heap := s.heap.push (set0 w) } (.ref s.heap.objs.size) "set" := ⟨_, g0, rfl⟩
    have f6 := F.called_set.init.lookup
    have f7 := F.called_set.init.bind (.ref s.heap.objs.size)
    repeat (any_goals (first | assumption | wp_step))
    refine codeAny_mono (codeAny_call_builtin (R := wants (fun r s2 => r = .none ∧ SetLeft w s all s2) E) F.called_set.init.plain F.entry_set_init (check_set_init_1 ty inside)) fun r2 s2 hr2 => ?_
    rcases wants_is hr2 with ⟨v, rfl, rfl, hL⟩ | ⟨e, rfl, he⟩
    · repeat (any_goals (first | assumption | wp_step))
      exact k _ hL
    · exact he
  · exact he
/-- the end of the loop in set(l) -/
theorem set_tail {all : List Key} {s' : Shared} {had : List Key} (eg : s'.gens = s.gens) (ed : s'.drawn = s.drawn) (eo : s'.os = s.os)
    (keep : ∀ b o, s.heap.get? b = some o → s'.heap.get? b = some o) (h1 : had.length ≤ all.length) (h2 : ∀ j, j ∈ had ↔ j ∈ all) (h3 : SetM w s'.heap s.heap.objs.size had) : SetLeft w s all s' := by
  obtain ⟨h', g', d', t', o'⟩ := s'
  cases eg
  cases ed
  cases eo
  exact ⟨h', t', had, rfl, h1, h2, h3, keep⟩
theorem set_init_list {l : Addr} {items : Array Value} {all : List Key} (hh : A.handled = none) (hl : s.heap.IsList l items) (hlen : all.length = items.size) (few : all.length + 1 < scanBound) (val : ∀ (i : Nat) (v : Value), items[i]? = some v → ∃ k, all[i]? = some k ∧ keyIs k v = true) :
    wpAny (model P w) A.in1.in1 (Builtin.«set.__init__» ⟨[.ref s.heap.objs.size, .ref l], []⟩) (FinsW P w A.in1 (wants (fun r s2 => r = .none ∧ SetLeft w s all s2) E)) (fun e s' => wants (fun r s2 => r = .none ∧ SetLeft w s all s2) E (.error e) s') { s with heap := s.heap.push (set0 w) } := by
  have g0 : (s.heap.push (set0 w)).get? s.heap.objs.size = some (set0 w) := Heap.get?_push_size _ rfl
  have lt : l < s.heap.objs.size := let ⟨_, z, _⟩ := hl; Heap.lt_size z
  have hl1 : (s.heap.push (set0 w)).IsList l items := hl.push _
  obtain ⟨⟨oc, od, odt, osl⟩, ho, hc, nl, hd⟩ := id hl1
  cases hc
  cases hd
  have f1 := PySem.F.sub_list_set
  have f2 := PySem.F.sub_list_frozenset
  have f3 : (Value.type "list" == Value.type "dict") = false := by decide
  unfold Builtin.«set.__init__» noKeywords Builtin.Frozenset.updateFrom
  generalize hp : pyIter = pI
  wp_walk
  subst hp
  refine wpAny_pyIter_list hl1 (wpAny_bind (wpAny_runValue ?_))
  have z1 : (s.heap.push (set0 w)).objs.size = s.heap.objs.size + 1 := Heap.size_push ..
  have ne : l ≠ (s.heap.push (set0 w)).objs.size := fun z => Nat.ne_of_lt (Nat.lt_succ_of_lt lt) (z.trans z1)
  have off : s.heap.objs.size ∉ [(s.heap.push (set0 w)).objs.size, l] := fun z => (List.mem_cons.mp z).elim (fun z => Nat.ne_of_lt (Nat.lt_succ_self _) (z.trans z1)) fun z => Nat.ne_of_gt lt (List.mem_singleton.mp z)
  have W := (Walks.list (prog := P) (w := w) (A := A.in1.in1.in1) (by simp [hh]) _ l ne items).toS
  rw [← hlen] at W
  refine set_fill all W off few val _ 0 _ [] rfl (Nat.zero_le _) ⟨⟨_, Heap.get?_push_size _ rfl, rfl, rfl⟩, hl1.push _⟩ (Nat.le_refl _) (fun j => by simp) (set0_is (Heap.get?_push_of_some _ g0)) fun s' had mv h1 h2 h3 => ?_
  refine wpAny_pure (wpAny_pure ⟨rfl, set_tail mv.gens mv.drawn mv.os (fun b o e => mv.heap b o (fun z => ?_) (Heap.get?_push_of_some _ (Heap.get?_push_of_some _ e))) h1 h2 h3⟩)
  have q := Heap.lt_size e
  exact (List.mem_cons.mp z).elim (fun z => Nat.ne_of_lt q z) fun z => Nat.ne_of_lt (Nat.lt_succ_of_lt q) ((List.mem_singleton.mp z).trans z1)
theorem set_init_tuple {l : Addr} {items : Array Value} {all : List Key} (hh : A.handled = none) (hl : s.heap.IsTuple l items) (hlen : all.length = items.size) (few : all.length + 1 < scanBound) (val : ∀ (i : Nat) (v : Value), items[i]? = some v → ∃ k, all[i]? = some k ∧ keyIs k v = true) :
    wpAny (model P w) A.in1.in1 (Builtin.«set.__init__» ⟨[.ref s.heap.objs.size, .ref l], []⟩) (FinsW P w A.in1 (wants (fun r s2 => r = .none ∧ SetLeft w s all s2) E)) (fun e s' => wants (fun r s2 => r = .none ∧ SetLeft w s all s2) E (.error e) s') { s with heap := s.heap.push (set0 w) } := by
  have g0 : (s.heap.push (set0 w)).get? s.heap.objs.size = some (set0 w) := Heap.get?_push_size _ rfl
  have lt : l < s.heap.objs.size := let ⟨_, z, _⟩ := hl; Heap.lt_size z
  have hl1 : (s.heap.push (set0 w)).IsTuple l items := hl.push _
  obtain ⟨⟨oc, od, odt, osl⟩, ho, hc, nl, hd⟩ := id hl1
  cases hc
  cases hd
  have f1 := PySem.F.sub_tuple_set
  have f2 := PySem.F.sub_tuple_frozenset
  have f3 : (Value.type "tuple" == Value.type "dict") = false := by decide
  unfold Builtin.«set.__init__» noKeywords Builtin.Frozenset.updateFrom
  generalize hp : pyIter = pI
  wp_walk
  subst hp
  refine wpAny_pyIter_tuple hl1 (wpAny_bind (wpAny_runValue ?_))
  have z1 : (s.heap.push (set0 w)).objs.size = s.heap.objs.size + 1 := Heap.size_push ..
  have ne : l ≠ (s.heap.push (set0 w)).objs.size := fun z => Nat.ne_of_lt (Nat.lt_succ_of_lt lt) (z.trans z1)
  have off : s.heap.objs.size ∉ [(s.heap.push (set0 w)).objs.size, l] := fun z => (List.mem_cons.mp z).elim (fun z => Nat.ne_of_lt (Nat.lt_succ_self _) (z.trans z1)) fun z => Nat.ne_of_gt lt (List.mem_singleton.mp z)
  have W := (Walks.tuple (prog := P) (w := w) (A := A.in1.in1.in1) (by simp [hh]) _ l ne items).toS
  rw [← hlen] at W
  refine set_fill all W off few val _ 0 _ [] rfl (Nat.zero_le _) ⟨⟨_, Heap.get?_push_size _ rfl, rfl, rfl⟩, hl1.push _⟩ (Nat.le_refl _) (fun j => by simp) (set0_is (Heap.get?_push_of_some _ g0)) fun s' had mv h1 h2 h3 => ?_
  refine wpAny_pure (wpAny_pure ⟨rfl, set_tail mv.gens mv.drawn mv.os (fun b o e => mv.heap b o (fun z => ?_) (Heap.get?_push_of_some _ (Heap.get?_push_of_some _ e))) h1 h2 h3⟩)
  have q := Heap.lt_size e
  exact (List.mem_cons.mp z).elim (fun z => Nat.ne_of_lt q z) fun z => Nat.ne_of_lt (Nat.lt_succ_of_lt q) ((List.mem_singleton.mp z).trans z1)
end
end Dv

set_option Elab.async false
set_option linter.all false
set_option maxRecDepth 100000
namespace Dv
open PySem PySem.Spec PyProof.Rows L2
/-! ### set(x), sorted(set(x)), len(set(x)) over the layer -/
def SetX (w : World) (a : Addr) (ks : List Key) : HO := .ext fun h => SetM w h a ks
section
variable {X : Cx}
theorem setX_new {w : World} {P : Program} {H : Hp} {h : Heap} {a : Addr} {ks : List Key} (R : SetM w h a ks) : ObjOk P w H h a (SetX w a ks) :=
  let ⟨o, _, _, _, ho, _⟩ := R.ex
  ⟨R, ⟨o, ho⟩, fun _ _ p k => SetM.keep p k⟩
theorem setX_get {pins : List (Addr × Obj)} {σ : L2.St} {H : Hp} {s : Shared} {a : Addr} {ks : List Key} (I : Inv X pins σ H s) (ha : H a = some (SetX X.w a ks)) : SetM X.w s.heap a ks := (I.hok a _ ha).1
theorem vals_key : ∀ {ks : List Key} {us : List Value}, Vals (ks.map kV) us → ∀ (i : Nat) (v : Value), us[i]? = some v → ∃ k, ks[i]? = some k ∧ keyIs k v = true
  | [], _, .nil, i, v, h => by simp at h
  | k :: ks, _, .cons r t, 0, v, h => by
    simp at h
    subst h
    refine ⟨k, rfl, ?_⟩
    cases k with
    | inl i => obtain ⟨t, rfl⟩ := r; exact keyIs_int i t
    | inr x => obtain ⟨t, rfl⟩ := r; exact keyIs_str x t
  | k :: ks, _, .cons r t, i + 1, v, h => by
    obtain ⟨k', h1, h2⟩ := vals_key t i v (by simpa using h)
    exact ⟨k', by simpa using h1, h2⟩
def rSetX (K : PySem.W.Frag) (w : World) : List V → Hp → VK → Prop := fun vs H Q => ∃ (a : Addr) (ks : List Key), vs = [.ref a] ∧ (SqL K H a (ks.map kV) ∨ SqT K H a (ks.map kV)) ∧ ks.length < 4000 ∧
  ∀ p had, had.Nodup → had.length ≤ ks.length → (∀ j, j ∈ had ↔ j ∈ ks) → H p = none → Q (.ref p) (upd H p (SetX w p had))
theorem cr_setX (hc : X.calm = true) : CallR X (.type "set") (rSetX X.K X.w) := by
  intro pins s σ H vs us Q I r h
  obtain ⟨a, ks, rfl, hs, few, q⟩ := h
  rw [Vals.ref1 r]
  have few' : ks.length + 1 < scanBound := by
    have : scanBound = 4096 := rfl
    omega
  have fin : ∀ s', SetLeft X.w s ks s' → EP X pins σ Q (.ref s.heap.objs.size) s' := fun s' ⟨h', tk, had, e, h1, h2, h3, h4⟩ => by
    subst e
    exact ⟨.ref _, _, I.laid (t' := tk) h4 (Nat.le_refl _) (setX_new h3), rfl, q _ had h3.nd h1 h2 (I.hok.fresh (Nat.le_refl _))⟩
  rcases hs with hs | hs
  · obtain ⟨its, rv, pl, hz⟩ := I.list hs
    have hl : ks.length = its.toArray.size := by have := rv.length; simpa using this
    exact set_by (set_init_list (I.ok.hd hc) pl.isList hl few' fun i v e => vals_key rv i v (by simpa using e)) fin
  · obtain ⟨its, rv, pl, hz⟩ := I.tuple hs
    have hl : ks.length = its.toArray.size := by have := rv.length; simpa using this
    exact set_by (set_init_tuple (I.ok.hd hc) pl hl few' fun i v e => vals_key rv i v (by simpa using e)) fin
/-- len(a set) -/
def rLenX (w : World) : List V → Hp → VK → Prop := fun vs H Q => ∃ (a : Addr) (ks : List Key), vs = [.ref a] ∧ H a = some (SetX w a ks) ∧ Q (.int ks.length) H
theorem cr_lenX : CallR X (.builtin "len") (rLenX X.w) := by
  intro pins s σ H vs us Q I r h
  obtain ⟨a, ks, rfl, ha, q⟩ := h
  rw [Vals.ref1 r]
  obtain ⟨o, es, ep, t, ho, hx, hd, g, ek, ro⟩ := (setX_get I ha).ex
  have few := ro.few
  have hl : ks.length = es.size := by rw [← ek]; simp [keysE]
  exact call_len_set ho hx hd ro.fit (by unfold scanBound at few; omega) ⟨.int ks.length, H, I.tok _, ⟨_, by rw [hl]⟩, q⟩
/-- the values out of a walk over the set -/
theorem keys_strs {w : World} {es : List (Int × Value)} {zs : List Str} (g : ∀ e ∈ es, Ent w e) (ek : keysE es = zs.map Sum.inr) {vs : List Value} (pm : vs.Perm (es.map (·.2))) : ∃ ys : List Str, StrsAre vs ys ∧ ys.Perm zs := by
  have one : ∀ v ∈ vs, ∃ x t, v = Value.str x t := fun v hv => by
    obtain ⟨e, he, rfl⟩ := List.mem_map.mp (pm.mem_iff.mp hv)
    have hk : keyV e.2 ∈ zs.map Sum.inr := ek ▸ List.mem_map.mpr ⟨e, he, rfl⟩
    obtain ⟨x, _, hx⟩ := List.mem_map.mp hk
    rcases keyIs_shape (g e he).1 with ⟨i, t, e1, e2⟩ | ⟨y, t, e1, e2⟩
    · rw [← hx] at e1; cases e1
    · exact ⟨y, t, e2⟩
  have mk : ∀ vs : List Value, (∀ v ∈ vs, ∃ x t, v = Value.str x t) → ∃ ys : List Str, StrsAre vs ys ∧ ys.map Sum.inr = vs.map keyV := by
    intro vs
    induction vs with
    | nil => exact fun _ => ⟨[], .nil, rfl⟩
    | cons v vs ih =>
      intro h
      obtain ⟨x, t, rfl⟩ := h v List.mem_cons_self
      obtain ⟨ys, h1, h2⟩ := ih fun v hv => h v (List.mem_cons_of_mem _ hv)
      exact ⟨x :: ys, .cons x t h1, by rw [List.map_cons, List.map_cons, h2]; rfl⟩
  obtain ⟨ys, h1, h2⟩ := mk vs one
  refine ⟨ys, h1, ?_⟩
  have p2 : (ys.map (Sum.inr : Str → Key)).Perm (zs.map Sum.inr) := by
    rw [h2, ← ek]
    have := pm.map keyV
    rw [List.map_map] at this
    exact this
  have back : ∀ l : List Str, (l.map (Sum.inr : Str → Key)).filterMap (fun k => match k with | .inr x => some x | .inl _ => none) = l := fun l => by
    rw [List.filterMap_map]
    exact List.filterMap_some
  have p3 := p2.filterMap (fun k => match k with | .inr x => some x | .inl _ => none)
  rw [back, back] at p3
  exact p3
def rSortXS (w : World) : List V → Hp → VK → Prop := fun vs H Q => ∃ (a : Addr) (zs : List Str), vs = [.ref a] ∧ H a = some (SetX w a (zs.map Sum.inr)) ∧ zs.length < 64 ∧
  ∀ ys p, ys.Perm zs → sortedS ys = true → H p = none → Q (.ref p) (upd H p (.lst (ys.map V.str)))
theorem cr_sortXS (hc : X.calm = true) : CallR X (.builtin "sorted") (rSortXS X.w) := by
  intro pins s σ H vs us Q I r h
  obtain ⟨a, zs, rfl, ha, h64, q⟩ := h
  rw [Vals.ref1 r]
  obtain ⟨o, es, ep, t, ho, hx, hd, g, ek, ro⟩ := (setX_get I ha).ex
  refine Calls.call_function_entry kind_sorted plain_sorted entry_sorted (args_sorted1 _) ?_
  unfold Builtin.«sorted»
  refine wpAny_bind (m := checkCount "sorted" 1 1 _) <| wpAny_pure <| wpAny_bind <| collect_set (A := X.A.in1) (I.ok.hd hc) ⟨o, ho, hx.1, hd⟩ ro.fit ro.few ro.ris ro.led fun s1 vs k1 z1 g1 o1 pm => ?_
  obtain ⟨xs, hS, px⟩ := keys_strs g ek pm
  have lv : vs.length < 64 := by rw [StrsAre.len_eq hS, px.length_eq]; exact h64
  refine wpAny_bind (wpAny_newList ?_ (by rw [sizeLine_eq]; omega))
  have hL : (s1.heap.push (seqObj "list" vs.toArray 0)).get? s1.heap.objs.size = some (seqObj "list" vs.toArray 0) := Heap.get?_push_size _ rfl
  refine wpAny_bind <| wpAny_holding <| wpAny_call_entry slot_list_sort ⟨_, hL, rfl⟩ entry_list_sort (list_sort_treeK strKind_oneLt hL hS.keysOf (fun v1 v2 rest e => keyKind_strs (by rw [← e]; exact hS)) lv fun st p1 p2 => ⟨_, rfl, ?_⟩) (args_list_sort _)
  obtain ⟨ys, y1, y2, y3⟩ := sorted_out_str hS p1 p2
  obtain ⟨c, hcc⟩ := sortedHeap_at (vs := vs) (out := (arrOf st).map (·.2)) hL
  have ly : (ys.map V.str).length ≤ sizeLine := by rw [List.length_map, y2.length_eq, ← StrsAre.len_eq hS, sizeLine_eq]; omega
  have kp : ∀ b u, s.heap.get? b = some u → (sortedHeap (s1.heap.push (seqObj "list" vs.toArray 0)) s1.heap.objs.size vs ((arrOf st).map (·.2))).get? b = some u := fun b u e => by
    have e1 := k1 b u e
    have lt := Heap.lt_size e1
    rw [sortedHeap_old (Nat.ne_of_lt lt) (by rw [size_push']; exact Nat.lt_succ_of_lt lt)]
    exact Heap.get?_push_of_some _ e1
  refine wpAny_pure ⟨_, rfl, .ref s1.heap.objs.size, upd H s1.heap.objs.size (.lst (ys.map V.str)), I.call' (ch := []) o1 (Un.laid kp z1 (I.hok.fresh z1)) (I.hok.laid kp z1 ⟨ly, ((arrOf st).map (·.2)).toList, c, vals_of_strs y1, by rw [Array.toArray_toList]; exact hcc⟩) (by rw [g1]; exact I.bare) (fun _ z => nomatch z), rfl, q ys _ (y2.trans px) y3 (I.hok.fresh z1)⟩
theorem keys_ints {w : World} {es : List (Int × Value)} {zs : List Int} (g : ∀ e ∈ es, Ent w e) (ek : keysE es = zs.map Sum.inl) {vs : List Value} (pm : vs.Perm (es.map (·.2))) : ∃ ys : List Int, IntsAre vs ys ∧ ys.Perm zs := by
  have one : ∀ v ∈ vs, ∃ x t, v = Value.int x t := fun v hv => by
    obtain ⟨e, he, rfl⟩ := List.mem_map.mp (pm.mem_iff.mp hv)
    have hk : keyV e.2 ∈ zs.map Sum.inl := ek ▸ List.mem_map.mpr ⟨e, he, rfl⟩
    obtain ⟨x, _, hx⟩ := List.mem_map.mp hk
    rcases keyIs_shape (g e he).1 with ⟨i, t, e1, e2⟩ | ⟨y, t, e1, e2⟩
    · exact ⟨i, t, e2⟩
    · rw [← hx] at e1; cases e1
  have mk : ∀ vs : List Value, (∀ v ∈ vs, ∃ x t, v = Value.int x t) → ∃ ys : List Int, IntsAre vs ys ∧ ys.map Sum.inl = vs.map keyV := by
    intro vs
    induction vs with
    | nil => exact fun _ => ⟨[], .nil, rfl⟩
    | cons v vs ih =>
      intro h
      obtain ⟨x, t, rfl⟩ := h v List.mem_cons_self
      obtain ⟨ys, h1, h2⟩ := ih fun v hv => h v (List.mem_cons_of_mem _ hv)
      exact ⟨x :: ys, .cons x t h1, by rw [List.map_cons, List.map_cons, h2]; rfl⟩
  obtain ⟨ys, h1, h2⟩ := mk vs one
  refine ⟨ys, h1, ?_⟩
  have p2 : (ys.map (Sum.inl : Int → Key)).Perm (zs.map Sum.inl) := by
    rw [h2, ← ek]
    have := pm.map keyV
    rw [List.map_map] at this
    exact this
  have back : ∀ l : List Int, (l.map (Sum.inl : Int → Key)).filterMap (fun k => match k with | .inl x => some x | .inr _ => none) = l := fun l => by
    rw [List.filterMap_map]
    exact List.filterMap_some
  have p3 := p2.filterMap (fun k => match k with | .inl x => some x | .inr _ => none)
  rw [back, back] at p3
  exact p3
def rSortXI (w : World) : List V → Hp → VK → Prop := fun vs H Q => ∃ (a : Addr) (zs : List Int), vs = [.ref a] ∧ H a = some (SetX w a (zs.map Sum.inl)) ∧ zs.length < 64 ∧
  ∀ (ys : List Int) (p : Addr), ys.Perm zs → ys.Pairwise (· ≤ ·) → H p = none → Q (.ref p) (upd H p (.lst (ys.map V.int)))
theorem cr_sortXI (hc : X.calm = true) : CallR X (.builtin "sorted") (rSortXI X.w) := by
  intro pins s σ H vs us Q I r h
  obtain ⟨a, zs, rfl, ha, h64, q⟩ := h
  rw [Vals.ref1 r]
  obtain ⟨o, es, ep, t, ho, hx, hd, g, ek, ro⟩ := (setX_get I ha).ex
  refine Calls.call_function_entry kind_sorted plain_sorted entry_sorted (args_sorted1 _) ?_
  unfold Builtin.«sorted»
  refine wpAny_bind (m := checkCount "sorted" 1 1 _) <| wpAny_pure <| wpAny_bind <| collect_set (A := X.A.in1) (I.ok.hd hc) ⟨o, ho, hx.1, hd⟩ ro.fit ro.few ro.ris ro.led fun s1 vs k1 z1 g1 o1 pm => ?_
  obtain ⟨xs, hS, px⟩ := keys_ints g ek pm
  have lv : vs.length < 64 := by rw [hS.length, px.length_eq]; exact h64
  refine wpAny_bind (wpAny_newList ?_ (by rw [sizeLine_eq]; omega))
  have hL : (s1.heap.push (seqObj "list" vs.toArray 0)).get? s1.heap.objs.size = some (seqObj "list" vs.toArray 0) := Heap.get?_push_size _ rfl
  refine wpAny_bind <| wpAny_holding <| wpAny_call_entry slot_list_sort ⟨_, hL, rfl⟩ entry_list_sort (list_sort_tree hL hS lv fun out ys y1 y2 y3 => ⟨_, rfl, ?_⟩) (args_list_sort _)
  obtain ⟨c, hcc⟩ := sortedHeap_at (vs := vs) (out := out) hL
  have ly : (ys.map V.int).length ≤ sizeLine := by rw [List.length_map, y2.length_eq, ← hS.length, sizeLine_eq]; omega
  have kp : ∀ b u, s.heap.get? b = some u → (sortedHeap (s1.heap.push (seqObj "list" vs.toArray 0)) s1.heap.objs.size vs out).get? b = some u := fun b u e => by
    have e1 := k1 b u e
    have lt := Heap.lt_size e1
    rw [sortedHeap_old (Nat.ne_of_lt lt) (by rw [size_push']; exact Nat.lt_succ_of_lt lt)]
    exact Heap.get?_push_of_some _ e1
  refine wpAny_pure ⟨_, rfl, .ref s1.heap.objs.size, upd H s1.heap.objs.size (.lst (ys.map V.int)), I.call' (ch := []) o1 (Un.laid kp z1 (I.hok.fresh z1)) (I.hok.laid kp z1 ⟨ly, out.toList, c, vals_of_ints y1, by rw [Array.toArray_toList]; exact hcc⟩) (by rw [g1]; exact I.bare) (fun _ z => nomatch z), rfl, q ys _ (y2.trans px) y3 (I.hok.fresh z1)⟩
end
end Dv

set_option Elab.async false
set_option linter.all false
set_option maxRecDepth 100000
namespace Dv
open PySem PySem.Spec L2
/-! ### sorted and sets over data -/
def intsD : List PyData → Option (List Int)
  | [] => some []
  | .int b :: ds => (intsD ds).map (b :: ·)
  | _ :: _ => none
theorem ints_map : ∀ {ds : List PyData} {bs : List Int}, intsD ds = some bs → ds = bs.map PyData.int
  | [], bs, h => by simp [intsD] at h; subst h; rfl
  | .int b :: ds, bs, h => by
    simp only [intsD, Option.map_eq_some_iff] at h
    obtain ⟨c, h, rfl⟩ := h
    rw [ints_map h]
    rfl
  | .none :: _, _, h => by simp [intsD] at h
  | .str _ :: _, _, h => by simp [intsD] at h
  | .bool _ :: _, _, h => by simp [intsD] at h
  | .list _ :: _, _, h => by simp [intsD] at h
  | .tuple _ :: _, _, h => by simp [intsD] at h
  | .dict _ :: _, _, h => by simp [intsD] at h
theorem intsD_map (bs : List Int) : intsD (bs.map PyData.int) = some bs := by
  induction bs with
  | nil => rfl
  | cons b bs ih => simp [intsD, ih]
theorem rep_ints {K : PySem.W.Frag} {F : Hp} : ∀ {ns : List Int} {xs : List V}, RepAll K F xs (ns.map PyData.int) → xs = ns.map V.int
  | [], _, h => by cases h; rfl
  | n :: ns, _, h => by
    cases h with
    | cons h r =>
      cases h
      rw [rep_ints r]
      rfl
theorem rep_strs {K : PySem.W.Frag} {F : Hp} : ∀ {ns : List Str} {xs : List V}, RepAll K F xs (ns.map PyData.str) → xs = ns.map V.str
  | [], _, h => by cases h; rfl
  | n :: ns, _, h => by
    cases h with
    | cons h r =>
      cases h
      rw [rep_strs r]
      rfl
theorem ints_rep {K : PySem.W.Frag} {F : Hp} : ∀ (ns : List Int), RepAll K F (ns.map V.int) (ns.map PyData.int)
  | [] => .nil
  | n :: ns => .cons (.int n) (ints_rep ns)
theorem strs_rep {K : PySem.W.Frag} {F : Hp} : ∀ (ns : List Str), RepAll K F (ns.map V.str) (ns.map PyData.str)
  | [] => .nil
  | n :: ns => .cons (.str n) (strs_rep ns)
/-- the items of a list of ints, or of a list of texts -/
def oneD (xs : List PyData) (ki : List Int → Prop) (ks : List Str → Prop) : Prop := match intsD xs with
  | some ns => ki ns
  | none => match strsD xs with
    | some zs => ks zs
    | none => False
theorem flat_ints (ns : List Int) {ki : List Int → Prop} {ks : List Str → Prop} (h : ki ns) : oneD (ns.map .int) ki ks := by
  unfold oneD
  rw [intsD_map]
  exact h
theorem flat_strs {zs : List Str} {ki : List Int → Prop} {ks : List Str → Prop} (h : ks zs) (h0 : zs = [] → ki []) : oneD (zs.map .str) ki ks := by
  unfold oneD
  cases zs with
  | nil => exact h0 rfl
  | cons z zs =>
    have e : intsD ((z :: zs).map PyData.str) = none := rfl
    rw [e, strsD_map]
    exact h
def sortedD : OpNL := fun ds k => match ds with
  | [.list xs] => xs.length < 64 ∧ oneD xs (fun ns => ∀ ys : List Int, ys.Perm ns → ys.Pairwise (· ≤ ·) → k (ys.map .int)) (fun zs => ∀ ys : List Str, ys.Perm zs → PyProof.Rows.sortedS ys = true → k (ys.map .str))
  | _ => False
def setItems (ds : List PyData) (k : List PyData → Prop) : Prop := match ds with
  | [.list xs] => k xs
  | [.tuple xs] => k xs
  | _ => False
def sortSetD : OpNL := fun ds k => setItems ds fun xs => xs.length < 64 ∧ oneD xs (fun ns => ∀ ys : List Int, ys.Pairwise (· < ·) → (∀ j, j ∈ ys ↔ j ∈ ns) → k (ys.map .int)) (fun zs => ∀ ys : List Str, PyProof.Rows.sortedS ys = true → ys.Nodup → (∀ j, j ∈ ys ↔ j ∈ zs) → k (ys.map .str))
def lenSetD : OpN := fun ds k => setItems ds fun xs => xs.length < 4000 ∧ oneD xs (fun ns => ∀ ys : List Int, ys.Nodup → (∀ j, j ∈ ys ↔ j ∈ ns) → k (.int ys.length)) (fun zs => ∀ ys : List Str, ys.Nodup → (∀ j, j ∈ ys ↔ j ∈ zs) → k (.int ys.length))
theorem mapM_inl : ∀ {had : List Key} {ns : List Int}, (∀ j, j ∈ had → j ∈ ns.map (Sum.inl : Int → Key)) → ∃ zs : List Int, had = zs.map Sum.inl
  | [], _, _ => ⟨[], rfl⟩
  | h :: had, ns, hj => by
    obtain ⟨zs, e⟩ := mapM_inl (had := had) (ns := ns) fun j z => hj j (List.mem_cons_of_mem _ z)
    obtain ⟨x, _, ex⟩ := List.mem_map.mp (hj h List.mem_cons_self)
    exact ⟨x :: zs, by rw [e, ← ex]; rfl⟩
theorem mapM_inr : ∀ {had : List Key} {ns : List Str}, (∀ j, j ∈ had → j ∈ ns.map (Sum.inr : Str → Key)) → ∃ zs : List Str, had = zs.map Sum.inr
  | [], _, _ => ⟨[], rfl⟩
  | h :: had, ns, hj => by
    obtain ⟨zs, e⟩ := mapM_inr (had := had) (ns := ns) fun j z => hj j (List.mem_cons_of_mem _ z)
    obtain ⟨x, _, ex⟩ := List.mem_map.mp (hj h List.mem_cons_self)
    exact ⟨x :: zs, by rw [e, ← ex]; rfl⟩
theorem mem_inl {zs ns : List Int} (h : ∀ j, j ∈ zs.map (Sum.inl : Int → Key) ↔ j ∈ ns.map Sum.inl) (j : Int) : j ∈ zs ↔ j ∈ ns := by
  have := h (.inl j)
  simpa using this
theorem mem_inr {zs ns : List Str} (h : ∀ j, j ∈ zs.map (Sum.inr : Str → Key) ↔ j ∈ ns.map Sum.inr) (j : Str) : j ∈ zs ↔ j ∈ ns := by
  have := h (.inr j)
  simpa using this
theorem nd_inl {zs : List Int} (h : (zs.map (Sum.inl : Int → Key)).Nodup) : zs.Nodup := List.Pairwise.of_map _ (fun _ _ h e => h (congrArg _ e)) h
theorem nd_inr {zs : List Str} (h : (zs.map (Sum.inr : Str → Key)).Nodup) : zs.Nodup := List.Pairwise.of_map _ (fun _ _ h e => h (congrArg _ e)) h
theorem lt_of_le_nd : ∀ {l : List Int}, l.Pairwise (· ≤ ·) → l.Nodup → l.Pairwise (· < ·)
  | [], _, _ => .nil
  | x :: l, h, d => by
    rw [List.pairwise_cons] at h
    rw [List.nodup_cons] at d
    exact .cons (fun y hy => Int.lt_iff_le_and_ne.mpr ⟨h.1 y hy, fun e => d.1 (e ▸ hy)⟩) (lt_of_le_nd h.2 d.2)
section
variable {X : Cx} {C : FC} {a : Expr} {tA : DA} {p p2 q2 pos : Pos}
/-- what set(x) asks, of a view -/
theorem set_view {F H : Hp} {vs : List V} {ds xs : List PyData} (s : Same F H) (v : ViewAll X.K F H vs ds) (hx : ds = [.list xs] ∨ ds = [.tuple xs]) : ∃ b ys, vs = [.ref b] ∧ (SqL X.K H b ys ∨ SqT X.K H b ys) ∧ RepAll X.K F ys xs := by
  rcases hx with e | e
  · subst e
    obtain ⟨v, e, b, ys, e2, h, r⟩ := va1 v
    subst e e2
    exact ⟨b, ys, rfl, .inl h, r⟩
  · subst e
    obtain ⟨v, e, vv⟩ := va1 v
    obtain ⟨b, ys, e2, h, r, _⟩ := view_tup s vv
    subst e e2
    exact ⟨b, ys, rfl, .inr h, r⟩
theorem setItems_is {ds : List PyData} {k : List PyData → Prop} (h : setItems ds k) : ∃ xs, (ds = [.list xs] ∨ ds = [.tuple xs]) ∧ k xs := by
  unfold setItems at h
  split at h
  · exact ⟨_, .inl rfl, h⟩
  · exact ⟨_, .inr rfl, h⟩
  · exact h.elim
theorem flat_is {xs : List PyData} {ki : List Int → Prop} {ks : List Str → Prop} (h : oneD xs ki ks) : (∃ ns, xs = ns.map .int ∧ ki ns) ∨ ∃ zs, xs = zs.map .str ∧ ks zs := by
  unfold oneD at h
  split at h
  · next ns e => exact .inl ⟨ns, ints_map e, h⟩
  · split at h
    · next zs e => exact .inr ⟨zs, strs_map e, h⟩
    · exact h.elim
theorem o_sorted (hm : X.mg "sorted" = none) (ha : QA X C [a] tA) (hg : Gl X "sorted" := by rfl)
    (he : starEach [a] X.env = (false, eval a X.env) :: starEach [] X.env := by rfl) (hpl : (backTo pos (starEach [] X.env)).any (·.1) = false := by rfl) : QO X C (.Call (.Name "sorted" p) [a] [] pos) (dCBL sortedD tA) :=
  o_callB (cr_sorted.or cr_sortedS) (fun F H vs ds q Q s v w k => by
    match ds, v, w with
    | [.list xs], v, w =>
      obtain ⟨v, e, b, ys, e2, h, r⟩ := va1 v
      subst e e2
      rcases flat_is w.2 with ⟨ns, e, f⟩ | ⟨zs, e, f⟩
      · subst e
        have e := rep_ints r
        subst e
        exact .inl ⟨b, ns, rfl, h, by simpa using w.1, fun ys p h1 h2 hp => k _ _ p (f ys h1 h2) hp (ints_rep ys)⟩
      · subst e
        have e := rep_strs r
        subst e
        exact .inr ⟨b, zs, rfl, h, by simpa using w.1, fun ys p h1 h2 hp => k _ _ p (f ys h1 h2) hp (strs_rep ys)⟩) hm (by decide +kernel) ha hg (by decide) (by decide) he hpl
theorem o_sortSet (hc : X.calm = true) (hm : X.mg "sorted" = none) (hm2 : X.mg "set" = none) (ha : QA X C [a] tA) (hg : Gl X "sorted" := by rfl) (hg2 : Gl X "set" := by rfl)
    (he : starEach [a] X.env = (false, eval a X.env) :: starEach [] X.env := by rfl) (hpl : (backTo pos (starEach [] X.env)).any (·.1) = false := by rfl) (hpl2 : (backTo q2 (starEach [] X.env)).any (·.1) = false := by rfl)
    (he2 : starEach [.Call (.Name "set" p2) [a] [] q2] X.env = (false, eval (.Call (.Name "set" p2) [a] [] q2) X.env) :: starEach [] X.env := by rfl) :
    QO X C (.Call (.Name "sorted" p) [.Call (.Name "set" p2) [a] [] q2] [] pos) (dCBL sortSetD tA) :=
  QO.of (pe_callB ((cr_sortXI hc).or (cr_sortXS hc)) hg hm (by decide +kernel) (pa_cons (pe_callTy (cr_setX hc) hg2 hm2 (by decide +kernel) ha.pa (by decide) (by decide) he hpl2) pa_nil he2) (by decide) (by decide) he2 hpl) fun σ H Q ⟨F, ρ, q, S, ht, k⟩ => by
    refine ⟨F, ρ, _, S, ht, fun os ρ1 F1 H1 vs h1 S1 s1 d1 => ?_⟩
    obtain ⟨ds, v1, w1⟩ := S1.seeAll d1 h1
    obtain ⟨xs, hx, few, w1⟩ := setItems_is w1
    obtain ⟨b, ys, e, hs, r⟩ := set_view S1.sub v1 hx
    subst e
    have fin : ∀ (p : Addr) (had : List Key) (hp : H1 p = none) (p2 : Addr) (hp2 : upd H1 p (SetX X.w p had) p2 = none) (zs : List V) (es : List PyData), RepAll X.K F1 zs es → q (.list es) ρ1 → Q (.ref p2) (upd (upd H1 p (SetX X.w p had)) p2 (.lst zs)) := fun p had hp p2 hp2 zs es r hq => by
      have g := Gr.new (o := SetX X.w p had) S1.sub hp
      obtain ⟨S3, fr⟩ := (S1.grow g).layL hp2 (r.mono g.f)
      exact k _ _ _ _ _ hq S3 (s1.trans g.f) fr
    rcases flat_is w1 with ⟨ns, e, f⟩ | ⟨ns, e, f⟩
    · subst e
      have e := rep_ints r
      subst e
      refine ⟨b, ns.map Sum.inl, rfl, by rw [List.map_map]; exact hs, by simpa using Nat.lt_trans few (by decide), fun p had nd hl hj hp => ?_⟩
      obtain ⟨zs, e⟩ := mapM_inl fun j z => (hj j).mp z
      subst e
      refine .inl ⟨p, zs, rfl, upd_same, by simp at hl few; omega, fun us p2 h1 h2 hp2 => fin p _ hp p2 hp2 _ _ (ints_rep us) (f us (lt_of_le_nd h2 (h1.nodup_iff.mpr (nd_inl nd))) fun j => h1.mem_iff.trans (mem_inl hj j))⟩
    · subst e
      have e := rep_strs r
      subst e
      refine ⟨b, ns.map Sum.inr, rfl, by rw [List.map_map]; exact hs, by simpa using Nat.lt_trans few (by decide), fun p had nd hl hj hp => ?_⟩
      obtain ⟨zs, e⟩ := mapM_inr fun j z => (hj j).mp z
      subst e
      refine .inr ⟨p, zs, rfl, upd_same, by simp at hl few; omega, fun us p2 h1 h2 hp2 => fin p _ hp p2 hp2 _ _ (strs_rep us) (f us h2 (h1.nodup_iff.mpr (nd_inr nd)) fun j => h1.mem_iff.trans (mem_inr hj j))⟩
theorem q_lenSet (hc : X.calm = true) (hm : X.mg "len" = none) (hm2 : X.mg "set" = none) (ha : QA X C [a] tA) (hg : Gl X "len" := by rfl) (hg2 : Gl X "set" := by rfl)
    (he : starEach [a] X.env = (false, eval a X.env) :: starEach [] X.env := by rfl) (hpl : (backTo pos (starEach [] X.env)).any (·.1) = false := by rfl) (hpl2 : (backTo q2 (starEach [] X.env)).any (·.1) = false := by rfl)
    (he2 : starEach [.Call (.Name "set" p2) [a] [] q2] X.env = (false, eval (.Call (.Name "set" p2) [a] [] q2) X.env) :: starEach [] X.env := by rfl) :
    QE X C (.Call (.Name "len" p) [.Call (.Name "set" p2) [a] [] q2] [] pos) (dCB lenSetD tA) :=
  QE.of (pe_callB cr_lenX hg hm (by decide +kernel) (pa_cons (pe_callTy (cr_setX hc) hg2 hm2 (by decide +kernel) ha.pa (by decide) (by decide) he hpl2) pa_nil he2) (by decide) (by decide) he2 hpl) fun σ H Q ⟨F, ρ, q, S, ht, k⟩ => by
    refine ⟨F, ρ, _, S, ht, fun os ρ1 F1 H1 vs h1 S1 s1 d1 => ?_⟩
    obtain ⟨ds, v1, w1⟩ := S1.seeAll d1 h1
    obtain ⟨xs, hx, few, w1⟩ := setItems_is w1
    obtain ⟨b, ys, e, hs, r⟩ := set_view S1.sub v1 hx
    subst e
    have fin : ∀ (p : Addr) (had : List Key) (hp : H1 p = none) (n : Nat), n = had.length → q (.val (.int n)) ρ1 → Q (.int had.length) (upd H1 p (SetX X.w p had)) := fun p had hp n hn hq => by
      subst hn
      have g := Gr.new (o := SetX X.w p had) S1.sub hp
      exact k _ _ _ _ _ hq (S1.grow g) (s1.trans g.f) (.int _)
    rcases flat_is w1 with ⟨ns, e, f⟩ | ⟨ns, e, f⟩
    · subst e
      have e := rep_ints r
      subst e
      refine ⟨b, ns.map Sum.inl, rfl, by rw [List.map_map]; exact hs, by simpa using few, fun p had nd hl hj hp => ?_⟩
      obtain ⟨zs, e⟩ := mapM_inl fun j z => (hj j).mp z
      subst e
      exact ⟨p, _, rfl, upd_same, fin p _ hp zs.length (by simp) (f zs (nd_inl nd) (mem_inl hj))⟩
    · subst e
      have e := rep_strs r
      subst e
      refine ⟨b, ns.map Sum.inr, rfl, by rw [List.map_map]; exact hs, by simpa using few, fun p had nd hl hj hp => ?_⟩
      obtain ⟨zs, e⟩ := mapM_inr fun j z => (hj j).mp z
      subst e
      exact ⟨p, _, rfl, upd_same, fin p _ hp zs.length (by simp) (f zs (nd_inr nd) (mem_inr hj))⟩
end
end Dv

set_option Elab.async false
set_option linter.all false
set_option maxRecDepth 100000
namespace Dv
open PySem PySem.Spec L2
/-! ### tuple(range(..)), list(range(..)) -/
section
variable {X : Cx} {C : FC} {a : Expr} {ta : DE} {p p2 q2 pos : Pos}
theorem rg_rep {K : PySem.W.Frag} {F : Hp} (n : Int) : RepAll K F (rgV 0 n) (rangeD 0 n.toNat) := by
  have e : rgV 0 n = (List.range n.toNat).map fun i => V.int (0 + (i : Nat)) := by
    unfold rgV
    rw [Int.sub_zero]
  rw [e]
  unfold rangeD
  generalize List.range n.toNat = l
  induction l with
  | nil => exact .nil
  | cons i l ih => exact .cons (.int _) ih
def onlyInt (d : PyData) (k : Int → Prop) : Prop := match d with
  | .int n => k n
  | _ => False
theorem onlyInt_is {d : PyData} {k : Int → Prop} (h : onlyInt d k) : ∃ n, d = .int n ∧ k n := by
  cases d <;> first | exact ⟨_, rfl, h⟩ | exact h.elim
def SmallR (n : Int) : Prop := 0 ≤ n ∧ n ≤ 16777216
theorem SmallR.ok {n : Int} (h : SmallR n) : RgOk 0 n := RgOk.of_le (Int.le_refl 0) h.2 (by decide) h.1
def dTupR (t : DE) : DE := fun ρ Q => t ρ fun o ρ1 => withO ρ1 o fun d => onlyInt d fun n => SmallR n ∧ Q (.val (.tuple (rangeD 0 n.toNat))) ρ1
def dLstR (t : DE) : DO := fun ρ Q => t ρ fun o ρ1 => withO ρ1 o fun d => onlyInt d fun n => SmallR n ∧ Q (.list (rangeD 0 n.toNat)) ρ1
theorem q_tupR (hc : X.calm = true) (hm : X.mg "tuple" = none) (hm2 : X.mg "range" = none) (ha : QE X C a ta) (hg : Gl X "tuple" := by rfl) (hg2 : Gl X "range" := by rfl)
    (na : starEach [a] X.env = (false, eval a X.env) :: starEach [] X.env := by rfl) (nb : starEach [.Call (.Name "range" p2) [a] [] q2] X.env = (false, eval (.Call (.Name "range" p2) [a] [] q2) X.env) :: starEach [] X.env := by rfl) :
    QE X C (.Call (.Name "tuple" p) [.Call (.Name "range" p2) [a] [] q2] [] pos) (dTupR ta) :=
  QE.of (pe_tupRg hc hg hm (prg_1 hg2 hm2 ha.pe na) nb) fun σ H Q ⟨F, ρ, q, S, ht, k⟩ => by
    refine ⟨F, ρ, _, S, ht, fun o ρ1 F1 H1 v hq S1 s1 d1 => ?_⟩
    obtain ⟨d, v1, w1⟩ := S1.see d1 hq
    obtain ⟨n, e, hn, w2⟩ := onlyInt_is w1
    subst e
    have e := view_int v1
    subst e
    refine ⟨n, rfl, hn.ok, fun l hl => ?_⟩
    have g := Gr.new (o := .tup (rgV 0 n)) S1.sub hl
    exact k (.val (.tuple _)) _ _ _ _ w2 (S1.grow g) (s1.trans g.f) (.tup (SqT.of upd_same) (rg_rep n))
theorem o_lstR (hc : X.calm = true) (hm : X.mg "list" = none) (hm2 : X.mg "range" = none) (ha : QE X C a ta) (hg : Gl X "list" := by rfl) (hg2 : Gl X "range" := by rfl)
    (na : starEach [a] X.env = (false, eval a X.env) :: starEach [] X.env := by rfl) (nb : starEach [.Call (.Name "range" p2) [a] [] q2] X.env = (false, eval (.Call (.Name "range" p2) [a] [] q2) X.env) :: starEach [] X.env := by rfl) :
    QO X C (.Call (.Name "list" p) [.Call (.Name "range" p2) [a] [] q2] [] pos) (dLstR ta) :=
  QO.of (pe_listRg hc hg hm (prg_1 hg2 hm2 ha.pe na) nb) fun σ H Q ⟨F, ρ, q, S, ht, k⟩ => by
    refine ⟨F, ρ, _, S, ht, fun o ρ1 F1 H1 v hq S1 s1 d1 => ?_⟩
    obtain ⟨d, v1, w1⟩ := S1.see d1 hq
    obtain ⟨n, e, hn, w2⟩ := onlyInt_is w1
    subst e
    have e := view_int v1
    subst e
    refine ⟨n, rfl, hn.ok, fun l hl => ?_⟩
    obtain ⟨S3, fr⟩ := S1.layL hl (rg_rep n)
    exact k _ _ _ _ _ w2 S3 s1 fr
theorem i_zip2 {e e2 : Expr} {ta : DA} {P : List Bool} {tpos : Pos} {elts : List Expr} {kk : Nat} (hP : C.Tags P) (hm : X.mg "zip" = none) (ha : QA X C [e, e2] ta) (hg : Gl X "zip" := by rfl)
    (hs : starEach [e, e2] X.env = (false, eval e X.env) :: starEach [e2] X.env := by rfl) (hpl : (backTo pos (starEach [e2] X.env)).any (·.1) = false := by rfl) : QI X C (.Tuple elts kk tpos) (.Call (.Name "zip" p) [e, e2] [] pos) (dZip P ta) :=
  i_zip hP hm ha hg (RZ.pi_zipA hg hm ha.pa hs hpl)
end
end Dv

set_option Elab.async false
set_option linter.all false
set_option maxRecDepth 100000
namespace Dv
open PySem PySem.Spec L2
/-! ### loops by the number of turns -/
theorem lc_ix {P : List Bool} {g : DG} {tt : DT} {te : DE} {vs : List Nat} {Q : PyData → DEnv → Prop} (I : List PyData → DEnv → Prop) {ds : List PyData} {ρ : DEnv}
    (h : ∀ (acc : List PyData) (d : PyData) (ρ : DEnv) (yes : PyData → DEnv → Prop) (no : DEnv → Prop), ds[acc.length]? = some d → I acc ρ → (∀ e ρ', I (acc ++ [e]) ρ' → yes e ρ') → turnE P g tt te vs ρ d yes no)
    (hI : I [] ρ) (hl : ds.length ≤ big) (hq : ∀ acc ρ', I acc ρ' → acc.length = ds.length → Q (.list acc) ρ') : dLcL P g tt te vs Q ds [] ρ := by
  suffices z : ∀ (rest acc : List PyData) (ρ : DEnv), ds.drop acc.length = rest → acc.length + rest.length = ds.length → I acc ρ → dLcL P g tt te vs Q rest acc ρ from z ds [] ρ rfl (by simp) hI
  intro rest
  induction rest with
  | nil => exact fun acc ρ e el hI => hq acc ρ hI (by simpa using el)
  | cons d rest ih =>
    intro acc ρ e el hI
    rw [List.length_cons] at el
    have hd : ds[acc.length]? = some d := by
      have := congrArg (fun l => l[0]?) e
      simpa using this
    refine lc_turn (h acc d ρ _ _ hd hI fun e' ρ' hI' => ⟨by omega, ih _ ρ' ?_ ?_ hI'⟩)
    · rw [List.length_append, List.length_singleton, ← List.drop_drop, e]
      rfl
    · rw [List.length_append, List.length_singleton]
      omega
theorem loop_ix {g : DG} {b : DS} {E : DEnds} (I : Nat → DEnv → Prop) {ds : List PyData} {ρ : DEnv}
    (h : ∀ (i : Nat) (d : PyData) (ρ : DEnv) (nx : DEnv → Prop), ds[i]? = some d → I i ρ → (∀ ρ', I (i + 1) ρ' → nx ρ') → g d ρ fun ρ1 => b { E with nx := nx, ct := nx, bk := E.nx } ρ1)
    (hI : I 0 ρ) (hq : ∀ ρ', I ds.length ρ' → E.nx ρ') : dLoop g b E ds ρ := by
  refine loop_inv (fun rest ρ => ∃ i, ds.drop i = rest ∧ i + rest.length = ds.length ∧ I i ρ) (fun d rest ρ nx hI hnx => ?_) ⟨0, rfl, by simp, hI⟩ (fun ρ' hI => ?_)
  · obtain ⟨i, e, el, hI⟩ := hI
    rw [List.length_cons] at el
    have hd : ds[i]? = some d := by
      have := congrArg (fun l => l[0]?) e
      simpa using this
    refine h i d ρ nx hd hI fun ρ' hI' => hnx ρ' ⟨i + 1, ?_, by omega, hI'⟩
    rw [← List.drop_drop, e]
    rfl
  · obtain ⟨i, e, el, hI⟩ := hI
    have : i = ds.length := by simpa using el
    rw [this] at hI
    exact hq ρ' hI
theorem range_at {n i : Nat} {d : PyData} (h : (rangeD 0 n)[i]? = some d) : i < n ∧ d = .int i := by
  unfold rangeD at h
  rw [List.getElem?_map] at h
  cases e : (List.range n)[i]? with
  | none => rw [e] at h; cases h
  | some j =>
    rw [e] at h
    have hj := List.getElem?_eq_some_iff.mp e
    obtain ⟨h1, h2⟩ := hj
    rw [List.length_range] at h1
    rw [List.getElem_range] at h2
    subst h2
    cases h
    exact ⟨h1, by simp⟩
theorem range_len (lo : Int) (n : Nat) : (rangeD lo n).length = n := by simp [rangeD]
/-! ### subscripts that are met -/
theorem ixL {ds : List PyData} {i : Int} {x : PyData} {k : PyData → Prop} (h : atI ds i = some x) (hk : k x) : (match atI ds i with | some x => k x | none => False) := by
  rw [h]
  exact hk
theorem ixSt {z : List Nat} {i : Int} {c : Nat} {k : PyData → Prop} (h : atI z i = some c) (hk : k (.str ⟨#[c]⟩)) : (match atI z i with | some c => k (.str ⟨#[c]⟩) | none => False) := by
  rw [h]
  exact hk
theorem pickI (x y : Int) (b : Bool) : ∃ k, (k = x ∨ k = y) ∧ atI [PyData.int x, .int y] (if b = true then 1 else 0) = some (.int k) := by
  cases b
  · exact ⟨x, .inl rfl, rfl⟩
  · exact ⟨y, .inr rfl, rfl⟩
theorem pickS (x y : Str) {r : Int} (h0 : 0 ≤ r) (h1 : r < 2) : ∃ k, (k = x ∨ k = y) ∧ atI [PyData.str x, .str y] r = some (.str k) := by
  have : r = 0 ∨ r = 1 := by omega
  rcases this with rfl | rfl
  · exact ⟨x, .inl rfl, rfl⟩
  · exact ⟨y, .inr rfl, rfl⟩
/-- an item of a list at a place within it -/
theorem at_in {xs : List PyData} {r : Int} (h0 : 0 ≤ r) (h1 : r < xs.length) : ∃ x, atI xs r = some x ∧ xs[r.toNat]? = some x := by
  have hr : r.toNat < xs.length := by omega
  have z := atI_nat (List.getElem?_eq_getElem hr)
  have e : ((r.toNat : Nat) : Int) = r := by omega
  rw [e] at z
  exact ⟨xs[r.toNat], z, List.getElem?_eq_getElem hr⟩
theorem at_map {α : Type} {f : α → PyData} {xs : List α} {r : Int} (h0 : 0 ≤ r) (h1 : r < xs.length) : ∃ x, atI (xs.map f) r = some (f x) ∧ xs[r.toNat]? = some x := by
  have hr : r.toNat < xs.length := by omega
  obtain ⟨y, h2, h3⟩ := at_in (xs := xs.map f) h0 (by rw [List.length_map]; exact h1)
  rw [List.getElem?_map, List.getElem?_eq_getElem hr] at h3
  cases h3
  exact ⟨xs[r.toNat], h2, List.getElem?_eq_getElem hr⟩
end Dv

set_option Elab.async false
set_option linter.all false
set_option maxRecDepth 100000
namespace Dv
open PySem PySem.Spec PyProof.Rows L2
/-! ### defs that call themselves -/
theorem fnAt_no {Pg : Program} {w : World} {K : PySem.W.Frag} {mg : Str → Option Value} {base : Heap} {x : Str} {st : Stmt} {ps : List Str} {k : Nat} {P : List Bool} {S : SpD} (FA : FunAt K mg x st ps) (h0 : ∀ ds q, ¬ S ds q) : FnAt Pg w K mg base k x ps P S := by
  obtain ⟨f, fd, F, hm, hb⟩ := FA.ex
  exact ⟨f, fd, ⟨fun {vs H Q E} ⟨_, _, _, _, _, h, _⟩ => (h0 _ _ h).elim, fun {A outer s H args us vs Q E} _ _ _ _ ⟨_, _, _, _, _, h, _⟩ => (h0 _ _ h).elim⟩, hm, F.kp, hb⟩
theorem fnAt_rec {Pg : Program} {w : World} {K : PySem.W.Frag} {mg : Str → Option Value} {base : Heap} {x : Str} {st : Stmt} {ps : List Str} {P : List Bool} (S : Nat → SpD) (j : Nat) (FA : FunAt K mg x st ps) (h0 : ∀ ds q, ¬ S 0 ds q)
    (step : ∀ n k, j ≤ k → FnAt Pg w K mg base k x ps P (S n) → FnAt Pg w K mg base (k + 1) x ps P (S (n + 1))) : ∀ n, FnAt Pg w K mg base (j + n) x ps P (S n)
  | 0 => fnAt_no FA h0
  | n + 1 => step n (j + n) (Nat.le_add_right _ _) (fnAt_rec S j FA h0 step n)
/-! ### enumerate(a tuple) -/
theorem meets_enumerate_new1 {v : Value} {o : Obj} {H : Heap → Prop} (B : Begins v o H) :
    Meets (Builtin.«enumerate.__new__» ⟨[.type "enumerate", v], []⟩) (fun _ R s => H s.heap ∧
      R (.ok (.ret (.ref (s.heap.push o).objs.size))) { s with heap := (s.heap.push o).push { cls := .type "enumerate", data := .fields #[.none, .bool false, .ref s.heap.objs.size, rawInt 0, .none, .none] } }) :=
  .of_wp fun prog w A R s h => by
    obtain ⟨hp, g, d, tk, os⟩ := s; obtain ⟨h1, h⟩ := h
    have hsub := sub_enumerate
    have q1 : ∀ {A' : Around} {E : Value → Shared → Prop} {Q : Value → Shared → Prop}, Q (.ref hp.objs.size) ⟨hp.push o, g, d, tk, os⟩ → wpAny (model prog w) A' (pyIter v) Q E ⟨hp, g, d, tk, os⟩ :=
      fun q => B.iter prog w _ _ ⟨hp, g, d, tk, os⟩ _ h1 q
    wp_walk using q1
    refine wpAny_stack_any fun st => wpAny_pure ?_
    split
    · rename_i c _ _ _ _ _
      cases (c == Value.type "enumerate")
      · wp_walk using q1
        exact ⟨_, rfl, h⟩
      · wp_walk using q1
        exact ⟨_, rfl, h⟩
    · wp_walk using q1
      exact ⟨_, rfl, h⟩

section
variable {prog : Program} {w : World} {A : Around} {E : Value → Shared → Prop} {s : Shared}
theorem enum_begins1 {v : Value} {o : Obj} {H : Heap → Prop} {Q : Value → Shared → Prop} (B : Begins v o H) (h1 : H s.heap)
    (h : ∀ h', IsEnum h' (s.heap.objs.size + 1) s.heap.objs.size 0 .none → h'.get? s.heap.objs.size = some o → h'.objs.size = s.heap.objs.size + 2 →
      (∀ b o, s.heap.get? b = some o → h'.get? b = some o) → Q (.ref (s.heap.objs.size + 1)) { s with heap := h' }) (ho : o.isFreed = false) :
    wpAny (model prog w) A (call (.type "enumerate") [v]) Q E s := by
  refine callType_new F.called_enumerate (by decide) (F.typeCall_enumerate_1 _) (F.newCall_enumerate_1 _) (fun obj => F.args_object_init_2 obj _) F.entry_enumerate_new
    (meets_enumerate_new1 B) ⟨h1, ?_⟩
  have hz : (s.heap.push o).objs.size = s.heap.objs.size + 1 := Heap.size_push ..
  show _ ∧ _
  rw [hz]
  have he : IsEnum ((s.heap.push o).push
      { cls := .type "enumerate", data := .fields #[.none, .bool false, .ref s.heap.objs.size, rawInt 0, .none, .none] }) (s.heap.objs.size + 1) s.heap.objs.size 0 .none := by
    have := Heap.get?_push_size (s.heap.push o)
      (o := { cls := .type "enumerate", data := .fields #[.none, .bool false, .ref s.heap.objs.size, rawInt 0, .none, .none] }) rfl
    rw [hz] at this; exact this
  refine ⟨⟨_, he, rfl⟩, h _ he (Heap.get?_push_of_some _ (Heap.get?_push_size _ ho)) (by rw [Heap.size_push, hz]) fun b o x => Heap.get?_push_of_some _ (Heap.get?_push_of_some _ x)⟩
end
def IteT (K : PySem.W.Frag) (a : Addr) : It :=
  ⟨fun i H => ∃ (xs : List V) (x : V), SqT K H a xs ∧ xs[i]? = some x, fun i H v H' => ∃ T x, v = .ref T ∧ H T = none ∧ H' = upd H T (.tup [.int (i : Nat), x]) ∧ ∀ xs, SqT K H a xs → xs[i]? = some x, fun i H => ∃ xs : List V, SqT K H a xs ∧ xs.length = i⟩
theorem turn_enumT {P : Program} {w : World} {K : PySem.W.Frag} {elts : List Expr} {kk : Nat} {tpos : Pos} (a e it : Addr) :
    Turn P w K (.Tuple elts kk tpos) (IteT K a) [e, it] e (fun i h => (∃ old, IsEnum h e it ((i : Nat) : Int) old) ∧ h.IsTupleIter it a i ∧ e ≠ it ∧ a ≠ it ∧ e ≠ a) where
  mem := by simp
  obj := fun i h st b hb => by
    obtain ⟨⟨old, he⟩, ⟨o, ho, hc, hd⟩, _⟩ := st
    have e' : b = e ∨ b = it := by simpa using hb
    rcases e' with z | z
    · rw [z]; exact ⟨_, he, fun v q => nomatch q⟩
    · rw [z]; exact ⟨o, ho, fun v q => by rw [hd] at q; cases q⟩
  keep := fun i h h' st k => let ⟨⟨old, he⟩, hi, hne⟩ := st; ⟨⟨old, k e (by simp) _ he⟩, hi.at fun o q => k it (by simp) o q, hne⟩
  item := by
    intro X hP hw hK hc i pins s σ H E I hf st hg
    subst hP hw hK
    obtain ⟨⟨old, he⟩, hit, hne, hai, hea⟩ := st
    obtain ⟨xs, x, hq, hx⟩ := hg
    obtain ⟨its, rv, p, hz⟩ := I.tuple hq
    obtain ⟨u, hu, ru⟩ := rv.get hx
    have hel : e < s.heap.objs.size := Heap.lt_size he
    have hil : it < s.heap.objs.size := by obtain ⟨_, q, _⟩ := hit; exact Heap.lt_size q
    have hlt : i < its.toArray.size := by
      have := (List.getElem?_eq_some_iff.mp hu).1
      simpa using this
    refine wpAny_pyNext_enum_itemD (Draws.tuple (A := X.A.in1) (I.ok.hd hc) it a hai its.toArray) he ⟨hit, p⟩ hlt hne (by simp [hne, hea]) fun y h' tk hy ho hit' hT hsz hk => ?_
    have ey : y = u := by
      have z : its[i]? = some y := by simpa using hy
      rw [hu] at z
      exact (Option.some.inj z).symm
    subst ey
    refine ⟨_, rfl, wpAny_letOwnedTupleGo_enum (s := { s with heap := h', toks := tk + 1 }) ho fun h'' he' sb => ?_⟩
    have hT2 : h''.get? s.heap.objs.size = some { cls := .type "tuple", data := .seq #[.int i tk, y] } := (sb.2 _ (Nat.ne_of_gt hel)).trans hT
    have new : ObjOk X.prog X.w (upd H s.heap.objs.size (.tup [.int (i : Nat), x])) h'' s.heap.objs.size (.tup [.int (i : Nat), x]) :=
      ⟨by show 2 ≤ sizeLine; decide, [.int i tk, y], .cons ⟨_, rfl⟩ (.cons ru .nil), ⟨_, hT2, rfl, _, rfl⟩⟩
    have I1 : Inv X pins σ (upd H s.heap.objs.size (.tup [.int (i : Nat), x])) { s with heap := h'', toks := tk + 1 } :=
      I.turnedNew (ch := [e, it]) (fun b ob hb q => (sb.2 b (fun z => hb (by simp [z]))).trans (hk b ob (fun z => hb (by simp [z])) (fun z => hb (by simp [z])) q)) hf (Nat.le_refl _) new
    refine ⟨.ref s.heap.objs.size, _, I1, rfl, ⟨_, x, rfl, I.hok.fresh (Nat.le_refl _), rfl, fun ys hy => by rw [I.tuple_inj hy hq]; exact hx⟩, ⟨⟨y, ?_⟩, hit'.1.at fun o q => (sb.2 it (Ne.symm hne)).trans q, hne, hai, hea⟩, fun b hb => ?_⟩
    · have e1 : ((i + 1 : Nat) : Int) = (i : Int) + 1 := by omega
      rw [e1]; exact he'
    · have hb' : b < s.heap.objs.size := by
        have e' : b = e ∨ b = it := by simpa using hb
        rcases e' with z | z
        · rw [z]; exact hel
        · rw [z]; exact hil
      rw [upd_ne (Nat.ne_of_lt hb')]
      exact (hf b hb).1
  done := by
    intro X hP hw hK hc i pins s σ H E I hf st hg
    subst hP hw hK
    obtain ⟨⟨old, he⟩, hit, hne, hai, hea⟩ := st
    obtain ⟨xs, hq, hx⟩ := hg
    obtain ⟨its, rv, p, hz⟩ := I.tuple hq
    obtain ⟨f0, f1, f2, f3, f4, f5⟩ := hf it (by simp)
    have hl := rv.length
    have hn : i = its.toArray.size := by simp; omega
    rw [hn] at hit
    exact wpAny_pyNext_enum_endD (Draws.tuple (A := X.A.in1) (I.ok.hd hc) it a hai its.toArray) he ⟨hit, p⟩ fun h' eb => ⟨rfl, I.turned (t' := s.toks) (fun b o hb q => eb b o hb q) f0 f1 f3 f4 f5⟩
  self := fun A i s Q E st h => let ⟨⟨_, he⟩, _⟩ := st; wpAny_pyIter_enum he h
def iEnumA (K : PySem.W.Frag) (ta : TA) : TI := fun σ H R => ta σ H fun vs H1 => (∃ a xs, vs = [.ref a] ∧ SqL K H1 a xs ∧ R (Ite K a) H1) ∨ ∃ a xs, vs = [.ref a] ∧ SqT K H1 a xs ∧ R (IteT K a) H1
theorem pi_enumA {X : Cx} {e : Expr} {ta : TA} {p pos tpos : Pos} {elts : List Expr} {kk : Nat} (hg : Gl X "enumerate") (hm : X.mg "enumerate" = none) (ha : PA X [e] ta) (hs : starEach [e] X.env = [(false, eval e X.env)] := by rfl) :
    PI X (.Tuple elts kk tpos) (.Call (.Name "enumerate" p) [e] [] pos) (iEnumA X.K ta) := by
  refine ⟨fun pins s σ H R I h => ?_⟩
  refine Call_ (ld_blt I hg hm boot_enumerate (PyProof.Rows.callWith_type1 (thn (ha.run pos pins s σ H _ I h) fun us s1 ⟨vs, H1, I1, r1, q1⟩ => ?_) hs rfl))
  have fp : ∀ b, b ∈ [s1.heap.objs.size + 1, s1.heap.objs.size] → FpOk X pins H1 b := fun b hb => by
    have e' : b = s1.heap.objs.size + 1 ∨ b = s1.heap.objs.size := by simpa using hb
    have hle : s1.heap.objs.size ≤ b := by
      rcases e' with z | z
      · rw [z]; exact Nat.le_add_right _ _
      · rw [z]; exact Nat.le_refl _
    exact I1.fpOk hle (I1.hok.fresh hle)
  rcases q1 with ⟨a, xs, ex, hq, q⟩ | ⟨a, xs, ex, hq, q⟩
  · subst ex
    cases r1 with
    | cons r rr =>
      cases rr
      cases r
      obtain ⟨its, rv, p', hz⟩ := I1.list hq
      refine call_enumerate_list p'.isList fun h' he hit hsz hk => wpAny_pyIter_enum he ?_
      have I2 : Inv X pins σ H1 { s1 with heap := h' } := I1.kept (t' := s1.toks) hk
      exact ⟨s1.heap.objs.size + 1, [s1.heap.objs.size + 1, s1.heap.objs.size], _, _, H1, rfl, I2, turn_enum a (s1.heap.objs.size + 1) s1.heap.objs.size, ⟨⟨.none, he⟩, hit, Nat.succ_ne_self _⟩, fp, q⟩
  · subst ex
    cases r1 with
    | cons r rr =>
      cases rr
      cases r
      obtain ⟨its, rv, p', hz⟩ := I1.tuple hq
      obtain ⟨oa, ha', _⟩ := id p'
      have hlt := Heap.lt_size ha'
      refine enum_begins1 (begins_tuple a its.toArray) p' (fun h' he hit hsz hk => wpAny_pyIter_enum he ?_) rfl
      have I2 : Inv X pins σ H1 { s1 with heap := h' } := I1.kept (t' := s1.toks) hk
      exact ⟨s1.heap.objs.size + 1, [s1.heap.objs.size + 1, s1.heap.objs.size], _, _, H1, rfl, I2, turn_enumT a (s1.heap.objs.size + 1) s1.heap.objs.size, ⟨⟨.none, he⟩, ⟨_, hit, rfl, rfl⟩, Nat.succ_ne_self _, Nat.ne_of_lt hlt, Nat.ne_of_gt (Nat.lt_succ_of_lt hlt)⟩, fp, q⟩
/-- the items, each with its number -/
def enumD (xs : List PyData) : List PyData := zipD (rangeD 0 xs.length) xs
theorem enum_get {xs : List PyData} {i : Nat} {d : PyData} (h : (enumD xs)[i]? = some d) : ∃ x, xs[i]? = some x ∧ d = .tuple [.int i, x] := by
  obtain ⟨a, x, h1, h2, e⟩ := zip_get h
  have := (range_at h1).2
  subst this
  exact ⟨x, h2, e⟩
theorem enum_len (xs : List PyData) : (enumD xs).length = xs.length := by simp [enumD, zipD, rangeD]
theorem ite_ok {K : PySem.W.Frag} {F0 : Hp} {a : Addr} {xs : List V} {ds : List PyData} (h : SqL K F0 a xs) (r : RepAll K F0 xs ds) : ItOk K (Ite K a) F0 (enumD ds) := fun F H s0 s1 => by
  have hq : SqL K H a xs := sqL_mono s1 (sqL_mono s0 h)
  refine ⟨⟨xs, hq, by rw [enum_len, r.length]; exact Nat.le_refl _⟩, fun i d hd => ?_⟩
  obtain ⟨d1, g1, e⟩ := enum_get hd
  subst e
  obtain ⟨v, hv, rv⟩ := r.get g1
  refine ⟨⟨xs, v, hq, hv⟩, fun x H' hy => ?_⟩
  obtain ⟨T, x1, e, hT, e', k1⟩ := hy
  subst e e'
  have z1 := k1 xs hq
  rw [hv] at z1
  cases z1
  exact pair_new s1 hT (.int _) (rv.mono s0)
theorem iteT_ok {K : PySem.W.Frag} {F0 : Hp} {a : Addr} {xs : List V} {ds : List PyData} (h : SqT K F0 a xs) (r : RepAll K F0 xs ds) : ItOk K (IteT K a) F0 (enumD ds) := fun F H s0 s1 => by
  have hq : SqT K H a xs := sqT_mono s1 (sqT_mono s0 h)
  refine ⟨⟨xs, hq, by rw [enum_len, r.length]⟩, fun i d hd => ?_⟩
  obtain ⟨d1, g1, e⟩ := enum_get hd
  subst e
  obtain ⟨v, hv, rv⟩ := r.get g1
  refine ⟨⟨xs, v, hq, hv⟩, fun x H' hy => ?_⟩
  obtain ⟨T, x1, e, hT, e', k1⟩ := hy
  subst e e'
  have z1 := k1 xs hq
  rw [hv] at z1
  cases z1
  exact pair_new s1 hT (.int _) (rv.mono s0)
def dEnum (P : List Bool) (t : DA) : DI := fun ρ Q => t ρ fun os ρ1 => shareAll P ρ1 os fun ds ρ2 => match ds with
  | [.list xs] => Q (enumD xs) ρ2
  | [.tuple xs] => Q (enumD xs) ρ2
  | _ => False
theorem i_enum {X : Cx} {C : FC} {P : List Bool} {e : Expr} {ta : DA} {p pos tpos : Pos} {elts : List Expr} {kk : Nat} (hP : C.Tags P) (hm : X.mg "enumerate" = none) (ha : QA X C [e] ta) (hg : Gl X "enumerate" := by rfl)
    (hs : starEach [e] X.env = [(false, eval e X.env)] := by rfl) : QI X C (.Tuple elts kk tpos) (.Call (.Name "enumerate" p) [e] [] pos) (dEnum P ta) :=
  QI.of (pi_enumA hg hm ha.pa hs) fun σ H R ⟨F, ρ, q, S, ht, k⟩ => by
    refine ⟨F, ρ, _, S, ht, fun os ρ1 F1 H1 vs hq S1 s1 d1 => ?_⟩
    obtain ⟨ds, ρ2, F2, w, S2, s2, r⟩ := Sim.shareAll hP S1 d1 hq
    cases r with
    | nil => exact w.elim
    | @cons v _ d _ hv hr =>
      cases hr with
      | cons _ _ => cases d <;> exact w.elim
      | nil =>
        cases hv with
        | lst a1 a2 => exact .inl ⟨_, _, rfl, sqL_mono S2.sub a1, k _ _ _ _ _ w S2 (s1.trans s2) (ite_ok a1 a2)⟩
        | tup a1 a2 => exact .inr ⟨_, _, rfl, sqT_mono S2.sub a1, k _ _ _ _ _ w S2 (s1.trans s2) (iteT_ok a1 a2)⟩
        | _ => exact w.elim
end Dv

set_option Elab.async false
set_option linter.all false
set_option maxRecDepth 100000
namespace Dv
open PySem PySem.Spec PyProof.Rows L2
/-! ### xs.index(x) over data -/
def indexD : OpN := fun ds k => match ds with
  | [.list xs, d] => shp (.list xs) ∧ shp d ∧ match xs.findIdx? (fun z => PyData.eqv z d) with
    | some j => k (.int (j : Nat))
    | none => False
  | _ => False
section
variable {X : Cx} {C : FC} {P : List Bool} {o e : Expr} {to : DE} {tA : DA} {apos cpos : Pos} {k : Nat}
theorem ok_index : MtOk X (rIndexD X.K) indexD := fun F H v vs d ds q Q s w0 w1 w k => by
  cases d with
  | list xs =>
    cases w1 with
    | nil => exact w.elim
    | @cons v1 _ d1 _ hv hr =>
      cases hr with
      | cons _ _ => exact w.elim
      | nil =>
        have w : shp (.list xs) ∧ shp d1 ∧ match xs.findIdx? (fun z => PyData.eqv z d1) with
          | some j => q (.int (j : Nat))
          | none => False := w
        obtain ⟨h1, h2, w⟩ := w
        cases z : xs.findIdx? (fun z => PyData.eqv z d1) with
        | none => rw [z] at w; exact w.elim
        | some j =>
          rw [z] at w
          obtain ⟨hj, hz, hno⟩ := List.findIdx?_eq_some_iff_getElem.mp z
          obtain ⟨a, ys, e, hsq, r⟩ := id w0
          subst e
          refine ⟨a, v1, d1, xs, j, xs[j], rfl, rfl, View.dp (d := .list xs) s (SeqAt.canLay_of_shaped h1) w0, View.dp s (SeqAt.canLay_of_shaped h2) hv, h1, h2, List.getElem?_eq_getElem hj, hz, fun m z' hm hz' => ?_, k _ _ _ _ w (Gr.refl s) (.int _)⟩
          have hml : m < xs.length := Nat.lt_trans hm hj
          rw [List.getElem?_eq_getElem hml] at hz'
          cases hz'
          simpa using hno m hm
  | _ => exact w.elim
theorem q_index (hr : Room k X.A) (ho : QE X C o to) (ha : QA X C [e] tA) (hbase : attributeBase o "index" X.env (eval o X.env) = eval o X.env := by rfl)
    (hfew : ((backTo cpos (starEach [e] X.env)).all (fun x => !x.1) && (backToKw cpos (keywordEach [] X.env)).all (fun x => x.1.isSome)
      && decide ([e].length + ([] : List Keyword).length + (if ([] : List Keyword).isEmpty then 0 else 1) < 30)) = true := by rfl)
    (hline : (apos.endLine == cpos.line) = true := by rfl) (hs : starEach [e] X.env = (false, eval e X.env) :: starEach [] X.env := by rfl) (hplain : (backTo cpos (starEach [] X.env)).any (·.1) = false := by rfl) :
    QE X C (.Call (.Attribute o "index" apos) [e] [] cpos) (dBM "list" indexD to tA) :=
  m_look PySem.F.plainAttrs_list PySem.F.slot_list_index PySem.F.type_list_index (mt_indexD (by have := hr.un; omega)) ok_index ho ha hbase hfew hline hs hplain
end
/-! ### sorted(xs) of data, as a function -/
def rSortDt (K : PySem.W.Frag) : List V → Hp → VK → Prop := fun vs H Q => ∃ (a : Addr) (xs : List V) (ds : List PyData), vs = [.ref a] ∧ SqL K H a xs ∧ DpAll K H xs ds ∧ PySem.W.AllAlike ds ∧ PySem.W.Sortable ds ∧ ds.length ≤ sizeLine ∧ (∀ d ∈ ds, PyData.depth d ≤ 60) ∧
  ∀ p, H p = none → Q (.ref p) (upd H p (.lst (((xs.zip ds).mergeSort (PySem.W.dataLe false Prod.snd)).map Prod.fst)))
theorem each_zip {X : Cx} {pins : List (Addr × Obj)} {σ : L2.St} {H : Hp} {s : Shared} (I : Inv X pins σ H s) : ∀ {xs : List V} {its : List Value} {ds : List PyData}, Vals xs its → DpAll X.K H xs ds →
    PySem.W.EachIs (fun u (b : V × PyData) => RelV b.1 u) its (xs.zip ds) ∧ PySem.W.EachIs (fun u (b : V × PyData) => ∃ as, Reads s.heap u b.2 as) its (xs.zip ds)
  | _, _, _, .nil, .nil => ⟨.nil, .nil⟩
  | _, _, _, .cons r t, .cons h1 h2 => by
    obtain ⟨a, b⟩ := each_zip I t h2
    exact ⟨.cons r a, .cons (Dp.reads I _ _ _ h1 r) b⟩
theorem each_vals : ∀ {out : List Value} {bs : List (V × PyData)}, PySem.W.EachIs (fun u (b : V × PyData) => RelV b.1 u) out bs → Vals (bs.map Prod.fst) out
  | _, _, .nil => .nil
  | _, _, .cons r t => .cons r (each_vals t)
theorem cr_sortDt {X : Cx} (hu : X.A.units + 65 < cLine) : CallR X (.builtin "sorted") (rSortDt X.K) := by
  intro pins s σ H vs us Q I r h
  obtain ⟨a, xs, ds, rfl, hs, hd, hal, hk, hlen, hdep, q⟩ := h
  obtain ⟨its, rv, hl, _⟩ := I.list hs
  rw [Vals.ref1 r]
  obtain ⟨e1, e2⟩ := each_zip I rv hd
  have hxd : xs.length = ds.length := by
    have : ∀ {xs : List V} {ds : List PyData}, DpAll X.K H xs ds → xs.length = ds.length := by
      intro xs
      induction xs with
      | nil => intro ds h; cases h; rfl
      | cons x xs ih => intro ds h; cases h with | cons _ t => simp [ih t]
    exact this hd
  have em : (xs.zip ds).map Prod.snd = ds := List.map_snd_zip (by omega)
  refine PySem.W.sorted_data (enc := Prod.snd) hl.isList e1 e2 (by rw [em]; exact hal) (by rw [em]; exact hk) (by simp; omega) (fun b hb => ?_) fun out ho eo => ?_
  · have := hdep b.2 (by rw [← em]; exact List.mem_map.mpr ⟨b, hb, rfl⟩)
    omega
  · obtain ⟨ep, he'⟩ := PyProof.Rows.sortedAll_at s.heap its out.toArray
    exact ⟨.ref _, upd H (s.heap.objs.size + 1) (.lst _), I.laid (t' := s.toks) (fun _ _ => PyProof.Rows.sortedAll_old) (Nat.le_succ _) ⟨by simp; omega, out, ep, each_vals eo, he'⟩, rfl, q _ (I.hok.fresh (Nat.le_succ _))⟩
/-- what may be sorted -/
structure Srt (xs : List PyData) : Prop where
  al : PySem.W.AllAlike xs
  so : PySem.W.Sortable xs
  ln : xs.length ≤ 16777216
  sh : ∀ d ∈ xs, Shp 60 d
def sortD (xs : List PyData) : List PyData := xs.mergeSort (PySem.W.dataLe false id)
def sortedDt : OpNL := fun ds k => match ds with
  | [.list xs] => Srt xs ∧ k (sortD xs)
  | _ => False
theorem repAll_zip {K : PySem.W.Frag} {F : Hp} : ∀ {xs : List V} {ds : List PyData}, RepAll K F xs ds → ∀ b ∈ xs.zip ds, Rep K F b.1 b.2
  | _, _, .nil, b, hb => by simp at hb
  | _, _, .cons r t, b, hb => by
    rcases List.mem_cons.mp (show b ∈ _ :: _ from hb) with rfl | z
    · exact r
    · exact repAll_zip t b z
theorem repAll_of {K : PySem.W.Frag} {F : Hp} : ∀ {bs : List (V × PyData)}, (∀ b ∈ bs, Rep K F b.1 b.2) → RepAll K F (bs.map Prod.fst) (bs.map Prod.snd)
  | [], _ => .nil
  | b :: bs, h => .cons (h b List.mem_cons_self) (repAll_of fun c hc => h c (List.mem_cons_of_mem _ hc))
section
variable {X : Cx} {C : FC} {a : Expr} {tA : DA} {p pos : Pos} {k : Nat}
theorem o_sortedDt (hr : Room k X.A) (hm : X.mg "sorted" = none) (ha : QA X C [a] tA) (hg : Gl X "sorted" := by rfl)
    (he : starEach [a] X.env = (false, eval a X.env) :: starEach [] X.env := by rfl) (hpl : (backTo pos (starEach [] X.env)).any (·.1) = false := by rfl) : QO X C (.Call (.Name "sorted" p) [a] [] pos) (dCBL sortedDt tA) :=
  o_callB (cr_sortDt (by have := hr.un; omega)) (fun F H vs ds q Q s v w k => by
    match ds, v, w with
    | [.list xs], v, w =>
      obtain ⟨v, e, b, ys, e2, h, r⟩ := va1 v
      subst e e2
      obtain ⟨hs, f⟩ := w
      have hcan : PyData.canLayAll0 xs = true := canAll_iff.mpr fun d hd => (hs.sh d hd).can
      refine ⟨b, ys, xs, rfl, h, r.dp s hcan, hs.al, hs.so, hs.ln, fun d hd => (hs.sh d hd).dep, fun p hp => ?_⟩
      have em : (ys.zip xs).map Prod.snd = xs := List.map_snd_zip (by rw [r.length]; exact Nat.le_refl _)
      have e : ((ys.zip xs).mergeSort (PySem.W.dataLe false Prod.snd)).map Prod.snd = sortD xs := by
        have z := PySem.W.sort_maps (r := PySem.W.dataLe false (Prod.snd : V × PyData → PyData)) (s := PySem.W.dataLe false id) Prod.snd (l := ys.zip xs) (fun _ _ _ _ => rfl)
        rw [em] at z
        exact z
      refine k _ _ p f hp ?_
      rw [← e]
      exact repAll_of fun c hc => repAll_zip r c ((List.mergeSort_perm _ _).mem_iff.mp hc)) hm (by decide +kernel) ha hg (by decide) (by decide) he hpl
end
end Dv

set_option Elab.async false
set_option linter.all false
set_option maxRecDepth 100000
namespace Dv
open PySem PySem.Spec PyProof.Rows L2
/-! ### sorted data: the order of the items does not matter -/
mutual
theorem toks_inj : ∀ (x y : PyData) (l m : List (Int ⊕ List Nat)), PySem.W.alike x y = true → PySem.W.keyToks x ++ l = PySem.W.keyToks y ++ m → x = y ∧ l = m
  | .none, y, l, m, h, e => by
    cases y <;> simp [PySem.W.alike] at h
    simpa [PySem.W.keyToks] using e
  | .bool b, y, l, m, h, e => by
    cases y <;> simp [PySem.W.alike] at h
    rename_i c
    simp [PySem.W.keyToks] at e
    refine ⟨?_, e.2⟩
    cases b <;> cases c <;> simp at e ⊢
  | .int b, y, l, m, h, e => by
    cases y <;> simp [PySem.W.alike] at h
    simpa [PySem.W.keyToks] using e
  | .str b, y, l, m, h, e => by
    cases y <;> simp [PySem.W.alike] at h
    rename_i c
    have e1 : (Sum.inr b.cps.toList : Int ⊕ List Nat) :: l = Sum.inr c.cps.toList :: m := by simpa [PySem.W.keyToks] using e
    injection e1 with e1 e2
    injection e1 with e1
    exact ⟨congrArg PyData.str (str_ext e1), e2⟩
  | .list xs, y, l, m, h, e => by
    cases y <;> simp [PySem.W.alike] at h
    rename_i ys
    obtain ⟨h1, h2⟩ := toksAll_inj xs ys l m h (by simpa [PySem.W.keyToks] using e)
    exact ⟨by rw [h1], h2⟩
  | .tuple xs, y, l, m, h, e => by
    cases y <;> simp [PySem.W.alike] at h
    rename_i ys
    obtain ⟨h1, h2⟩ := toksAll_inj xs ys l m h (by simpa [PySem.W.keyToks] using e)
    exact ⟨by rw [h1], h2⟩
  | .dict xs, y, l, m, h, e => by cases y <;> simp [PySem.W.alike] at h
theorem toksAll_inj : ∀ (xs ys : List PyData) (l m : List (Int ⊕ List Nat)), PySem.W.alikeAll xs ys = true → PySem.W.keyToksAll xs ++ l = PySem.W.keyToksAll ys ++ m → xs = ys ∧ l = m
  | [], [], l, m, _, e => by simpa [PySem.W.keyToksAll] using e
  | [], y :: ys, l, m, _, e => by simp [PySem.W.keyToksAll] at e
  | x :: xs, [], l, m, _, e => by simp [PySem.W.keyToksAll] at e
  | x :: xs, y :: ys, l, m, h, e => by
    simp only [PySem.W.alikeAll, Bool.and_eq_true] at h
    have e1 : PySem.W.keyToks x ++ (PySem.W.keyToksAll xs ++ l) = PySem.W.keyToks y ++ (PySem.W.keyToksAll ys ++ m) := by simpa [PySem.W.keyToksAll] using e
    obtain ⟨h1, h2⟩ := toks_inj x y _ _ h.1 e1
    obtain ⟨h3, h4⟩ := toksAll_inj xs ys l m h.2 h2
    exact ⟨by rw [h1, h3], h4⟩
end
theorem dataLe_anti {x y : PyData} (ha : PySem.W.alike x y = true) (h1 : PySem.W.dataLe false id x y = true) (h2 : PySem.W.dataLe false id y x = true) : x = y := by
  have e : PySem.W.keyToks x = PySem.W.keyToks y := by
    refine (listOrd itemOrd).total _ _ ?_ ?_
    · have : (!(listOrd itemOrd).blt (PySem.W.keyToks x) (PySem.W.keyToks y)) = true := h2
      simpa using this
    · have : (!(listOrd itemOrd).blt (PySem.W.keyToks y) (PySem.W.keyToks x)) = true := h1
      simpa using this
  exact (toks_inj x y [] [] ha (by rw [e])).1
theorem dataLe_total : PySem.W.TotalLe (PySem.W.dataLe false (id : PyData → PyData)) := PySem.W.sortLe_total _ _ _
theorem all_same_perm {α : Type} {F G : List α} (h : F.Perm G) (he : ∀ x ∈ F, ∀ y ∈ F, x = y) : F = G := by
  cases F with
  | nil => exact (List.nil_perm.mp h).symm
  | cons a F =>
    have e1 : a :: F = List.replicate (F.length + 1) a := List.eq_replicate_iff.mpr ⟨by simp, fun x hx => he x hx a List.mem_cons_self⟩
    have e2 : G = List.replicate (F.length + 1) a := List.eq_replicate_iff.mpr ⟨by rw [← h.length_eq]; simp, fun x hx => he x (h.mem_iff.mpr hx) a List.mem_cons_self⟩
    rw [e1, e2]
theorem sort_perm {A B : List PyData} (h : A.Perm B) (al : PySem.W.AllAlike A) : sortD A = sortD B := by
  have pA := List.mergeSort_perm A (PySem.W.dataLe false id)
  have pB := List.mergeSort_perm B (PySem.W.dataLe false id)
  refine PySem.W.sort_one dataLe_total _ _ (PySem.W.sort_pairwise dataLe_total A) (PySem.W.sort_pairwise dataLe_total B) fun c => ?_
  refine all_same_perm ((pA.trans (h.trans pB.symm)).filter _) fun x hx y hy => ?_
  obtain ⟨hx1, hx2⟩ := List.mem_filter.mp hx
  obtain ⟨hy1, hy2⟩ := List.mem_filter.mp hy
  simp only [PySem.W.sameRank, Bool.and_eq_true] at hx2 hy2
  have hxA := pA.mem_iff.mp hx1
  have hyA := pA.mem_iff.mp hy1
  first
  | exact dataLe_anti (al x hxA y hyA) (dataLe_total.trans _ _ _ hx2.2 hy2.1) (dataLe_total.trans _ _ _ hy2.2 hx2.1)
  | exact dataLe_anti (al x hxA y hyA) (dataLe_total.trans _ _ _ hx2.1 hy2.2) (dataLe_total.trans _ _ _ hy2.1 hx2.2)
theorem sortD_perm (A : List PyData) : (sortD A).Perm A := List.mergeSort_perm A _
end Dv

set_option Elab.async false
set_option linter.all false
set_option maxRecDepth 100000
namespace Dv
open PySem PySem.Spec L2
/-! ### repr(x) of data -/
def rRepr (K : PySem.W.Frag) : List V → Hp → VK → Prop := fun vs H Q => ∃ (v : V) (d : PyData), vs = [v] ∧ Dp K H v d ∧ d.canLay0 = true ∧ d.showable = true ∧ d.depth ≤ 60 ∧ d.shown.length ≤ sizeLine ∧ Q (.str d.shown) H
theorem cr_repr {X : Cx} (hg : X.A.guards = some []) (hu : X.A.units + 65 < cLine) : CallR X (.builtin "repr") (rRepr X.K) := by
  intro pins s σ H vs us Q I r h
  obtain ⟨v, d, rfl, dp, can, sh, dep, sz, q⟩ := h
  obtain ⟨u, rfl, ru⟩ := vals1 r
  obtain ⟨as, rd⟩ := Dp.reads I d v u dp ru
  have nod : d.hasDict = true → sysModules ∉ as := PyData.noDict_hsm (PyData.hasDict_of_canLay d can)
  have big : ∀ (a : Addr), u = .ref a → wpAny (model X.prog X.w) X.A (call (.builtin "repr") [u]) (EP X pins σ Q) X.xe s := by
    rintro a rfl
    exact repr_of_reads' rd sh nod hg (by omega) (fun _ _ e => e) (fun h' t tk hk => ⟨.str d.shown, H, I.kept (t' := tk) hk, ⟨t, rfl⟩, q⟩) sz
  cases dp with
  | non => cases ru; exact PySem.P.repr_of_none ⟨.str _, H, I.tok _, ⟨_, rfl⟩, q⟩
  | bl b => cases ru; exact PySem.P.repr_of_bool ⟨.str _, H, I.tok _, ⟨_, rfl⟩, q⟩
  | int i =>
    obtain ⟨t, rfl⟩ := ru
    exact PySem.P.repr_of_int (by simpa [PyData.showable] using sh) ⟨.str _, H, I.tok _, ⟨_, rfl⟩, q⟩
  | str x =>
    obtain ⟨t, rfl⟩ := ru
    exact PySem.P.repr_of_str ⟨.str _, H, I.tok _, ⟨_, rfl⟩, q⟩ sz
  | lst _ _ => cases ru; exact big _ rfl
  | tup _ _ => cases ru; exact big _ rfl
/-- what may be shown -/
structure Sho (d : PyData) : Prop where
  sh : Shp 60 d
  ok : d.showable = true
  sz : d.shown.length ≤ 16777216
def reprD : OpN := fun ds k => match ds with
  | [d] => Sho d ∧ k (.str d.shown)
  | _ => False
section
variable {X : Cx} {C : FC} {a : Expr} {tA : DA} {p pos : Pos} {k : Nat}
theorem q_repr (hr : RG k X.A) (hm : X.mg "repr" = none) (ha : QA X C [a] tA) (hg : Gl X "repr" := by rfl)
    (he : starEach [a] X.env = (false, eval a X.env) :: starEach [] X.env := by rfl) (hpl : (backTo pos (starEach [] X.env)).any (·.1) = false := by rfl) : QE X C (.Call (.Name "repr" p) [a] [] pos) (dCB reprD tA) :=
  q_callB (cr_repr hr.g (by have := hr.r.un; omega)) (fun F H vs ds q Q s v w k => by
    match ds, v, w with
    | [d], v, w =>
      obtain ⟨v, e, vw⟩ := va1 v
      subst e
      exact ⟨_, d, rfl, vw.dp s w.1.sh.can, w.1.sh.can, w.1.ok, w.1.sh.dep, w.1.sz, k _ _ _ _ w.2 (Gr.refl s) (.str _)⟩) hm (by decide +kernel) ha hg (by decide) (by decide) he hpl
end
end Dv

set_option Elab.async false
set_option linter.all false
set_option maxRecDepth 100000
namespace Dv
open PySem PySem.Spec L2
/-! ### xs.extend(a tuple) -/
section
open PySem.AutoSeq1 in
theorem list_extendT (l : Addr) (items : Array Value) (n : Nat) (b : Addr) (items2 : Array Value) (n2 : Nat) (dd2 : Option Addr) (sl2 : Array (Option Value)) (hc0 : ¬(!items.isEmpty && Builtin.List.listTooLong (items.size + items2.size)) = true) (hc1 : items.size ≤ sizeLine) (hs2 : items.size + items2.size ≤ sizeLine + 1) :
    Meets (Builtin.«list.extend» ⟨[.ref l, .ref b], []⟩) (fun _ R s => s.heap.get? l = some { cls := .type "list", dict := none, data := .seq items n, slots := #[] } ∧ s.heap.get? b = some { cls := .type "tuple", dict := dd2, data := .seq items2 n2, slots := sl2 } ∧ R (.ok (.ret Value.none)) { s with heap := s.heap.update l (Obj.mapSeq fun x => x ++ items2), toks := s.toks }) :=
  .of_wp fun prog w A R s h => by
    obtain ⟨hp, g, d, tk, os⟩ := s; obtain ⟨hl, hb, h⟩ := h; have f1 := AutoSeq1.idx_int; have f2 := AutoSeq1.sub_tuple_tuple; have f3 := AutoSeq1.sub_list_list; have f4 := AutoSeq1.sub_tuple_list; have f5 := AutoSeq1.sub_list_tuple;
    have hz' : (items ++ items2).size ≤ sizeLine + 1 := by rw [Array.size_append]; exact hs2
    wp_walk using (wpAny_updateSeq hl rfl (hz := hc1) (_hz' := hz')), wpAny_loadPart' hl, wpAny_loadPart' hb; exact ⟨_, rfl, h⟩
end
section
variable {X : Cx} {C : FC} {P : List Bool} {x : Str} {e : Expr} {tA : DA} {p apos cpos : Pos} {i : Nat}
def rExtendT (K : PySem.W.Frag) : V → List V → Hp → VK → Prop := fun x vs H Q => ∃ l b xs zs, x = .ref l ∧ vs = [.ref b] ∧ H l = some (.lst xs) ∧ SqT K H b zs ∧ xs.length + zs.length ≤ sizeLine ∧ Q .non (upd H l (.lst (xs ++ zs)))
open PyProof.Rows in
theorem mt_extendT : MtR X "list.extend" (rExtendT X.K) := by
  intro pins s σ H x vs v us Q I rx rv h
  obtain ⟨l, b, xs, zs, rfl, rfl, hH, hB, hz, q⟩ := h
  cases rx
  obtain ⟨u, rfl, ru⟩ := Vals.one rv
  cases ru
  obtain ⟨z, its, n, r, hl, e⟩ := I.lstM hH
  obtain ⟨its2, r2, p2, hl2⟩ := I.tuple hB
  obtain ⟨⟨c2, dd2, dt2, sl2⟩, e2, hc2, n2, hd2⟩ := id p2
  have hc2 : c2 = .type "tuple" := hc2
  have hd2 : dt2 = .seq its2.toArray n2 := hd2
  subst hc2 hd2
  have l1 := r.length
  have l2 := r2.length
  have hsz : its.toArray.size + its2.toArray.size ≤ sizeLine := by rw [List.size_toArray, List.size_toArray]; omega
  have hlong : ¬ (!its.toArray.isEmpty && Builtin.List.listTooLong (its.toArray.size + its2.toArray.size)) = true := by
    rw [notLongL hsz, Bool.and_false]
    exact Bool.false_ne_true
  refine call_meets F.slot_list_extend ⟨_, e, rfl⟩ F.entry_list_extend (F.args_list_extend_2 _ _)
    (list_extendT l its.toArray n b its2.toArray n2 dd2 sl2 hlong (by rw [List.size_toArray]; omega) (by omega)) ⟨e, e2, ?_⟩
  refine ⟨.non, _, I.lset (its' := its ++ its2) hH e (by simp) (r.append r2) ?_, rfl, q⟩
  rw [List.length_append]
  omega
theorem MtR.or {id : String} {r1 r2 : V → List V → Hp → VK → Prop} (h1 : MtR X id r1) (h2 : MtR X id r2) : MtR X id (fun x vs H Q => r1 x vs H Q ∨ r2 x vs H Q) := by
  intro pins s σ H x vs v us Q I rx rv h
  rcases h with h | h
  · exact h1 pins s σ H x vs v us Q I rx rv h
  · exact h2 pins s σ H x vs v us Q I rx rv h
def extendAD : OpM := fun d ds k => match d, ds with
  | .list xs, [.list ys] => xs.length + ys.length ≤ big ∧ k (.list (xs ++ ys)) .none
  | .list xs, [.tuple ys] => xs.length + ys.length ≤ big ∧ k (.list (xs ++ ys)) .none
  | _, _ => False
theorem ok_extendA : MutOk X (fun x vs H Q => rExtendR X.K x vs H Q ∨ rExtendT X.K x vs H Q) extendAD := fun F H a vs d ds q Q s hF hO r w k => by
  match d, ds, hO, r, w with
  | .list xs, [.list ys], hO, r, w =>
    obtain ⟨us, e, ru⟩ := hO
    obtain ⟨v, e1, rv⟩ := ra1 r
    subst e1
    cases rv with
    | lst h1 h2 => exact .inl ⟨a, _, us, _, rfl, rfl, e, sqL_mono s h1, by rw [ru.length, h2.length]; exact le_line w.1, k _ _ _ _ w.2 ⟨_, upd_same, ru.append h2⟩ .non⟩
  | .list xs, [.tuple ys], hO, r, w =>
    obtain ⟨us, e, ru⟩ := hO
    obtain ⟨v, e1, rv⟩ := ra1 r
    subst e1
    cases rv with
    | tup h1 h2 => exact .inr ⟨a, _, us, _, rfl, rfl, e, sqT_mono s h1, by rw [ru.length, h2.length]; exact le_line w.1, k _ _ _ _ w.2 ⟨_, upd_same, ru.append h2⟩ .non⟩
theorem m_extendA (hP : C.Tags P) (ha : QA X C [e] tA) (hN : X.N[i]? = some x := by rfl) (hvis : Vis X.env.scope x := by first | exact Or.inl rfl | exact Or.inr (Or.inl rfl) | exact Or.inr (Or.inr rfl)) (hd : (x == ("__debug__" : Str)) = false := by decide) (hcd : (x == ("__classdict__" : Str)) = false := by decide)
    (hbase : attributeBase (.Name x p) "extend" X.env (eval (.Name x p) X.env) = eval (.Name x p) X.env := by rfl)
    (hfew : ((backTo cpos (starEach [e] X.env)).all (fun x => !x.1) && (backToKw cpos (keywordEach [] X.env)).all (fun x => x.1.isSome)
      && decide ([e].length + ([] : List Keyword).length + (if ([] : List Keyword).isEmpty then 0 else 1) < 30)) = true := by rfl)
    (hline : (apos.endLine == cpos.line) = true := by rfl) (hs : starEach [e] X.env = (false, eval e X.env) :: starEach [] X.env := by rfl) (hplain : (backTo cpos (starEach [] X.env)).any (·.1) = false := by rfl) :
    QE X C (.Call (.Attribute (.Name x p) "extend" apos) [e] [] cpos) (dMut P "list" i extendAD tA) :=
  m_mut hP PySem.F.plainAttrs_list PySem.F.slot_list_extend PySem.F.type_list_extend (MtR.or mt_extendR mt_extendT) ok_extendA ha (pe_var hN hvis hd hcd) hbase hfew hline hs hplain
end
/-! ### list(a dict) -/
section
variable {X : Cx} {C : FC} {a : Expr} {tA : DA} {p p2 q2 pos : Pos} {k : Nat}
def listDD : OpNL := fun ds k => match ds with
  | [.dict kvs] => noX (.dict kvs) = true ∧ k (kvs.map (·.1))
  | _ => False
theorem keys_rep {K : PySem.W.Frag} {F : Hp} : ∀ {ks : List (Key × V)} {ds : List (PyData × PyData)}, RepKV K F ks ds → RepAll K F (ks.map fun kv => kV kv.1) (ds.map (·.1))
  | _, _, .nil => .nil
  | (k, v) :: _, _, .cons r t => .cons (by cases k with | inl i => exact .int i | inr x => exact .str x) (keys_rep t)
theorem o_listD (hc : X.calm = true) (hm : X.mg "list" = none) (ha : QA X C [a] tA) (hg : Gl X "list" := by rfl)
    (he : starEach [a] X.env = (false, eval a X.env) :: starEach [] X.env := by rfl) (hpl : (backTo pos (starEach [] X.env)).any (·.1) = false := by rfl) : QO X C (.Call (.Name "list" p) [a] [] pos) (dCBL listDD tA) :=
  o_callTy ((call_listD hc).or (call_listN hc)) (fun F H vs ds q Q s v w k => by
    match ds, v, w with
    | [.dict kvs], v, w =>
      obtain ⟨v, e, b, e2, ⟨ks, h, r⟩ | ⟨w0, ks, n, h, r⟩ | hx⟩ := va1 v
      · subst e e2
        exact .inl ⟨b, ks, rfl, h, fun p hp => k _ _ p w.2 hp (keys_rep r)⟩
      · subst e e2
        exact .inr ⟨b, w0, ks, rfl, h, fun p hp => k _ _ p w.2 hp (nk_keysR r)⟩
      · exact absurd (hx.noX.symm.trans w.1) (by decide)) hm (by decide +kernel) ha hg (by decide) (by decide) he hpl
/-! ### sorted(set(texts)), few of them unlike -/
theorem nodup_le {α : Type} [DecidableEq α] : ∀ {l m : List α}, l.Nodup → (∀ x ∈ l, x ∈ m) → l.length ≤ m.length
  | [], _, _, _ => Nat.zero_le _
  | x :: l, m, h, hs => by
    rw [List.nodup_cons] at h
    have hx := hs x List.mem_cons_self
    have := nodup_le (l := l) (m := m.erase x) h.2 fun y hy => by
      refine (List.mem_erase_of_ne ?_).mpr (hs y (List.mem_cons_of_mem _ hy))
      intro e
      exact h.1 (e ▸ hy)
    rw [List.length_erase_of_mem hx] at this
    have := List.length_pos_of_mem hx
    rw [List.length_cons]
    omega
def sortSetW : OpNL := fun ds k => setItems ds fun xs => match strsD xs with
  | some zs => xs.length < 4000 ∧ (∃ few : List Str, few.length < 64 ∧ ∀ z ∈ zs, z ∈ few) ∧ ∀ ys : List Str, PyProof.Rows.sortedS ys = true → ys.Nodup → (∀ j, j ∈ ys ↔ j ∈ zs) → k (ys.map .str)
  | none => False
theorem o_sortSetW (hc : X.calm = true) (hm : X.mg "sorted" = none) (hm2 : X.mg "set" = none) (ha : QA X C [a] tA) (hg : Gl X "sorted" := by rfl) (hg2 : Gl X "set" := by rfl)
    (he : starEach [a] X.env = (false, eval a X.env) :: starEach [] X.env := by rfl) (hpl : (backTo pos (starEach [] X.env)).any (·.1) = false := by rfl) (hpl2 : (backTo q2 (starEach [] X.env)).any (·.1) = false := by rfl)
    (he2 : starEach [.Call (.Name "set" p2) [a] [] q2] X.env = (false, eval (.Call (.Name "set" p2) [a] [] q2) X.env) :: starEach [] X.env := by rfl) :
    QO X C (.Call (.Name "sorted" p) [.Call (.Name "set" p2) [a] [] q2] [] pos) (dCBL sortSetW tA) :=
  QO.of (pe_callB (cr_sortXS hc) hg hm (by decide +kernel) (pa_cons (pe_callTy (cr_setX hc) hg2 hm2 (by decide +kernel) ha.pa (by decide) (by decide) he hpl2) pa_nil he2) (by decide) (by decide) he2 hpl) fun σ H Q ⟨F, ρ, q, S, ht, k⟩ => by
    refine ⟨F, ρ, _, S, ht, fun os ρ1 F1 H1 vs h1 S1 s1 d1 => ?_⟩
    obtain ⟨ds, v1, w1⟩ := S1.seeAll d1 h1
    obtain ⟨xs, hx, w1⟩ := setItems_is w1
    obtain ⟨b, ys, e, hs, r⟩ := set_view S1.sub v1 hx
    subst e
    cases ez : strsD xs with
    | none => rw [ez] at w1; exact w1.elim
    | some ns =>
      rw [ez] at w1
      obtain ⟨few, ⟨fl, hf, hin⟩, f⟩ := w1
      have e := strs_map ez
      subst e
      have e := rep_strs r
      subst e
      refine ⟨b, ns.map Sum.inr, rfl, by rw [List.map_map]; exact hs, by simpa using few, fun p had nd hl hj hp => ?_⟩
      obtain ⟨zs, e⟩ := mapM_inr fun j z => (hj j).mp z
      subst e
      have hzl : zs.length < 64 := Nat.lt_of_le_of_lt (nodup_le (nd_inr nd) fun z hz => hin z ((mem_inr hj z).mp hz)) hf
      refine ⟨p, zs, rfl, upd_same, hzl, fun us p2 h1 h2 hp2 => ?_⟩
      have g := Gr.new (o := SetX X.w p (zs.map Sum.inr)) S1.sub hp
      obtain ⟨S3, fr⟩ := (S1.grow g).layL hp2 ((strs_rep us).mono g.f)
      exact k _ _ _ _ _ (f us h2 (h1.nodup_iff.mpr (nd_inr nd)) fun j => h1.mem_iff.trans (mem_inr hj j)) S3 (s1.trans g.f) fr
end
/-! ### texts compared -/
section
variable {X : Cx} {C : FC} {a b : Expr} {ta tb : DE} {pos : Pos}
def eqSD : Op2 := fun d e k => match d, e with
  | .str x, .str y => k (.bool (decide (x = y)))
  | _, _ => False
def neSD : Op2 := fun d e k => match d, e with
  | .str x, .str y => k (.bool (!decide (x = y)))
  | _, _ => False
theorem ok_eqS : OpOk X rEq eqSD := fun F H x y d e q Q s v1 v2 w k => by
  cases d with
  | str x =>
    cases e with
    | str y =>
      rw [view_str v1, view_str v2]
      refine ⟨rfl, ?_⟩
      have e : decide (V.str x = V.str y) = decide (x = y) := by simp
      rw [e]
      exact k _ _ _ _ w (Gr.refl s) (.bl _)
    | _ => exact w.elim
  | _ => exact w.elim
theorem ok_neS : OpOk X rNe neSD := fun F H x y d e q Q s v1 v2 w k => by
  cases d with
  | str x =>
    cases e with
    | str y =>
      rw [view_str v1, view_str v2]
      refine ⟨rfl, ?_⟩
      have e : decide (V.str x = V.str y) = decide (x = y) := by simp
      rw [e]
      exact k _ _ _ _ w (Gr.refl s) (.bl _)
    | _ => exact w.elim
  | _ => exact w.elim
theorem q_eqS (ha : QE X C a ta) (hb : QE X C b tb) : QE X C (.Compare a [.Eq] [b] pos) (dBin eqSD ta tb) := q_cmp op_eq ok_eqS ha hb
theorem q_neS (ha : QE X C a ta) (hb : QE X C b tb) : QE X C (.Compare a [.NotEq] [b] pos) (dBin neSD ta tb) := q_cmp op_ne ok_neS ha hb
theorem t_eqS (ha : QE X C a ta) (hb : QE X C b tb) : QT X C (.Compare a [.Eq] [b] pos) (dTest (dBin eqSD ta tb)) := t_cmp op_eq ok_eqS ha hb
theorem t_neS (ha : QE X C a ta) (hb : QE X C b tb) : QT X C (.Compare a [.NotEq] [b] pos) (dTest (dBin neSD ta tb)) := t_cmp op_ne ok_neS ha hb
end
end Dv

set_option Elab.async false
set_option linter.all false
set_option maxRecDepth 100000
namespace Dv
open PySem PySem.Spec PySem.W L2
open PyProof.Rows (Call_)
/-! ### dict(zip(a, b)) over lists and tuples -/
section
variable {prog : Program} {w : World} {A : Around} {E : Value → Shared → Prop} {s : Shared} {z TI TO i1 i2 T : Addr} {fp1 fp2 : List Addr} {n1 n2 i : Nat} {P1 P2 : Nat → Value → Prop} {St1 St2 : Nat → Heap → Prop} {f : Bool} {oT : Obj}
/-- the next pair of a zip whose last pair is still held -/
theorem zipHeld_item {Q : Value → Shared → Prop} (S : ZipSep2 z TI TO i1 i2 fp1 fp2) (D1 : Draws prog w A i1 fp1 n1 P1 St1) (D2 : Draws prog w A i2 fp2 n2 P2 St2)
    (hz : IsZipHeld s.heap z TI TO T f) (hT : s.heap.get? T = some oT) (hTI : IsTupOf2 s.heap TI (.ref i1) (.ref i2)) (st1 : St1 i s.heap) (st2 : St2 i s.heap) (l1 : i < n1) (l2 : i < n2)
    (hQ : ∀ x y h' tk, P1 i x → P2 i y → IsZipHeld h' z TI TO T true → St1 (i + 1) h' → St2 (i + 1) h' → IsTupOf2 h' s.heap.objs.size x y → h'.objs.size = s.heap.objs.size + 1 →
      (∀ c o, c ≠ z → c ≠ i1 → c ≠ i2 → s.heap.get? c = some o → h'.get? c = some o) → Q (.ref s.heap.objs.size) { s with heap := h', toks := tk }) :
    wpAny (model prog w) A (Builtin.«zip.__next__» ⟨[.ref z], []⟩) (fun fin s' => ∃ v, fin = .done (.ret v) ∧ Q v s') E s := by
  obtain ⟨hp, g, d, tk0, os⟩ := s
  show wpAny _ _ (field (.ref z) 2 >>= _) _ _ _
  apply wpAny_bind (wpAny_field hz rfl (x := .bool false) rfl _)
  show wpAny _ _ (field (.ref z) 3 >>= _) _ _ _
  apply wpAny_bind (wpAny_field hz rfl (x := .ref TI) rfl _)
  apply wpAny_bind (wpAny_seqItems hTI rfl _)
  show wpAny _ _ (Builtin.SmallTypes.ownedTupleIsFree (.ref z) >>= _) _ _ _
  refine wpAny_bind (wpAny_tupleHeld_zip hz hT fun ha za sa => ?_)
  simp only [Bool.false_eq_true, if_false]
  apply wpAny_bind
  rw [← Array.forIn_toList]
  simp only [List.forIn_cons, List.forIn_nil]
  apply wpAny_bind
  apply wpAny_bind
  apply wpAny_holding
  show wpAny _ _ (Builtin.SmallTypes.nextOf (.ref i1) >>= _) _ _ _
  have za1 : St1 i ha := D1.over st1 sa S.zf1
  have za2 : St2 i ha := D2.over st2 sa S.zf2
  refine wpAny_bind (D1.item i ⟨ha, g, d, tk0, os⟩ _ _ l1 za1 fun x hb tb px sb1 sb => wpAny_pure (wpAny_pure ?_))
  apply wpAny_bind
  apply wpAny_bind
  apply wpAny_holding
  show wpAny _ _ (Builtin.SmallTypes.nextOf (.ref i2) >>= _) _ _ _
  refine wpAny_bind (D2.item i ⟨hb, g, d, tb, os⟩ _ _ l2 (D2.over za2 sb S.sep1_2) fun y hc tc py sc2 sc => wpAny_pure (wpAny_pure (wpAny_pure ?_)))
  show wpAny _ _ (newTuple [x, y] >>= _) _ _ _
  refine wpAny_bind (wpAny_newTuple ?_)
  have size : hc.objs.size = hp.objs.size := by rw [sc.1, sb.1, sa.1]
  have zc : IsZipHeld hc z TI TO T true := sc.extBut _ _ S.zi2 (sb.extBut _ _ S.zi1 za)
  have st1c : St1 (i + 1) hc := D1.over sb1 sc S.sep2_1
  have keep : ∀ c o, c ≠ z → c ≠ i1 → c ≠ i2 → hp.get? c = some o → hc.get? c = some o := fun c o c1 c2 c3 e => sc.extBut _ _ c3 (sb.extBut _ _ c2 (sa.extBut _ _ c1 e))
  refine wpAny_pure ⟨_, rfl, ?_⟩
  show Q (.ref hc.objs.size) _
  have tup : IsTupOf2 (hc.push { cls := .type "tuple", data := .seq #[x, y] }) hc.objs.size x y := Heap.get?_push_size _ rfl
  have up : ∀ b o, hc.get? b = some o → (hc.push { cls := .type "tuple", data := .seq #[x, y] }).get? b = some o := fun b o e => Heap.get?_push_of_some _ e
  have more : (hc.push { cls := .type "tuple", data := .seq #[x, y] }).objs.size = hc.objs.size + 1 := Heap.size_push ..
  rw [size] at tup more ⊢
  exact hQ x y _ _ px py (up _ _ zc) (D1.frame _ _ _ st1c fun b _ o e => up b o e) (D2.frame _ _ _ sc2 fun b _ o e => up b o e) tup more fun c o c1 c2 c3 e => up _ _ (keep c o c1 c2 c3 e)
theorem zipHeld_end {Q : Fin → Shared → Prop} (S : ZipSep2 z TI TO i1 i2 fp1 fp2) (D1 : Draws prog w A i1 fp1 n1 P1 St1) (D2 : Draws prog w A i2 fp2 n2 P2 St2)
    (hz : IsZipHeld s.heap z TI TO T f) (hT : s.heap.get? T = some oT) (hTI : IsTupOf2 s.heap TI (.ref i1) (.ref i2)) (st1 : St1 i s.heap) (st2 : St2 i s.heap) (l1 : i ≤ n1) (l2 : i ≤ n2) (fin : i = n1 ∨ i = n2)
    (hE : ∀ h' tk e, (∀ c o, c ≠ z → c ≠ i1 → c ≠ i2 → s.heap.get? c = some o → h'.get? c = some o) → (∃ o, h'.get? e = some o ∧ o.cls = .type "StopIteration") → E (.ref e) { s with heap := h', toks := tk }) :
    wpAny (model prog w) A (Builtin.«zip.__next__» ⟨[.ref z], []⟩) Q E s := by
  obtain ⟨hp, g, d, tk0, os⟩ := s
  show wpAny _ _ (field (.ref z) 2 >>= _) _ _ _
  apply wpAny_bind (wpAny_field hz rfl (x := .bool false) rfl _)
  show wpAny _ _ (field (.ref z) 3 >>= _) _ _ _
  apply wpAny_bind (wpAny_field hz rfl (x := .ref TI) rfl _)
  apply wpAny_bind (wpAny_seqItems hTI rfl _)
  show wpAny _ _ (Builtin.SmallTypes.ownedTupleIsFree (.ref z) >>= _) _ _ _
  refine wpAny_bind (wpAny_tupleHeld_zip hz hT fun ha za sa => ?_)
  simp only [Bool.false_eq_true, if_false]
  apply wpAny_bind
  rw [← Array.forIn_toList]
  simp only [List.forIn_cons, List.forIn_nil]
  apply wpAny_bind
  apply wpAny_bind
  apply wpAny_holding
  show wpAny _ _ (Builtin.SmallTypes.nextOf (.ref i1) >>= _) _ _ _
  have za1 : St1 i ha := D1.over st1 sa S.zf1
  have za2 : St2 i ha := D2.over st2 sa S.zf2
  by_cases e1 : i = n1
  · subst e1
    refine wpAny_bind (D1.done ⟨ha, g, d, tk0, os⟩ _ _ za1 fun hb e sb he => ?_)
    exact hE hb tk0 e (fun c o c1 c2 _ x => sb _ _ c2 (sa.extBut _ _ c1 x)) he
  · have e2 : i = n2 := fin.resolve_left e1
    refine wpAny_bind (D1.item i ⟨ha, g, d, tk0, os⟩ _ _ (by omega) za1 fun x hb tb px sb1 sb => wpAny_pure (wpAny_pure ?_))
    apply wpAny_bind
    apply wpAny_bind
    apply wpAny_holding
    show wpAny _ _ (Builtin.SmallTypes.nextOf (.ref i2) >>= _) _ _ _
    have zb2 : St2 i hb := D2.over za2 sb S.sep1_2
    rw [e2] at zb2
    refine wpAny_bind (D2.done ⟨hb, g, d, tb, os⟩ _ _ zb2 fun hc e sc he => ?_)
    exact hE hc tb e (fun c o c1 c2 c3 x => sc _ _ c3 (sb.extBut _ _ c2 (sa.extBut _ _ c1 x))) he
end
section
variable {prog : Program} {w : World} {A : Around} {E : Value → Shared → Prop} {s : Shared} {z TI TO i1 i2 T : Addr} {fp1 fp2 : List Addr} {n1 n2 i : Nat} {P1 P2 : Nat → Value → Prop} {St1 St2 : Nat → Heap → Prop} {f : Bool} {oT : Obj}
theorem nextHeld_item {Q : Option Value → Shared → Prop} (S : ZipSep2 z TI TO i1 i2 fp1 fp2) (D1 : Draws prog w A.in1 i1 fp1 n1 P1 St1) (D2 : Draws prog w A.in1 i2 fp2 n2 P2 St2)
    (hz : IsZipHeld s.heap z TI TO T f) (hT : s.heap.get? T = some oT) (hTI : IsTupOf2 s.heap TI (.ref i1) (.ref i2)) (st1 : St1 i s.heap) (st2 : St2 i s.heap) (l1 : i < n1) (l2 : i < n2)
    (hQ : ∀ x y h' tk, P1 i x → P2 i y → IsZipHeld h' z TI TO T true → St1 (i + 1) h' → St2 (i + 1) h' → IsTupOf2 h' s.heap.objs.size x y → h'.objs.size = s.heap.objs.size + 1 →
      (∀ c o, c ≠ z → c ≠ i1 → c ≠ i2 → s.heap.get? c = some o → h'.get? c = some o) → Q (some (.ref s.heap.objs.size)) { s with heap := h', toks := tk }) :
    wpAny (model prog w) A (pyNext (.ref z)) Q E s := by
  have ty : s.TypeIs (.ref z) "zip" := ⟨_, hz, rfl⟩
  unfold pyNext
  exact wpAny_bind (wpAny_attempt (wpAny_callSpecial?_slot (name := Str.ofString "__next__") ty F.slot_zip_next (wpAny_call_entry F.slot_zip_next ty F.entry_zip_next
    (zipHeld_item S D1 D2 hz hT hTI st1 st2 l1 l2 fun x y h' tk a b c d e g k m => wpAny_pure (hQ x y h' tk a b c d e g k m)) (F.args_zip_next_1 _))))
theorem nextHeld_end {Q : Option Value → Shared → Prop} (S : ZipSep2 z TI TO i1 i2 fp1 fp2) (D1 : Draws prog w A.in1 i1 fp1 n1 P1 St1) (D2 : Draws prog w A.in1 i2 fp2 n2 P2 St2)
    (hz : IsZipHeld s.heap z TI TO T f) (hT : s.heap.get? T = some oT) (hTI : IsTupOf2 s.heap TI (.ref i1) (.ref i2)) (st1 : St1 i s.heap) (st2 : St2 i s.heap) (l1 : i ≤ n1) (l2 : i ≤ n2) (fin : i = n1 ∨ i = n2)
    (hQ : ∀ h' tk, (∀ c o, c ≠ z → c ≠ i1 → c ≠ i2 → s.heap.get? c = some o → h'.get? c = some o) → Q none { s with heap := h', toks := tk }) : wpAny (model prog w) A (pyNext (.ref z)) Q E s := by
  have ty : s.TypeIs (.ref z) "zip" := ⟨_, hz, rfl⟩
  unfold pyNext
  refine wpAny_bind (wpAny_attempt (wpAny_callSpecial?_slot (name := Str.ofString "__next__") ty F.slot_zip_next (wpAny_call_entry F.slot_zip_next ty F.entry_zip_next
    (zipHeld_end S D1 D2 hz hT hTI st1 st2 l1 l2 fin fun h' tk e hk he => ?_) (F.args_zip_next_1 _))))
  obtain ⟨o, ho, hc⟩ := he
  exact wpAny_bind (wpAny_isInstance (T := "StopIteration") (b := true) ⟨o, ho, hc⟩ isSubtype_stop (wpAny_pure (hQ _ _ hk)))
/-- zip(a, b) as the argument of dict() -/
theorem pairZip (S : ZipSep2 z TI TO i1 i2 fp1 fp2) (D1 : ∀ A : Around, A.handled = none → Draws prog w A i1 fp1 n1 P1 St1) (D2 : ∀ A : Around, A.handled = none → Draws prog w A i2 fp2 n2 P2 St2)
    (L1 : ∀ i h, St1 i h → ∀ b ∈ fp1, ∃ o, h.get? b = some o) (L2 : ∀ i h, St2 i h → ∀ b ∈ fp2, ∃ o, h.get? b = some o) (hA0 : ∃ A : Around, A.handled = none) :
    PairArg prog w "zip" z (z :: TI :: TO :: (fp1 ++ fp2)) [z, TO, i1, i2] (min n1 n2) (fun i k v => P1 i k ∧ P2 i v)
      (fun h => IsZip h z TI TO .none ∧ IsTupOf2 h TI (.ref i1) (.ref i2) ∧ (∃ a b, IsTupOf2 h TO a b) ∧ St1 0 h ∧ St2 0 h) where
  type := fun s ok => ⟨_, ok.1, rfl⟩
  notDict := by decide
  keep := fun h h' ok hk => by
    obtain ⟨A0, h0⟩ := hA0
    obtain ⟨a, b, ⟨c, d, e⟩, g, k⟩ := ok
    exact ⟨hk _ _ a, hk _ _ b, ⟨c, d, hk _ _ e⟩, (D1 A0 h0).frame _ _ _ g fun x _ o e => hk x o e, (D2 A0 h0).frame _ _ _ k fun x _ o e => hk x o e⟩
  there := fun h ok b hb => by
    obtain ⟨a, c, ⟨_, _, e⟩, g, k⟩ := ok
    simp only [List.mem_cons, List.mem_append] at hb
    rcases hb with rfl | rfl | rfl | hb | hb
    · exact ⟨_, a⟩
    · exact ⟨_, c⟩
    · exact ⟨_, e⟩
    · exact L1 _ _ g b hb
    · exact L2 _ _ k b hb
  sub := fun b hb => by
    have := S.mem1
    have := S.mem2
    simp only [List.mem_cons, List.not_mem_nil, or_false] at hb
    simp only [List.mem_cons, List.mem_append]
    rcases hb with rfl | rfl | rfl | rfl
    · exact .inl rfl
    · exact .inr (.inr (.inl rfl))
    · exact .inr (.inr (.inr (.inl S.mem1)))
    · exact .inr (.inr (.inr (.inr S.mem2)))
  noKeys := fun A s Q E hA ok h => getAttrOr_miss_zip ok.1 rfl rfl rfl zip_no_keys (by decide +kernel) hA h
  iter := fun A s d Q E hA ok hd hdf h => by
    obtain ⟨hz, hTI, ⟨a, b, hTO⟩, st1, st2⟩ := ok
    simp only [List.mem_cons, List.mem_append, not_or] at hdf
    obtain ⟨dz, dTI, dTO, df1, df2⟩ := hdf
    have di1 : d ≠ i1 := fun e => df1 (e ▸ S.mem1)
    have di2 : d ≠ i2 := fun e => df2 (e ▸ S.mem2)
    have E1 := D1 A.in1 hA
    have E2 := D2 A.in1 hA
    refine wpAny_pyIter_zip hz (h z [z, TO, i1, i2] (fun i h => i ≤ n1 ∧ i ≤ n2 ∧ IsTupOf2 h TI (.ref i1) (.ref i2) ∧ St1 i h ∧ St2 i h ∧
      ((IsZip h z TI TO .none ∧ ∃ a b, IsTupOf2 h TO a b) ∨ ∃ T f oT, IsZipHeld h z TI TO T f ∧ h.get? T = some oT ∧ T ≠ z ∧ T ≠ i1 ∧ T ≠ i2 ∧ T ≠ d)) s.heap s.toks ?_
      ⟨Nat.zero_le _, Nat.zero_le _, hTI, st1, st2, .inl ⟨hz, a, b, hTO⟩⟩ (fun _ _ e => e) fun b hb => .inl hb)
    refine ⟨fun hm => ?_, fun i ha hb st hk => ?_, fun i s1 Q1 F1 hi st hds hQ => ?_, fun s1 Q1 F1 st hQ => ?_⟩
    · simp only [List.mem_cons, List.not_mem_nil, or_false] at hm
      rcases hm with e | e | e | e
      · exact dz e
      · exact dTO e
      · exact di1 e
      · exact di2 e
    · obtain ⟨m1, m2, t, u1, u2, hz⟩ := st
      refine ⟨m1, m2, hk _ _ (Ne.symm dTI) t, E1.frame _ _ _ u1 fun x hx o e => hk x o (fun q => df1 (q ▸ hx)) e, E2.frame _ _ _ u2 fun x hx o e => hk x o (fun q => df2 (q ▸ hx)) e, ?_⟩
      rcases hz with ⟨hz, a, b, hTO⟩ | ⟨T, f, oT, hz, hT, r1, r2, r3, r4⟩
      · exact .inl ⟨hk _ _ (Ne.symm dz) hz, a, b, hk _ _ (Ne.symm dTO) hTO⟩
      · exact .inr ⟨T, f, oT, hk _ _ (Ne.symm dz) hz, hk _ _ r4 hT, r1, r2, r3, r4⟩
    · obtain ⟨m1, m2, t, u1, u2, hz⟩ := st
      have l1 : i < n1 := Nat.lt_of_lt_of_le hi (Nat.min_le_left ..)
      have l2 : i < n2 := Nat.lt_of_lt_of_le hi (Nat.min_le_right ..)
      have new : ∀ {c o}, s1.heap.get? c = some o → s1.heap.objs.size ≠ c := fun e => Nat.ne_of_gt (Heap.lt_size e)
      have n1' : s1.heap.objs.size ≠ i1 := let ⟨_, e⟩ := E1.live _ _ u1; new e
      have n2' : s1.heap.objs.size ≠ i2 := let ⟨_, e⟩ := E2.live _ _ u2; new e
      rcases hz with ⟨hz, a, b, hTO⟩ | ⟨T, f, oT, hz, hT, r1, r2, r3, r4⟩
      · refine wpAny_pyNext_zipD2_item S E1 E2 hz t hTO u1 u2 l1 l2 fun x y h' tk px py a1 a2 v1 v2 a5 a6 hk => ?_
        exact hQ s1.heap.objs.size x y h' tk ⟨px, py⟩ (.inl ⟨_, a5, rfl, _, rfl⟩)
          ⟨l1, l2, hk _ _ S.TIz S.TITO S.TIi1 S.TIi2 t, v1, v2, .inr ⟨s1.heap.objs.size, false, _, a1, a5, new hz, n1', n2', Nat.ne_of_gt hds⟩⟩
          fun c o hc e => hk c o (fun q => hc (by simp [q])) (fun q => hc (by simp [q])) (fun q => hc (by simp [q])) (fun q => hc (by simp [q])) e
      · refine nextHeld_item S E1 E2 hz hT t u1 u2 l1 l2 fun x y h' tk px py a1 v1 v2 a5 a6 hk => ?_
        exact hQ s1.heap.objs.size x y h' tk ⟨px, py⟩ (.inl ⟨_, a5, rfl, _, rfl⟩)
          ⟨l1, l2, hk _ _ S.TIz S.TIi1 S.TIi2 t, v1, v2, .inr ⟨T, true, oT, a1, hk _ _ r1 r2 r3 hT, r1, r2, r3, r4⟩⟩
          fun c o hc e => hk c o (fun q => hc (by simp [q])) (fun q => hc (by simp [q])) (fun q => hc (by simp [q])) e
    · obtain ⟨m1, m2, t, u1, u2, hz⟩ := st
      have fin : min n1 n2 = n1 ∨ min n1 n2 = n2 := by omega
      rcases hz with ⟨hz, a, b, hTO⟩ | ⟨T, f, oT, hz, hT, r1, r2, r3, r4⟩
      · exact wpAny_pyNext_zipD2_end S E1 E2 hz t hTO u1 u2 m1 m2 fin fun h' tk hk => hQ h' tk fun c o hc e => hk c o (fun q => hc (by simp [q])) (fun q => hc (by simp [q])) (fun q => hc (by simp [q])) (fun q => hc (by simp [q])) e
      · exact nextHeld_end S E1 E2 hz hT t u1 u2 m1 m2 fin fun h' tk hk => hQ h' tk fun c o hc e => hk c o (fun q => hc (by simp [q])) (fun q => hc (by simp [q])) (fun q => hc (by simp [q])) e
end
/-- what zip may walk -/
structure Src (prog : Program) (w : World) (h : Heap) (a : Addr) (its : List Value) : Prop where
  ex : ∃ (o : Obj) (Hh : Heap → Prop), Begins (.ref a) o Hh ∧ Hh h ∧ a < h.objs.size ∧ ∀ it, a ≠ it → ∃ St : Nat → Heap → Prop, (∀ A : Around, A.handled = none → Draws prog w A it [it, a] its.length (fun i v => its[i]? = some v) St) ∧
    (∀ i g, St i g → ∀ b ∈ [it, a], ∃ o, g.get? b = some o) ∧ ∀ g, g.get? it = some o → (∀ o, h.get? a = some o → g.get? a = some o) → St 0 g
theorem Src.list {prog : Program} {w : World} {h : Heap} {a : Addr} {its : List Value} (hl : h.IsList a its.toArray) : Src prog w h a its := by
  obtain ⟨oa, ha, _⟩ := id hl
  refine ⟨_, _, begins_list a its.toArray, hl, Heap.lt_size ha, fun it hne => ⟨fun i g => g.IsListIter it a i ∧ g.IsList a its.toArray, fun A hA => ?_, ?_, fun g hi hk => ⟨⟨_, hi, rfl, rfl⟩, hl.at hk⟩⟩⟩
  · have := Draws.list (prog := prog) (w := w) hA it a hne its.toArray
    simpa using this
  · rintro i g ⟨⟨o1, e1, _⟩, ⟨o2, e2, _⟩⟩ b hb
    simp only [List.mem_cons, List.not_mem_nil, or_false] at hb
    rcases hb with rfl | rfl
    · exact ⟨_, e1⟩
    · exact ⟨_, e2⟩
theorem Src.tuple {prog : Program} {w : World} {h : Heap} {a : Addr} {its : List Value} (hl : h.IsTuple a its.toArray) : Src prog w h a its := by
  obtain ⟨oa, ha, _⟩ := id hl
  refine ⟨_, _, begins_tuple a its.toArray, hl, Heap.lt_size ha, fun it hne => ⟨fun i g => g.IsTupleIter it a i ∧ g.IsTuple a its.toArray, fun A hA => ?_, ?_, fun g hi hk => ⟨⟨_, hi, rfl, rfl⟩, hl.at hk⟩⟩⟩
  · have := Draws.tuple (prog := prog) (w := w) hA it a hne its.toArray
    simpa using this
  · rintro i g ⟨⟨o1, e1, _⟩, ⟨o2, e2, _⟩⟩ b hb
    simp only [List.mem_cons, List.not_mem_nil, or_false] at hb
    rcases hb with rfl | rfl
    · exact ⟨_, e1⟩
    · exact ⟨_, e2⟩
theorem kv_zip : ∀ {ks : List Key} {ys : List V} {us : List Value}, Vals ys us → KV (ks.zip ys) (ks.zip us)
  | [], _, _, _ => .nil
  | _ :: _, _, _, .nil => .nil
  | k :: ks, _, _, .cons r t => .cons ⟨rfl, r⟩ (kv_zip t)
def tDictZip (K : PySem.W.Frag) (ta : TA) : TE := fun σ H Q => ta σ H fun vs H1 => ∃ (a b : Addr) (ks : List Key) (ys : List V), vs = [.ref a, .ref b] ∧ (SqL K H1 a (ks.map kV) ∨ SqT K H1 a (ks.map kV)) ∧ (SqL K H1 b ys ∨ SqT K H1 b ys) ∧ ks.length ≤ sizeLine ∧
  ∀ p, H1 p = none → Q (.ref p) (upd H1 p (.dK (mergeK [] (ks.zip ys))))
section
variable {X : Cx} {C : FC} {e1 e2 : Expr} {p p2 q2 pos : Pos}
theorem pe_dictZip {ta : TA} (hc : X.calm = true) (hg : Gl X "dict") (hm : X.mg "dict" = none) (hg2 : Gl X "zip") (hm2 : X.mg "zip" = none) (ha : PA X [e1, e2] ta)
    (hs : starEach [e1, e2] X.env = (false, eval e1 X.env) :: starEach [e2] X.env := by rfl) (hpl : (backTo q2 (starEach [e2] X.env)).any (·.1) = false := by rfl)
    (hs2 : starEach [.Call (.Name "zip" p2) [e1, e2] [] q2] X.env = (false, eval (.Call (.Name "zip" p2) [e1, e2] [] q2) X.env) :: starEach [] X.env := by rfl) :
    PE X (.Call (.Name "dict" p) [.Call (.Name "zip" p2) [e1, e2] [] q2] [] pos) (tDictZip X.K ta) := by
  refine ⟨fun pins s σ H Q I h => ?_⟩
  refine Call_ (ld_blt I hg hm (show bootBuiltins "dict" = some (.type "dict") by decide +kernel) ?_)
  refine PyProof.Rows.callWith_type1 (PyProof.Rows.args_cons ?_ hs2) hs2 rfl
  refine Call_ (ld_blt I hg2 hm2 PyProof.Rows.boot_zip (PyProof.Rows.callWith_type1 (thn (ha.run q2 pins s σ H _ I h) fun us s1 ⟨vs, H1, I1, r1, q1⟩ => ?_) hs hpl))
  obtain ⟨a, b, ks, ys, ex, ha1, hb1, hlen, q⟩ := q1
  subst ex
  cases r1 with
  | cons r rr =>
    cases rr with
    | cons r' rr =>
      cases rr
      cases r
      cases r'
      have src : ∀ {c : Addr} {xs : List V}, (SqL X.K H1 c xs ∨ SqT X.K H1 c xs) → ∃ its, Vals xs its ∧ Src X.prog X.w s1.heap c its := fun h => by
        rcases h with h | h
        · obtain ⟨its, rv, p1, _⟩ := I1.list h
          exact ⟨its, rv, Src.list p1.isList⟩
        · obtain ⟨its, rv, p1, _⟩ := I1.tuple h
          exact ⟨its, rv, Src.tuple p1⟩
      obtain ⟨its1, rv1, S1⟩ := src ha1
      obtain ⟨its2, rv2, S2⟩ := src hb1
      obtain ⟨o1, Q1, B1, k1, lt1, F1⟩ := S1.ex
      obtain ⟨o2, Q2, B2, k2, lt2, F2⟩ := S2.ex
      obtain ⟨St1, D1, L1, z1⟩ := F1 s1.heap.objs.size (Nat.ne_of_lt lt1)
      obtain ⟨St2, D2, L2, z2⟩ := F2 (s1.heap.objs.size + 1) (Nat.ne_of_lt (Nat.lt_succ_of_lt lt2))
      refine zip_begins2 B1 B2 k1 k2 fun h' hz hTI hTO g1 g2 hsz hk => ?_
      refine PyProof.Rows.args_nil ?_
      have sep := zip_sep2 (N := s1.heap.objs.size) (fp1 := [a]) (fp2 := [b]) (fun x hx => by simp at hx; subst hx; exact lt1) (fun x hx => by simp at hx; subst hx; exact lt2)
      have l1 : ks.length = its1.length := by rw [← rv1.length, List.length_map]
      have PA := pairZip (prog := X.prog) (w := X.w) sep D1 D2 L1 L2 ⟨X.A, I1.ok.hd hc⟩
      refine PySem.call_dict_pairs (s := { s1 with heap := h' }) (knd := mixKind X.prog X.w) (kvs := ks.zip its2) PA (I1.ok.hd hc) ⟨hz, hTI, ⟨_, _, hTO⟩, z1 h' g1 fun o e => hk _ _ e, z2 h' g2 fun o e => hk _ _ e⟩ ⟨?_, ?_⟩ ?_ fun g tk hd hkk => ?_
      · rw [List.length_zip, l1]
      · rintro i key v ⟨hx, hy⟩
        obtain ⟨k, hk1, hk2⟩ := vals_key rv1 i key hx
        refine ⟨k, ?_, hk2⟩
        rw [List.getElem?_zip_eq_some]
        exact ⟨hk1, hy⟩
      · exact Nat.le_trans (Nat.min_le_left ..) (by omega)
      · have big : (h'.objs.size == sysModules) = false := beq_eq_false_iff_ne.mpr (Nat.ne_of_gt (Nat.lt_of_lt_of_le I1.big (show s1.heap.objs.size ≤ h'.objs.size by omega)))
        have old : ∀ b o, s1.heap.get? b = some o → g.get? b = some o := fun x o e => hkk x o (fun hm => by
          have lt : x < s1.heap.objs.size := Heap.lt_size e
          simp only [List.mem_cons, List.not_mem_nil, or_false] at hm
          rcases hm with e | e | e | e
          · exact Nat.ne_of_lt (Nat.lt_of_lt_of_le lt (Nat.le_add_right _ 4)) e
          · exact Nat.ne_of_lt (Nat.lt_of_lt_of_le lt (Nat.le_add_right _ 3)) e
          · exact Nat.ne_of_lt lt e
          · exact Nat.ne_of_lt (Nat.lt_of_lt_of_le lt (Nat.le_add_right _ 1)) e) (hk x o e)
        have hml : (mergeK [] (ks.zip ys)).length ≤ sizeLine := by
          refine Nat.le_trans (length_mergeK _ []) ?_
          rw [List.length_nil, Nat.zero_add, List.length_zip]
          exact Nat.le_trans (Nat.min_le_left ..) hlen
        exact ⟨.ref h'.objs.size, upd H1 h'.objs.size (.dK (mergeK [] (ks.zip ys))), I1.laid (t' := tk) old (by omega) (show ObjOk X.prog X.w _ _ _ (.dK (mergeK [] (ks.zip ys))) from ⟨hml, big, merged [] (ks.zip its2), KV.merge (kv_zip rv2) .nil, hd⟩), rfl, q _ (I1.hok.fresh (by omega))⟩
end
end Dv

set_option Elab.async false
set_option linter.all false
set_option maxRecDepth 100000
namespace Dv
open PySem PySem.Spec L2
/-! ### dict(zip(a, b)) over data -/
def seqOf : PyData → Option (List PyData)
  | .list xs => some xs
  | .tuple xs => some xs
  | _ => none
def keysD : List PyData → Option (List Key)
  | [] => some []
  | d :: ds => match keyD d, keysD ds with
    | some k, some ks => some (k :: ks)
    | _, _ => none
theorem keysD_cons {d : PyData} {ds : List PyData} {ks : List Key} (h : keysD (d :: ds) = some ks) : ∃ k kr, ks = k :: kr ∧ keyD d = some k ∧ keysD ds = some kr := by
  cases h1 : keyD d with
  | none => simp [keysD, h1] at h
  | some k =>
    cases h2 : keysD ds with
    | none => simp [keysD, h1, h2] at h
    | some kr =>
      simp [keysD, h1, h2] at h
      exact ⟨k, kr, h.symm, rfl, rfl⟩
theorem keys_vals {K : PySem.W.Frag} {F : Hp} : ∀ {xs : List V} {ds : List PyData} {ks : List Key}, RepAll K F xs ds → keysD ds = some ks → xs = ks.map kV
  | _, _, _, .nil, h => by simp [keysD] at h; subst h; rfl
  | _, _, _, .cons r t, h => by
    obtain ⟨k, kr, rfl, h1, h2⟩ := keysD_cons h
    rw [keys_vals t h2, List.map_cons]
    congr 1
    cases r <;> simp [keyD] at h1 <;> subst h1 <;> rfl
theorem zip_ps {K : PySem.W.Frag} {F : Hp} : ∀ {ks : List Key} {ys : List V} {ds : List PyData}, RepAll K F ys ds → RepPs K F (ks.zip ys) (ks.zip ds)
  | [], _, _, _ => .nil
  | _ :: _, _, _, .nil => .nil
  | k :: ks, _, _, .cons r t => .cons r (zip_ps t)
def withKeys (a b : PyData) (k : List Key → List PyData → Prop) : Prop := match seqOf a, seqOf b with
  | some xs, some ys => match keysD xs with
    | some ks => xs.length ≤ big ∧ k ks ys
    | none => False
  | _, _ => False
def dDictZip (t : DA) : DO := fun ρ Q => t ρ fun os ρ1 => withAll ρ1 os fun ds => match ds with
  | [a, b] => withKeys a b fun ks ys => Q (.dict (mergeD [] (ks.zip ys))) ρ1
  | _ => False
theorem seq_view {K : PySem.W.Frag} {F H : Hp} {v : V} {d : PyData} {xs : List PyData} (s : Same F H) (w : View K F H v d) (h : seqOf d = some xs) : ∃ a us, v = .ref a ∧ (SqL K H a us ∨ SqT K H a us) ∧ RepAll K F us xs := by
  cases d with
  | list ds =>
    simp [seqOf] at h
    subst h
    obtain ⟨a, us, e, h1, r⟩ := w
    exact ⟨a, us, e, .inl h1, r⟩
  | tuple ds =>
    simp [seqOf] at h
    subst h
    obtain ⟨a, us, e, h1, r, _⟩ := view_tup s w
    exact ⟨a, us, e, .inr h1, r⟩
  | _ => simp [seqOf] at h
section
variable {X : Cx} {C : FC} {e1 e2 a b : Expr} {ta tb : DE} {tA : DA} {p p2 q2 pos : Pos}
theorem o_dictZip (hc : X.calm = true) (hm : X.mg "dict" = none) (hm2 : X.mg "zip" = none) (ha : QA X C [e1, e2] tA) (hg : Gl X "dict" := by rfl) (hg2 : Gl X "zip" := by rfl)
    (hs : starEach [e1, e2] X.env = (false, eval e1 X.env) :: starEach [e2] X.env := by rfl) (hpl : (backTo q2 (starEach [e2] X.env)).any (·.1) = false := by rfl)
    (hs2 : starEach [.Call (.Name "zip" p2) [e1, e2] [] q2] X.env = (false, eval (.Call (.Name "zip" p2) [e1, e2] [] q2) X.env) :: starEach [] X.env := by rfl) :
    QO X C (.Call (.Name "dict" p) [.Call (.Name "zip" p2) [e1, e2] [] q2] [] pos) (dDictZip tA) :=
  QO.of (pe_dictZip hc hg hm hg2 hm2 ha.pa hs hpl hs2) fun σ H Q ⟨F, ρ, q, S, ht, k⟩ => by
    refine ⟨F, ρ, _, S, ht, fun os ρ1 F1 H1 vs h1 S1 s1 d1 => ?_⟩
    obtain ⟨ds, v1, w1⟩ := S1.seeAll d1 h1
    match ds, v1, w1 with
    | [a, b], v1, w1 =>
      cases v1 with
      | @cons u _ _ _ hu hr =>
        cases hr with
        | @cons u2 _ _ _ hu2 hr2 =>
          cases hr2
          have w1 : withKeys a b fun ks ys => q (.dict (mergeD [] (ks.zip ys))) ρ1 := w1
          unfold withKeys at w1
          cases ea : seqOf a with
          | none => rw [ea] at w1; exact w1.elim
          | some xs =>
            cases eb : seqOf b with
            | none => rw [ea, eb] at w1; exact w1.elim
            | some ys =>
              rw [ea, eb] at w1
              have w1 : (match keysD xs with | some ks => xs.length ≤ big ∧ q (.dict (mergeD [] (ks.zip ys))) ρ1 | none => False) := w1
              cases ek : keysD xs with
              | none => rw [ek] at w1; exact w1.elim
              | some ks =>
                rw [ek] at w1
                obtain ⟨hl, w1⟩ := w1
                obtain ⟨A1, us, rfl, g1, r1⟩ := seq_view S1.sub hu ea
                obtain ⟨A2, us2, rfl, g2, r2⟩ := seq_view S1.sub hu2 eb
                have e := keys_vals r1 ek
                subst e
                refine ⟨A1, A2, ks, us2, rfl, g1, g2, ?_, fun p hp => ?_⟩
                · have := r1.length
                  rw [List.length_map] at this
                  rw [this]
                  exact le_line hl
                · obtain ⟨S3, fr⟩ := S1.layD hp ((zip_ps r2).merge .nil)
                  exact k _ _ _ _ _ w1 S3 s1 fr
/-! ### bits -/
abbrev shlD : Op2 := intD CPow fun i j => .int (i * 2 ^ j.toNat)
abbrev shrD : Op2 := intD (fun _ j => 0 ≤ j) fun i j => .int (i / 2 ^ j.toNat)
abbrev bandD : Op2 := intD cT fun i j => .int (Builtin.bitAnd i j)
abbrev borD : Op2 := intD cT fun i j => .int (Builtin.bitOr i j)
abbrev bxorD : Op2 := intD cT fun i j => .int (Builtin.bitXor i j)
theorem q_shl (ha : QE X C a ta) (hb : QE X C b tb) : QE X C (.BinOp a .LShift b pos) (dBin shlD ta tb) := q_bin op_shl ok_int ha hb
theorem q_shr (ha : QE X C a ta) (hb : QE X C b tb) : QE X C (.BinOp a .RShift b pos) (dBin shrD ta tb) := q_bin op_shr ok_int ha hb
theorem q_band (ha : QE X C a ta) (hb : QE X C b tb) : QE X C (.BinOp a .BitAnd b pos) (dBin bandD ta tb) := q_bin op_and ok_int0 ha hb
theorem q_bor (ha : QE X C a ta) (hb : QE X C b tb) : QE X C (.BinOp a .BitOr b pos) (dBin borD ta tb) := q_bin op_or ok_int0 ha hb
theorem q_bxor (ha : QE X C a ta) (hb : QE X C b tb) : QE X C (.BinOp a .BitXor b pos) (dBin bxorD ta tb) := q_bin op_xor ok_int0 ha hb
/-! ### sum(a list of numbers) -/
def sumD : OpN := fun ds k => match ds with
  | [.list xs] => match intsD xs with
    | some ns => k (.int ns.sum)
    | none => False
  | _ => False
theorem q_sum (hc : X.calm = true) (hm : X.mg "sum" = none) (ha : QA X C [a] tA) (hg : Gl X "sum" := by rfl)
    (he : starEach [a] X.env = (false, eval a X.env) :: starEach [] X.env := by rfl) (hpl : (backTo pos (starEach [] X.env)).any (·.1) = false := by rfl) : QE X C (.Call (.Name "sum" p) [a] [] pos) (dCB sumD tA) :=
  q_callB (cr_sum hc) (fun F H vs ds q Q s v w k => by
    match ds, v, w with
    | [.list xs], v, w =>
      obtain ⟨v, e, b, ys, e2, h, r⟩ := va1 v
      subst e e2
      have w2 : (match intsD xs with | some ns => q (.int ns.sum) | none => False) := w
      cases z : intsD xs with
      | none => rw [z] at w2; exact w2.elim
      | some ns =>
        rw [z] at w2
        have e := ints_map z
        subst e
        have e := rep_ints r
        subst e
        exact ⟨b, ns, rfl, h, k _ _ _ _ w2 (Gr.refl s) (.int _)⟩) hm (by decide +kernel) ha hg (by decide) (by decide) he hpl
end
end Dv

set_option Elab.async false
set_option linter.all false
set_option maxRecDepth 100000
namespace Dv
open PySem PySem.Spec L2
/-! ### o[i] on an owned object as a target within a tuple -/
def gPut (i : Nat) (ti : DE) : DG := fun dv ρ Q => match ρ[i]? with
  | some (some (.own _)) => ti ρ fun oi ρ1 => withO ρ1 oi fun di => match ρ1[i]? with
    | some (some (.own d)) => setD d di dv fun d' => Q (ρ1.set i (some (.own d')))
    | _ => False
  | _ => False
section
variable {X : Cx} {C : FC} {x : Str} {i k : Nat} {p : Pos}
theorem g_put {ix : Expr} {ti : DE} {tpos : Pos} (hr : Room k X.A) (hix : QE X C ix ti) (hN : X.N[i]? = some x := by rfl) (hvis : Vis X.env.scope x := by first | exact Or.inl rfl | exact Or.inr (Or.inl rfl) | exact Or.inr (Or.inr rfl)) (hd : (x == ("__debug__" : Str)) = false := by decide) (hcd : (x == ("__classdict__" : Str)) = false := by decide)
    (hasg : ∀ v, assign (.Subscript (.Name x p) ix tpos) X.env v = (do
      let ov ← holding [v] (eval (.Name x p) X.env)
      let iv ← holding [v, ov] (eval ix X.env)
      standAt tpos
      holding [v, ov, iv] (setItem ov iv v)
      release [v, ov, iv] []) := by intro _; rfl) : QG X C (.Subscript (.Name x p) ix tpos) (gPut i ti) :=
  QG.of (pg_sub (pe_var hN hvis hd hcd) hix.pe (set_all (hu_of hr)) hasg) fun v σ H Q ⟨F, ρ, dv, q, S2, rv, w, kk⟩ => by
    obtain ⟨d0, hd0, w⟩ := own_split w
    obtain ⟨a, g1, g2, g3, _⟩ := S2.own i d0 hd0
    refine ⟨.ref a, g1, F, ρ, _, S2, w, fun oi ρ3 F3 H3 iv hq3 S3 s3 d3 => ?_⟩
    obtain ⟨di, vi, w3⟩ := S3.see d3 hq3
    obtain ⟨d, hd, w3⟩ := own_split w3
    obtain ⟨a', e1, e2, e3, _⟩ := S3.own i d hd
    rw [g1] at e1; cases e1
    exact ok_set F3 H3 a iv v d di dv _ _ S3.sub e2 e3 vi (rv.mono s3) w3 fun d' o hq hO => kk _ _ _ _ hq (S3.turn hd g1 hO) s3
end
/-! ### truth is truth -/
section
variable {X : Cx} {C : FC} {a b : Expr} {ta tb : DE} {pos : Pos}
theorem op_isB : OpR X (compareOp .Is) (fun x y H Q => ∃ i j, x = .bl i ∧ y = .bl j ∧ Q (.bl (i == j)) H) := by
  intro pins s σ H x y v u Q I rx ry h
  obtain ⟨i, j, rfl, rfl, q⟩ := h
  cases rx
  cases ry
  exact wpAny_pure (fin_bl I q (by cases i <;> cases j <;> rfl))
theorem op_notB : OpR X (compareOp .IsNot) (fun x y H Q => ∃ i j, x = .bl i ∧ y = .bl j ∧ Q (.bl (!(i == j))) H) := by
  intro pins s σ H x y v u Q I rx ry h
  obtain ⟨i, j, rfl, rfl, q⟩ := h
  cases rx
  cases ry
  exact wpAny_pure (fin_bl I q (by cases i <;> cases j <;> rfl))
def isBD (pol : Bool) : Op2 := fun d e k => match d, e with
  | .bool i, .bool j => k (.bool (if pol then i == j else !(i == j)))
  | _, _ => False
theorem ok_isB : OpOk X (fun x y H Q => ∃ i j, x = .bl i ∧ y = .bl j ∧ Q (.bl (i == j)) H) (isBD true) := fun F H x y d e q Q s v1 v2 w k => by
  cases d with
  | bool i =>
    cases e with
    | bool j => exact ⟨i, j, view_bl v1, view_bl v2, k _ _ _ _ w (Gr.refl s) (.bl _)⟩
    | _ => exact w.elim
  | _ => exact w.elim
theorem ok_notB : OpOk X (fun x y H Q => ∃ i j, x = .bl i ∧ y = .bl j ∧ Q (.bl (!(i == j))) H) (isBD false) := fun F H x y d e q Q s v1 v2 w k => by
  cases d with
  | bool i =>
    cases e with
    | bool j => exact ⟨i, j, view_bl v1, view_bl v2, k _ _ _ _ w (Gr.refl s) (.bl _)⟩
    | _ => exact w.elim
  | _ => exact w.elim
theorem q_isB (ha : QE X C a ta) (hb : QE X C b tb) : QE X C (.Compare a [.Is] [b] pos) (dBin (isBD true) ta tb) := q_cmp op_isB ok_isB ha hb
theorem q_notB (ha : QE X C a ta) (hb : QE X C b tb) : QE X C (.Compare a [.IsNot] [b] pos) (dBin (isBD false) ta tb) := q_cmp op_notB ok_notB ha hb
theorem t_isB (ha : QE X C a ta) (hb : QE X C b tb) : QT X C (.Compare a [.Is] [b] pos) (dTest (dBin (isBD true) ta tb)) := t_cmp op_isB ok_isB ha hb
theorem t_notB (ha : QE X C a ta) (hb : QE X C b tb) : QT X C (.Compare a [.IsNot] [b] pos) (dTest (dBin (isBD false) ta tb)) := t_cmp op_notB ok_notB ha hb
end
/-! ### a key in a dict -/
def hasD (pol : Bool) : Op2 := fun d e k => match e with
  | .dict kvs => match keyG kvs d with
    | some q => k (.bool (if pol then (lookD kvs q).isSome else !(lookD kvs q).isSome))
    | none => False
  | _ => False
section
variable {X : Cx} {C : FC} {a b : Expr} {ta tb : DE} {pos : Pos} {k : Nat}
theorem op_has (hu : X.A.units + 1 < cLine) : OpR X (compareOp .In) (fun x y H Q => ∃ a o, y = .ref a ∧ DGet H a x o ∧ Q (.bl o.isSome) H) := by
  intro pins s σ H x y v u Q I rx ry h
  obtain ⟨a, o, rfl, g, q⟩ := h
  cases ry
  exact d_in hu I g rx fun s' I' => fin_bl I' q rfl
theorem op_hasNot (hu : X.A.units + 1 < cLine) : OpR X (compareOp .NotIn) (fun x y H Q => ∃ a o, y = .ref a ∧ DGet H a x o ∧ Q (.bl (!o.isSome)) H) := by
  intro pins s σ H x y v u Q I rx ry h
  obtain ⟨a, o, rfl, g, q⟩ := h
  cases ry
  exact d_notIn hu I g rx fun s' I' => fin_bl I' q rfl
theorem look_some {K : PySem.W.Frag} {F : Hp} {k : Key} {kvs : List (Key × V)} {ds : List (PyData × PyData)} (r : RepKV K F kvs ds) : (valV kvs k).isSome = (lookD ds k).isSome := by
  have lk := RepKV.look (k := k) r
  cases z : lookD ds k with
  | none => rw [z] at lk; rw [lk]; rfl
  | some x =>
    rw [z] at lk
    obtain ⟨v, e, _⟩ := lk
    rw [e]; rfl
theorem ok_has : OpOk X (fun x y H Q => ∃ a o, y = .ref a ∧ DGet H a x o ∧ Q (.bl o.isSome) H) (hasD true) := fun F H x y d e q Q s v1 v2 w k => by
  cases e with
  | dict kvs =>
    have w : (match keyG kvs d with | some key => q (.bool (lookD kvs key).isSome) | none => False) := w
    cases ke : keyG kvs d with
    | none => rw [ke] at w; exact w.elim
    | some key =>
      rw [ke] at w
      obtain ⟨hk, ke⟩ := keyG_some ke
      obtain ⟨a, e1, ⟨ks, h1, r⟩ | ⟨w0, ks, n, h1, r⟩ | hx⟩ := v2
      rotate_left
      · rw [RepNK.keysK r n] at hk
        cases hk
      · rw [hx.keysK] at hk
        cases hk
      subst e1
      rw [key_view v1 ke]
      refine ⟨a, _, rfl, .inl ⟨ks, key, h1, rfl, rfl⟩, ?_⟩
      rw [look_some r]
      exact k _ _ _ _ w (Gr.refl s) (.bl _)
  | _ => exact w.elim
theorem ok_hasNot : OpOk X (fun x y H Q => ∃ a o, y = .ref a ∧ DGet H a x o ∧ Q (.bl (!o.isSome)) H) (hasD false) := fun F H x y d e q Q s v1 v2 w k => by
  cases e with
  | dict kvs =>
    have w : (match keyG kvs d with | some key => q (.bool (!(lookD kvs key).isSome)) | none => False) := w
    cases ke : keyG kvs d with
    | none => rw [ke] at w; exact w.elim
    | some key =>
      rw [ke] at w
      obtain ⟨hk, ke⟩ := keyG_some ke
      obtain ⟨a, e1, ⟨ks, h1, r⟩ | ⟨w0, ks, n, h1, r⟩ | hx⟩ := v2
      rotate_left
      · rw [RepNK.keysK r n] at hk
        cases hk
      · rw [hx.keysK] at hk
        cases hk
      subst e1
      rw [key_view v1 ke]
      refine ⟨a, _, rfl, .inl ⟨ks, key, h1, rfl, rfl⟩, ?_⟩
      rw [look_some r]
      exact k _ _ _ _ w (Gr.refl s) (.bl _)
  | _ => exact w.elim
theorem q_has (hr : Room k X.A) (ha : QE X C a ta) (hb : QE X C b tb) (hm : behindInMarks .In b = false := by rfl) : QE X C (.Compare a [.In] [b] pos) (dBin (hasD true) ta tb) := q_cmp (op_has (hu_of hr)) ok_has ha hb hm
theorem q_hasNot (hr : Room k X.A) (ha : QE X C a ta) (hb : QE X C b tb) (hm : behindInMarks .NotIn b = false := by rfl) : QE X C (.Compare a [.NotIn] [b] pos) (dBin (hasD false) ta tb) := q_cmp (op_hasNot (hu_of hr)) ok_hasNot ha hb hm
theorem t_has (hr : Room k X.A) (ha : QE X C a ta) (hb : QE X C b tb) (hm : behindInMarks .In b = false := by rfl) : QT X C (.Compare a [.In] [b] pos) (dTest (dBin (hasD true) ta tb)) := t_cmp (op_has (hu_of hr)) ok_has ha hb hm
theorem t_hasNot (hr : Room k X.A) (ha : QE X C a ta) (hb : QE X C b tb) (hm : behindInMarks .NotIn b = false := by rfl) : QT X C (.Compare a [.NotIn] [b] pos) (dTest (dBin (hasD false) ta tb)) := t_cmp (op_hasNot (hu_of hr)) ok_hasNot ha hb hm
end
end Dv

set_option Elab.async false
set_option linter.all false
set_option maxRecDepth 100000
namespace Dv
open PySem PySem.Spec PySem.W PySem.F PyProof.Rows L2
/-! ### sorted(a tuple) -/
section
variable {prog : Program} {w : World} {A : Around} {E : Value → Shared → Prop} {s : Shared}
theorem collect_tup {l : Addr} {vs : List Value} {Q : List Value → Shared → Prop} (hl : IsTup s.heap l vs.toArray)
    (h : Q vs { s with heap := (s.heap.push (seqObj "list" #[] 0)).update s.heap.objs.size (Obj.mapSeq (· ++ vs.toArray)) }) (hsz : vs.length ≤ sizeLine) :
    wpAny (model prog w) A (collect (.ref l)) Q E s := by
  obtain ⟨o, ho, hc, n, hd⟩ := id hl
  unfold collect
  refine wpAny_bind (wpAny_runValue (codeAny_builtin entry_proto_collect' ?_))
  show wpAny _ _ (do again (.builtin "list.__iadd__" ⟨[← newList [], .ref l], []⟩)) _ _ s
  refine wpAny_bind (wpAny_newList (wpAny_pure ⟨Code.quiet_builtin _ (by decide +kernel), codeAny_builtin entry_list_iadd' ?_⟩))
  show wpAny _ _ (Builtin.List.listExtendWith (.ref s.heap.objs.size) (.ref l) (.ref s.heap.objs.size)) _ _ { s with heap := s.heap.push (seqObj "list" #[] 0) }
  unfold Builtin.List.listExtendWith
  have ho' : (s.heap.push (seqObj "list" #[] 0)).get? l = some o := Heap.get?_push_of_some _ ho
  refine wpAny_bind (wpAny_typeOf (T := "tuple") ⟨o, ho', hc⟩ ?_)
  have ht : (Value.type "tuple" == Value.type "tuple") = true := by rfl
  rw [if_pos (by rw [ht]; simp)]
  refine wpAny_bind (listItems_at ho' hd ?_)
  refine wpAny_bind (listItems_at (xs := #[]) (n := 0) (Heap.get?_push_size _ rfl) rfl ?_)
  rw [if_neg (by simp)]
  refine wpAny_bind (listUpdate_at (xs := #[]) (n := 0) (Heap.get?_push_size _ rfl) rfl ?_ (Nat.zero_le _) (by show (#[] ++ vs.toArray).size ≤ sizeLine + 1; simp only [Array.size_append, List.size_toArray, List.length_nil]; omega))
  refine wpAny_pure ?_
  show wpAny (model prog w) A (do
      let o ← load s.heap.objs.size
      match o.data with
      | .seq xs _ => pure xs.toList
      | _ => unsupported "internal:collect") Q E { s with heap := (s.heap.push (seqObj "list" #[] 0)).update s.heap.objs.size (Obj.mapSeq (· ++ vs.toArray)) }
  refine wpAny_bind (wpAny_load (get?_update_seq (Heap.get?_push_size _ rfl) _) ?_)
  show wpAny _ _ (pure ((#[] : Array Value) ++ vs.toArray).toList) Q E _
  rw [show ((#[] : Array Value) ++ vs.toArray).toList = vs by simp]
  exact wpAny_pure h
theorem sorted_of_sortT {l : Addr} {vs : List Value} {Q : Value → Shared → Prop} (hl : IsTup s.heap l vs.toArray) (hL : vs.length ≤ sizeLine)
    (body : ∀ E' : Value → Shared → Prop, wpAny (model prog w) A.in1.in1 (Builtin.«list.sort» ⟨[.ref (s.heap.objs.size + 1)], []⟩) (fun f s' => f = .done (.ret .none) ∧ Q (.ref (s.heap.objs.size + 1)) s') E' { s with heap := copyHeap s.heap vs }) :
    wpAny (model prog w) A (call (.builtin "sorted") [.ref l]) Q E s := by
  refine call_function_entry_kw kind_sorted plain_sorted entry_sorted (args_sorted1 _) ?_
  unfold Builtin.«sorted»
  refine wpAny_bind (m := checkCount "sorted" 1 1 _) (wpAny_pure ?_)
  refine wpAny_bind (collect_tup hl ?_ hL)
  refine wpAny_bind (wpAny_newList ?_ hL)
  have hsz : ((s.heap.push (seqObj "list" #[] 0)).update s.heap.objs.size (Obj.mapSeq (· ++ vs.toArray))).objs.size = s.heap.objs.size + 1 := by
    rw [Heap.size_update, size_push']
  show wpAny _ _ _ _ _ { s with heap := copyHeap s.heap vs }
  rw [hsz]
  refine wpAny_bind (wpAny_holding (wpAny_call_entry_kw PyProof.Rows.slot_list_sort ⟨_, copyHeap_at s.heap vs, rfl⟩ PyProof.Rows.entry_list_sort ?body (args_list_sort _)))
  case body =>
    show wpAny (model prog w) A.in1.in1 (Builtin.«list.sort» ⟨[.ref (s.heap.objs.size + 1)], []⟩) _ _ _
    refine wpAny_mono (body _) (fun f s' hf => ?_) fun _ _ e => e
    obtain ⟨rfl, hq⟩ := hf
    exact ⟨_, rfl, wpAny_pure ⟨_, rfl, hq⟩⟩
theorem sorted_dataT {β : Type} {vs : List Value} {bs : List β} {enc : β → PyData} {R : Value → β → Prop} {l : Addr} {Q : Value → Shared → Prop} (hl : IsTup s.heap l vs.toArray) (e : EachIs R vs bs) (er : EachIs (fun v b => ∃ as, Reads s.heap v (enc b) as) vs bs) (hal : AllAlike (bs.map enc)) (hk : Sortable (bs.map enc)) (hL : bs.length ≤ sizeLine)
    (hu : ∀ b, b ∈ bs → A.units + 2 + (enc b).depth < cLine) (h : ∀ out, out.length = bs.length → EachIs R out (bs.mergeSort (dataLe false enc)) → Q (.ref (s.heap.objs.size + 1)) { s with heap := sortedAll s.heap vs (List.toArray out) }) :
    wpAny (model prog w) A (call (.builtin "sorted") [.ref l]) Q E s := by
  have er' : EachIs (fun v b => ∃ as, Reads (sortingHeap (copyHeap s.heap vs) (s.heap.objs.size + 1) vs) v (enc b) as) vs bs := er.mono fun _ _ ⟨as, r⟩ => ⟨as, PyProof.Rows.Reads.keeps (fun _ _ => sorting_copy_old) r⟩
  have hL' : vs.length ≤ sizeLine := by rw [e.length]; exact hL
  exact sorted_of_sortT hl hL' fun _ => list_sort_vals (s := { s with heap := copyHeap s.heap vs }) (copyHeap_at s.heap vs) (SortsAt.data (s := { s with heap := sortingHeap (copyHeap s.heap vs) (s.heap.objs.size + 1) vs }) (each_map (R := fun v d => ∃ as, Reads (sortingHeap (copyHeap s.heap vs) (s.heap.objs.size + 1) vs) v d as) enc er') hal hk (bound_map hu)) hL' ⟨rfl, h _ (by rw [sortVals_length false rfl]; exact e.length) (sortVals_data false e er' hal)⟩
end
def rSortDtT (K : PySem.W.Frag) : List V → Hp → VK → Prop := fun vs H Q => ∃ (a : Addr) (xs : List V) (ds : List PyData), vs = [.ref a] ∧ SqT K H a xs ∧ DpAll K H xs ds ∧ PySem.W.AllAlike ds ∧ PySem.W.Sortable ds ∧ ds.length ≤ sizeLine ∧ (∀ d ∈ ds, PyData.depth d ≤ 60) ∧
  ∀ p, H p = none → Q (.ref p) (upd H p (.lst (((xs.zip ds).mergeSort (PySem.W.dataLe false Prod.snd)).map Prod.fst)))
theorem cr_sortDtT {X : Cx} (hu : X.A.units + 65 < cLine) : CallR X (.builtin "sorted") (rSortDtT X.K) := by
  intro pins s σ H vs us Q I r h
  obtain ⟨a, xs, ds, rfl, hs, hd, hal, hk, hlen, hdep, q⟩ := h
  obtain ⟨its, rv, hl, _⟩ := I.tuple hs
  rw [Vals.ref1 r]
  obtain ⟨e1, e2⟩ := each_zip I rv hd
  have hxd : xs.length = ds.length := by
    have : ∀ {xs : List V} {ds : List PyData}, DpAll X.K H xs ds → xs.length = ds.length := by
      intro xs
      induction xs with
      | nil => intro ds h; cases h; rfl
      | cons x xs ih => intro ds h; cases h with | cons _ t => simp [ih t]
    exact this hd
  have em : (xs.zip ds).map Prod.snd = ds := List.map_snd_zip (by omega)
  refine sorted_dataT (enc := Prod.snd) hl e1 e2 (by rw [em]; exact hal) (by rw [em]; exact hk) (by simp; omega) (fun b hb => ?_) fun out ho eo => ?_
  · have := hdep b.2 (by rw [← em]; exact List.mem_map.mpr ⟨b, hb, rfl⟩)
    omega
  · obtain ⟨ep, he'⟩ := PyProof.Rows.sortedAll_at s.heap its out.toArray
    exact ⟨.ref _, upd H (s.heap.objs.size + 1) (.lst _), I.laid (t' := s.toks) (fun _ _ => PyProof.Rows.sortedAll_old) (Nat.le_succ _) ⟨by simp; omega, out, ep, each_vals eo, he'⟩, rfl, q _ (I.hok.fresh (Nat.le_succ _))⟩
def sortedTt : OpNL := fun ds k => match ds with
  | [.tuple xs] => Srt xs ∧ k (sortD xs)
  | _ => False
section
variable {X : Cx} {C : FC} {a : Expr} {tA : DA} {p pos : Pos} {k : Nat}
theorem o_sortedTt (hr : Room k X.A) (hm : X.mg "sorted" = none) (ha : QA X C [a] tA) (hg : Gl X "sorted" := by rfl)
    (he : starEach [a] X.env = (false, eval a X.env) :: starEach [] X.env := by rfl) (hpl : (backTo pos (starEach [] X.env)).any (·.1) = false := by rfl) : QO X C (.Call (.Name "sorted" p) [a] [] pos) (dCBL sortedTt tA) :=
  o_callB (cr_sortDtT (by have := hr.un; omega)) (fun F H vs ds q Q s v w k => by
    match ds, v, w with
    | [.tuple xs], v, w =>
      obtain ⟨v, e, vv⟩ := va1 v
      obtain ⟨b, ys, e2, h, r, _⟩ := view_tup s vv
      subst e e2
      obtain ⟨hs, f⟩ := w
      have hcan : PyData.canLayAll0 xs = true := canAll_iff.mpr fun d hd => (hs.sh d hd).can
      refine ⟨b, ys, xs, rfl, h, r.dp s hcan, hs.al, hs.so, hs.ln, fun d hd => (hs.sh d hd).dep, fun p hp => ?_⟩
      have em : (ys.zip xs).map Prod.snd = xs := List.map_snd_zip (by rw [r.length]; exact Nat.le_refl _)
      have e : ((ys.zip xs).mergeSort (PySem.W.dataLe false Prod.snd)).map Prod.snd = sortD xs := by
        have z := PySem.W.sort_maps (r := PySem.W.dataLe false (Prod.snd : V × PyData → PyData)) (s := PySem.W.dataLe false id) Prod.snd (l := ys.zip xs) (fun _ _ _ _ => rfl)
        rw [em] at z
        exact z
      refine k _ _ p f hp ?_
      rw [← e]
      exact repAll_of fun c hc => repAll_zip r c ((List.mergeSort_perm _ _).mem_iff.mp hc)) hm (by decide +kernel) ha hg (by decide) (by decide) he hpl
end
end Dv

set_option Elab.async false
set_option linter.all false
set_option maxRecDepth 100000
namespace Dv
open PySem PySem.Spec L2
/-! ### keys that are tuples, over data -/
mutual
def keyN : PyData → Option NestedKey
  | .none => some .none
  | .int i => some (.num i)
  | .tuple ds => (keyNs ds).map .tup
  | _ => none
def keyNs : List PyData → Option (List NestedKey)
  | [] => some []
  | d :: ds => match keyN d with
    | some k => (keyNs ds).map (k :: ·)
    | none => none
end
mutual
theorem keyN_data : ∀ (d : PyData) (k : NestedKey), keyN d = some k → k.data = d
  | .none, k, h => by simp [keyN] at h; subst h; rfl
  | .int i, k, h => by simp [keyN] at h; subst h; rfl
  | .tuple ds, k, h => by
    simp only [keyN, Option.map_eq_some_iff] at h
    obtain ⟨ks, e, rfl⟩ := h
    show PyData.tuple (NestedKey.datas ks) = .tuple ds
    rw [keyNs_data ds ks e]
  | .bool _, k, h => by simp [keyN] at h
  | .str _, k, h => by simp [keyN] at h
  | .list _, k, h => by simp [keyN] at h
  | .dict _, k, h => by simp [keyN] at h
theorem keyNs_data : ∀ (ds : List PyData) (ks : List NestedKey), keyNs ds = some ks → NestedKey.datas ks = ds
  | [], ks, h => by simp [keyNs] at h; subst h; rfl
  | d :: ds, ks, h => by
    simp only [keyNs] at h
    cases e : keyN d with
    | none => rw [e] at h; cases h
    | some k =>
      rw [e] at h
      simp only [Option.map_eq_some_iff] at h
      obtain ⟨ks', e', rfl⟩ := h
      show k.data :: NestedKey.datas ks' = d :: ds
      rw [keyN_data d k e, keyNs_data ds ks' e']
end
mutual
theorem keyN_wi : ∀ (d : PyData) (k : NestedKey), keyN d = some k → ∀ w w' : World, k.hash w = k.hash w'
  | .none, k, h, w, w' => by simp [keyN] at h; subst h; rfl
  | .int i, k, h, w, w' => by simp [keyN] at h; subst h; rfl
  | .tuple ds, k, h, w, w' => by
    simp only [keyN, Option.map_eq_some_iff] at h
    obtain ⟨ks, e, rfl⟩ := h
    simp only [NestedKey.hash]
    rw [keyNs_wi ds ks e w w']
  | .bool _, k, h, _, _ => by simp [keyN] at h
  | .str _, k, h, _, _ => by simp [keyN] at h
  | .list _, k, h, _, _ => by simp [keyN] at h
  | .dict _, k, h, _, _ => by simp [keyN] at h
theorem keyNs_wi : ∀ (ds : List PyData) (ks : List NestedKey), keyNs ds = some ks → ∀ w w' : World, NestedKey.hashes w ks = NestedKey.hashes w' ks
  | [], ks, h, w, w' => by simp [keyNs] at h; subst h; rfl
  | d :: ds, ks, h, w, w' => by
    simp only [keyNs] at h
    cases e : keyN d with
    | none => rw [e] at h; cases h
    | some k =>
      rw [e] at h
      simp only [Option.map_eq_some_iff] at h
      obtain ⟨ks', e', rfl⟩ := h
      simp only [NestedKey.hashes]
      rw [keyN_wi d k e w w', keyNs_wi ds ks' e' w w']
end
mutual
theorem keyN_pl : ∀ (d : PyData) (k : NestedKey), keyN d = some k → plK k = true
  | .none, k, h => by simp [keyN] at h; subst h; rfl
  | .int i, k, h => by simp [keyN] at h; subst h; rfl
  | .tuple ds, k, h => by
    simp only [keyN, Option.map_eq_some_iff] at h
    obtain ⟨ks, e, rfl⟩ := h
    exact keyNs_pl ds ks e
  | .bool _, k, h => by simp [keyN] at h
  | .str _, k, h => by simp [keyN] at h
  | .list _, k, h => by simp [keyN] at h
  | .dict _, k, h => by simp [keyN] at h
theorem keyNs_pl : ∀ (ds : List PyData) (ks : List NestedKey), keyNs ds = some ks → plKs ks = true
  | [], ks, h => by simp [keyNs] at h; subst h; rfl
  | d :: ds, ks, h => by
    simp only [keyNs] at h
    cases e : keyN d with
    | none => rw [e] at h; cases h
    | some k =>
      rw [e] at h
      simp only [Option.map_eq_some_iff] at h
      obtain ⟨ks', e', rfl⟩ := h
      simp only [plKs, keyN_pl d k e, keyNs_pl ds ks' e', Bool.and_self]
end
mutual
theorem keyN_of : ∀ k : NestedKey, plK k = true → keyN k.data = some k
  | .none, _ => rfl
  | .num i, _ => rfl
  | .text x, h => by cases h
  | .tup ks, h => by
    show (keyNs (NestedKey.datas ks)).map NestedKey.tup = _
    rw [keyNs_of ks h]; rfl
theorem keyNs_of : ∀ ks : List NestedKey, plKs ks = true → keyNs (NestedKey.datas ks) = some ks
  | [], _ => rfl
  | k :: ks, h => by
    simp only [plKs, Bool.and_eq_true] at h
    show (match keyN k.data with | some k' => (keyNs (NestedKey.datas ks)).map (k' :: ·) | none => none) = _
    rw [keyN_of k h.1, keyNs_of ks h.2]; rfl
end
/-- a tuple as a key -/
def keyT : PyData → Option NestedKey
  | .tuple ds => match keyN (.tuple ds) with
    | some k => if k.depth ≤ 8 then some k else none
    | none => none
  | _ => none
theorem keyT_is {d : PyData} {k : NestedKey} (h : keyT d = some k) : KOk k ∧ k.data = d ∧ (∃ ds, d = .tuple ds) ∧ keyN d = some k := by
  unfold keyT at h
  split at h
  · next ds =>
    split at h
    · next k' e =>
      split at h
      · next hd =>
        cases h
        exact ⟨⟨keyN_wi _ _ e, hd, keyN_pl _ _ e⟩, keyN_data _ _ e, ⟨ds, rfl⟩, e⟩
      · cases h
    · cases h
  · cases h
def keysT (kvs : List (PyData × PyData)) : Bool := kvs.all fun p => (keyT p.1).isSome
/-- a key of such a dict -/
def keyH (kvs : List (PyData × PyData)) (d : PyData) : Option NestedKey := match keysT kvs with
  | true => keyT d
  | false => none
def lookN (kvs : List (PyData × PyData)) (k : NestedKey) : Option PyData := (kvs.find? fun p => decide (keyT p.1 = some k)).map (·.2)
def putN (kvs : List (PyData × PyData)) (k : NestedKey) (d v : PyData) : List (PyData × PyData) :=
  if (kvs.any fun p => decide (keyT p.1 = some k)) then kvs.map (fun p => if keyT p.1 = some k then (p.1, v) else p) else kvs ++ [(d, v)]
/-! ### what such a dict has -/
theorem keyT_of {K : PySem.W.Frag} {F : Hp} {b : Addr} {k : NestedKey} (c : KOk k) (r : Rep K F (.ref b) k.data) : keyT k.data = some k := by
  cases k with
  | none => cases r
  | num i => cases r
  | text x => cases r
  | tup ks =>
    have e := keyN_of _ c.pl
    show (match keyN (.tuple (NestedKey.datas ks)) with | some k => if k.depth ≤ 8 then some k else none | none => none) = _
    have e2 : keyN (.tuple (NestedKey.datas ks)) = some (.tup ks) := e
    rw [e2]
    show (if (NestedKey.tup ks).depth ≤ 8 then some (NestedKey.tup ks) else none) = _
    rw [if_pos c.dep]
def valX (ns : List NX) (k : NestedKey) : Option V := (ns.find? fun x => decide (x.1 = k)).map (·.2.2)
theorem RepNK.lookN {K : PySem.W.Frag} {F : Hp} {k : NestedKey} : ∀ {ns : List NX} {ds : List (PyData × PyData)}, RepNK K F ns ds → match lookN ds k with
    | some d => ∃ v, valX ns k = some v ∧ Rep K F v d
    | none => valX ns k = none
  | _, _, .nil => rfl
  | _, _, .cons (k := k') (b := b) (v := v) (vs := vs) (d := d) (ds := ds) c r1 r2 t => by
    have ih := RepNK.lookN (k := k) t
    have ek := keyT_of c r1
    by_cases e : k' = k
    · subst e
      have h1 : Dv.lookN ((k'.data, d) :: ds) k' = some d := by simp [Dv.lookN, List.find?_cons, ek]
      rw [h1]
      exact ⟨v, by simp [valX, List.find?_cons], r2⟩
    · have h1 : Dv.lookN ((k'.data, d) :: ds) k = Dv.lookN ds k := by
        have ne : ¬ (some k' = some k) := fun z => e (Option.some.inj z)
        simp [Dv.lookN, List.find?_cons, ek, e]
      have h2 : valX ((k', b, v) :: vs) k = valX vs k := by simp [valX, List.find?_cons, e]
      rw [h1, h2]
      exact ih
theorem atKey_rel {k : NestedKey} : ∀ {ns : List NX} {ys : List (NestedKey × Addr × Value)}, Paired NRel ns ys → match valX ns k with
    | some v => ∃ p, atKey ys k = some p ∧ RelV v p.2
    | none => atKey ys k = none
  | _, _, .nil => rfl
  | x :: ns, y :: ys, .cons q qs => by
    have ih := atKey_rel (k := k) qs
    by_cases e : x.1 = k
    · have e' : y.1 = k := by rw [← q.1]; exact e
      have h1 : valX (x :: ns) k = some x.2.2 := by simp [valX, List.find?_cons, e]
      rw [h1]
      exact ⟨y.2, by simp [atKey, List.find?_cons, e'], q.2.2⟩
    · have e' : ¬ y.1 = k := by rw [← q.1]; exact e
      have h1 : valX (x :: ns) k = valX ns k := by simp [valX, List.find?_cons, e]
      have h2 : atKey (y :: ys) k = atKey ys k := by simp [atKey, List.find?_cons, e']
      rw [h1, h2]
      exact ih
theorem keysT_nil {K : PySem.W.Frag} {F : Hp} {ks : List (Key × V)} {ds : List (PyData × PyData)} (r : RepKV K F ks ds) (h : keysT ds = true) : ks = [] ∧ ds = [] := by
  cases r with
  | nil => exact ⟨rfl, rfl⟩
  | @cons k v vs d ds r t =>
    exfalso
    unfold keysT at h
    rw [List.all_cons] at h
    cases k with
    | inl i => simp [kD, keyT] at h
    | inr x => simp [kD, keyT] at h
/-- the dict's object, where all its keys are tuples -/
def DV (K : PySem.W.Frag) (F H : Hp) (a : Addr) (ns : List NX) (ds : List (PyData × PyData)) : Prop := RepNK K F ns ds ∧ ((∃ w, Rd H a (DN w a ns)) ∨ (ns = [] ∧ Rd H a (.dK [])))
theorem View.dv {K : PySem.W.Frag} {F H : Hp} {v : V} {ds : List (PyData × PyData)} (w : View K F H v (.dict ds)) (h : keysT ds = true) : ∃ a ns, v = .ref a ∧ DV K F H a ns ds := by
  obtain ⟨a, e, ⟨ks, h1, r⟩ | ⟨w0, ns, n, h1, r⟩ | ⟨_, _, n, _, es, rfl, _⟩⟩ := w
  · obtain ⟨rfl, rfl⟩ := keysT_nil r h
    exact ⟨a, [], e, .nil, .inr ⟨rfl, h1⟩⟩
  · exact ⟨a, ns, e, r, .inl ⟨w0, h1⟩⟩
  · simp [keysT, keyT] at h
section
variable {X : Cx} {pins : List (Addr × Obj)} {σ : L2.St} {F H : Hp} {s : Shared}
theorem dv_dict (I : Inv X pins σ H s) (hs : Same F H) {a : Addr} {ns : List NX} {ds : List (PyData × PyData)} (h : DV X.K F H a ns ds) :
    ∃ ys, Paired NRel ns ys ∧ s.heap.DictOfH (nestedKind X.prog X.w) a ys ∧ (a == sysModules) = false ∧ ns.length ≤ sizeLine := by
  obtain ⟨r, ⟨w, e⟩ | ⟨rfl, e⟩⟩ := h
  · exact nk_dict I hs e r
  · obtain ⟨z, hd, vs, rel, o, es, ep, h1, h2, h3, h4, h5⟩ := dk_rd I.hok e
    cases rel
    have h6 : es.toList = [] := by
      cases q : es.toList with
      | nil => rfl
      | cons x r => rw [q] at h5; cases h5.1
    exact ⟨[], .nil, ⟨o, es, ep, h1, h2, h3, h6, fun x hx => absurd hx (by simp), List.nodup_nil⟩, hd, z⟩
end
theorem keyH_some {ds : List (PyData × PyData)} {d : PyData} {k : NestedKey} (h : keyH ds d = some k) : keysT ds = true ∧ keyT d = some k := by
  unfold keyH at h
  split at h
  · next e => exact ⟨e, h⟩
  · cases h
/-! ### d[k], k in d, k not in d -/
def ixND : Op2 := fun d e k => match d with
  | .dict kvs => match keyH kvs e with
    | some q => match lookN kvs q with
      | some x => k x
      | none => False
    | none => False
  | _ => False
def hasND (pol : Bool) : Op2 := fun d e k => match e with
  | .dict kvs => match keyH kvs d with
    | some q => k (.bool (if pol then (lookN kvs q).isSome else !(lookN kvs q).isSome))
    | none => False
  | _ => False
/-- a key and a dict, low down -/
def NGet (K : PySem.W.Frag) (H : Hp) (x y : V) (o : Option V) : Prop := ∃ F a b k ns ds, x = .ref a ∧ y = .ref b ∧ Same F H ∧ DV K F H a ns ds ∧ k.depth ≤ 8 ∧ Rep K F (.ref b) k.data ∧ o = valX ns k
section
variable {X : Cx} {C : FC} {a b : Expr} {ta tb : DE} {pos : Pos} {k : Nat}
theorem ix_nest (hu : X.A.units + 16 < cLine) : IxR X (fun x y H Q => ∃ v, NGet X.K H x y (some v) ∧ Q v H) := by
  intro ve se pins s σ H x y v u Q I rx ry h hs
  obtain ⟨z, ⟨F, a, b, k, ns, ds, rfl, rfl, sF, dv, kd, rk, e⟩, q⟩ := h
  cases rx
  cases ry
  obtain ⟨ys, pr, hm, hd, hz⟩ := dv_dict I sF dv
  have ak := atKey_rel (k := k) pr
  rw [← e] at ak
  obtain ⟨p, hp, rp⟩ := ak
  refine PyProof.Rows.tail_any hm.typeIs PySem.F.slot_dict_getitem.lookup ?_ hs
  exact wpAny_getItem_heap (show (nestedKind X.prog X.w).room X.A.in1 from by show X.A.units + 1 + 8 < cLine; omega) ⟨nested_of I sF k _ _ rk rfl, kd⟩ hm hp ⟨z, H, I.tok _, rp, q⟩
theorem op_hasN (hu : X.A.units + 16 < cLine) : OpR X (compareOp .In) (fun x y H Q => ∃ o, NGet X.K H y x o ∧ Q (.bl o.isSome) H) := by
  intro pins s σ H x y v u Q I rx ry h
  obtain ⟨o, ⟨F, a, b, k, ns, ds, rfl, rfl, sF, dv, kd, rk, e⟩, q⟩ := h
  cases rx
  cases ry
  obtain ⟨ys, pr, hm, hd, hz⟩ := dv_dict I sF dv
  have ak := atKey_rel (k := k) pr
  refine wpAny_in_heap (show (nestedKind X.prog X.w).room X.A.in1 from by show X.A.units + 1 + 8 < cLine; omega) ⟨nested_of I sF k _ _ rk rfl, kd⟩ hd hm ?_
  refine ⟨.bl o.isSome, H, I.tok _, ?_, q⟩
  rw [e]
  cases hv : valX ns k with
  | none => rw [hv] at ak; rw [ak]; rfl
  | some z => rw [hv] at ak; obtain ⟨p, hp, _⟩ := ak; rw [hp]; rfl
theorem op_hasNotN (hu : X.A.units + 16 < cLine) : OpR X (compareOp .NotIn) (fun x y H Q => ∃ o, NGet X.K H y x o ∧ Q (.bl (!o.isSome)) H) := by
  intro pins s σ H x y v u Q I rx ry h
  obtain ⟨o, ⟨F, a, b, k, ns, ds, rfl, rfl, sF, dv, kd, rk, e⟩, q⟩ := h
  cases rx
  cases ry
  obtain ⟨ys, pr, hm, hd, hz⟩ := dv_dict I sF dv
  have ak := atKey_rel (k := k) pr
  refine notIn_keyed (knd := nestedKind X.prog X.w) (kvs := pairsH ys) (k := k) (show X.A.units + 1 + 8 < cLine by omega) ⟨nested_of I sF k _ _ rk rfl, kd⟩ hd ⟨ys, hm, rfl⟩ ?_
  refine ⟨.bl (!o.isSome), H, I.tok _, ?_, q⟩
  rw [e, valueAt_pairsH]
  cases hv : valX ns k with
  | none => rw [hv] at ak; rw [ak]; rfl
  | some z => rw [hv] at ak; obtain ⟨p, hp, _⟩ := ak; rw [hp]; rfl
theorem nget_of {F H : Hp} {x y : V} {kvs : List (PyData × PyData)} {e : PyData} {key : NestedKey} (s : Same F H) (v1 : View X.K F H x (.dict kvs)) (v2 : View X.K F H y e) (h : keyH kvs e = some key) :
    ∃ ns, NGet X.K H x y (valX ns key) ∧ RepNK X.K F ns kvs := by
  obtain ⟨hk, ht⟩ := keyH_some h
  obtain ⟨c, hd, ⟨es, rfl⟩, _⟩ := keyT_is ht
  obtain ⟨a, ns, rfl, dv⟩ := v1.dv hk
  obtain ⟨b, xs, rfl, _, _, rp⟩ := view_tup s v2
  exact ⟨ns, ⟨F, a, b, key, ns, kvs, rfl, rfl, s, dv, c.dep, by rw [hd]; exact rp, rfl⟩, dv.1⟩
theorem ok_ixN : OpOk X (fun x y H Q => ∃ v, NGet X.K H x y (some v) ∧ Q v H) ixND := fun F H x y d e q Q s v1 v2 w k => by
  cases d with
  | dict kvs =>
    have w : (match keyH kvs e with
      | some q' => match lookN kvs q' with
        | some x => q x
        | none => False
      | none => False) := w
    cases ke : keyH kvs e with
    | none => rw [ke] at w; exact w.elim
    | some key =>
      rw [ke] at w
      obtain ⟨ns, g, r⟩ := nget_of s v1 v2 ke
      have lk := RepNK.lookN (k := key) r
      dsimp only at w
      cases z : lookN kvs key with
      | none => rw [z] at w; exact w.elim
      | some d' =>
        rw [z] at w lk
        obtain ⟨v, hv, rv⟩ := lk
        rw [hv] at g
        exact ⟨v, g, k _ _ _ _ w (Gr.refl s) rv⟩
  | _ => exact w.elim
theorem look_someN {K : PySem.W.Frag} {F : Hp} {k : NestedKey} {ns : List NX} {ds : List (PyData × PyData)} (r : RepNK K F ns ds) : (valX ns k).isSome = (lookN ds k).isSome := by
  have lk := RepNK.lookN (k := k) r
  cases z : lookN ds k with
  | none => rw [z] at lk; rw [lk]; rfl
  | some x =>
    rw [z] at lk
    obtain ⟨v, e, _⟩ := lk
    rw [e]; rfl
theorem ok_hasN : OpOk X (fun x y H Q => ∃ o, NGet X.K H y x o ∧ Q (.bl o.isSome) H) (hasND true) := fun F H x y d e q Q s v1 v2 w k => by
  cases e with
  | dict kvs =>
    have w : (match keyH kvs d with | some key => q (.bool (lookN kvs key).isSome) | none => False) := w
    cases ke : keyH kvs d with
    | none => rw [ke] at w; exact w.elim
    | some key =>
      rw [ke] at w
      obtain ⟨ns, g, r⟩ := nget_of s v2 v1 ke
      refine ⟨_, g, ?_⟩
      rw [look_someN r]
      exact k _ _ _ _ w (Gr.refl s) (.bl _)
  | _ => exact w.elim
theorem ok_hasNotN : OpOk X (fun x y H Q => ∃ o, NGet X.K H y x o ∧ Q (.bl (!o.isSome)) H) (hasND false) := fun F H x y d e q Q s v1 v2 w k => by
  cases e with
  | dict kvs =>
    have w : (match keyH kvs d with | some key => q (.bool (!(lookN kvs key).isSome)) | none => False) := w
    cases ke : keyH kvs d with
    | none => rw [ke] at w; exact w.elim
    | some key =>
      rw [ke] at w
      obtain ⟨ns, g, r⟩ := nget_of s v2 v1 ke
      refine ⟨_, g, ?_⟩
      rw [look_someN r]
      exact k _ _ _ _ w (Gr.refl s) (.bl _)
  | _ => exact w.elim
theorem hu16 {k : Nat} {A : Around} (r : Room k A) : A.units + 16 < cLine := by have := r.un; omega
theorem q_ixN (hr : Room k X.A) (ha : QE X C a ta) (hb : QE X C b tb) (hs : PlainIx b := by exact fun _ _ => rfl) : QE X C (.Subscript a b pos) (dBin ixND ta tb) := q_ix (ix_nest (hu16 hr)) ok_ixN ha hb hs
theorem q_hasN (hr : Room k X.A) (ha : QE X C a ta) (hb : QE X C b tb) (hm : behindInMarks .In b = false := by rfl) : QE X C (.Compare a [.In] [b] pos) (dBin (hasND true) ta tb) := q_cmp (op_hasN (hu16 hr)) ok_hasN ha hb hm
theorem q_hasNotN (hr : Room k X.A) (ha : QE X C a ta) (hb : QE X C b tb) (hm : behindInMarks .NotIn b = false := by rfl) : QE X C (.Compare a [.NotIn] [b] pos) (dBin (hasND false) ta tb) := q_cmp (op_hasNotN (hu16 hr)) ok_hasNotN ha hb hm
theorem t_hasN (hr : Room k X.A) (ha : QE X C a ta) (hb : QE X C b tb) (hm : behindInMarks .In b = false := by rfl) : QT X C (.Compare a [.In] [b] pos) (dTest (dBin (hasND true) ta tb)) := t_cmp (op_hasN (hu16 hr)) ok_hasN ha hb hm
theorem t_hasNotN (hr : Room k X.A) (ha : QE X C a ta) (hb : QE X C b tb) (hm : behindInMarks .NotIn b = false := by rfl) : QT X C (.Compare a [.NotIn] [b] pos) (dTest (dBin (hasND false) ta tb)) := t_cmp (op_hasNotN (hu16 hr)) ok_hasNotN ha hb hm
end
end Dv

set_option Elab.async false
set_option linter.all false
set_option maxRecDepth 100000
namespace Dv
open PySem PySem.Spec L2
/-! ### d[k] = v, k a tuple -/
def putX (ns : List NX) (k : NestedKey) (b : Addr) (v : V) : List NX := if (valX ns k).isSome then ns.map (fun x => if x.1 = k then (x.1, x.2.1, v) else x) else ns ++ [(k, b, v)]
theorem some_rel {k : NestedKey} {ns : List NX} {ys : List (NestedKey × Addr × Value)} (pr : Paired NRel ns ys) : (atKey ys k).isSome = (valX ns k).isSome := by
  have ak := atKey_rel (k := k) pr
  cases hv : valX ns k with
  | none => rw [hv] at ak; rw [ak]; rfl
  | some z => rw [hv] at ak; obtain ⟨p, hp, _⟩ := ak; rw [hp]; rfl
theorem paired_repl {k : NestedKey} {v : V} {u : Value} (rv : RelV v u) : ∀ {ns : List NX} {ys : List (NestedKey × Addr × Value)}, Paired NRel ns ys → Paired NRel (ns.map fun x => if x.1 = k then (x.1, x.2.1, v) else x) (ys.map (putAt k u))
  | _, _, .nil => .nil
  | x :: ns, y :: ys, .cons q qs => by
    rw [List.map_cons, List.map_cons]
    refine .cons ?_ (paired_repl rv qs)
    unfold putAt
    by_cases e : x.1 = k
    · rw [if_pos e, if_pos (by rw [← q.1]; exact e)]
      exact ⟨q.1, q.2.1, rv⟩
    · rw [if_neg e, if_neg (by rw [← q.1]; exact e)]
      exact q
theorem paired_snoc {x : NX} {y : NestedKey × Addr × Value} (h : NRel x y) : ∀ {ns : List NX} {ys : List (NestedKey × Addr × Value)}, Paired NRel ns ys → Paired NRel (ns ++ [x]) (ys ++ [y])
  | _, _, .nil => .cons h .nil
  | _, _, .cons q qs => .cons q (paired_snoc h qs)
theorem paired_put {k : NestedKey} {b : Addr} {v : V} {u : Value} (rv : RelV v u) {ns : List NX} {ys : List (NestedKey × Addr × Value)} (pr : Paired NRel ns ys) : Paired NRel (putX ns k b v) (storedH ys k b u) := by
  unfold putX storedH
  rw [some_rel pr]
  split
  · exact paired_repl rv pr
  · exact paired_snoc ⟨rfl, rfl, rv⟩ pr
theorem putX_len (ns : List NX) (k : NestedKey) (b : Addr) (v : V) : (putX ns k b v).length ≤ ns.length + 1 ∧ putX ns k b v ≠ [] := by
  unfold putX
  split
  · next h =>
    refine ⟨by rw [List.length_map]; omega, fun e => ?_⟩
    cases ns with
    | nil => cases h
    | cons => cases e
  · exact ⟨by rw [List.length_append]; exact Nat.le_refl _, by simp⟩
theorem nk_any {K : PySem.W.Frag} {F : Hp} {k : NestedKey} : ∀ {ns : List NX} {ds : List (PyData × PyData)}, RepNK K F ns ds → (ds.any fun p => decide (keyT p.1 = some k)) = (valX ns k).isSome
  | _, _, .nil => rfl
  | _, _, .cons (k := k') (b := b) (v := v) (vs := vs) (d := d) (ds := ds) c r1 r2 t => by
    have ih := nk_any (k := k) t
    rw [List.any_cons, ih, keyT_of c r1]
    by_cases e : k' = k
    · simp [valX, List.find?_cons, e]
    · have ne : ¬ (some k' = some k) := fun z => e (Option.some.inj z)
      simp [valX, List.find?_cons, e]
theorem nk_repl {K : PySem.W.Frag} {F : Hp} {k : NestedKey} {v : V} {d : PyData} (rv : Rep K F v d) : ∀ {ns : List NX} {ds : List (PyData × PyData)}, RepNK K F ns ds → RepNK K F (ns.map fun x => if x.1 = k then (x.1, x.2.1, v) else x) (ds.map fun p => if keyT p.1 = some k then (p.1, d) else p)
  | _, _, .nil => .nil
  | _, _, .cons (k := k') c r1 r2 t => by
    rw [List.map_cons, List.map_cons, keyT_of c r1]
    by_cases e : k' = k
    · rw [if_pos e, if_pos (by rw [e])]
      exact .cons c r1 rv (nk_repl rv t)
    · rw [if_neg e, if_neg fun z => e (Option.some.inj z)]
      exact .cons c r1 r2 (nk_repl rv t)
theorem nk_snoc {K : PySem.W.Frag} {F : Hp} {k : NestedKey} {b : Addr} {v : V} {d : PyData} (c : KOk k) (rb : Rep K F (.ref b) k.data) (rv : Rep K F v d) : ∀ {ns : List NX} {ds : List (PyData × PyData)}, RepNK K F ns ds → RepNK K F (ns ++ [(k, b, v)]) (ds ++ [(k.data, d)])
  | _, _, .nil => .cons c rb rv .nil
  | _, _, .cons c' r1 r2 t => .cons c' r1 r2 (nk_snoc c rb rv t)
theorem nk_put {K : PySem.W.Frag} {F : Hp} {k : NestedKey} {b : Addr} {v : V} {d : PyData} (c : KOk k) (rb : Rep K F (.ref b) k.data) (rv : Rep K F v d) {ns : List NX} {ds : List (PyData × PyData)} (r : RepNK K F ns ds) : RepNK K F (putX ns k b v) (putN ds k k.data d) := by
  unfold putX putN
  rw [nk_any r]
  split
  · exact nk_repl rv r
  · exact nk_snoc c rb rv r
def setND : OpS := fun d di dv k => match d with
  | .dict kvs => match keyH kvs di with
    | some q => kvs.length < big ∧ k (.dict (putN kvs q di dv))
    | none => False
  | _ => False
def rSetN (w : World) (K : PySem.W.Frag) : TSet := fun o i v H Q => ∃ F a b k ns ds, o = .ref a ∧ i = .ref b ∧ Same F H ∧ RepNK K F ns ds ∧ ((∃ w, H a = some (DN w a ns)) ∨ (ns = [] ∧ H a = some (.dK []))) ∧ KOk k ∧ Rep K F (.ref b) k.data ∧ ns.length < sizeLine ∧ Q (upd H a (DN w a (putX ns k b v)))
/-- the object of such a dict, told anew -/
theorem dn_new {P : Program} {w : World} {H' : Hp} {h' : Heap} {a : Addr} {ns : List NX} {ys : List (NestedKey × Addr × Value)} (hz : ns.length ≤ sizeLine) (hd : (a == sysModules) = false) (pr : Paired NRel ns ys) (hm : h'.DictOfH (nestedKind P w) a ys) : ObjOk P w H' h' a (DN w a ns) := by
  obtain ⟨o, es, ep, g1, g2, g3, g4, _, g6⟩ := hm
  refine ⟨⟨⟨ys, o, es, ep, pr, g1, g2, g3, g4⟩, hd, by rw [← nk_keys pr]; exact g6, hz⟩, ⟨o, g1⟩, fun h1 h2 ⟨⟨ys', o', es', ep', p', q1, q2, q3, q4⟩, r1, r2, r3⟩ hk => ⟨⟨ys', o', es', ep', p', hk _ q1, q2, q3, q4⟩, r1, r2, r3⟩⟩
section
variable {X : Cx} {C : FC} {P : List Bool} {i k : Nat} {x : Str} {p pos : Pos}
theorem set_nest (hu : X.A.units + 16 < cLine) : PSet X (rSetN X.w X.K) := by
  intro pins s σ H o i v ov iv u Q I ro ri rv h
  obtain ⟨F, a, b, k, ns, ds, rfl, rfl, sF, rn, ha, c, rb, hl, q⟩ := h
  cases ro
  cases ri
  have dv : DV X.K F H a ns ds := ⟨rn, by
    rcases ha with ⟨w, e⟩ | ⟨e1, e2⟩
    · exact .inl ⟨w, .inl e⟩
    · exact .inr ⟨e1, .inl e2⟩⟩
  have mu : Mut (H a) := by
    rcases ha with ⟨w, e⟩ | ⟨e1, e2⟩
    · rw [e]; exact True.intro
    · rw [e2]; exact True.intro
  obtain ⟨ys, pr, hm, hd, hz⟩ := dv_dict I sF dv
  refine wpAny_setItem_heap (hsz := by rw [← Paired.length pr]; exact hz) (show (nestedKind X.prog X.w).room X.A.in1 from by show X.A.units + 1 + 8 < cLine; omega) ⟨nested_of I sF k _ _ rb rfl, c.dep⟩ hm fun h' hm' hs => ⟨_, d_write I mu hs ?_ (dn_new ?_ hd (paired_put rv pr) hm'), q⟩
  · obtain ⟨o, _, _, g1, _⟩ := hm'
    exact ⟨o, g1⟩
  · have := (putX_len ns k b v).1
    omega
theorem ok_setN : SetOk X (rSetN X.w X.K) setND := fun F H a iv v d di dv q Q s hF hO vi rv w k => by
  cases d with
  | dict kvs =>
    have w : (match keyH kvs di with | some q' => kvs.length < big ∧ q (.dict (putN kvs q' di dv)) | none => False) := w
    cases ke : keyH kvs di with
    | none => rw [ke] at w; exact w.elim
    | some key =>
      rw [ke] at w
      obtain ⟨hk, ht⟩ := keyH_some ke
      obtain ⟨c, hd, ⟨es, e⟩, _⟩ := keyT_is ht
      subst e
      obtain ⟨b, xs, rfl, _, _, rp⟩ := view_tup s vi
      have rb : Rep X.K F (.ref b) key.data := by rw [hd]; exact rp
      have fin : ∀ ns, RepNK X.K F ns kvs → ((∃ w, H a = some (DN w a ns)) ∨ (ns = [] ∧ H a = some (.dK []))) → rSetN X.w X.K (.ref a) (.ref b) v H Q := fun ns rn hh => by
        refine ⟨F, a, b, key, ns, kvs, rfl, rfl, s, rn, hh, c, rb, by rw [rn.length]; exact lt_line w.1, k _ _ w.2 (.inr ⟨_, _, (putX_len ns key b v).2, upd_same, ?_⟩)⟩
        have := nk_put c rb rv rn
        rw [hd] at this
        exact this
      rcases hO with ⟨us, e, ru⟩ | ⟨w0, us, n, e, ru⟩
      · obtain ⟨rfl, rfl⟩ := keysT_nil ru hk
        exact fin [] .nil (.inr ⟨rfl, e⟩)
      · exact fin us ru (.inl ⟨w0, e⟩)
  | _ => exact w.elim
theorem s_putN {ix val : Expr} {ti tv : DE} {tpos : Pos} (hP : C.Tags P) (hr : Room k X.A) (hval : QE X C val tv) (hix : QE X C ix ti) (hN : X.N[i]? = some x := by rfl) (hvis : Vis X.env.scope x := by first | exact Or.inl rfl | exact Or.inr (Or.inl rfl) | exact Or.inr (Or.inr rfl)) (hd : (x == ("__debug__" : Str)) = false := by decide) (hcd : (x == ("__classdict__" : Str)) = false := by decide)
    (hasg : ∀ v, assign (.Subscript (.Name x p) ix tpos) X.env v = (do
      let ov ← holding [v] (eval (.Name x p) X.env)
      let iv ← holding [v, ov] (eval ix X.env)
      standAt tpos
      holding [v, ov, iv] (setItem ov iv v)
      release [v, ov, iv] []) := by intro _; rfl)
    (hs : swapsWithSole [.Subscript (.Name x p) ix tpos] val pos.line X.env = pure false := by rfl) (hw : swappedStores [.Subscript (.Name x p) ix tpos] val X.env = pure none := by rfl)
    (h1 : (assignEach [.Subscript (.Name x p) ix tpos] X.env).map (·.2) = [assign (.Subscript (.Name x p) ix tpos) X.env] := by rfl) : QS X C (.Assign [.Subscript (.Name x p) ix tpos] val pos) (dSetIx P i setND tv ti) :=
  s_setIx hP (set_nest (hu16 hr)) ok_setN hval hix (pe_var hN hvis hd hcd) hasg hs hw h1
/-! ### {k: v}, k a tuple -/
def tDispN (w : World) (K : PySem.W.Frag) (tk tv : TE) : TE := fun σ H Q => ∀ p, H p = none → tPairs [(tk, tv)] σ (upd H p (.dK [])) fun ps H2 => H2 p = some (.dK []) ∧ ∃ F k b v, ps = [(.ref b, v)] ∧ Same F H2 ∧ KOk k ∧ Rep K F (.ref b) k.data ∧ Q (.ref p) (upd H2 p (DN w p [(k, b, v)]))
theorem pe_dispN {ek ev : Expr} {tk tv : TE} (hu : X.A.units + 16 < cLine) (h : PPs X pos [some ek] [ev] [(tk, tv)]) : PE X (.Dict [some ek] [ev] pos) (tDispN X.w X.K tk tv) := by
  refine ⟨fun pins s σ H Q I q => ?_⟩
  have hn := I.hok.fresh (Nat.le_refl s.heap.objs.size)
  have I1 := I.laid (a := s.heap.objs.size) (o := .dK []) (h' := s.heap.push { cls := .type "dict", data := .dict #[] }) (t' := s.toks) (fun _ _ q => Heap.get?_push_of_some _ q) (Nat.le_refl _) (dk_empty s.heap I.big)
  rw [arm_eval_Dict, zip_pairTrees [some ek] [ev] X.env pos rfl rfl, dictDisplay_pairs (pairTrees [some ek] [ev] X.env pos) (by intro z; cases z) (by show 1 < 17; decide)]
  refine wpAny_bind (wpAny_standAt (wpAny_bind (wpAny_subDictH (knd := nestedKind X.prog X.w) (show X.A.units + 8 < cLine by omega) (by show 1 ≤ 15; decide) ?_)))
  refine thn (h.run pins _ σ _ _ I1 (q _ hn)) fun ws s2 ⟨ps, H2, I2, rel, e, F, k, b, v, ep, sF, c, rb, q2⟩ => ?_
  subst ep
  cases rel with
  | @cons _ wv _ _ r1 r2 =>
    cases r2
    obtain ⟨w1, w2⟩ := wv
    obtain ⟨r1a, r1b⟩ := r1
    cases (show w1 = Value.ref b from r1a)
    obtain ⟨ys, pr, hm, hd, hz⟩ := dv_dict (F := F) (ds := []) I2 sF ⟨.nil, .inr ⟨rfl, .inl e⟩⟩
    cases pr
    refine ⟨[(k, b, w2)], ⟨rfl, rfl, ⟨nested_of I2 sF k _ _ rb rfl, c.dep⟩, True.intro⟩, hm, fun h' tk' hm' hs => wpAny_pure ⟨.ref s.heap.objs.size, _, d_write I2 (by rw [e]; exact True.intro) hs ?_ (dn_new (by show 1 ≤ _; rw [sizeLine_eq]; decide) hd (.cons ⟨rfl, rfl, r1b⟩ .nil) hm'), rfl, q2⟩⟩
    obtain ⟨o, _, _, g1, _⟩ := hm'
    exact ⟨o, g1⟩
def dDispN (P : List Bool) (tk tv : DE) : DO := fun ρ Q => tk ρ fun o ρ1 => match o with
  | .val d => match keyT d with
    | some _ => tv ρ1 fun ov ρ2 => share P ρ2 ov fun dv ρ3 => Q (.dict [(d, dv)]) ρ3
    | none => False
  | .slot _ => False
theorem o_dispN {ek ev : Expr} {tk tv : DE} (hP : C.Tags P) (hr : Room k X.A) (h : QPs X P pos [some ek] [ev] [(tk, tv)]) : QO X C (.Dict [some ek] [ev] pos) (dDispN P tk tv) :=
  QO.of (pe_dispN (hu16 hr) h.pps) fun σ H Q ⟨F, ρ, q, S, ht, kk⟩ => fun D hD => by
  have pnD := S.pnone hD
  obtain ⟨S1, f1, h01, _, ne1, nf1⟩ := S.lay hD (o := .dK [])
  refine ⟨C.pin D (.dK []), FC.pin_tags hP, F, ρ, _, S1.pinned upd_same f1 ne1 nf1, ht, fun o ρ1 F1 H1 y h1 S2 s1 d1 => ?_⟩
  cases o with
  | slot i => exact h1.elim
  | val d =>
    dsimp only at h1
    cases kd : keyT d with
    | none => rw [kd] at h1; exact h1.elim
    | some key =>
      rw [kd] at h1
      refine ⟨C.pin D (.dK []), FC.pin_tags hP, F1, ρ1, _, S2, h1, fun ov ρ2 F2 H2 z h2 S3 s2 d2 => ?_⟩
      obtain ⟨dv, ρ3, F3, h3, S4, s3, r3⟩ := S3.share (FC.pin_tags hP) d2 h2
      obtain ⟨c, hd, ⟨es, e⟩, _⟩ := keyT_is kd
      subst e
      obtain ⟨S5, hD2, fD2, oD2, nD2⟩ := Sim.unpinned pnD S4
      have ry : Rep X.K F3 y (.tuple es) := Rep.mono (s2.trans s3) d1
      cases ry with
      | @tup b xs _ g1 g2 =>
        have ry : Rep X.K F3 (.ref b) key.data := by rw [hd]; exact .tup g1 g2
        refine ⟨hD2, F3, key, b, z, rfl, S5.sub, c, ry, ?_⟩
        refine kk _ ρ3 F3 _ D h3 ?_ ((s1.trans s2).trans s3) ⟨fD2, .inr ⟨X.w, _, by simp, upd_same, ?_⟩, h01, pnD, oD2, S5.dp.updF nD2⟩
        rotate_left
        · have := RepNK.cons c ry r3 (.nil (K := X.K) (F := F3))
          rw [hd] at this
          exact this
        refine ⟨S5.len, fun b o e => ?_, S5.frz, fun j e' hj => ?_, S5.ne, S5.par, S5.f0, fun b o e hb => ?_, S5.new, fun b o e => ?_, S5.dp.upd nD2⟩
        · rw [upd_ne (ne_of_none e fD2)]; exact S5.sub b o e
        · obtain ⟨b, g1, g2, g3, g4⟩ := S5.own j e' hj
          have nb : b ≠ D := fun z => oD2 j e' hj (z ▸ g1)
          exact ⟨b, g1, g2, g3.mono (Same.refl _) fun o ho => by rw [upd_ne nb]; exact ho, g4⟩
        · have nb : b ≠ D := fun z => by rw [z, h01] at e; cases e
          rw [upd_ne nb]; exact S5.h0 b o e hb
        · obtain ⟨g1, g2, g3⟩ := S5.pin b o e
          have nb : b ≠ D := fun z => by rw [z, pnD] at e; cases e
          exact ⟨by rw [upd_ne nb]; exact g1, g2, g3⟩
end
end Dv

set_option Elab.async false
set_option linter.all false
set_option maxRecDepth 100000
namespace Dv
open PySem PySem.Spec L2
/-! ### a dict is locked while it is walked -/
def NF (u : HO) : Prop := ∀ o x, u ≠ .frz o x
def RdS (F F' : Hp) : Prop := ∀ b u, NF u → Rd F b u → Rd F' b u
section
variable {K : PySem.W.Frag} {F F' : Hp}
theorem nf_lst (xs : List V) : NF (.lst xs) := fun _ _ z => nomatch z
theorem nf_tup (xs : List V) : NF (.tup xs) := fun _ _ z => nomatch z
theorem nf_dK (xs : List (Key × V)) : NF (.dK xs) := fun _ _ z => nomatch z
theorem nf_DN (w : World) (a : Addr) (xs : List NX) : NF (DN w a xs) := fun _ _ z => nomatch z
theorem nf_ExH (D : Addr) (d : Option Addr) (a : Addr) : NF (ExH D d a) := fun _ _ z => nomatch z
theorem nf_xd (xs : List (Str × V)) : NF (.xd xs) := fun _ _ z => nomatch z
theorem exF_rd (e : RdS F F') : ∀ {d : Option Addr} {fs : List (Str × V)}, ExF F d fs → ExF F' d fs
  | none, _, h => h
  | some _, _, h => e _ _ (nf_xd _) h
theorem sqL_rd {a : Addr} {xs : List V} (e : RdS F F') (h : SqL K F a xs) : SqL K F' a xs := by
  rcases h with h | h
  · exact .inl (e _ _ (nf_lst xs) h)
  · exact .inr h
theorem sqT_rd {a : Addr} {xs : List V} (e : RdS F F') (h : SqT K F a xs) : SqT K F' a xs := by
  rcases h with h | h
  · exact .inl (e _ _ (nf_tup xs) h)
  · exact .inr h
mutual
theorem Rep.rd (e : RdS F F') : ∀ {v : V} {d : PyData}, Rep K F v d → Rep K F' v d
  | _, _, .non => .non
  | _, _, .bl b => .bl b
  | _, _, .int i => .int i
  | _, _, .str x => .str x
  | _, _, .lst h r => .lst (sqL_rd e h) (RepAll.rd e r)
  | _, _, .tup h r => .tup (sqT_rd e h) (RepAll.rd e r)
  | _, _, .dct h r => .dct (e _ _ (nf_dK _) h) (RepKV.rd e r)
  | _, _, .dcn n h r => .dcn n (e _ _ (nf_DN _ _ _) h) (RepNK.rd e r)
  | _, _, .exc h c x r => .exc (e _ _ (nf_ExH _ _ _) h) c (exF_rd e x) (RepFs.rd e r)
theorem RepFs.rd (e : RdS F F') : ∀ {vs : List (Str × V)} {ds : List (PyData × PyData)}, RepFs K F vs ds → RepFs K F' vs ds
  | _, _, .nil => .nil
  | _, _, .cons h r => .cons (Rep.rd e h) (RepFs.rd e r)
theorem RepAll.rd (e : RdS F F') : ∀ {vs : List V} {ds : List PyData}, RepAll K F vs ds → RepAll K F' vs ds
  | _, _, .nil => .nil
  | _, _, .cons h r => .cons (Rep.rd e h) (RepAll.rd e r)
theorem RepKV.rd (e : RdS F F') : ∀ {vs : List (Key × V)} {ds : List (PyData × PyData)}, RepKV K F vs ds → RepKV K F' vs ds
  | _, _, .nil => .nil
  | _, _, .cons h r => .cons (Rep.rd e h) (RepKV.rd e r)
theorem RepNK.rd (e : RdS F F') : ∀ {vs : List NX} {ds : List (PyData × PyData)}, RepNK K F vs ds → RepNK K F' vs ds
  | _, _, .nil => .nil
  | _, _, .cons c k h r => .cons c (Rep.rd e k) (Rep.rd e h) (RepNK.rd e r)
end
theorem Own.rd {H H' : Hp} {a : Addr} {d : PyData} (e : RdS F F') (hh : H' a = H a) (h : Own K F H a d) : Own K F' H' a d := by
  cases d with
  | list ds => obtain ⟨xs, e1, r⟩ := h; exact ⟨xs, hh.trans e1, r.rd e⟩
  | dict ds =>
    rcases h with ⟨xs, e1, r⟩ | ⟨w, xs, n, e1, r⟩
    · exact .inl ⟨xs, hh.trans e1, r.rd e⟩
    · exact .inr ⟨w, xs, n, hh.trans e1, r.rd e⟩
  | _ => exact h.elim
theorem rds_lock {a : Addr} {u : HO} {od : Obj} (h : F a = some u) (n : NF u) : RdS F (upd F a (.frz od u)) := fun b x nx r => by
  by_cases hb : b = a
  · subst hb
    rcases r with r | ⟨o, r⟩
    · rw [h] at r; cases r; exact .inr ⟨od, upd_same⟩
    · rw [h] at r; cases r; exact absurd rfl (n _ _)
  · rcases r with r | ⟨o, r⟩
    · exact .inl (by rw [upd_ne hb]; exact r)
    · exact .inr ⟨o, by rw [upd_ne hb]; exact r⟩
theorem rds_unlock {a : Addr} {u : HO} {od : Obj} (h : F a = some (.frz od u)) : RdS F (upd F a u) := fun b x nx r => by
  by_cases hb : b = a
  · subst hb
    rcases r with r | ⟨o, r⟩
    · rw [h] at r; cases r; exact absurd rfl (nx _ _)
    · rw [h] at r; cases r; exact .inl upd_same
  · rcases r with r | ⟨o, r⟩
    · exact .inl (by rw [upd_ne hb]; exact r)
    · exact .inr ⟨o, by rw [upd_ne hb]; exact r⟩
end
/-- the context while the object at a is locked -/
def FC.lk (C : FC) (a : Addr) (o : HO) : FC := { C with F0 := fun b => if b = a ∧ C.F0 a ≠ none then some o else C.F0 b, H0 := fun b => if b = a ∧ C.H0 a ≠ none then some o else C.H0 b }
section
variable {K : PySem.W.Frag} {C : FC} {F H : Hp} {ρ : DEnv} {σ : L2.St}
theorem lk_ne {C : FC} {a b : Addr} {o : HO} (h : b ≠ a) : (C.lk a o).F0 b = C.F0 b ∧ (C.lk a o).H0 b = C.H0 b := by
  constructor
  · show (if b = a ∧ _ then _ else _) = _
    rw [if_neg fun z => h z.1]
  · show (if b = a ∧ _ then _ else _) = _
    rw [if_neg fun z => h z.1]
theorem Sim.locked (S : Sim K C F H ρ σ) {a : Addr} {u : HO} {od : Obj} (h : F a = some u) (n : NF u) (na : some a ∉ C.pa) : Sim K (C.lk a (.frz od u)) (upd F a (.frz od u)) (upd H a (.frz od u)) ρ σ := by
  have rs : RdS F (upd F a (.frz od u)) := rds_lock h n
  have hH : H a = some u := S.sub a u h
  have nl : ∀ b, Loose C F H ρ σ b → b ≠ a := fun b hl z => by have := hl.2.1; rw [z, h] at this; cases this
  refine ⟨S.len, fun b o e => ?_, fun j d e => ?_, fun j d e => ?_, S.ne, S.par, fun b o e => ?_, fun b o e hb => ?_, fun b e => ?_, fun b o e => ?_, S.dp.keepG (fun j e h => ⟨h, rfl⟩) (fun b hb hl => ⟨fun o e => by rw [upd_ne (nl b hl)]; exact e, ⟨by rw [upd_ne (nl b hl)]; exact hl.1, by rw [upd_ne (nl b hl)]; exact hl.2.1, by rw [(lk_ne (nl b hl)).2]; exact hl.2.2.1, hl.2.2.2⟩⟩) fun b hb hl d ho => ho.rd rs (upd_ne (nl b hl))⟩
  · by_cases hb : b = a
    · subst hb; rw [upd_same] at e ⊢; exact e
    · rw [upd_ne hb] at e ⊢; exact S.sub b o e
  · obtain ⟨v, h1, h2⟩ := S.frz j d e
    exact ⟨v, h1, h2.rd rs⟩
  · obtain ⟨b, h1, h2, h3, h4⟩ := S.own j d e
    have nb : b ≠ a := fun z => by rw [z, h] at h2; cases h2
    exact ⟨b, h1, by rw [upd_ne nb]; exact h2, h3.rd rs (upd_ne nb), by rw [(lk_ne nb).2]; exact h4⟩
  · by_cases hb : b = a
    · subst hb
      have e' : (if b = b ∧ C.F0 b ≠ none then some (HO.frz od u) else C.F0 b) = some o := e
      rw [upd_same]
      by_cases z : C.F0 b ≠ none
      · rw [if_pos ⟨rfl, z⟩] at e'; exact e'
      · rw [if_neg fun y => z y.2] at e'
        exact absurd (by rw [e']; exact fun y => nomatch y) z
    · rw [(lk_ne hb).1] at e
      rw [upd_ne hb]
      exact S.f0 b o e
  · by_cases hb' : b = a
    · subst hb'
      have e' : (if b = b ∧ C.H0 b ≠ none then some (HO.frz od u) else C.H0 b) = some o := e
      rw [upd_same]
      by_cases z : C.H0 b ≠ none
      · rw [if_pos ⟨rfl, z⟩] at e'; exact e'
      · rw [if_neg fun y => z y.2] at e'
        exact absurd (by rw [e']; exact fun y => nomatch y) z
    · rw [(lk_ne hb').2] at e
      rw [upd_ne hb']
      exact S.h0 b o e hb
  · by_cases hb : b = a
    · subst hb
      have q := S.new b (by rw [h]; exact fun y => nomatch y)
      rcases q with q | q
      · refine .inl ?_
        show (if b = b ∧ C.F0 b ≠ none then some (HO.frz od u) else C.F0 b) ≠ none
        rw [if_pos ⟨rfl, q⟩]
        exact fun y => nomatch y
      · refine .inr ?_
        show (if b = b ∧ C.H0 b ≠ none then some (HO.frz od u) else C.H0 b) = none
        rw [if_neg fun y => y.2 q]
        exact q
    · rw [upd_ne hb] at e
      rw [(lk_ne hb).1, (lk_ne hb).2]
      exact S.new b e
  · obtain ⟨h1, h2, h3⟩ := S.pin b o e
    have nb : b ≠ a := fun z => by rw [z, h] at h2; cases h2
    exact ⟨by rw [upd_ne nb]; exact h1, by rw [upd_ne nb]; exact h2, h3⟩
theorem DpOk.updF' {C : FC} {F H : Hp} {ρ : DEnv} {σ : L2.St} (D : DpOk K C F H ρ σ) {p a : Addr} {o u : HO} (hp : F p = some u) (nf : ¬ InFoot H ρ σ a) : ¬ InFoot (L2.upd H p o) ρ σ a := fun ⟨i, d, b, h1, h2, h3⟩ => by
  have nb : b ≠ p := fun z => by
    have := (D.loose ⟨i, d, b, h1, h2, .inl rfl⟩).2.1
    rw [z, hp] at this; cases this
  refine nf ⟨i, d, b, h1, h2, ?_⟩
  rcases h3 with z | z
  · exact .inl z
  · right
    unfold Inner at z ⊢
    rw [upd_ne nb] at z
    exact z
theorem Sim.unlocked {F0 H0 : Hp} {ρ0 : DEnv} {σ0 : L2.St} {a : Addr} {u : HO} {od : Obj} (S0 : Sim K C F0 H0 ρ0 σ0) (h : F0 a = some u) (na : some a ∉ C.pa) (S : Sim K (C.lk a (.frz od u)) F H ρ σ) (hF : F a = some (.frz od u)) :
    Sim K C (upd F a u) (upd H a u) ρ σ := by
  have rs : RdS F (upd F a u) := rds_unlock hF
  have hH : H a = some (.frz od u) := S.sub a _ hF
  have nl : ∀ b, Loose (C.lk a (.frz od u)) F H ρ σ b → b ≠ a := fun b hl z => by have := hl.2.1; rw [z, hF] at this; cases this
  refine ⟨S.len, fun b o e => ?_, fun j d e => ?_, fun j d e => ?_, S.ne, S.par, fun b o e => ?_, fun b o e hb => ?_, fun b e => ?_, fun b o e => ?_, S.dp.keepG (fun j e h => ⟨h, rfl⟩) (fun b hb hl => ⟨fun o e => by rw [upd_ne (nl b hl)]; exact e, ⟨by rw [upd_ne (nl b hl)]; exact hl.1, by rw [upd_ne (nl b hl)]; exact hl.2.1, by have := hl.2.2.1; rw [(lk_ne (nl b hl)).2] at this; exact this, hl.2.2.2⟩⟩) fun b hb hl d ho => ho.rd rs (upd_ne (nl b hl))⟩
  · by_cases hb : b = a
    · subst hb; rw [upd_same] at e ⊢; exact e
    · rw [upd_ne hb] at e ⊢; exact S.sub b o e
  · obtain ⟨v, h1, h2⟩ := S.frz j d e
    exact ⟨v, h1, h2.rd rs⟩
  · obtain ⟨b, h1, h2, h3, h4⟩ := S.own j d e
    have nb : b ≠ a := fun z => by rw [z, hF] at h2; cases h2
    exact ⟨b, h1, by rw [upd_ne nb]; exact h2, h3.rd rs (upd_ne nb), by rw [(lk_ne nb).2] at h4; exact h4⟩
  · by_cases hb : b = a
    · subst hb
      have := S0.f0 b o e
      rw [h] at this
      rw [upd_same]; exact this
    · rw [upd_ne hb]
      exact S.f0 b o (by rw [(lk_ne hb).1]; exact e)
  · by_cases hb' : b = a
    · subst hb'
      have q := S0.h0 b o e hb
      rw [S0.sub b u h] at q
      rw [upd_same]; exact q
    · rw [upd_ne hb']
      exact S.h0 b o (by rw [(lk_ne hb').2]; exact e) hb
  · by_cases hb : b = a
    · subst hb
      exact S0.new b (by rw [h]; exact fun y => nomatch y)
    · rw [upd_ne hb] at e
      have q := S.new b e
      rw [(lk_ne hb).1, (lk_ne hb).2] at q
      exact q
  · obtain ⟨h1, h2, h3⟩ := S.pin b o e
    have nb : b ≠ a := fun z => by rw [z, hF] at h2; cases h2
    exact ⟨by rw [upd_ne nb]; exact h1, by rw [upd_ne nb]; exact h2, h3⟩
end
theorem itk_ok {K : PySem.W.Frag} {F0 : Hp} {a : Addr} {od : Obj} {ks : List (Key × V)} {ds : List (PyData × PyData)} (h : F0 a = some (.frz od (.dK ks))) (r : RepKV K F0 ks ds) : ItOk K (Itk a od ks) F0 (ds.map (·.1)) := fun F H s0 s1 => by
  have hH : H a = some (.frz od (.dK ks)) := s1 _ _ (s0 _ _ h)
  refine ⟨⟨hH, by rw [List.length_map, r.length]; exact Nat.le_refl _⟩, fun i d hd => ?_⟩
  have hk := keys_rep r
  obtain ⟨v, hv, rv⟩ := hk.get hd
  rw [List.getElem?_map] at hv
  cases ek : ks[i]? with
  | none => rw [ek] at hv; cases hv
  | some kv =>
    rw [ek] at hv
    cases hv
    refine ⟨⟨hH, (List.getElem?_eq_some_iff.mp ek).1⟩, fun x H' hy => ?_⟩
    obtain ⟨e, k', v', e1, e2⟩ := hy
    subst e e2
    rw [ek] at e1
    cases e1
    exact ⟨F, Gr.refl s1, rv.mono s0⟩
/-- [.. for x in d ..], d a dict -/
def dLcK (P : List Bool) (i : Nat) (g : DG) (tt : DT) (te : DE) (vs : List Nat) : DO := fun ρ Q => share P ρ (.slot i) fun d ρ1 => match d with
  | .dict kvs => keysK kvs = true ∧ dLcL P g tt te vs Q (kvs.map (·.1)) [] ρ1
  | _ => False
section
variable {X : Cx} {C : FC} {P : List Bool}
theorem lcK_low {g : TG} {gd : DG} {tt : DT} {te : DE} {vs : List Nat} {i : Nat} (hP : C.Tags P) (tg : TgtOk X.K P vs g gd) (hvs : ∀ v ∈ vs, P[v]? ≠ some true) {σ : L2.St} {H : Hp} {Q : VK} {F : Hp} {ρ : DEnv} {q : PyData → DEnv → Prop}
    (S : Sim X.K C F H ρ σ) (h : dLcK P i gd tt te vs ρ q) (k : ∀ d ρ' F' H' a, q d ρ' → Sim X.K C F' H' ρ' σ → Same F F' → Fresh X.K C F' H' ρ' σ a d → Q (.ref a) H') :
    (∃ a u, H a = some u ∧ Mut (some u) ∧ ∀ od, tLc (iKeys (tVar i)) g (lT' X.K P tt) (lE' X.K P te) vs σ (upd H a (.frz od u)) fun v H' => H' a = some (.frz od u) ∧ Q v (upd H' a u)) ∨ tLc (iKeys (tVar i)) g (lT' X.K P tt) (lE' X.K P te) vs σ H Q := by
  have hv : ∃ v, σ[i]? = some (some v) := by
    have h' := h
    unfold dLcK share at h'
    dsimp only at h'
    cases e : ρ[i]? with
    | none => rw [e] at h'; exact h'.elim
    | some y =>
      cases y with
      | none => rw [e] at h'; exact h'.elim
      | some z =>
        cases z with
        | frz d => obtain ⟨v, h1, _⟩ := S.frz i d e; exact ⟨v, h1⟩
        | own2 d => rw [e] at h'; exact h'.elim
        | own d => obtain ⟨a, h1, _⟩ := S.own i d e; exact ⟨_, h1⟩
  obtain ⟨v, hv⟩ := hv
  obtain ⟨d, ρ1, F1, w1, S1, s1, r1⟩ := S.share hP (show Den X.K F σ v (.slot i) from hv) h
  cases d with
  | dict kvs =>
    obtain ⟨hk, w1⟩ := w1
    cases r1 with
    | dcn n _ rn => rw [RepNK.keysK rn n] at hk; cases hk
    | exc h c x r => exact absurd (((ExcV.keysK (K := X.K) (F := F1) ⟨_, _, _, _, _, rfl, h, c, x, r⟩).symm.trans hk)) (by decide)
    | @dct a ks _ hr rk =>
      rcases hr with hr | ⟨o, hr⟩
      · refine .inl ⟨a, .dK ks, S1.sub _ _ hr, True.intro, fun od => ?_⟩
        have na : some a ∉ C.pa := fun z => by
          obtain ⟨j, hj⟩ := List.mem_iff_getElem?.mp z
          obtain ⟨d', e1, e2⟩ := S1.par j a hj
          obtain ⟨b, e3, e4, _⟩ := S1.own j d' e1
          rw [e2] at e3; cases e3
          rw [hr] at e4; cases e4
        have rs : RdS F1 (upd F1 a (.frz od (.dK ks))) := rds_lock hr (nf_dK ks)
        refine ⟨.ref a, hv, a, od, rfl, .inl ⟨ks, upd_same, ?_⟩⟩
        refine lc_body (C := C.lk a (.frz od (.dK ks))) (Q := fun v H' => H' a = some (.frz od (.dK ks)) ∧ Q v (upd H' a (.dK ks))) hP tg hvs (Same.refl _) (S1.locked hr (nf_dK ks) na) (itk_ok upd_same (rk.rd rs)) w1 fun d' ρ' F' H' b hq S' s' fr => ?_
        have hF' : F' a = some (.frz od (.dK ks)) := s' _ _ upd_same
        have nb : b ≠ a := fun z => by have := fr.f; rw [z, hF'] at this; cases this
        refine ⟨S'.sub _ _ hF', k _ ρ' (upd F' a (.dK ks)) _ b hq (Sim.unlocked S1 hr na S' hF') (s1.trans fun c o e => ?_) ⟨by rw [upd_ne nb]; exact fr.f, fr.o.rd (rds_unlock hF') (upd_ne nb), ?_, fr.pn, fr.ne, DpOk.updF' S'.dp hF' fr.nf⟩⟩
        · by_cases hc : c = a
          · subst hc; rw [upd_same, ← e, hr]
          · rw [upd_ne hc]; exact s' c o (by rw [upd_ne hc]; exact e)
        · have := fr.h0
          rw [(lk_ne nb).2] at this
          exact this
      · refine .inr ⟨.ref a, hv, a, o, rfl, .inl ⟨ks, S1.sub _ _ hr, ?_⟩⟩
        exact lc_body (Q := Q) hP tg hvs (Same.refl _) S1 (itk_ok hr rk) w1 fun d' ρ' F' H' b hq S' s' fr => k _ ρ' F' _ b hq S' (s1.trans s') fr
  | _ => exact w1.elim
variable {tg elt : Expr} {ifs : List Expr} {scope : Scope} {own : List (Str × Nat)} {pos spos p : Pos} {g : TG} {gd : DG} {tt : DT} {te : DE} {x : Str} {j : Nat}
theorem ps_orLock {st : Stmt} {t : TS} (h : PS X st t) : PS X st fun D σ H => tLock t D σ H ∨ t D σ H := ⟨fun pins s σ H D I hw => by
  rcases hw with hw | hw
  · exact (ps_lock h).run pins s σ H D I hw
  · exact h.run pins s σ H D I hw⟩
theorem pev (j : Nat) {x : Str} {pos : Pos} (hN : X.N[j]? = some x := by rfl) (hv : Vis X.env.scope x := by first | exact Or.inl rfl | exact Or.inr (Or.inl rfl) | exact Or.inr (Or.inr rfl)) (hd : (x == ("__debug__" : Str)) = false := by decide)
    (hcd : (x == ("__classdict__" : Str)) = false := by decide) : PE X (.Name x pos) (tVar j) := pe_var hN hv hd hcd
theorem s_setLcK {i : Nat} {y : Str} {py : Pos} (hP : C.Tags P) (hc : X.calm = true) (hN : X.N.Nodup) (hv : PE X (.Name x p) (tVar j)) (ok : BlkOk X.N X.env.scope scope own)
    (hg : ∀ (s : Shared) (H : Hp) (Ca : Addr) (cl : List (Str × Addr)) (fp : List Addr), PG (X.blk s H scope (compEnvC scope cl Ca X.env) fp) tg g) (tgk : TgtOk X.K P (own.map (·.2)) g gd)
    (ht : ∀ (s : Shared) (H : Hp) (Ca : Addr) (cl : List (Str × Addr)) (fp : List Addr) (C' : FC), C'.Tags P → QTs (X.blk s H scope (compEnvC scope cl Ca X.env) fp) C' ifs tt)
    (he : ∀ (s : Shared) (H : Hp) (Ca : Addr) (cl : List (Str × Addr)) (fp : List Addr) (C' : FC), C'.Tags P → QE (X.blk s H scope (compEnvC scope cl Ca X.env) fp) C' elt te)
    (hsw : swapsWith (.ListComp elt [⟨tg, .Name x p, ifs, 0⟩] scope pos) (some (.Name y py)) spos.line X.env = pure true) (hy : X.N[i]? = some y := by rfl) (hyl : X.env.scope.names.lookup y = some .local := by rfl)
    (hvs : ∀ v ∈ own.map (·.2), P[v]? ≠ some true := by decide) (hp : P[i]? ≠ some true := by decide) (hs : ∀ z, foldedSetIterable (.Name x p) X.env z = pure z := by intro _; rfl) :
    QS X C (.Assign [.Name y py] (.ListComp elt [⟨tg, .Name x p, ifs, 0⟩] scope pos) spos) (dSet P i (dFroz (dLcK P j gd tt te (own.map (·.2))))) :=
  QS.of (ps_orLock (ps_setLc hc hN hy hyl hsw (pi_keys hv) ok hg (fun s H Ca cl fp => pts' (ht s H Ca cl fp)) (fun s H Ca cl fp => pe' (he s H Ca cl fp)) hs)) fun D σ H ⟨F, ρ, E, S, h, okE⟩ =>
    lcK_low hP tgk hvs S h fun d ρ1 F1 H1 a hq S1 s1 fr => by
      obtain ⟨F2, s2, S2, r⟩ := S1.froze fr
      exact okE.nx _ _ _ _ hq (setF' S2 (noP hP hp) r) (s1.trans s2)
end
end Dv

set_option Elab.async false
set_option linter.all false
set_option maxRecDepth 100000
/-! ### sorted(xs) of tuples whose heads are unlike: what stands behind the heads is not asked -/
namespace PySem.W
open PySem PySem.Calls PyProof.Rows
/-- two tuples are alike, or their heads are alike and not equal -/
def NearD (d e : PyData) : Prop := alike d e = true ∨ ∃ x r y t, d = .tuple (x :: r) ∧ e = .tuple (y :: t) ∧ alike x y = true ∧ PyData.eqv x y = false
def AllNear (ds : List PyData) : Prop := ∀ d, d ∈ ds → ∀ e, e ∈ ds → NearD d e
theorem near_unique {h : Heap} {d e : PyData} {v : Value} {as bs : List Addr} (n : NearD d e) (ra : Reads h v d as) (rb : Reads h v e bs) : d = e := by
  rcases n with n | ⟨x, r, y, t, rfl, rfl, n1, n2⟩
  · exact alike_unique _ _ _ _ _ n ra rb
  · exfalso
    cases ra with
    | @tuple l o vs m _ _ g1 g2 g3 g4 =>
      cases rb with
      | @tuple _ o' vs' m' _ _ k1 k2 k3 k4 =>
        rw [g1] at k1; cases k1
        rw [g3] at k3; cases k3
        cases g4' : vs.toList with
        | nil => rw [g4'] at g4; cases g4
        | cons f fr =>
          rw [g4'] at g4 k4
          cases g4 with
          | cons a1 a2 =>
            cases k4 with
            | cons b1 b2 =>
              have := alike_unique _ _ _ _ _ n1 a1 b1
              subst this
              rw [eqv_refl_alike x n1] at n2
              cases n2
theorem near_key {h : Heap} {ds : List PyData} (hal : AllNear ds) {v : Value} {d : PyData} {as : List Addr} (hd : d ∈ ds) (r : Reads h v d as) : (dataKind h ds).keyOf v = some (keyToks d) := by
  have q : ∃ e, e ∈ ds ∧ ∃ as, Reads h v e as := ⟨d, hd, as, r⟩
  have z : (dataKind h ds).keyOf v = some (keyToks q.choose) := by
    show (open Classical in if q : ∃ e, e ∈ ds ∧ ∃ as, Reads h v e as then some (keyToks q.choose) else none) = _
    rw [dif_pos q]
  obtain ⟨h1, cs, h2⟩ := q.choose_spec
  rw [z, near_unique (hal _ h1 _ hd) h2 r]
section
variable {prog : Program} {w : World} {A : Around} {E : Value → Shared → Prop} {s : Shared}
theorem near_sorts {vs : List Value} {ds : List PyData} (e : EachIs (fun v d => ∃ as, Reads s.heap v d as) vs ds) (hal : AllNear ds) (ht : ∀ d, d ∈ ds → ∃ x r, d = .tuple (x :: r)) (hu : ∀ d, d ∈ ds → A.units + d.depth < cLine) : SortsAt prog w A s (dataKind s.heap ds) vs := by
  refine ⟨fun v hv => ?_, ?_⟩
  · obtain ⟨d, hd, as, r⟩ := e.left v hv
    exact ⟨_, near_key hal hd r⟩
  cases ds with
  | nil =>
    cases e
    exact ⟨general', fun E x y a b Q ha _ _ => (by
      obtain ⟨d, _, hd, _⟩ := dataKind_inv ha
      exact absurd hd (by simp)), fun h2 => absurd h2 (by simp)⟩
  | cons d₀ ds₀ =>
    obtain ⟨x₀, r₀, e₀⟩ := ht d₀ List.mem_cons_self
    have heads : ∀ x r, PyData.tuple (x :: r) ∈ d₀ :: ds₀ → alike x x₀ = true := fun x r hm => by
      rcases hal _ hm d₀ List.mem_cons_self with q | ⟨x', r', y, t, q1, q2, q3, _⟩
      · rw [e₀] at q
        exact (alike_all_cons (by simpa [alike] using q)).1
      · cases q1
        rw [e₀] at q2
        cases q2
        exact q3
    refine ⟨tuples' (dataType x₀ != Value.type "tuple"), fun E x y a b Q ha hb hq => ?_, fun h2 E Q hq => ?_⟩
    · obtain ⟨d, as, hd, ra, rfl⟩ := dataKind_inv ha
      obtain ⟨d', as', hd', rb, rfl⟩ := dataKind_inv hb
      obtain ⟨x1, r1, rfl⟩ := ht d hd
      obtain ⟨x2, r2, rfl⟩ := ht d' hd'
      have hroom : A.units + min (PyData.tuple (x1 :: r1)).depth (PyData.tuple (x2 :: r2)).depth < cLine := Nat.lt_of_le_of_lt (Nat.add_le_add_left (Nat.min_le_left _ _) _) (hu _ hd)
      have hq' : Q (dataLt (.tuple (x1 :: r1)) (.tuple (x2 :: r2))) s := hq
      rw [dataLt_tuple] at hq'
      have hnt : (dataType x₀ != Value.type "tuple") = true → ∀ t, x1 ≠ .tuple t := fun hb t => by
        have q := dataType_alike (heads _ _ hd)
        rw [← q] at hb
        exact dataType_tuple hb t
      cases ra with
      | @tuple l o xs n _ _ h1 h2 h3 h4 =>
        cases rb with
        | @tuple l' o' xs' n' _ _ k1 k2 k3 k4 =>
          have n1 : xs.size = (x1 :: r1).length := by simpa using SeqAt.ReadsAll.length _ _ _ h4
          have n2 : xs'.size = (x2 :: r2).length := by simpa using SeqAt.ReadsAll.length _ _ _ k4
          refine kat_lt h1 h3 k1 k3 ?_
          rcases hal _ hd _ hd' with hdd | ⟨x, r, y, t, q1, q2, q3, q4⟩
          · exact katLex_alike (x1 :: r1) (x2 :: r2) 0 _ _ _ _ h4 k4 (by simpa [alike] using hdd) (by have q := SeqAt.room_in hroom; omega) (fun hb _ x r t ex => by
              obtain ⟨rfl, rfl⟩ := List.cons.inj ex
              exact hnt hb t) (by rw [n1, n2]) hq'
          · cases q1
            cases q2
            have hr2 : A.units + min (PyData.depthAll (x1 :: r1)) (PyData.depthAll (x2 :: r2)) < cLine := by have q := SeqAt.room_in hroom; omega
            have hhd : A.units + min x1.depth x2.depth < cLine := by
              have e1 : x1.depth ≤ PyData.depthAll (x1 :: r1) := by simp only [PyData.depthAll]; omega
              have e2 : x2.depth ≤ PyData.depthAll (x2 :: r2) := by simp only [PyData.depthAll]; omega
              omega
            cases ex : xs.toList with
            | nil => rw [ex] at h4; cases h4
            | cons f fr =>
              cases ey : xs'.toList with
              | nil => rw [ey] at k4; cases k4
              | cons g gr =>
                rw [ex] at h4
                rw [ey] at k4
                cases h4 with
                | cons a1 a2 =>
                  cases k4 with
                  | cons b1 b2 =>
                    rw [List.zip_cons_cons]
                    refine kat_cons (eqAt_alike x1 x2 A s _ _ _ _ a1 b1 q3 hhd prog w _ _ ?_)
                    rw [dataLt_all_no q3 q4] at hq'
                    rw [q4]
                    exact kat_no (oneLt_alike (fun hbi t => hnt (by simpa using hbi) t) a1 b1 q3 (ne_none_of q3 q4) hhd hq')
    · obtain ⟨fs, t1, t2, t3⟩ := each_katTups e ht
      refine kat_kind (T := dataType x₀) t1 (by omega) (fun f hf => ?_) (beq_self_eq_true _) hq
      obtain ⟨x, r, as, m1, m2⟩ := t3 f hf
      rw [← dataType_alike (heads x r m1)]
      exact looks_reads m2
theorem near_sorted {β : Type} {vs : List Value} {bs : List β} {enc : β → PyData} {R : Value → β → Prop} {l : Addr} {Q : Value → Shared → Prop} (hl : s.heap.IsList l vs.toArray) (e : EachIs R vs bs) (er : EachIs (fun v b => ∃ as, Reads s.heap v (enc b) as) vs bs) (hal : AllNear (bs.map enc)) (ht : ∀ d, d ∈ bs.map enc → ∃ x r, d = .tuple (x :: r)) (hL : bs.length ≤ sizeLine)
    (hu : ∀ b, b ∈ bs → A.units + 2 + (enc b).depth < cLine) (h : ∀ out, out.length = bs.length → EachIs R out (bs.mergeSort (dataLe false enc)) → Q (.ref (s.heap.objs.size + 1)) { s with heap := sortedAll s.heap vs (List.toArray out) }) :
    wpAny (model prog w) A (call (.builtin "sorted") [.ref l]) Q E s := by
  have er' : EachIs (fun v b => ∃ as, Reads (sortingHeap (copyHeap s.heap vs) (s.heap.objs.size + 1) vs) v (enc b) as) vs bs := er.mono fun _ _ ⟨as, r⟩ => ⟨as, PyProof.Rows.Reads.keeps (fun _ _ => sorting_copy_old) r⟩
  have em := each_map (R := fun v d => ∃ as, Reads (sortingHeap (copyHeap s.heap vs) (s.heap.objs.size + 1) vs) v d as) enc er'
  refine sorted_vals hl (near_sorts (s := { s with heap := sortingHeap (copyHeap s.heap vs) (s.heap.objs.size + 1) vs }) em hal ht (bound_map hu)) (by rw [e.length]; exact hL) (h _ (by rw [sortVals_length false rfl]; exact e.length) ?_)
  exact sortVals_each (κ := dataKind _ (bs.map enc)) (fun b => keyToks (enc b)) e (each_of_map enc ((each_mem em).mono fun _ _ ⟨⟨_, r⟩, hd⟩ => near_key hal hd r))
end
end PySem.W
namespace Dv
open PySem PySem.Spec PyProof.Rows L2
structure SrtN (xs : List PyData) : Prop where
  al : PySem.W.AllNear xs
  tu : ∀ d, d ∈ xs → ∃ x r, d = .tuple (x :: r)
  ln : xs.length ≤ 16777216
  sh : ∀ d ∈ xs, Shp 60 d
def sortedDn : OpNL := fun ds k => match ds with
  | [.list xs] => SrtN xs ∧ k (sortD xs)
  | _ => False
def rSortDn (K : PySem.W.Frag) : List V → Hp → VK → Prop := fun vs H Q => ∃ (a : Addr) (xs : List V) (ds : List PyData), vs = [.ref a] ∧ SqL K H a xs ∧ DpAll K H xs ds ∧ PySem.W.AllNear ds ∧ (∀ d, d ∈ ds → ∃ x r, d = .tuple (x :: r)) ∧ ds.length ≤ sizeLine ∧ (∀ d ∈ ds, PyData.depth d ≤ 60) ∧
  ∀ p, H p = none → Q (.ref p) (upd H p (.lst (((xs.zip ds).mergeSort (PySem.W.dataLe false Prod.snd)).map Prod.fst)))
theorem dp_len {K : PySem.W.Frag} {H : Hp} : ∀ {xs : List V} {ds : List PyData}, DpAll K H xs ds → xs.length = ds.length
  | _, _, .nil => rfl
  | _, _, .cons _ t => by rw [List.length_cons, List.length_cons, dp_len t]
theorem cr_sortDn {X : Cx} (hu : X.A.units + 65 < cLine) : CallR X (.builtin "sorted") (rSortDn X.K) := by
  intro pins s σ H vs us Q I r h
  obtain ⟨a, xs, ds, rfl, hs, hd, hal, hk, hlen, hdep, q⟩ := h
  obtain ⟨its, rv, hl, _⟩ := I.list hs
  rw [Vals.ref1 r]
  obtain ⟨e1, e2⟩ := each_zip I rv hd
  have hxd := dp_len hd
  have em : (xs.zip ds).map Prod.snd = ds := List.map_snd_zip (by omega)
  refine PySem.W.near_sorted (enc := Prod.snd) hl.isList e1 e2 (by rw [em]; exact hal) (by rw [em]; exact hk) (by simp; omega) (fun b hb => ?_) fun out ho eo => ?_
  · have := hdep b.2 (by rw [← em]; exact List.mem_map.mpr ⟨b, hb, rfl⟩)
    omega
  · obtain ⟨ep, he'⟩ := PyProof.Rows.sortedAll_at s.heap its out.toArray
    exact ⟨.ref _, upd H (s.heap.objs.size + 1) (.lst _), I.laid (t' := s.toks) (fun _ _ => PyProof.Rows.sortedAll_old) (Nat.le_succ _) ⟨by simp; omega, out, ep, each_vals eo, he'⟩, rfl, q _ (I.hok.fresh (Nat.le_succ _))⟩
section
variable {X : Cx} {C : FC} {a : Expr} {tA : DA} {p pos : Pos} {k : Nat}
theorem o_sortedDn (hr : Room k X.A) (hm : X.mg "sorted" = none) (ha : QA X C [a] tA) (hg : Gl X "sorted" := by rfl)
    (he : starEach [a] X.env = (false, eval a X.env) :: starEach [] X.env := by rfl) (hpl : (backTo pos (starEach [] X.env)).any (·.1) = false := by rfl) : QO X C (.Call (.Name "sorted" p) [a] [] pos) (dCBL sortedDn tA) :=
  o_callB (cr_sortDn (by have := hr.un; omega)) (fun F H vs ds q Q s v w k => by
    match ds, v, w with
    | [.list xs], v, w =>
      obtain ⟨v, e, b, ys, e2, h, r⟩ := va1 v
      subst e e2
      obtain ⟨hs, f⟩ := w
      have hcan : PyData.canLayAll0 xs = true := canAll_iff.mpr fun d hd => (hs.sh d hd).can
      refine ⟨b, ys, xs, rfl, h, r.dp s hcan, hs.al, hs.tu, hs.ln, fun d hd => (hs.sh d hd).dep, fun p hp => ?_⟩
      have em : (ys.zip xs).map Prod.snd = xs := List.map_snd_zip (by rw [r.length]; exact Nat.le_refl _)
      have e : ((ys.zip xs).mergeSort (PySem.W.dataLe false Prod.snd)).map Prod.snd = sortD xs := by
        have z := PySem.W.sort_maps (r := PySem.W.dataLe false (Prod.snd : V × PyData → PyData)) (s := PySem.W.dataLe false id) Prod.snd (l := ys.zip xs) (fun _ _ _ _ => rfl)
        rw [em] at z
        exact z
      refine k _ _ p f hp ?_
      rw [← e]
      exact repAll_of fun c hc => repAll_zip r c ((List.mergeSort_perm _ _).mem_iff.mp hc)) hm (by decide +kernel) ha hg (by decide) (by decide) he hpl
end
end Dv

set_option Elab.async false
set_option linter.all false
set_option maxRecDepth 100000
namespace Dv
open PySem PySem.Spec L2
/-! ### xs.pop(i) -/
def popAtD : OpM := fun d ds k => match d, ds with
  | .list xs, [.int i] => xs.length ≤ big ∧ 0 ≤ i ∧ match xs[i.toNat]? with
    | some y => k (.list (xs.eraseIdx i.toNat)) y
    | none => False
  | _, _ => False
section
variable {X : Cx} {C : FC} {P : List Bool} {x : Str} {i k : Nat} {e : Expr} {tA : DA} {p apos cpos pos : Pos}
theorem ok_popAt : MutOk X rPopAt popAtD := fun F H a vs d ds q Q s hF hO r w k => by
  match d, ds, hO, r, w with
  | .list xs, [.int i], hO, r, w =>
    obtain ⟨us, e, ru⟩ := hO
    obtain ⟨v, e1, rv⟩ := ra1 r
    subst e1
    cases rv
    obtain ⟨hl, h0, w⟩ := w
    have w : (match xs[i.toNat]? with | some y => q (.list (xs.eraseIdx i.toNat)) y | none => False) := w
    cases z : xs[i.toNat]? with
    | none => rw [z] at w; exact w.elim
    | some y =>
      rw [z] at w
      obtain ⟨v, hv, rv⟩ := ru.get z
      have hlt := (List.getElem?_eq_some_iff.mp z).1
      have hll := le_line hl
      have hb : sizeLine ≤ 2 ^ 40 := by decide
      refine ⟨a, us, i, i.toNat, v, rfl, rfl, e, by omega, by omega, ?_, hv, k _ _ _ _ w ⟨_, upd_same, ru.eraseIdx _⟩ rv⟩
      rw [ru.length]
      unfold seqIndex?
      simp
      omega
theorem m_popAt (hP : C.Tags P) (ha : QA X C [e] tA) (hN : X.N[i]? = some x := by rfl) (hvis : Vis X.env.scope x := by first | exact Or.inl rfl | exact Or.inr (Or.inl rfl) | exact Or.inr (Or.inr rfl)) (hd : (x == ("__debug__" : Str)) = false := by decide) (hcd : (x == ("__classdict__" : Str)) = false := by decide)
    (hbase : attributeBase (.Name x p) "pop" X.env (eval (.Name x p) X.env) = eval (.Name x p) X.env := by rfl)
    (hfew : ((backTo cpos (starEach [e] X.env)).all (fun x => !x.1) && (backToKw cpos (keywordEach [] X.env)).all (fun x => x.1.isSome)
      && decide ([e].length + ([] : List Keyword).length + (if ([] : List Keyword).isEmpty then 0 else 1) < 30)) = true := by rfl)
    (hline : (apos.endLine == cpos.line) = true := by rfl) (hs : starEach [e] X.env = (false, eval e X.env) :: starEach [] X.env := by rfl) (hplain : (backTo cpos (starEach [] X.env)).any (·.1) = false := by rfl) :
    QE X C (.Call (.Attribute (.Name x p) "pop" apos) [e] [] cpos) (dMut P "list" i popAtD tA) :=
  m_mut hP PySem.F.plainAttrs_list PySem.F.slot_list_pop PySem.F.type_list_pop mt_popAt ok_popAt ha (pe_var hN hvis hd hcd) hbase hfew hline hs hplain
/-! ### dict(a list of pairs) -/
def pairsD : List PyData → Option (List (Key × PyData))
  | [] => some []
  | .tuple [a, b] :: xs => match keyD a, pairsD xs with
    | some q, some ps => some ((q, b) :: ps)
    | _, _ => none
  | _ => none
def dDictP (t : DA) : DO := fun ρ Q => t ρ fun os ρ1 => withAll ρ1 os fun ds => match ds with
  | [.list xs] => match pairsD xs with
    | some ps => Q (.dict (mergeD [] ps)) ρ1
    | none => False
  | _ => False
theorem pairs_rep {K : PySem.W.Frag} {F : Hp} : ∀ {us : List V} {xs : List PyData} {ps : List (Key × PyData)}, RepAll K F us xs → pairsD xs = some ps → ∃ (as : List Addr) (kvs : List (Key × V)), us = as.map V.ref ∧ Paired (fun p kv => SqT K F p [kV kv.1, kv.2]) as kvs ∧ RepPs K F kvs ps
  | _, _, ps, .nil, h => by
    simp [pairsD] at h
    subst h
    exact ⟨[], [], rfl, .nil, .nil⟩
  | _, _, ps, .cons (v := v) (d := d) r t, h => by
    unfold pairsD at h
    split at h
    · cases ‹_ :: _ = []›
    · rename_i a b xs' he
      cases he
      split at h
      · rename_i q ps' hq hps
        cases h
        obtain ⟨as, kvs, rfl, h2, h3⟩ := pairs_rep t hps
        cases r with
        | tup hs hr =>
          cases hr with
          | cons r1 hr =>
            cases hr with
            | cons r2 hr =>
              cases hr
              rename_i a0 v1 v2
              have e1 : v1 = kV q := by cases r1 <;> simp [keyD] at hq <;> subst hq <;> rfl
              subst e1
              exact ⟨a0 :: as, (q, v2) :: kvs, rfl, .cons hs h2, .cons r2 h3⟩
      · cases h
    · cases h
theorem Paired.imp' {α β : Type} {F G : α → β → Prop} (h : ∀ a b, F a b → G a b) : ∀ {l : List α} {m : List β}, Paired F l m → Paired G l m
  | _, _, .nil => .nil
  | _, _, .cons a t => .cons (h _ _ a) (Paired.imp' h t)
theorem o_dictP (hc : X.calm = true) (hm : X.mg "dict" = none) (ha : QA X C [e] tA) (hg : Gl X "dict" := by rfl)
    (he : starEach [e] X.env = (false, eval e X.env) :: starEach [] X.env := by rfl) (hpl : (backTo pos (starEach [] X.env)).any (·.1) = false := by rfl) : QO X C (.Call (.Name "dict" p) [e] [] pos) (dDictP tA) :=
  QO.of (pe_callTy (call_dictP hc) hg hm (by decide +kernel) ha.pa (by decide) (by decide) he hpl) fun σ H Q ⟨F, ρ, q, S, ht, k⟩ => by
    refine ⟨F, ρ, _, S, ht, fun os ρ1 F1 H1 vs h1 S1 s1 d1 => ?_⟩
    obtain ⟨ds, v1, w1⟩ := S1.seeAll d1 h1
    match ds, v1, w1 with
    | [.list xs], v1, w1 =>
      have w1 : (match pairsD xs with | some ps => q (.dict (mergeD [] ps)) ρ1 | none => False) := w1
      obtain ⟨v, e, b, us, e2, h, r⟩ := va1 v1
      subst e e2
      cases z : pairsD xs with
      | none => rw [z] at w1; exact w1.elim
      | some ps =>
        rw [z] at w1
        obtain ⟨as, kvs, rfl, h2, h3⟩ := pairs_rep r z
        refine ⟨b, as, kvs, rfl, h, Paired.imp' (fun _ _ x => sqT_mono S1.sub x) h2, fun p hp => ?_⟩
        obtain ⟨S3, fr⟩ := S1.layD hp (h3.merge .nil)
        exact k _ _ _ _ _ w1 S3 s1 fr
/-! ### repr(a dict) -/
theorem key_reads {P : Program} {w : World} {h : Heap} (q : Key) (u : Value) (hq : (mixKind P w).is q u = true) : Reads h u (kD q) [] := by
  rcases keyIs_shape hq with ⟨i, t, rfl, rfl⟩ | ⟨x, t, rfl, rfl⟩
  · exact Reads.int i t
  · exact Reads.str x t
theorem flat_pairs {K : PySem.W.Frag} {F : Hp} {h : Heap} : ∀ {ks : List (Key × V)} {ds : List (PyData × PyData)} {vs : List (Key × Value)}, RepKV K F ks ds → (ds.all fun p => flatD p.2) = true → KV ks vs → PyProof.V.PairsRead h kD vs ds []
  | _, _, _, .nil, _, .nil => .nil
  | _, _, _, .cons r t, hf, .cons (b := b) hb tb => by
    rw [List.all_cons, Bool.and_eq_true] at hf
    obtain ⟨q, u⟩ := b
    obtain ⟨e, ru⟩ := hb
    simp only at e ru
    subst e
    have ih := flat_pairs (h := h) t hf.2 tb
    cases r with
    | non => cases ru; exact .cons (as := []) Reads.none ih
    | bl b => cases ru; exact .cons (as := []) (Reads.bool _) ih
    | int i => obtain ⟨t, rfl⟩ := ru; exact .cons (as := []) (Reads.int _ _) ih
    | str x => obtain ⟨t, rfl⟩ := ru; exact .cons (as := []) (Reads.str _ _) ih
    | _ => exact absurd hf.1 (by simp [flatD])
def rReprK (K : PySem.W.Frag) : List V → Hp → VK → Prop := fun vs H Q => ∃ (a : Addr) (ks : List (Key × V)) (ds : List (PyData × PyData)) (F : Hp), vs = [.ref a] ∧ Rd H a (.dK ks) ∧ RepKV K F ks ds ∧ (ds.all fun p => flatD p.2) = true ∧ (PyData.dict ds).showable = true ∧ (PyData.dict ds).depth ≤ 60 ∧ (PyData.dict ds).shown.length ≤ sizeLine ∧ Q (.str (PyData.dict ds).shown) H
theorem cr_reprK (hg : X.A.guards = some []) (hu : X.A.units + 65 < cLine) : CallR X (.builtin "repr") (rReprK X.K) := by
  intro pins s σ H vs us Q I r h
  obtain ⟨a, ks, ds, F, rfl, hrd, rep, hf, sh, dep, sz, q⟩ := h
  obtain ⟨u, rfl, ru⟩ := vals1 r
  cases ru
  obtain ⟨_, hne, ws, kv, dd⟩ := dk_rd I.hok hrd
  have rd := PyProof.V.reads_dictOf key_reads dd (flat_pairs (h := s.heap) rep hf kv)
  have nod : (PyData.dict ds).hasDict = true → sysModules ∉ [a] := fun _ hm => by
    rw [List.mem_singleton] at hm
    exact (beq_eq_false_iff_ne.mp hne) hm.symm
  exact repr_of_reads' rd sh nod hg (by omega) (fun _ _ e => e) (fun h' t tk hk => ⟨.str _, H, I.kept (t' := tk) hk, ⟨t, rfl⟩, q⟩) sz
structure ShoK (kvs : List (PyData × PyData)) : Prop where
  ky : keysK kvs = true
  fl : (kvs.all fun p => flatD p.2) = true
  ok : (PyData.dict kvs).showable = true
  dp : (PyData.dict kvs).depth ≤ 60
  sz : (PyData.dict kvs).shown.length ≤ 16777216
def reprKD : OpN := fun ds k => match ds with
  | [.dict kvs] => ShoK kvs ∧ k (.str (PyData.dict kvs).shown)
  | _ => False
theorem q_reprK (hr : RG k X.A) (hm : X.mg "repr" = none) (ha : QA X C [e] tA) (hg : Gl X "repr" := by rfl)
    (he : starEach [e] X.env = (false, eval e X.env) :: starEach [] X.env := by rfl) (hpl : (backTo pos (starEach [] X.env)).any (·.1) = false := by rfl) : QE X C (.Call (.Name "repr" p) [e] [] pos) (dCB reprKD tA) :=
  q_callB (cr_reprK hr.g (by have := hr.r.un; omega)) (fun F H vs ds q Q s v w k => by
    match ds, v, w with
    | [.dict kvs], v, w =>
      obtain ⟨v, e, b, e2, ⟨ks, h, r⟩ | ⟨w0, ks, n, h, r⟩ | hx⟩ := va1 v
      · subst e e2
        exact ⟨b, ks, kvs, F, rfl, h, r, w.1.fl, w.1.ok, w.1.dp, w.1.sz, k _ _ _ _ w.2 (Gr.refl s) (.str _)⟩
      · have := w.1.ky
        rw [RepNK.keysK r n] at this
        cases this
      · have := w.1.ky
        rw [hx.keysK] at this
        cases this) hm (by decide +kernel) ha hg (by decide) (by decide) he hpl
end
end Dv

set_option Elab.async false
set_option linter.all false
set_option maxRecDepth 100000
namespace Dv
open PySem PySem.Spec L2
section
variable {X : Cx} {C : FC} {P : List Bool} {x : Str} {i k : Nat} {a b e o : Expr} {ta tb to te : DE} {tA : DA} {p apos cpos pos : Pos}
/-! ### x in l, items of any depth -/
def inDD (pol : Bool) : Op2 := fun d e k => match e with
  | .list ds => shp d ∧ shp (.list ds) ∧ k (.bool (if pol then ds.any fun z => PyData.eqv z d else !ds.any fun z => PyData.eqv z d))
  | _ => False
theorem ok_inD : OpOk X (rInD X.K) (inDD true) := fun F H x y d e q Q s v1 v2 w k => by
  cases e with
  | list ds => exact ⟨d, ds, v1.dp s (SeqAt.canLay_of_shaped w.1), v2.dp s (SeqAt.canLay_of_shaped w.2.1), w.1, w.2.1, k _ _ _ _ w.2.2 (Gr.refl s) (.bl _)⟩
  | _ => exact w.elim
theorem ok_notInD : OpOk X (rNotInD X.K) (inDD false) := fun F H x y d e q Q s v1 v2 w k => by
  cases e with
  | list ds => exact ⟨d, ds, v1.dp s (SeqAt.canLay_of_shaped w.1), v2.dp s (SeqAt.canLay_of_shaped w.2.1), w.1, w.2.1, k _ _ _ _ w.2.2 (Gr.refl s) (.bl _)⟩
  | _ => exact w.elim
theorem q_inD (hr : Room k X.A) (ha : QE X C a ta) (hb : QE X C b tb) (hm : behindInMarks .In b = false := by rfl) : QE X C (.Compare a [.In] [b] pos) (dBin (inDD true) ta tb) := q_cmp (op_inD (by have := hr.un; omega)) ok_inD ha hb hm
theorem q_notinD (hr : Room k X.A) (ha : QE X C a ta) (hb : QE X C b tb) (hm : behindInMarks .NotIn b = false := by rfl) : QE X C (.Compare a [.NotIn] [b] pos) (dBin (inDD false) ta tb) := q_cmp (op_notInD (by have := hr.un; omega)) ok_notInD ha hb hm
theorem t_inD (hr : Room k X.A) (ha : QE X C a ta) (hb : QE X C b tb) (hm : behindInMarks .In b = false := by rfl) : QT X C (.Compare a [.In] [b] pos) (dTest (dBin (inDD true) ta tb)) := t_cmp (op_inD (by have := hr.un; omega)) ok_inD ha hb hm
theorem t_notinD (hr : Room k X.A) (ha : QE X C a ta) (hb : QE X C b tb) (hm : behindInMarks .NotIn b = false := by rfl) : QT X C (.Compare a [.NotIn] [b] pos) (dTest (dBin (inDD false) ta tb)) := t_cmp (op_notInD (by have := hr.un; omega)) ok_notInD ha hb hm
/-! ### l.count(n) of numbers -/
def countD : OpN := fun ds k => match ds with
  | [.list xs, .int n] => match intsD xs with
    | some ns => k (.int (ns.count n : Nat))
    | none => False
  | _ => False
theorem ints_vals {K : PySem.W.Frag} {F : Hp} : ∀ {us : List V} {xs : List PyData} {ns : List Int}, RepAll K F us xs → intsD xs = some ns → us = ns.map V.int
  | _, _, ns, .nil, h => by simp [intsD] at h; subst h; rfl
  | _, _, ns, .cons r t, h => by
    cases r with
    | int i =>
      simp only [intsD] at h
      cases z : intsD _ with
      | none => rw [z] at h; cases h
      | some ms =>
        rw [z] at h
        cases h
        rw [ints_vals t z]
        rfl
    | _ => simp [intsD] at h
theorem ok_count : MtOk X (rCntI X.K) countD := fun F H v vs d ds q Q s w0 w1 w k => by
  cases d with
  | list xs =>
    cases w1 with
    | nil => exact w.elim
    | @cons v1 _ d1 _ hv hr =>
      cases hr with
      | cons _ _ => cases d1 <;> exact w.elim
      | nil =>
        cases d1 with
        | int n =>
          have w : (match intsD xs with | some ns => q (.int (ns.count n : Nat)) | none => False) := w
          cases z : intsD xs with
          | none => rw [z] at w; exact w.elim
          | some ns =>
            rw [z] at w
            obtain ⟨a, us, e, h1, r⟩ := w0
            subst e
            have := ints_vals r z
            subst this
            rw [view_int hv]
            exact ⟨a, ns, n, rfl, rfl, h1, k _ _ _ _ w (Gr.refl s) (.int _)⟩
        | _ => exact w.elim
  | _ => exact w.elim
theorem q_count (ho : QE X C o to) (ha : QA X C [e] tA) (hbase : attributeBase o "count" X.env (eval o X.env) = eval o X.env := by rfl)
    (hfew : ((backTo cpos (starEach [e] X.env)).all (fun x => !x.1) && (backToKw cpos (keywordEach [] X.env)).all (fun x => x.1.isSome)
      && decide ([e].length + ([] : List Keyword).length + (if ([] : List Keyword).isEmpty then 0 else 1) < 30)) = true := by rfl)
    (hline : (apos.endLine == cpos.line) = true := by rfl) (hs : starEach [e] X.env = (false, eval e X.env) :: starEach [] X.env := by rfl) (hplain : (backTo cpos (starEach [] X.env)).any (·.1) = false := by rfl) :
    QE X C (.Call (.Attribute o "count" apos) [e] [] cpos) (dBM "list" countD to tA) :=
  m_look PySem.F.plainAttrs_list PySem.F.slot_list_count PySem.F.type_list_count mt_lcount ok_count ho ha hbase hfew hline hs hplain
/-! ### dict(d) -/
def dDictD (t : DA) : DO := fun ρ Q => t ρ fun os ρ1 => withAll ρ1 os fun ds => match ds with
  | [.dict kvs] => keysK kvs = true ∧ Q (.dict kvs) ρ1
  | _ => False
theorem o_dictD (hm : X.mg "dict" = none) (ha : QA X C [e] tA) (hg : Gl X "dict" := by rfl)
    (he : starEach [e] X.env = (false, eval e X.env) :: starEach [] X.env := by rfl) (hpl : (backTo pos (starEach [] X.env)).any (·.1) = false := by rfl) : QO X C (.Call (.Name "dict" p) [e] [] pos) (dDictD tA) :=
  QO.of (pe_callTy call_dictD hg hm (by decide +kernel) ha.pa (by decide) (by decide) he hpl) fun σ H Q ⟨F, ρ, q, S, ht, k⟩ => by
    refine ⟨F, ρ, _, S, ht, fun os ρ1 F1 H1 vs h1 S1 s1 d1 => ?_⟩
    obtain ⟨ds, v1, w1⟩ := S1.seeAll d1 h1
    match ds, v1, w1 with
    | [.dict kvs], v1, w1 =>
      obtain ⟨v, e, b, e2, ⟨ks, h, r⟩ | ⟨w0, ks, n, h, r⟩ | hx⟩ := va1 v1
      · subst e e2
        refine ⟨b, ks, rfl, h, fun p hp => ?_⟩
        obtain ⟨S3, fr⟩ := S1.layD hp r
        exact k _ _ _ _ _ w1.2 S3 s1 fr
      · have := w1.1
        rw [RepNK.keysK r n] at this
        cases this
      · have := w1.1
        rw [hx.keysK] at this
        cases this
/-! ### d.get(k) -/
def isDictK : PyData → Prop
  | .dict kvs => keysK kvs = true
  | _ => False
def getD : Op2 := fun d e k => match d with
  | .dict kvs => match keyG kvs e with
    | some q => k ((lookD kvs q).getD .none)
    | none => False
  | _ => False
def dGet (to te : DE) : DE := fun ρ Q => to ρ fun o1 ρ1 => withO ρ1 o1 fun d0 => isDictK d0 ∧ te ρ1 fun o2 ρ2 => withO ρ2 o1 fun d => withO ρ2 o2 fun e => getD d e fun g => Q (.val g) ρ2
theorem view_isD {K : PySem.W.Frag} {F H : Hp} {v : V} {d : PyData} (w : View K F H v d) (h : isDictK d) : ∃ a, v = .ref a ∧ IsD H a := by
  cases d with
  | dict kvs =>
    obtain ⟨b, e2, ⟨ks, h1, r⟩ | ⟨w0, ks, n, h1, r⟩ | hx⟩ := w
    · exact ⟨b, e2, .inl ⟨ks, h1⟩⟩
    · have h : keysK kvs = true := h
      rw [RepNK.keysK r n] at h
      cases h
    · have h : keysK kvs = true := h
      rw [hx.keysK] at h
      cases h
  | _ => exact h.elim
theorem q_get (hr : Room k X.A) (ho : QE X C o to) (he : QE X C e te) (hbase : attributeBase o "get" X.env (eval o X.env) = eval o X.env := by rfl)
    (hfew : ((backTo cpos (starEach [e] X.env)).all (fun x => !x.1) && (backToKw cpos (keywordEach [] X.env)).all (fun x => x.1.isSome)
      && decide (([e] : List Expr).length + ([] : List Keyword).length + (if ([] : List Keyword).isEmpty then 0 else 1) < 30)) = true := by rfl)
    (hline : (apos.endLine == cpos.line) = true := by rfl) (htrees : backTo cpos (starEach [e] X.env) = [(false, eval e X.env)] := by rfl) :
    QE X C (.Call (.Attribute o "get" apos) [e] [] cpos) (dGet to te) :=
  QE.of (pe_dget1 (by have := hr.un; omega) ho.pe he.pe ⟨hbase, hfew, hline, htrees⟩) fun σ H Q ⟨F, ρ, q, S, ht, k⟩ => by
    refine ⟨F, ρ, _, S, ht, fun o1 ρ1 F1 H1 v h1 S1 s1 d1 => ?_⟩
    obtain ⟨d0, v0, ty, h1⟩ := S1.see d1 h1
    obtain ⟨a, rfl, isd⟩ := view_isD v0 ty
    refine ⟨a, rfl, isd, F1, ρ1, _, S1, h1, fun o2 ρ2 F2 H2 v2 h2 S2 s2 d2 => ?_⟩
    obtain ⟨d, vd, h2⟩ := S2.see (d1.mono s2) h2
    obtain ⟨e', ve, h2⟩ := S2.see d2 h2
    cases d with
    | dict kvs =>
      have h2 : (match keyG kvs e' with | some key => q (.val ((lookD kvs key).getD .none)) ρ2 | none => False) := h2
      cases ke : keyG kvs e' with
      | none => rw [ke] at h2; exact h2.elim
      | some key =>
        rw [ke] at h2
        have h2 : q (.val ((lookD kvs key).getD .none)) ρ2 := h2
        obtain ⟨hk, ke⟩ := keyG_some ke
        obtain ⟨b, e1, ⟨ks, h3, r⟩ | ⟨w0, ks, n, h3, r⟩ | hx⟩ := vd
        rotate_left
        · rw [RepNK.keysK r n] at hk
          cases hk
        · rw [hx.keysK] at hk
          cases hk
        cases e1
        rw [key_view ve ke]
        have lk := RepKV.look (k := key) r
        refine ⟨_, .inl ⟨ks, key, h3, rfl, rfl⟩, ?_⟩
        have kk := kont_of (ρ1 := ρ1) (F1 := F1) (H1 := H1) S2 (s1.trans s2) k
        cases z : lookD kvs key with
        | none =>
          rw [z] at lk h2
          rw [lk]
          exact kk _ _ _ _ h2 (Gr.refl S2.sub) .non
        | some y =>
          rw [z] at lk h2
          obtain ⟨u, eu, ru⟩ := lk
          rw [eu]
          exact kk _ _ _ _ h2 (Gr.refl S2.sub) ru
    | _ => exact h2.elim
/-! ### d.pop(k), the key there -/
def dropD (kvs : List (PyData × PyData)) (q : Key) : List (PyData × PyData) := kvs.filter fun p => !decide (keyD p.1 = some q)
def dPopK (i : Nat) (te : DE) : DE := fun ρ Q => match ρ[i]? with
  | some (some (.own d0)) => isDictK d0 ∧ te ρ fun o2 ρ1 => withO ρ1 o2 fun e => match ρ1[i]? with
    | some (some (.own (.dict kvs))) => match keyG kvs e with
      | some q => match lookD kvs q with
        | some y => Q (.val y) (ρ1.set i (some (.own (.dict (dropD kvs q)))))
        | none => False
      | none => False
    | _ => False
  | _ => False
theorem RepKV.drop {K : PySem.W.Frag} {F : Hp} {q : Key} : ∀ {ks : List (Key × V)} {ds : List (PyData × PyData)}, RepKV K F ks ds → RepKV K F (dropK ks q) (dropD ds q)
  | _, _, .nil => .nil
  | _, _, .cons (k := k') r t => by
    have ih := RepKV.drop (q := q) t
    unfold dropK dropD at *
    rw [List.filter_cons, List.filter_cons]
    by_cases e : k' = q
    · subst e
      simp [kD_keyD]
      simpa using ih
    · simp [kD_keyD, e]
      exact .cons r (by simpa using ih)
theorem own_dict {K : PySem.W.Frag} {F H : Hp} {a : Addr} {kvs : List (PyData × PyData)} (hO : Own K F H a (.dict kvs)) (hk : keysK kvs = true) : ∃ ks, H a = some (.dK ks) ∧ RepKV K F ks kvs := by
  rcases hO with ⟨us, e, ru⟩ | ⟨w0, us, n, e, ru⟩
  · exact ⟨us, e, ru⟩
  · rw [RepNK.keysK ru n] at hk
    cases hk
theorem m_popK (he : QE X C e te) (hN : X.N[i]? = some x := by rfl) (hvis : Vis X.env.scope x := by first | exact Or.inl rfl | exact Or.inr (Or.inl rfl) | exact Or.inr (Or.inr rfl)) (hd : (x == ("__debug__" : Str)) = false := by decide) (hcd : (x == ("__classdict__" : Str)) = false := by decide)
    (hbase : attributeBase (.Name x p) "pop" X.env (eval (.Name x p) X.env) = eval (.Name x p) X.env := by rfl)
    (hfew : ((backTo cpos (starEach [e] X.env)).all (fun x => !x.1) && (backToKw cpos (keywordEach [] X.env)).all (fun x => x.1.isSome)
      && decide (([e] : List Expr).length + ([] : List Keyword).length + (if ([] : List Keyword).isEmpty then 0 else 1) < 30)) = true := by rfl)
    (hline : (apos.endLine == cpos.line) = true := by rfl) (htrees : backTo cpos (starEach [e] X.env) = [(false, eval e X.env)] := by rfl) :
    QE X C (.Call (.Attribute (.Name x p) "pop" apos) [e] [] cpos) (dPopK i te) :=
  QE.of (pe_dpop1 (pe_var hN hvis hd hcd) he.pe ⟨hbase, hfew, hline, htrees⟩) fun σ H Q ⟨F, ρ, q, S, ht, k⟩ => by
    obtain ⟨d0, hd0, ty, ht⟩ := own_split ht
    obtain ⟨a, g1, g2, g3, _⟩ := S.own i d0 hd0
    cases d0 with
    | dict kvs0 =>
      obtain ⟨ks0, e0, _⟩ := own_dict g3 ty
      refine ⟨.ref a, g1, a, rfl, .inl ⟨ks0, .inl e0⟩, F, ρ, _, S, ht, fun o2 ρ1 F1 H1 v2 h2 S1 s1 d2 => ?_⟩
      obtain ⟨e', ve, h2⟩ := S1.see d2 h2
      cases z1 : ρ1[i]? with
      | none => rw [z1] at h2; exact h2.elim
      | some sl =>
        cases sl with
        | none => rw [z1] at h2; exact h2.elim
        | some sv =>
          cases sv with
          | frz d => rw [z1] at h2; exact h2.elim
          | own2 d => rw [z1] at h2; exact h2.elim
          | own d =>
            cases d with
            | dict kvs =>
              rw [z1] at h2
              have h2 : (match keyG kvs e' with | some key => (match lookD kvs key with | some y => q (.val y) (ρ1.set i (some (.own (.dict (dropD kvs key))))) | none => False) | none => False) := h2
              cases ke : keyG kvs e' with
              | none => rw [ke] at h2; exact h2.elim
              | some key =>
                rw [ke] at h2
                have h2 : (match lookD kvs key with | some y => q (.val y) (ρ1.set i (some (.own (.dict (dropD kvs key))))) | none => False) := h2
                obtain ⟨hk, ke⟩ := keyG_some ke
                obtain ⟨a', e1, e2, e3, _⟩ := S1.own i _ z1
                rw [g1] at e1; cases e1
                obtain ⟨ks, hH, r⟩ := own_dict e3 hk
                have lk := RepKV.look (k := key) r
                cases z : lookD kvs key with
                | none => rw [z] at h2; exact h2.elim
                | some y =>
                  rw [z] at lk h2
                  obtain ⟨u, eu, ru⟩ := lk
                  exact ⟨ks, key, u, hH, key_view ve ke, eu, k _ _ _ _ _ h2 (S1.turn z1 g1 (.inl ⟨_, upd_same, r.drop⟩)) s1 ru⟩
            | _ => rw [z1] at h2; exact h2.elim
    | _ => exact ty.elim
end
end Dv

set_option Elab.async false
set_option linter.all false
set_option maxRecDepth 100000
set_option autoImplicit false
namespace Dv
open PySem PySem.Spec L2
/-! ### f(a new object, e, ..): the def owns its first argument, the object is lost behind the call -/
section
variable {K : PySem.W.Frag} {C : FC} {P : List Bool} {F H : Hp} {ρ : DEnv} {σ : L2.St}
open Classical in
noncomputable def del (H : Hp) (a : Addr) : Hp := fun b => if b = a then none else H b
theorem del_ne {H : Hp} {a b : Addr} (h : b ≠ a) : del H a b = H b := by unfold del; rw [if_neg h]
theorem del_some {H : Hp} {a b : Addr} {o : HO} (h : del H a b = some o) : b ≠ a ∧ H b = some o := by
  unfold del at h
  by_cases e : b = a
  · rw [if_pos e] at h; cases h
  · rw [if_neg e] at h; exact ⟨e, h⟩
theorem Sim.del (S : Sim K C F H ρ σ) {a : Addr} (hF : F a = none) (h0 : C.H0 a = none) (pn : C.pn a = none) (ne : ∀ (j : Nat) (e : PyData), ρ[j]? = some (some (.own e)) → σ[j]? ≠ some (some (.ref a))) (nf : ¬ InFoot H ρ σ a) : Sim K C F (del H a) ρ σ := by
  refine ⟨S.len, fun b o e => ?_, S.frz, fun i d e => ?_, S.ne, S.par, S.f0, fun b o e hb => ?_, S.new, fun b o e => ?_, S.dp.keep (Same.refl F) (fun j e h => ⟨h, rfl⟩) fun b hb ⟨h1, h2, h3, h4, h5⟩ => ?_⟩
  · have nb : b ≠ a := fun z => by rw [z, hF] at e; cases e
    rw [del_ne nb]; exact S.sub b o e
  · obtain ⟨b, g1, g2, g3, g4⟩ := S.own i d e
    have nb : b ≠ a := fun z => ne i d e (z ▸ g1)
    exact ⟨b, g1, g2, g3.mono (Same.refl _) fun o ho => by rw [del_ne nb]; exact ho, g4⟩
  · have nb : b ≠ a := fun z => by rw [z, h0] at e; cases e
    rw [del_ne nb]; exact S.h0 b o e hb
  · obtain ⟨g1, g2, g3⟩ := S.pin b o e
    have nb : b ≠ a := fun z => by rw [z, pn] at e; cases e
    exact ⟨by rw [del_ne nb]; exact g1, g2, g3⟩
  · have nb : b ≠ a := fun z => nf (z ▸ hb)
    exact ⟨fun u e => by rw [del_ne nb]; exact e, ⟨by rw [del_ne nb]; exact h1, h2, h3, h4, h5⟩⟩
end
def dCallN (P : List Bool) (n : Nat) (S : SpD) (t0 : DO) (a : DA) : DE := fun ρ Q => t0 ρ fun d0 ρ0 => a ρ0 fun os ρ1 => shareSel P (List.replicate n false) ρ1 os fun ρ2 => selOk (List.replicate n false) ρ2 os ∧ withAll ρ2 os fun ds => S (d0 :: ds) fun r _ => Q (.val r.d) ρ2
section
variable {X : Cx} {C : FC} {P : List Bool} {S : SpD} {ta : DA} {t0 : DO} {k n : Nat} {f : Addr} {fd : FuncData} {ps : List Str} {x : Str} {p pos : Pos} {e : Expr} {es : List Expr}
def lA' (K : PySem.W.Frag) (P : List Bool) (t : DA) : TA := fun σ H Q => ∃ C : FC, C.Tags P ∧ lA K C t σ H Q
theorem pa' (h : ∀ C : FC, C.Tags P → QA X C es ta) : PA X es (lA' X.K P ta) := ⟨fun pos pins s σ H Q I ⟨C, hP, hq⟩ => (h C hP).pa.run pos pins s σ H Q I hq⟩
theorem q_callN (hP : C.Tags P) (F : FnG X.prog X.w X.K X.mg X.base k f fd ps (spOf X.K (true :: List.replicate n false) S)) (hr : RG k X.A) (hm : X.mg x = some (.ref f)) (hk : PySem.W.keepIn X.K (.ref f) = true) (hb : Binds X.K fd ps [])
    (h0 : QO X C e t0) (ha : ∀ C : FC, C.Tags P → QA X C es ta) (hg : Gl X x := by rfl) (hdb : (x == ("__debug__" : Str)) = false := by decide) (he : starEach (e :: es) X.env = (false, eval e X.env) :: starEach es X.env := by rfl) (hpl : (backTo pos (starEach es X.env)).any (·.1) = false := by rfl) :
    QE X C (.Call (.Name x p) (e :: es) [] pos) (dCallN P n S t0 ta) :=
  QE.of (pe_callG F hr hg hm hk hb pass0 (pa_cons h0.pe (pa' ha) he) hdb he hpl) fun σ H Q ⟨F0, ρ, q, Sm, ht, kk⟩ => by
    refine ⟨F0, ρ, _, Sm, ht, fun d0 ρ0 F1 H1 a h1 S1 s1 fr => ?_⟩
    obtain ⟨ob, hob⟩ := fr.o.there
    refine ⟨C.pin a ob, FC.pin_tags hP, F1, ρ0, _, S1.pinned hob fr.f fr.ne fr.nf, h1, fun os ρ1 F2 H2 vs h2 S2 s2 d2 => ?_⟩
    obtain ⟨ρ2, F3, ⟨sok, h3⟩, S3, s3⟩ := Sim.shareSel (FC.pin_tags hP) S2 d2 h2
    obtain ⟨Su, hH, hF, hne, hnf⟩ := Sim.unpinned fr.pn S3
    obtain ⟨ds, hS, hl, hget⟩ := withAll_get h3
    have d3 := d2.mono s3
    have lts := selOk_len sok
    rw [List.append_nil]
    have own0 : Own X.K F3 H2 a d0 := fr.o.mono (s2.trans s3) fun o ho => by
      rw [hob] at ho; cases ho; exact hH
    have tsF : ∀ (i : Nat), (true :: List.replicate n false)[i]? = some true → i = 0 := fun i hi => by
      cases i with
      | zero => rfl
      | succ i =>
        rw [List.getElem?_cons_succ, List.getElem?_replicate] at hi
        split at hi <;> cases hi
    refine ⟨F3, d0 :: ds, _, Su.sub, ⟨by simp [d3.length, hl], by rw [List.length_cons, List.length_cons, hl, lts], fun i v d hv hd ht => ?_, fun i v d hv hd ht => ?_, fun i j b hi hj hvi hvj => ?_⟩, hS, fun r outs F' H' v hq post => ?_⟩
    · cases i with
      | zero => simp at ht
      | succ i =>
        rw [List.getElem?_cons_succ] at hv hd ht
        have hi : i < os.length := by rw [← lts]; exact (List.getElem?_eq_some_iff.mp ht).1
        have ho : os[i]? = some os[i] := List.getElem?_eq_getElem hi
        generalize os[i] = o at ho
        have z := selOk_at sok ht ho
        obtain ⟨d', hd', wd⟩ := hget i _ ho
        rw [hd] at hd'; cases hd'
        obtain ⟨v', hv', dv⟩ := d3.get ho
        rw [hv] at hv'; cases hv'
        cases o with
        | val e => have : e = d := wd; subst this; exact dv
        | slot j =>
          obtain ⟨y, hx⟩ := z
          unfold withO at wd
          dsimp only at wd
          rw [hx] at wd
          subst wd
          obtain ⟨v', g1, g2⟩ := Su.frz j _ hx
          have dv' : σ[j]? = some (some v) := dv
          rw [g1] at dv'; cases dv'
          exact g2
    · have := tsF i ht
      subst this
      simp at hv hd
      subst hv hd
      exact ⟨a, rfl, hF, own0⟩
    · rw [tsF i hi, tsF j hj]
    · have Sd := Su.del hF fr.h0 fr.pn hne hnf
      have Sa : Sim X.K C F' H' ρ2 σ := by
        refine Sd.after [] post.f post.s (fun b hb' => ?_) (fun b o e _ => ?_) rfl (fun i hi => absurd hi (by simp)) (fun i _ => rfl) (fun i hi => absurd hi (by simp))
        · rcases post.n b hb' with z | z
          · exact .inl z
          · right
            by_cases c : b = a
            · rw [c, hH] at z; cases z
            · rw [del_ne c]; exact z
        · obtain ⟨nb, e⟩ := del_some e
          exact post.h b o e fun i hi z => by
            have := tsF i hi
            subst this
            simp at z
            exact nb z.symm
      have res := post.res
      cases r with
      | frz d => exact kk _ _ _ _ _ hq Sa (((s1.trans s2).trans s3).trans post.f) res
      | own2 d => exact res.elim
      | own d =>
        obtain ⟨b, e1, e2, e3, e4⟩ := res
        subst e1
        have fr2 : Fresh X.K C F' H' ρ2 σ b d := ⟨e2, e3, Su.h0none e4, Su.pnone e4, (fun j y hy z => by
          obtain ⟨b', g1, _, g3, _⟩ := Su.own j y hy
          rw [z] at g1; cases g1
          obtain ⟨o, ho2⟩ := g3.there
          rw [e4] at ho2; cases ho2), Su.footAfter Sa e4 fun j y hy => ⟨hy, fun b' hb' o hH' => post.h b' o hH' fun i hi z => by
            have := tsF i hi
            subst this
            simp at z
            exact hnf (z ▸ hb')⟩⟩
        obtain ⟨F4, s4, S4, r4⟩ := Sa.froze fr2
        exact kk _ _ _ _ _ hq S4 ((((s1.trans s2).trans s3).trans post.f).trans s4) r4
theorem q_callNF (hP : C.Tags P) (h : FnAt X.prog X.w X.K X.mg X.base k x ps (true :: List.replicate n false) S) (hr : RG k X.A) (h0 : QO X C e t0) (ha : ∀ C : FC, C.Tags P → QA X C es ta) (hg : Gl X x := by rfl) (hdb : (x == ("__debug__" : Str)) = false := by decide) (he : starEach (e :: es) X.env = (false, eval e X.env) :: starEach es X.env := by rfl) (hpl : (backTo pos (starEach es X.env)).any (·.1) = false := by rfl) :
    QE X C (.Call (.Name x p) (e :: es) [] pos) (dCallN P n S t0 ta) := by
  obtain ⟨f, fd, F, a, b, c⟩ := h.ex
  exact q_callN hP F hr a b c h0 ha hg hdb he hpl
/-! ### a, b, .. = a list -/
def gUnl' (n : Nat) (t : DGs) : DG := fun d ρ Q => match d with
  | .list ds => ds.length = n ∧ t ds ρ Q
  | _ => False
theorem g_unl {tgs : List Expr} {k : Nat} {t : DGs} {n : Nat} (hc : X.calm = true) (h : QGs X C tgs t) (hn : (assignEach tgs X.env).length = n := by rfl) (hst : (assignEach tgs X.env).findIdx? (·.1) = none := by rfl) : QG X C (.Tuple tgs k pos) (gUnl' n t) :=
  QG.of (pg_unl hc h.pgs hn hst) fun v σ H Q ⟨F, ρ, d, q, S, r, ht, k⟩ => by
    cases r with
    | lst hs hr => exact ⟨_, _, rfl, sqL_mono S.sub hs, by rw [hr.length]; exact ht.1, F, ρ, _, q, S, hr, ht.2, k⟩
    | _ => exact ht.elim
end
end Dv

set_option Elab.async false
set_option linter.all false
set_option maxRecDepth 100000
namespace Dv
open PySem PySem.Spec L2
/-! ### repr of data with dicts at any depth -/
mutual
/-- all dicts in it have numbers and texts as keys -/
def kOk : PyData → Bool
  | .dict kvs => keysK kvs && kOkV kvs
  | .list xs => kOkA xs
  | .tuple xs => kOkA xs
  | _ => true
def kOkA : List PyData → Bool
  | [] => true
  | x :: xs => kOk x && kOkA xs
def kOkV : List (PyData × PyData) → Bool
  | [] => true
  | p :: ps => kOk p.2 && kOkV ps
end
theorem kOkA_iff : ∀ {ds : List PyData}, kOkA ds = true ↔ ∀ d ∈ ds, kOk d = true
  | [] => by simp [kOkA]
  | d :: ds => by simp [kOkA, kOkA_iff]
/-- the table of modules is no dict among them -/
def NoSys (h : Heap) (as : List Addr) : Prop := sysModules ∈ as → ∀ o es n, h.get? sysModules = some o → o.data ≠ .dict es n
theorem NoSys.nil {h : Heap} : NoSys h [] := fun z => by simp at z
theorem NoSys.app {h : Heap} {as bs : List Addr} (x : NoSys h as) (y : NoSys h bs) : NoSys h (as ++ bs) := fun z => by
  rcases List.mem_append.mp z with z | z
  · exact x z
  · exact y z
theorem NoSys.left {h : Heap} {as bs : List Addr} (x : NoSys h (as ++ bs)) : NoSys h as := fun z => x (List.mem_append_left _ z)
theorem NoSys.right {h : Heap} {as bs : List Addr} (x : NoSys h (as ++ bs)) : NoSys h bs := fun z => x (List.mem_append_right _ z)
section
variable {X : Cx} {pins : List (Addr × Obj)} {σ : St} {F H : Hp} {s : Shared}
theorem listReads (I : Inv X pins σ H s) {a : Addr} {xs : List V} {ds : List PyData} (hq : SqL X.K H a xs) (h : ∀ us, Vals xs us → ∃ as, ReadsAll s.heap us ds as ∧ NoSys s.heap as) : ∃ as, Reads s.heap (.ref a) (.list ds) as ∧ NoSys s.heap as := by
  obtain ⟨us, rv, ⟨o, n, ho, hc, _, hd⟩, _⟩ := I.list hq
  obtain ⟨as, q, z⟩ := h us rv
  refine ⟨_, Reads.list ho hc hd q, fun m o' es n' e => ?_⟩
  rcases List.mem_cons.mp m with m | m
  · rw [m, ho] at e
    cases e
    rw [hd]
    intro c
    cases c
  · exact z m o' es n' e
theorem dictReads (I : Inv X pins σ H s) {a : Addr} {ks : List (Key × V)} {ds : List (PyData × PyData)} (hq : Rd H a (.dK ks)) (h : ∀ vs, KV ks vs → ∃ as, PyProof.V.PairsRead s.heap kD vs ds as ∧ NoSys s.heap as) : ∃ as, Reads s.heap (.ref a) (.dict ds) as ∧ NoSys s.heap as := by
  obtain ⟨_, hne, vs, kv, dd⟩ := dk_rd I.hok hq
  obtain ⟨as, q, z⟩ := h vs kv
  refine ⟨_, PyProof.V.reads_dictOf key_reads dd q, fun m => ?_⟩
  rcases List.mem_cons.mp m with m | m
  · exact absurd m.symm (beq_eq_false_iff_ne.mp hne)
  · exact z m
mutual
theorem Rep.reads (I : Inv X pins σ H s) (hs : Same F H) : ∀ (d : PyData) (v : V) (u : Value), Rep X.K F v d → kOk d = true → RelV v u → ∃ as, Reads s.heap u d as ∧ NoSys s.heap as
  | .none, _, _, r, _, ru => by cases r; cases ru; exact ⟨_, Reads.none, .nil⟩
  | .bool b, _, _, r, _, ru => by cases r; cases ru; exact ⟨_, Reads.bool b, .nil⟩
  | .int i, _, _, r, _, ru => by cases r; obtain ⟨t, rfl⟩ := ru; exact ⟨_, Reads.int i t, .nil⟩
  | .str x, _, _, r, _, ru => by cases r; obtain ⟨t, rfl⟩ := ru; exact ⟨_, Reads.str x t, .nil⟩
  | .list ds, _, _, r, k, ru => by
    cases r with
    | lst hq ha => cases ru; exact listReads I (sqL_mono hs hq) (fun us ru => RepAll.readsA I hs ds _ us ha (by simpa [kOk] using k) ru)
  | .tuple ds, _, _, r, k, ru => by
    cases r with
    | tup hq ha =>
      cases ru
      obtain ⟨us, rv, ⟨o, ho, hc, n, hd⟩, _⟩ := I.tuple (sqT_mono hs hq)
      obtain ⟨as, q, z⟩ := RepAll.readsA I hs ds _ us ha (by simpa [kOk] using k) rv
      exact ⟨_, Reads.tuple ho hc hd q, z⟩
  | .dict kvs, _, _, r, k, ru => by
    have k : keysK kvs = true ∧ kOkV kvs = true := by simpa [kOk] using k
    cases r with
    | dct hq ha => cases ru; exact dictReads I (rd_mono hs hq) (fun vs kv => RepKV.readsP I hs kvs _ vs ha k.2 kv)
    | dcn n hq ha => rw [RepNK.keysK ha n] at k; exact absurd k.1 (by decide)
    | exc h c x r => exact absurd ((ExcV.keysK (K := X.K) (F := F) ⟨_, _, _, _, _, rfl, h, c, x, r⟩).symm.trans k.1) (by decide)
theorem RepAll.readsA (I : Inv X pins σ H s) (hs : Same F H) : ∀ (ds : List PyData) (vs : List V) (us : List Value), RepAll X.K F vs ds → kOkA ds = true → Vals vs us → ∃ as, ReadsAll s.heap us ds as ∧ NoSys s.heap as
  | [], _, _, r, _, ru => by cases r; cases ru; exact ⟨_, ReadsAll.nil, .nil⟩
  | d :: ds, _, _, r, k, ru => by
    have k : kOk d = true ∧ kOkA ds = true := by simpa [kOkA] using k
    cases r with
    | cons r1 r2 =>
      cases ru with
      | cons u1 u2 =>
        obtain ⟨as, q1, z1⟩ := Rep.reads I hs d _ _ r1 k.1 u1
        obtain ⟨bs, q2, z2⟩ := RepAll.readsA I hs ds _ _ r2 k.2 u2
        exact ⟨_, ReadsAll.cons q1 q2, z1.app z2⟩
theorem RepKV.readsP (I : Inv X pins σ H s) (hs : Same F H) : ∀ (ds : List (PyData × PyData)) (ks : List (Key × V)) (vs : List (Key × Value)), RepKV X.K F ks ds → kOkV ds = true → KV ks vs → ∃ as, PyProof.V.PairsRead s.heap kD vs ds as ∧ NoSys s.heap as
  | [], _, _, r, _, ru => by cases r; cases ru; exact ⟨_, .nil, .nil⟩
  | (kk, d) :: ds, _, _, r, k, ru => by
    have k2 : kOk d = true ∧ kOkV ds = true := by simpa [kOkV] using k
    clear k
    cases r with
    | cons r1 r2 =>
      cases ru with
      | @cons p b _ _ hb tb =>
        obtain ⟨q, u⟩ := b
        obtain ⟨e, ru⟩ := hb
        simp only at e ru
        subst e
        obtain ⟨as, q1, z1⟩ := Rep.reads I hs d _ _ r1 k2.1 ru
        obtain ⟨bs, q2, z2⟩ := RepKV.readsP I hs ds _ _ r2 k2.2 tb
        exact ⟨_, .cons q1 q2, z1.app z2⟩
end
theorem View.reads (I : Inv X pins σ H s) (hs : Same F H) {d : PyData} {v : V} {u : Value} (w : View X.K F H v d) (k : kOk d = true) (ru : RelV v u) : ∃ as, Reads s.heap u d as ∧ NoSys s.heap as := by
  cases d with
  | list ds =>
    obtain ⟨a, xs, e, hq, r⟩ := w
    subst e
    cases ru
    exact listReads I hq (fun us ru => RepAll.readsA I hs ds _ us r (by simpa [kOk] using k) ru)
  | dict ds =>
    have k : keysK ds = true ∧ kOkV ds = true := by simpa [kOk] using k
    obtain ⟨a, e, ⟨ks, hq, r⟩ | ⟨w0, ks, n, hq, r⟩ | hx⟩ := w
    · subst e
      cases ru
      exact dictReads I hq (fun vs kv => RepKV.readsP I hs ds _ vs r k.2 kv)
    · rw [RepNK.keysK r n] at k; exact absurd k.1 (by decide)
    · rw [hx.keysK] at k; exact absurd k.1 (by decide)
  | none => exact Rep.reads I hs _ _ _ w k ru
  | bool _ => exact Rep.reads I hs _ _ _ w k ru
  | int _ => exact Rep.reads I hs _ _ _ w k ru
  | str _ => exact Rep.reads I hs _ _ _ w k ru
  | tuple _ => exact Rep.reads I hs _ _ _ w k ru
end
section
variable {prog : Program} {w : World} {h : Heap}
theorem sys_of {a : Addr} {as : List Addr} {o : Obj} {es : Array DictEntry} {n : Nat} (z : NoSys h (a :: as)) (e : h.get? a = some o) (d : o.data = .dict es n) : (a == sysModules) = false := by
  refine beq_eq_false_iff_ne.mpr fun c => ?_
  subst c
  exact z List.mem_cons_self o es n e d
theorem ent_of {a : Addr} {es : List DictEntry} {kvs : List (PyData × PyData)} {as : List Addr} (dct : Reads h (.ref a) (.dict kvs) as)
    (h1 : ∃ bs, ReadAtMost h (PyData.depthAll (kvs.map (·.1))) bs ∧ ReprAllK prog w bs h (PyData.depthAll (kvs.map (·.1))) (es.map (·.key)) (PyData.shownAll (kvs.map (·.1))))
    (h2 : ∃ bs, ReadAtMost h (PyData.depthAll (kvs.map (·.2))) bs ∧ ReprAllK prog w bs h (PyData.depthAll (kvs.map (·.2))) (es.map (·.val)) (PyData.shownAll (kvs.map (·.2)))) :
    ∃ cs, ReadAtMost h (PyData.depthKv kvs) cs ∧ a ∉ cs ∧ ReprEntriesK prog w cs h (PyData.depthKv kvs) es (List.zipWith (fun x y : Str => x ++ ": " ++ y) (PyData.shownAll (kvs.map (·.1))) (PyData.shownAll (kvs.map (·.2)))) := by
  obtain ⟨b1, m1, r1⟩ := h1
  obtain ⟨b2, m2, r2⟩ := h2
  have most := (m1.mono (PyData.depthAll_keys_le kvs)).append (m2.mono (PyData.depthAll_vals_le kvs))
  refine ⟨b1 ++ b2, most, not_mem_of_deeper dct (by simp only [PyData.depth]; omega) most, ReprEntriesK.of_two es _ _ (r1.more_le ?_ (PyData.depthAll_keys_le kvs)) (r2.more_le ?_ (PyData.depthAll_vals_le kvs))⟩
  · exact fun b hb => List.mem_append_left _ hb
  · exact fun b hb => List.mem_append_right _ hb
mutual
theorem rk_reads : ∀ {v : Value} {d : PyData} {as : List Addr}, Reads h v d as → NoSys h as → d.showable = true → d.shown.length ≤ sizeLine → ∃ bs, ReadAtMost h d.depth bs ∧ ReprK prog w bs h d.depth v d.shown
  | _, _, _, .none, _, ok, sz => ReprK.of_reads .none ok (PyData.noDict_hsm (by simp only [PyData.hasDict])) sz
  | _, _, _, .bool b, _, ok, sz => ReprK.of_reads (.bool b) ok (PyData.noDict_hsm (by simp only [PyData.hasDict])) sz
  | _, _, _, .int i t, _, ok, sz => ReprK.of_reads (.int i t) ok (PyData.noDict_hsm (by simp only [PyData.hasDict])) sz
  | _, _, _, .str x t, _, ok, sz => ReprK.of_reads (.str x t) ok (PyData.noDict_hsm (by simp only [PyData.hasDict])) sz
  | _, _, _, .list (a := a) (vs := vs) (xs := xs) g1 g2 g3 g4, z, ok, sz => by
    have lst : Reads h (.ref a) (.list xs) _ := .list g1 g2 g3 g4
    simp only [PyData.shown] at sz
    obtain ⟨bs, most, rk⟩ := rk_readsAll g4 (NoSys.right (as := [a]) z) (by simpa [PyData.showable] using ok) (fun t ht => Nat.le_trans (listText_mem_le ht) sz)
    refine ⟨a :: bs, ReadAtMost.cons lst (by simp only [PyData.depth]; omega) most, ?_⟩
    have out : a ∉ bs := not_mem_of_deeper lst (by simp only [PyData.depth]; omega) most
    simp only [PyData.depth, PyData.shown]
    match vs, g3, g4, rk with
    | ⟨[]⟩, g3, g4, rk =>
      have g4 : ReadsAll h [] xs _ := g4
      cases g4
      rw [PyData.shownAll, listText_nil]
      exact ReprK.listEmpty g1 g2 g3
    | ⟨x :: l⟩, g3, g4, rk => exact ReprK.list g1 g2 g3 out (by simpa using rk.length_eq) (fun i y e => rk.item i y (by simpa using e))
  | _, _, _, .tuple (a := a) (xs := xs) g1 g2 g3 g4, z, ok, sz => by
    have tup : Reads h (.ref a) (.tuple xs) _ := .tuple g1 g2 g3 g4
    simp only [PyData.shown] at sz
    obtain ⟨bs, most, rk⟩ := rk_readsAll g4 z (by simpa [PyData.showable] using ok) (fun t ht => Nat.le_trans (tupleText_mem_le ht) sz)
    have out : a ∉ bs := not_mem_of_deeper tup (by simp only [PyData.depth]; omega) most
    refine ⟨a :: bs, ReadAtMost.cons tup (by simp only [PyData.depth]; omega) most, ?_⟩
    simp only [PyData.depth, PyData.shown]
    exact ReprK.tuple g1 g2 g3 out rk
  | _, _, _, .dict (a := a) (es := es) (kvs := kvs) g1 g2 g3 g4 g5, z, ok, sz => by
    have sz' := sz
    simp only [PyData.shown] at sz'
    have oks := PyData.showableKv_split kvs (by simpa [PyData.showable] using ok)
    have k1 := rk_readsAll g4 (NoSys.right (as := [a]) z.left) oks.1 (fun t ht => by
      obtain ⟨p, hp, hl⟩ := PyData.shownKv_key_le kvs t ht
      exact Nat.le_trans (Nat.le_trans hl (dictText_mem_le hp)) sz')
    have k2 := rk_readsAll g5 z.right oks.2 (fun t ht => by
      obtain ⟨p, hp, hl⟩ := PyData.shownKv_val_le kvs t ht
      exact Nat.le_trans (Nat.le_trans hl (dictText_mem_le hp)) sz')
    obtain ⟨bs, most, out, rk⟩ := ent_of (Reads.dict g1 g2 g3 g4 g5) k1 k2
    refine ⟨a :: bs, ReadAtMost.cons (.dict g1 g2 g3 g4 g5) (by simp only [PyData.depth]; omega) most, ?_⟩
    simp only [PyData.depth, PyData.shown, PyData.shownKv_eq]
    exact ReprK.dict g1 g2 g3 (sys_of z g1 g3) out rk
theorem rk_readsAll : ∀ {vs : List Value} {ds : List PyData} {as : List Addr}, ReadsAll h vs ds as → NoSys h as → PyData.showableAll ds = true → (∀ t ∈ PyData.shownAll ds, t.length ≤ sizeLine) → ∃ bs, ReadAtMost h (PyData.depthAll ds) bs ∧ ReprAllK prog w bs h (PyData.depthAll ds) vs (PyData.shownAll ds)
  | _, _, _, .nil, _, _, _ => ⟨[], (fun _ z => nomatch z), by simp only [PyData.shownAll]; exact .nil⟩
  | _, _, _, .cons (d := d) (ds := ds) r rs, z, ok, sz => by
    rw [PyData.showableAll, Bool.and_eq_true] at ok
    rw [PyData.shownAll] at sz ⊢
    rw [PyData.depthAll]
    obtain ⟨b1, m1, r1⟩ := rk_reads r z.left ok.1 (sz _ List.mem_cons_self)
    obtain ⟨b2, m2, r2⟩ := rk_readsAll rs z.right ok.2 fun t ht => sz t (List.mem_cons_of_mem _ ht)
    refine ⟨b1 ++ b2, (m1.mono (Nat.le_max_left ..)).append (m2.mono (Nat.le_max_right ..)), .cons ((r1.more ?_).level_le (Nat.le_max_left ..)) (r2.more_le ?_ (Nat.le_max_right ..))⟩
    · exact fun b hb => List.mem_append_left _ hb
    · exact fun b hb => List.mem_append_right _ hb
end
/-- repr(x), low down -/
def rReprX (K : PySem.W.Frag) : List V → Hp → VK → Prop := fun vs H Q => ∃ (F : Hp) (v : V) (d : PyData), vs = [v] ∧ Same F H ∧ View K F H v d ∧ kOk d = true ∧ d.showable = true ∧ d.depth ≤ 60 ∧ d.shown.length ≤ sizeLine ∧ Q (.str d.shown) H
theorem call_reprX {a : Addr} {d : PyData} {as : List Addr} {A : Around} {E : Value → Shared → Prop} {s : Shared} {Q : Value → Shared → Prop} (r : Reads s.heap (.ref a) d as) (z : NoSys s.heap as) (ok : d.showable = true) (hg : A.guards = some []) (hu : A.units + (d.depth + 1) < cLine)
    (hQ : ∀ h' u tk, (∀ b o, s.heap.get? b = some o → h'.get? b = some o) → Q (.str d.shown u) { s with heap := h', toks := tk }) (sz : d.shown.length ≤ sizeLine) : wpAny (model prog w) A (call (.builtin "repr") [.ref a]) Q E s := by
  have hu1 : A.in1.units + d.depth < cLine := by show A.units + 1 + d.depth < cLine; omega
  have kp : ∀ b o, s.heap.get? b = some o → s.heap.get? b = some o := fun _ _ e => e
  cases r with
  | list g1 g2 g3 g4 =>
    rename_i o vs n xs bs0
    simp only [PyData.shown] at sz hQ
    simp only [PyData.depth] at hu1
    obtain ⟨bs, most, rk⟩ := rk_readsAll (prog := prog) (w := w) g4 (NoSys.right (as := [a]) z) (by simpa [PyData.showable] using ok) (fun t ht => Nat.le_trans (listText_mem_le ht) sz)
    have out : a ∉ bs := not_mem_of_deeper (Reads.list g1 g2 g3 g4) (by simp only [PyData.depth]; omega) most
    refine call_repr_slot (by omega) ⟨o, g1, g2⟩ PySem.F.slot_list_repr.toG ?_
    match vs, g3, g4, rk with
    | ⟨[]⟩, g3, g4, rk =>
      have g4 : ReadsAll s.heap [] xs _ := g4
      cases g4
      simp only [PyData.shownAll, listText_nil] at hQ
      exact call_list_repr_empty ⟨o, g1, g2⟩ g1 g3 ⟨_, _, rfl, hQ s.heap _ _ kp⟩
    | ⟨x :: l⟩, g3, g4, rk => exact call_list_reprK g1 g2 g3 out (by simpa using rk.length_eq) (fun i y e => rk.item i y (by simpa using e)) hg (fun b _ => Clear.nil b) hu1 kp (fun h' u tk hk => ⟨_, _, rfl, hQ h' u tk hk⟩) sz
  | tuple g1 g2 g3 g4 =>
    rename_i o vs n xs
    simp only [PyData.shown] at sz hQ
    simp only [PyData.depth] at hu1
    obtain ⟨bs, most, rk⟩ := rk_readsAll (prog := prog) (w := w) g4 z (by simpa [PyData.showable] using ok) (fun t ht => Nat.le_trans (tupleText_mem_le ht) sz)
    have out : a ∉ bs := not_mem_of_deeper (Reads.tuple g1 g2 g3 g4) (by simp only [PyData.depth]; omega) most
    exact call_repr_slot (by omega) ⟨o, g1, g2⟩ PySem.F.slot_tuple_repr (call_tuple_reprK g1 g2 g3 out rk hg (fun b _ => Clear.nil b) hu1 kp (fun h' u tk hk => ⟨_, _, rfl, hQ h' u tk hk⟩) sz)
  | dict g1 g2 g3 g4 g5 =>
    rename_i o es n kvs as1 bs1
    have sz' := sz
    simp only [PyData.shown] at sz'
    have oks := PyData.showableKv_split kvs (by simpa [PyData.showable] using ok)
    have k1 := rk_readsAll (prog := prog) (w := w) g4 (NoSys.right (as := [a]) z.left) oks.1 (fun t ht => by
      obtain ⟨p, hp, hl⟩ := PyData.shownKv_key_le kvs t ht
      exact Nat.le_trans (Nat.le_trans hl (dictText_mem_le hp)) sz')
    have k2 := rk_readsAll (prog := prog) (w := w) g5 z.right oks.2 (fun t ht => by
      obtain ⟨p, hp, hl⟩ := PyData.shownKv_val_le kvs t ht
      exact Nat.le_trans (Nat.le_trans hl (dictText_mem_le hp)) sz')
    obtain ⟨bs, most, out, rk⟩ := ent_of (Reads.dict g1 g2 g3 g4 g5) k1 k2
    simp only [PyData.depth] at hu1
    simp only [PyData.shown, PyData.shownKv_eq] at sz hQ
    exact call_repr_slot (by omega) ⟨o, g1, g2⟩ PySem.F.slot_dict_repr (call_dict_reprK g1 g2 g3 (sys_of z g1 g3) out rk hg (fun b _ => Clear.nil b) hu1 kp (fun h' u tk hk => ⟨_, _, rfl, hQ h' u tk hk⟩) sz)
end
section
variable {X : Cx} {C : FC} {a : Expr} {tA : DA} {p pos : Pos} {k : Nat}
theorem cr_reprX (hg : X.A.guards = some []) (hu : X.A.units + 65 < cLine) : CallR X (.builtin "repr") (rReprX X.K) := by
  intro pins s σ H vs us Q I r h
  obtain ⟨F, v, d, rfl, hs, vw, kk, ok, dep, sz, q⟩ := h
  obtain ⟨u, rfl, ru⟩ := vals1 r
  obtain ⟨as, rd, z⟩ := View.reads I hs vw kk ru
  have big : ∀ (a : Addr), u = .ref a → wpAny (model X.prog X.w) X.A (call (.builtin "repr") [u]) (EP X pins σ Q) X.xe s := by
    rintro a rfl
    exact call_reprX rd z ok hg (by omega) (fun h' t tk hk => ⟨.str d.shown, H, I.kept (t' := tk) hk, ⟨t, rfl⟩, q⟩) sz
  cases rd with
  | none => exact PySem.P.repr_of_none ⟨.str _, H, I.tok _, ⟨_, rfl⟩, q⟩
  | bool b => exact PySem.P.repr_of_bool ⟨.str _, H, I.tok _, ⟨_, rfl⟩, q⟩
  | int i t => exact PySem.P.repr_of_int (by simpa [PyData.showable] using ok) ⟨.str _, H, I.tok _, ⟨_, rfl⟩, q⟩
  | str x t => exact PySem.P.repr_of_str ⟨.str _, H, I.tok _, ⟨_, rfl⟩, q⟩ sz
  | list _ _ _ _ => exact big _ rfl
  | tuple _ _ _ _ => exact big _ rfl
  | dict _ _ _ _ _ => exact big _ rfl
/-- what may be shown, dicts too -/
structure ShoX (d : PyData) : Prop where
  kk : kOk d = true
  dp : d.depth ≤ 60
  ok : d.showable = true
  sz : d.shown.length ≤ 16777216
def reprXD : OpN := fun ds k => match ds with
  | [d] => ShoX d ∧ k (.str d.shown)
  | _ => False
theorem q_reprX (hr : RG k X.A) (hm : X.mg "repr" = none) (ha : QA X C [a] tA) (hg : Gl X "repr" := by rfl)
    (he : starEach [a] X.env = (false, eval a X.env) :: starEach [] X.env := by rfl) (hpl : (backTo pos (starEach [] X.env)).any (·.1) = false := by rfl) : QE X C (.Call (.Name "repr" p) [a] [] pos) (dCB reprXD tA) :=
  q_callB (cr_reprX hr.g (by have := hr.r.un; omega)) (fun F H vs ds q Q s v w k => by
    match ds, v, w with
    | [d], v, w =>
      obtain ⟨v, e, vw⟩ := va1 v
      subst e
      exact ⟨F, _, d, rfl, s, vw, w.1.kk, w.1.ok, w.1.dp, w.1.sz, k _ _ _ _ w.2 (Gr.refl s) (.str _)⟩) hm (by decide +kernel) ha hg (by decide) (by decide) he hpl
end
end Dv

set_option Elab.async false
set_option linter.all false
set_option maxRecDepth 100000
/-! ### a dict beside a text -/
namespace PySem.SeqAt
open AutoSeq1 (wpAny_loadPart')
open MeetsSeq
theorem dDict_eq_str (l : Addr) (es : Array DictEntry) (n : Nat) (dd : Option Addr) (sl : Array (Option Value)) (b : Str) (u : Tok) :
    Meets (Builtin.«dict.__eq__» ⟨[.ref l, .str b u], []⟩) (fun _ R s => s.heap.get? l = some ⟨.type "dict", dd, .dict es n, sl⟩ ∧ R (.ok (.ret .notImplemented)) s) :=
  .of_wp fun prog w A R s h => by
    obtain ⟨hp, g, d, tk, os⟩ := s; obtain ⟨hl, h⟩ := h; have f1 := F.sub_str_dict
    wp_walk using wpAny_loadPart' hl
    exact ⟨_, rfl, h⟩
theorem dStr_eq_dict (b : Str) (u : Tok) (l : Addr) (es : Array DictEntry) (n : Nat) (dd : Option Addr) (sl : Array (Option Value)) :
    Meets (Builtin.«str.__eq__» ⟨[.str b u, .ref l], []⟩) (fun _ R s => s.heap.get? l = some ⟨.type "dict", dd, .dict es n, sl⟩ ∧ R (.ok (.ret .notImplemented)) s) :=
  .of_wp fun prog w A R s h => by
    obtain ⟨hp, g, d, tk, os⟩ := s; obtain ⟨hl, h⟩ := h
    wp_walk using wpAny_loadPart' hl, wpAny_load hl
    exact ⟨_, rfl, h⟩
theorem dDict_ne_str (l : Addr) (es : Array DictEntry) (n : Nat) (dd : Option Addr) (sl : Array (Option Value)) (b : Str) (u : Tok) :
    Meets (Builtin.«dict.__ne__» ⟨[.ref l, .str b u], []⟩) (fun _ R s => s.heap.get? l = some ⟨.type "dict", dd, .dict es n, sl⟩ ∧ R (.ok (.ret .notImplemented)) s) :=
  .of_wp fun prog w A R s h => by
    obtain ⟨hp, g, d, tk, os⟩ := s; obtain ⟨hl, h⟩ := h; have f1 := F.sub_str_dict
    wp_walk using wpAny_loadPart' hl
    exact ⟨_, rfl, h⟩
theorem dStr_ne_dict (b : Str) (u : Tok) (l : Addr) (es : Array DictEntry) (n : Nat) (dd : Option Addr) (sl : Array (Option Value)) :
    Meets (Builtin.«str.__ne__» ⟨[.str b u, .ref l], []⟩) (fun _ R s => s.heap.get? l = some ⟨.type "dict", dd, .dict es n, sl⟩ ∧ R (.ok (.ret .notImplemented)) s) :=
  .of_wp fun prog w A R s h => by
    obtain ⟨hp, g, d, tk, os⟩ := s; obtain ⟨hl, h⟩ := h
    wp_walk using wpAny_loadPart' hl, wpAny_load hl
    exact ⟨_, rfl, h⟩
section
variable {A : Around} {s : Shared}
def IsDct (h : Heap) (l : Addr) : Prop := ∃ dd es n sl, h.get? l = some ⟨.type "dict", dd, .dict es n, sl⟩
theorem RcAt.dct_str {l : Addr} (b : Str) (u : Tok) (hl : IsDct s.heap l) (hu : A.units < cLine) : RcAt A s (.ref l) (.str b u) false := fun prog w E Q h => by
  obtain ⟨dd, es, n, sl, ho⟩ := hl
  exact rc_eq_decline_or (k := false) ⟨_, ho, rfl⟩ (typeIs_str s b u) (by decide) F.sub_str_dict F.slot_dict_eq F.slot_str_eq_refl
    (fun _ hq => call_meets F.slot_dict_eq ⟨_, ho, rfl⟩ F.entry_dict_eq (F.args_dict_eq_2 _ _) (dDict_eq_str l es n dd sl b u) ⟨ho, hq⟩)
    (fun _ hq => call_meets F.slot_str_eq_refl (typeIs_str s b u) F.entry_str_eq (F.args_str_eq_2 _ _) (dStr_eq_dict b u l es n dd sl) ⟨ho, hq⟩)
    (fun _ hq => wpAny_of_eq (rfl : isSame (.ref l) (.str b u) = pure false) hq) (.inr hu) h
theorem RcAt.str_dct {l : Addr} (b : Str) (u : Tok) (hl : IsDct s.heap l) (hu : A.units < cLine) : RcAt A s (.str b u) (.ref l) false := fun prog w E Q h => by
  obtain ⟨dd, es, n, sl, ho⟩ := hl
  exact rc_eq_decline_or (k := false) (typeIs_str s b u) ⟨_, ho, rfl⟩ (by decide) F.sub_dict_str F.slot_str_eq F.slot_dict_eq_refl
    (fun _ hq => call_meets F.slot_str_eq (typeIs_str s b u) F.entry_str_eq (F.args_str_eq_2 _ _) (dStr_eq_dict b u l es n dd sl) ⟨ho, hq⟩)
    (fun _ hq => call_meets F.slot_dict_eq_refl ⟨_, ho, rfl⟩ F.entry_dict_eq (F.args_dict_eq_2 _ _) (dDict_eq_str l es n dd sl b u) ⟨ho, hq⟩)
    (fun _ hq => wpAny_of_eq (rfl : isSame (.str b u) (.ref l) = pure false) hq) (.inr hu) h
theorem EqAt.str_dct {l : Addr} (b : Str) (u : Tok) (hl : IsDct s.heap l) (hu : A.units < cLine) : EqAt A s (.str b u) (.ref l) false := fun prog w E Q h => by
  unfold eqBool
  refine wpAny_holding ?_
  refine wpAny_ite_split (fun hab => absurd (eq_of_beq hab) nofun) (fun _ => ?_)
  exact wpAny_bind (RcAt.str_dct b u hl hu prog w E _ (wpAny_truthy_bool h))
theorem RcNeAt.dct_str {l : Addr} (b : Str) (u : Tok) (hl : IsDct s.heap l) (hu : A.units < cLine) : RcNeAt A s (.ref l) (.str b u) true := fun prog w E Q h => by
  obtain ⟨dd, es, n, sl, ho⟩ := hl
  exact rc_ne_decline_or (k := false) ⟨_, ho, rfl⟩ (typeIs_str s b u) (by decide) F.sub_str_dict F.slot_dict_ne F.slot_str_ne_refl
    (fun _ hq => call_meets F.slot_dict_ne ⟨_, ho, rfl⟩ F.entry_dict_ne (F.args_dict_ne_2 _ _) (dDict_ne_str l es n dd sl b u) ⟨ho, hq⟩)
    (fun _ hq => call_meets F.slot_str_ne_refl (typeIs_str s b u) F.entry_str_ne (F.args_str_ne_2 _ _) (dStr_ne_dict b u l es n dd sl) ⟨ho, hq⟩)
    (fun _ hq => wpAny_of_eq (rfl : isSame (.ref l) (.str b u) = pure false) hq) (.inr hu) h
theorem dct_of {h : Heap} {a : Addr} {o : Obj} {es : Array DictEntry} {n : Nat} (g1 : h.get? a = some o) (g2 : o.cls = .type "dict") (g3 : o.data = .dict es n) : IsDct h a := by
  obtain ⟨c, dd, dt, sl⟩ := o
  simp only at g2 g3
  subst g2 g3
  exact ⟨dd, es, n, sl, g1⟩
/-- anything beside a text -/
theorem rc_any_str {v : Value} {d : PyData} {as : List Addr} (r : Reads s.heap v d as) (x : Str) (t : Tok) (hu : A.units < cLine) : RcAt A s v (.str x t) (PyData.eqv d (.str x)) := by
  cases r with
  | none => exact RcAt.none_str x t
  | bool b => exact RcAt.bool_str b x t
  | int i u => exact RcAt.int_str i u x t
  | str y u => exact RcAt.str_str y u x t
  | list g1 g2 g3 g4 => exact RcAt.list_str x t ⟨_, g1, g2, _, g3⟩ hu
  | tuple g1 g2 g3 g4 => exact RcAt.tuple_str x t ⟨_, g1, g2, _, g3⟩ hu
  | dict g1 g2 g3 g4 g5 => exact RcAt.dct_str x t (dct_of g1 g2 g3) hu
theorem rcNe_any_str {v : Value} {d : PyData} {as : List Addr} (r : Reads s.heap v d as) (x : Str) (t : Tok) (hu : A.units < cLine) : RcNeAt A s v (.str x t) (!PyData.eqv d (.str x)) := by
  cases r with
  | none => exact RcNeAt.none_str x t
  | bool b => exact RcNeAt.bool_str b x t
  | int i u => exact RcNeAt.int_str i u x t
  | str y u => exact RcNeAt.str_str y u x t
  | list g1 g2 g3 g4 => exact RcNeAt.list_str x t ⟨_, g1, g2, _, g3⟩ hu
  | tuple g1 g2 g3 g4 => exact RcNeAt.tuple_str x t ⟨_, g1, g2, _, g3⟩ hu
  | dict g1 g2 g3 g4 g5 => exact RcNeAt.dct_str x t (dct_of g1 g2 g3) hu
theorem eq_str_any {v : Value} {d : PyData} {as : List Addr} (r : Reads s.heap v d as) (x : Str) (t : Tok) (hu : A.units < cLine) : EqAt A s (.str x t) v (PyData.eqv (.str x) d) := by
  cases r with
  | none => exact EqAt.str_none x t
  | bool b => exact EqAt.str_bool x t b
  | int i u => exact EqAt.str_int x t i u
  | str y u => exact EqAt.str_str x t y u
  | list g1 g2 g3 g4 => exact EqAt.str_list x t ⟨_, g1, g2, _, g3⟩ hu
  | tuple g1 g2 g3 g4 => exact EqAt.str_tuple x t ⟨_, g1, g2, _, g3⟩ hu
  | dict g1 g2 g3 g4 g5 => exact EqAt.str_dct x t (dct_of g1 g2 g3) hu
end
end PySem.SeqAt
namespace Dv
open PySem PySem.Spec L2
section
variable {X : Cx} {C : FC} {a b : Expr} {ta tb : DE} {pos : Pos} {k : Nat}
/-! ### anything == a text -/
def rEqT (K : PySem.W.Frag) : R2 := fun x y H Q => ∃ F d z, Same F H ∧ View K F H x d ∧ kOk d = true ∧ y = .str z ∧ Q (.bl (PyData.eqv d (.str z))) H
def rNeT (K : PySem.W.Frag) : R2 := fun x y H Q => ∃ F d z, Same F H ∧ View K F H x d ∧ kOk d = true ∧ y = .str z ∧ Q (.bl (!PyData.eqv d (.str z))) H
theorem op_eqT (hu : X.A.units + 1 < cLine) : OpR X (compareOp .Eq) (rEqT X.K) := by
  intro pins s σ H x y v u Q I rx ry h
  obtain ⟨F, d, z, hs, vw, kk, rfl, q⟩ := h
  obtain ⟨as, r, _⟩ := View.reads I hs vw kk rx
  obtain ⟨t, rfl⟩ := ry
  exact SeqAt.rc_any_str r z t (by omega) X.prog X.w _ _ ⟨.bl _, H, I, rfl, q⟩
theorem op_neT (hu : X.A.units + 1 < cLine) : OpR X (compareOp .NotEq) (rNeT X.K) := by
  intro pins s σ H x y v u Q I rx ry h
  obtain ⟨F, d, z, hs, vw, kk, rfl, q⟩ := h
  obtain ⟨as, r, _⟩ := View.reads I hs vw kk rx
  obtain ⟨t, rfl⟩ := ry
  exact SeqAt.rcNe_any_str r z t (by omega) X.prog X.w _ _ ⟨.bl _, H, I, rfl, q⟩
def eqTD : Op2 := fun d e k => match e with
  | .str z => kOk d = true ∧ k (.bool (PyData.eqv d (.str z)))
  | _ => False
def neTD : Op2 := fun d e k => match e with
  | .str z => kOk d = true ∧ k (.bool (!PyData.eqv d (.str z)))
  | _ => False
theorem ok_eqT : OpOk X (rEqT X.K) eqTD := fun F H x y d e q Q s v1 v2 w k => by
  cases e with
  | str z => exact ⟨F, d, z, s, v1, w.1, view_str v2, k _ _ _ _ w.2 (Gr.refl s) (.bl _)⟩
  | _ => exact w.elim
theorem ok_neT : OpOk X (rNeT X.K) neTD := fun F H x y d e q Q s v1 v2 w k => by
  cases e with
  | str z => exact ⟨F, d, z, s, v1, w.1, view_str v2, k _ _ _ _ w.2 (Gr.refl s) (.bl _)⟩
  | _ => exact w.elim
theorem q_eqT (hr : Room k X.A) (ha : QE X C a ta) (hb : QE X C b tb) : QE X C (.Compare a [.Eq] [b] pos) (dBin eqTD ta tb) := q_cmp (op_eqT (by have := hr.un; omega)) ok_eqT ha hb
theorem q_neT (hr : Room k X.A) (ha : QE X C a ta) (hb : QE X C b tb) : QE X C (.Compare a [.NotEq] [b] pos) (dBin neTD ta tb) := q_cmp (op_neT (by have := hr.un; omega)) ok_neT ha hb
theorem t_eqT (hr : Room k X.A) (ha : QE X C a ta) (hb : QE X C b tb) : QT X C (.Compare a [.Eq] [b] pos) (dTest (dBin eqTD ta tb)) := t_cmp (op_eqT (by have := hr.un; omega)) ok_eqT ha hb
theorem t_neT (hr : Room k X.A) (ha : QE X C a ta) (hb : QE X C b tb) : QT X C (.Compare a [.NotEq] [b] pos) (dTest (dBin neTD ta tb)) := t_cmp (op_neT (by have := hr.un; omega)) ok_neT ha hb
/-! ### anything in a list or tuple of texts -/
def eStr (d : PyData) : Value → Bool
  | .str z _ => PyData.eqv (.str z) d
  | _ => false
theorem vals_strs {d : PyData} : ∀ {zs : List Str} {us : List Value}, Vals (zs.map V.str) us → (∀ y ∈ us, ∃ z t, y = .str z t) ∧ us.any (eStr d) = (zs.map PyData.str).any fun z => PyData.eqv z d
  | [], us, h => by cases h; exact ⟨by simp, rfl⟩
  | z :: zs, us, h => by
    cases h with
    | cons r t =>
      obtain ⟨tk, rfl⟩ := r
      obtain ⟨h1, h2⟩ := vals_strs (d := d) t
      refine ⟨fun y hy => ?_, by rw [List.any_cons, h2, List.map_cons, List.any_cons]; rfl⟩
      rcases List.mem_cons.mp hy with rfl | hy
      · exact ⟨z, tk, rfl⟩
      · exact h1 y hy
def InT (K : PySem.W.Frag) (H : Hp) (x y : V) (r : Bool) : Prop := ∃ (F : Hp) (d : PyData) (a : Addr) (zs : List Str), Same F H ∧ View K F H x d ∧ kOk d = true ∧ y = .ref a ∧ (SqL K H a (zs.map V.str) ∨ SqT K H a (zs.map V.str)) ∧ r = (zs.map PyData.str).any fun z => PyData.eqv z d
theorem op_inT (hu : X.A.units + 1 < cLine) : OpR X (compareOp .In) (fun x y H Q => ∃ r, InT X.K H x y r ∧ Q (.bl r) H) := by
  intro pins s σ H x y v u Q I rx ry h
  obtain ⟨_, ⟨F, d, a, zs, hs, vw, kk, rfl, hq, rfl⟩, q⟩ := h
  obtain ⟨as, r, _⟩ := View.reads I hs vw kk rx
  cases ry
  rcases hq with hq | hq
  · obtain ⟨us, rv, ⟨o, n, ho, hc, _, hd⟩, _⟩ := I.list hq
    obtain ⟨h1, h2⟩ := vals_strs (d := d) rv
    refine SeqAt.in_listAt (items := us.toArray) (eStr d) ⟨o, ho, hc, n, hd⟩ (fun y hy => ?_) ⟨.bl _, H, I, ?_, q⟩
    · obtain ⟨z, t, rfl⟩ := h1 y (by simpa using hy)
      exact SeqAt.eq_str_any r z t (by show X.A.units + 1 < cLine; omega)
    · rw [← h2]; simp [RelV]
  · obtain ⟨us, rv, ⟨o, ho, hc, n, hd⟩, _⟩ := I.tuple hq
    obtain ⟨h1, h2⟩ := vals_strs (d := d) rv
    refine SeqAt.in_tupleAt (items := us.toArray) (eStr d) ⟨o, ho, hc, n, hd⟩ (fun y hy => ?_) ⟨.bl _, H, I, ?_, q⟩
    · obtain ⟨z, t, rfl⟩ := h1 y (by simpa using hy)
      exact SeqAt.eq_str_any r z t (by show X.A.units + 1 < cLine; omega)
    · rw [← h2]; simp [RelV]
theorem op_notInT (hu : X.A.units + 1 < cLine) : OpR X (compareOp .NotIn) (fun x y H Q => ∃ r, InT X.K H x y r ∧ Q (.bl (!r)) H) := by
  intro pins s σ H x y v u Q I rx ry h
  obtain ⟨_, ⟨F, d, a, zs, hs, vw, kk, rfl, hq, rfl⟩, q⟩ := h
  obtain ⟨as, r, _⟩ := View.reads I hs vw kk rx
  cases ry
  rcases hq with hq | hq
  · obtain ⟨us, rv, ⟨o, n, ho, hc, _, hd⟩, _⟩ := I.list hq
    obtain ⟨h1, h2⟩ := vals_strs (d := d) rv
    refine SeqAt.notIn_listAt (items := us.toArray) (eStr d) ⟨o, ho, hc, n, hd⟩ (fun y hy => ?_) ⟨.bl _, H, I, ?_, q⟩
    · obtain ⟨z, t, rfl⟩ := h1 y (by simpa using hy)
      exact SeqAt.eq_str_any r z t (by show X.A.units + 1 < cLine; omega)
    · rw [← h2]; simp [RelV]
  · obtain ⟨us, rv, ⟨o, ho, hc, n, hd⟩, _⟩ := I.tuple hq
    obtain ⟨h1, h2⟩ := vals_strs (d := d) rv
    refine SeqAt.notIn_tupleAt (items := us.toArray) (eStr d) ⟨o, ho, hc, n, hd⟩ (fun y hy => ?_) ⟨.bl _, H, I, ?_, q⟩
    · obtain ⟨z, t, rfl⟩ := h1 y (by simpa using hy)
      exact SeqAt.eq_str_any r z t (by show X.A.units + 1 < cLine; omega)
    · rw [← h2]; simp [RelV]
def inTD (pol : Bool) : Op2 := fun d e k => match e with
  | .list ds => kOk d = true ∧ (strsD ds).isSome = true ∧ k (.bool (if pol then ds.any fun z => PyData.eqv z d else !ds.any fun z => PyData.eqv z d))
  | .tuple ds => kOk d = true ∧ (strsD ds).isSome = true ∧ k (.bool (if pol then ds.any fun z => PyData.eqv z d else !ds.any fun z => PyData.eqv z d))
  | _ => False
theorem strs_all : ∀ {ds : List PyData} {zs : List Str}, strsD ds = some zs → ds = zs.map PyData.str
  | [], zs, h => by simp [strsD] at h; subst h; rfl
  | d :: ds, zs, h => by
    cases d with
    | str x =>
      have h : (strsD ds).map (x :: ·) = some zs := h
      cases e : strsD ds with
      | none => rw [e] at h; cases h
      | some ys => rw [e] at h; cases h; rw [strs_all e]; rfl
    | _ => cases h
theorem inT_of {F H : Hp} {x y : V} {d : PyData} {ds : List PyData} {zs : List Str} (s : Same F H) (v1 : View X.K F H x d) (kk : kOk d = true) (hz : strsD ds = some zs) (v2 : View X.K F H y (.list ds) ∨ View X.K F H y (.tuple ds)) : InT X.K H x y (ds.any fun z => PyData.eqv z d) := by
  have e := strs_all hz
  subst e
  rcases v2 with ⟨a, xs, rfl, hq, r⟩ | v2
  · rw [RepAll.strs r] at hq
    exact ⟨F, d, a, zs, s, v1, kk, rfl, .inl hq, rfl⟩
  · have v2 : Rep X.K F y (.tuple (zs.map PyData.str)) := v2
    cases v2 with
    | tup hq r =>
      rw [RepAll.strs r] at hq
      exact ⟨F, d, _, zs, s, v1, kk, rfl, .inr (sqT_mono s hq), rfl⟩
theorem ok_inT : OpOk X (fun x y H Q => ∃ r, InT X.K H x y r ∧ Q (.bl r) H) (inTD true) := fun F H x y d e q Q s v1 v2 w k => by
  cases e with
  | list ds =>
    obtain ⟨kk, hz, w⟩ := w
    obtain ⟨zs, hz⟩ := Option.isSome_iff_exists.mp hz
    exact ⟨_, inT_of s v1 kk hz (.inl v2), k _ _ _ _ w (Gr.refl s) (.bl _)⟩
  | tuple ds =>
    obtain ⟨kk, hz, w⟩ := w
    obtain ⟨zs, hz⟩ := Option.isSome_iff_exists.mp hz
    exact ⟨_, inT_of s v1 kk hz (.inr v2), k _ _ _ _ w (Gr.refl s) (.bl _)⟩
  | _ => exact w.elim
theorem ok_notInT : OpOk X (fun x y H Q => ∃ r, InT X.K H x y r ∧ Q (.bl (!r)) H) (inTD false) := fun F H x y d e q Q s v1 v2 w k => by
  cases e with
  | list ds =>
    obtain ⟨kk, hz, w⟩ := w
    obtain ⟨zs, hz⟩ := Option.isSome_iff_exists.mp hz
    exact ⟨_, inT_of s v1 kk hz (.inl v2), k _ _ _ _ w (Gr.refl s) (.bl _)⟩
  | tuple ds =>
    obtain ⟨kk, hz, w⟩ := w
    obtain ⟨zs, hz⟩ := Option.isSome_iff_exists.mp hz
    exact ⟨_, inT_of s v1 kk hz (.inr v2), k _ _ _ _ w (Gr.refl s) (.bl _)⟩
  | _ => exact w.elim
theorem q_inT (hr : Room k X.A) (ha : QE X C a ta) (hb : QE X C b tb) (hm : behindInMarks .In b = false := by rfl) : QE X C (.Compare a [.In] [b] pos) (dBin (inTD true) ta tb) := q_cmp (op_inT (by have := hr.un; omega)) ok_inT ha hb hm
theorem q_notinT (hr : Room k X.A) (ha : QE X C a ta) (hb : QE X C b tb) (hm : behindInMarks .NotIn b = false := by rfl) : QE X C (.Compare a [.NotIn] [b] pos) (dBin (inTD false) ta tb) := q_cmp (op_notInT (by have := hr.un; omega)) ok_notInT ha hb hm
theorem t_inT (hr : Room k X.A) (ha : QE X C a ta) (hb : QE X C b tb) (hm : behindInMarks .In b = false := by rfl) : QT X C (.Compare a [.In] [b] pos) (dTest (dBin (inTD true) ta tb)) := t_cmp (op_inT (by have := hr.un; omega)) ok_inT ha hb hm
theorem t_notinT (hr : Room k X.A) (ha : QE X C a ta) (hb : QE X C b tb) (hm : behindInMarks .NotIn b = false := by rfl) : QT X C (.Compare a [.NotIn] [b] pos) (dTest (dBin (inTD false) ta tb)) := t_cmp (op_notInT (by have := hr.un; omega)) ok_notInT ha hb hm
/-! ### a tuple == () -/
def IsE (K : PySem.W.Frag) (H : Hp) (x y : V) (r : Bool) : Prop := ∃ (F : Hp) (ds : List PyData), Same F H ∧ Rep K F x (.tuple ds) ∧ Rep K F y (.tuple []) ∧ r = ds.isEmpty
theorem tup_two {pins : List (Addr × Obj)} {σ : St} {H : Hp} {s : Shared} {x y : V} {v u : Value} {r : Bool} (I : Inv X pins σ H s) (rx : RelV x v) (ry : RelV y u) (h : IsE X.K H x y r) : ∃ (a b : Addr) (us : List Value), v = .ref a ∧ u = .ref b ∧ s.heap.IsTuple a us.toArray ∧ s.heap.IsTuple b #[] ∧ r = us.isEmpty := by
  obtain ⟨F, ds, hs, r1, r2, rfl⟩ := h
  cases r1 with
  | tup hq1 ra1 =>
    cases r2 with
    | tup hq2 ra2 =>
      cases ra2
      cases rx
      cases ry
      obtain ⟨us, rv, ⟨o, ho, hc, n, hd⟩, _⟩ := I.tuple (sqT_mono hs hq1)
      obtain ⟨ws, rw', ⟨o2, ho2, hc2, n2, hd2⟩, _⟩ := I.tuple (sqT_mono hs hq2)
      cases rw'
      refine ⟨_, _, us, rfl, rfl, ⟨o, ho, hc, n, hd⟩, ⟨o2, ho2, hc2, n2, hd2⟩, ?_⟩
      have l := rv.length.symm.trans ra1.length
      cases ds with
      | nil => cases us with
        | nil => rfl
        | cons _ _ => simp at l
      | cons _ _ => cases us with
        | nil => simp at l
        | cons _ _ => rfl
theorem emp_eq (us : List Value) (e : Nat → Bool) : ((List.range (min us.toArray.size (#[] : Array Value).size)).all e && us.toArray.size == (#[] : Array Value).size) = us.isEmpty := by
  cases us with
  | nil => rfl
  | cons a l => simp
theorem op_eqE (hu : X.A.units + 1 < cLine) : OpR X (compareOp .Eq) (fun x y H Q => ∃ r, IsE X.K H x y r ∧ Q (.bl r) H) := by
  intro pins s σ H x y v u Q I rx ry h
  obtain ⟨r, he, q⟩ := h
  obtain ⟨a, b, us, rfl, rfl, h1, h2, rfl⟩ := tup_two I rx ry he
  have := SeqAt.RcAt.tuples (A := X.A) (e := fun _ => true) h1 h2 (by omega) (fun j j1 j2 => absurd j2 (by simp))
  rw [emp_eq] at this
  exact this X.prog X.w _ _ ⟨.bl _, H, I, rfl, q⟩
theorem op_neE (hu : X.A.units + 1 < cLine) : OpR X (compareOp .NotEq) (fun x y H Q => ∃ r, IsE X.K H x y r ∧ Q (.bl (!r)) H) := by
  intro pins s σ H x y v u Q I rx ry h
  obtain ⟨r, he, q⟩ := h
  obtain ⟨a, b, us, rfl, rfl, h1, h2, rfl⟩ := tup_two I rx ry he
  have := SeqAt.RcNeAt.tuples (A := X.A) (e := fun _ => true) h1 h2 (by omega) (fun j j1 j2 => absurd j2 (by simp))
  rw [emp_eq] at this
  exact this X.prog X.w _ _ ⟨.bl _, H, I, rfl, q⟩
def eqED (pol : Bool) : Op2 := fun d e k => match d, e with
  | .tuple ds, .tuple [] => k (.bool (if pol then ds.isEmpty else !ds.isEmpty))
  | _, _ => False
theorem ok_eqE : OpOk X (fun x y H Q => ∃ r, IsE X.K H x y r ∧ Q (.bl r) H) (eqED true) := fun F H x y d e q Q s v1 v2 w k => by
  match d, e, w, v1, v2 with
  | .tuple ds, .tuple [], w, v1, v2 => exact ⟨_, ⟨F, ds, s, v1, v2, rfl⟩, k _ _ _ _ w (Gr.refl s) (.bl _)⟩
theorem ok_neE : OpOk X (fun x y H Q => ∃ r, IsE X.K H x y r ∧ Q (.bl (!r)) H) (eqED false) := fun F H x y d e q Q s v1 v2 w k => by
  match d, e, w, v1, v2 with
  | .tuple ds, .tuple [], w, v1, v2 => exact ⟨_, ⟨F, ds, s, v1, v2, rfl⟩, k _ _ _ _ w (Gr.refl s) (.bl _)⟩
theorem q_eqE (hr : Room k X.A) (ha : QE X C a ta) (hb : QE X C b tb) : QE X C (.Compare a [.Eq] [b] pos) (dBin (eqED true) ta tb) := q_cmp (op_eqE (by have := hr.un; omega)) ok_eqE ha hb
theorem t_eqE (hr : Room k X.A) (ha : QE X C a ta) (hb : QE X C b tb) : QT X C (.Compare a [.Eq] [b] pos) (dTest (dBin (eqED true) ta tb)) := t_cmp (op_eqE (by have := hr.un; omega)) ok_eqE ha hb
theorem q_neE (hr : Room k X.A) (ha : QE X C a ta) (hb : QE X C b tb) : QE X C (.Compare a [.NotEq] [b] pos) (dBin (eqED false) ta tb) := q_cmp (op_neE (by have := hr.un; omega)) ok_neE ha hb
theorem t_neE (hr : Room k X.A) (ha : QE X C a ta) (hb : QE X C b tb) : QT X C (.Compare a [.NotEq] [b] pos) (dTest (dBin (eqED false) ta tb)) := t_cmp (op_neE (by have := hr.un; omega)) ok_neE ha hb
end
end Dv

set_option Elab.async false
set_option linter.all false
set_option maxRecDepth 100000
namespace Dv
open PySem PySem.Spec L2 PyProof.Rows
/-! ### t[::-1] -/
theorem adj_rev (n : Nat) : Builtin.Slice.sliceAdjust none none (-1) (n : Int) = ((n : Int) - 1, -1) := by
  unfold Builtin.Slice.sliceAdjust
  simp
theorem places_rev (n : Nat) : Builtin.Slice.slicePlaces ((n : Int) - 1) (-1) (-1) = n := by
  unfold Builtin.Slice.slicePlaces
  simp
  omega
theorem pick_rev (xs : Array Value) : ((List.range xs.size).filterMap fun (m : Nat) => xs[((xs.size : Int) - 1 + (m : Int) * -1).toNat]?) = xs.toList.reverse := by
  refine List.ext_getElem? fun i => ?_
  have e : ((List.range xs.size).filterMap fun (m : Nat) => xs[((xs.size : Int) - 1 + (m : Int) * -1).toNat]?) = (List.range xs.size).map fun m => xs[xs.size - 1 - m]?.getD .none := by
    have key : ∀ l : List Nat, (∀ m ∈ l, m < xs.size) → (l.filterMap fun (m : Nat) => xs[((xs.size : Int) - 1 + (m : Int) * -1).toNat]?) = l.map fun m => xs[xs.size - 1 - m]?.getD .none := by
      intro l
      induction l with
      | nil => intro _; rfl
      | cons m l ih =>
        intro h
        have hm := h m List.mem_cons_self
        have hl : xs.size - 1 - m < xs.size := by omega
        have e1 : ((xs.size : Int) - 1 + (m : Int) * -1).toNat = xs.size - 1 - m := by omega
        rw [List.filterMap_cons, List.map_cons, ih fun x hx => h x (List.mem_cons_of_mem _ hx), e1]
        simp [hl]
    exact key _ fun m hm => List.mem_range.mp hm
  rw [e, List.getElem?_map]
  by_cases hi : i < xs.size
  · rw [List.getElem?_range hi, List.getElem?_reverse (by simpa using hi)]
    have hl : xs.size - 1 - i < xs.size := by omega
    simp [hl]
  · rw [List.getElem?_eq_none (by simp; omega), List.getElem?_eq_none (by simp; omega)]
    rfl
section
variable {prog : Program} {w : World} {A : Around} {E : Value → Shared → Prop} {s : Shared}
theorem applied_rev {sl : Addr} {vs : Value} {n : Nat} {Q : Int × Int × Nat → Shared → Prop} (hs : s.heap.IsSliceOf sl .none .none vs) (ps : IsPart vs (some (-1))) (h : Q ((n : Int) - 1, -1, n) s) :
    wpAny (model prog w) A (Builtin.Slice.sliceApplied (.ref sl) (pure (n : Int))) Q E s := by
  obtain ⟨o, ho, _, hd⟩ := hs
  unfold Builtin.Slice.sliceApplied Builtin.Slice.sliceFields
  refine wpAny_bind (wpAny_bind (wpAny_field ho hd (x := .none) rfl (wpAny_bind (wpAny_field ho hd (x := .none) rfl (wpAny_bind (wpAny_field ho hd (x := vs) rfl (wpAny_pure ?_)))))))
  refine wpAny_bind (HT.slicePart_ ps ?_)
  show wpAny _ _ (if ((-1 : Int) == 0) = true then _ else _) _ _ s
  rw [if_neg (by decide)]
  refine wpAny_bind (slicePart_none (wpAny_bind (slicePart_none (wpAny_bind (wpAny_pure ?_)))))
  show wpAny _ _ (match Builtin.Slice.sliceAdjust none none (-1) (n : Int) with | (lo, hi) => pure (lo, (-1 : Int), Builtin.Slice.slicePlaces lo hi (-1))) _ _ s
  rw [adj_rev]
  show wpAny _ _ (pure ((n : Int) - 1, (-1 : Int), Builtin.Slice.slicePlaces ((n : Int) - 1) (-1) (-1))) _ _ s
  rw [places_rev]
  exact wpAny_pure h
theorem getItem_tuple_rev {t sl : Addr} {items : Array Value} {vs : Value} {Q : Value → Shared → Prop} (ht : IsTup s.heap t items) (hs : s.heap.IsSliceOf sl .none .none vs) (ps : IsPart vs (some (-1)))
    (h : Q (.ref s.heap.objs.size) { s with heap := s.heap.push { cls := .type "tuple", data := .seq items.toList.reverse.toArray } })
    (hz : items.size ≤ sizeLine) : wpAny (model prog w) A (getItem (.ref t) (.ref sl)) Q E s := by
  have hsz : sizeOk (.seq items.toList.reverse.toArray) := by
    show items.toList.reverse.toArray.size ≤ sizeLine
    simpa using hz
  obtain ⟨o, ho, hc, hd⟩ := id hs
  unfold getItem
  try with_reducible refine wpAny_holding ?_
  first | refine wpAny_bind (wpAny_pure ?_) | skip
  refine wpAny_bind (wpAny_sequenceKey ht.typeIs (by decide) ?_)
  refine wpAny_bind (wpAny_callSpecial?_slot (name := Str.ofString "__getitem__") ht.typeIs PyProof.Rows.slot_tuple_getitem
    (wpAny_call_entry PyProof.Rows.slot_tuple_getitem ht.typeIs PyProof.Rows.entry_tuple_getitem ?_ (PyProof.Rows.args_tuple_getitem _ _)))
  show wpAny _ _ (Builtin.Tuple.tupleItemsOf (.ref t) >>= _) _ _ s
  refine wpAny_bind (tupleItemsOf_ ht ?_)
  refine wpAny_bind (wpAny_typeOf (show s.TypeIs (.ref sl) "slice" from ⟨o, ho, hc⟩) ?_)
  rw [if_pos (by decide)]
  refine wpAny_bind (applied_rev hs ps ?_)
  show wpAny _ _ (if (((items.size : Int) - 1 == 0) && ((-1 : Int) == 1) && (items.size == items.size)) = true then _ else _) _ _ s
  rw [if_neg (by simp), pick_rev]
  first
    | exact wpAny_bind (m := Builtin.Tuple.tupleExact _) (wpAny_newObj_type (wpAny_pure ⟨_, rfl, wpAny_pure h⟩) hsz)
    | exact wpAny_bind (m := Builtin.Tuple.tupleExact _) (wpAny_newObj_type (wpAny_bind (wpAny_pure (wpAny_pure ⟨_, rfl, wpAny_pure h⟩))) hsz)
    | exact wpAny_bind (wpAny_bind (m := Builtin.Tuple.tupleExact _) (wpAny_newObj_type (wpAny_pure (wpAny_pure ⟨_, rfl, wpAny_pure h⟩)) hsz))
    | exact wpAny_bind (wpAny_bind (m := Builtin.Tuple.tupleExact _) (wpAny_newObj_type (wpAny_pure ⟨_, rfl, wpAny_pure h⟩) hsz))
end
section
variable {X : Cx} {C : FC} {P : List Bool} {e a b : Expr} {te ta tb : DE} {tA : DA} {p pos : Pos} {k : Nat}
def tRevT (K : PySem.W.Frag) (te : TE) : TE := fun σ H Q => te σ H fun x H1 => ∃ a xs, x = .ref a ∧ SqT K H1 a xs ∧ ∀ p, H1 p = none → Q (.ref p) (upd H1 p (.tup xs.reverse))
theorem pe_revT {te : TE} {kk : Nat} {p1 p2 p3 pos : Pos} (he : PE X e te) : PE X (.Subscript e (.Slice none none (some (.UnaryOp .USub (.Constant (.int 1) kk p1) p2)) p3) pos) (tRevT X.K te) := by
  refine ⟨fun pins s σ H Q I h => ?_⟩
  refine Subscript_ (thn (he.run pins s σ H _ I h) fun v s1 ⟨x, H1, I1, r1, q1⟩ => ?_)
  obtain ⟨a, xs, ex, hx, q⟩ := q1
  subst ex
  cases r1
  have hst : PO X (some (.UnaryOp .USub (.Constant (.int 1) kk p1) p2)) (tPart (tUn (rU fun i => .int (-i)) (tC (.int 1)))) := po_some (pe_un un_neg pe_int)
  refine wpAny_Slice (thn (po_none.run pins s1 σ H1 (fun o H2 => o = none ∧ H2 = H1) I1 ⟨rfl, rfl⟩) fun vl s2 ⟨l, H2, I2, pl, el, e2⟩ => ?_)
  subst el e2
  refine thn (po_none.run pins s2 σ H2 (fun o H3 => o = none ∧ H3 = H2) I2 ⟨rfl, rfl⟩) fun vu s3 ⟨u, H3, I3, pu, eu, e3⟩ => ?_
  subst eu e3
  refine thn (hst.run pins s3 σ H3 (fun o H4 => o = some (-1) ∧ H4 = H3) I3 ⟨1, rfl, -1, rfl, rfl, rfl⟩) fun vs s4 ⟨o, H4, I4, ps, eo, e4⟩ => ?_
  subst eo e4
  cases pl
  cases pu
  have I5 : Inv X pins σ H4 { s4 with heap := s4.heap.push { cls := .type "slice", data := .fields #[.none, .none, vs] } } := I4.kept (t' := s4.toks) fun b ob q => Heap.get?_push_of_some _ q
  obtain ⟨its, r, ht, hz⟩ := I5.tuple hx
  have hlen := r.length
  show wpAny (model X.prog X.w) X.A (subscriptTail e (.Slice none none (some (.UnaryOp .USub (.Constant (.int 1) kk p1) p2)) p3) (.ref a) (.ref s4.heap.objs.size)) (EP X pins σ Q) X.xe { s4 with heap := s4.heap.push { cls := .type "slice", data := .fields #[.none, .none, vs] } }
  refine tail_any (ops := [.ref a, .ref s4.heap.objs.size]) ht.typeIs (PyProof.Rows.slot_tuple_getitem.lookup) ?_ (by with_unfolding_all rfl)
  refine getItem_tuple_rev ht (Heap.IsSliceOf.new _ .none .none vs) ps ?_ (by rw [List.size_toArray]; omega)
  refine ⟨.ref _, _, I5.laid (t' := s4.toks) (o := .tup xs.reverse) (fun b ob q => Heap.get?_push_of_some _ q) (Nat.le_refl _) ?_, rfl, q _ (I5.hok.fresh (Nat.le_refl _))⟩
  exact ⟨by rw [List.length_reverse]; exact hz, _, r.reverse, IsTup.new _ _⟩
def dRevT (t : DE) : DE := fun ρ Q => t ρ fun o ρ1 => withO ρ1 o fun d => match d with
  | .tuple ds => Q (.val (.tuple ds.reverse)) ρ1
  | _ => False
theorem q_revT {kk : Nat} {p1 p2 p3 : Pos} (ha : QE X C a ta) : QE X C (.Subscript a (.Slice none none (some (.UnaryOp .USub (.Constant (.int 1) kk p1) p2)) p3) pos) (dRevT ta) :=
  QE.of (pe_revT ha.pe) fun σ H Q ⟨F, ρ, q, S, ht, k⟩ => by
    refine ⟨F, ρ, _, S, ht, fun o ρ1 F1 H1 v h1 S1 s1 d1 => ?_⟩
    obtain ⟨d, vd, w⟩ := S1.see d1 h1
    cases d with
    | tuple ds =>
      obtain ⟨a, xs, e1, hq, r, rp⟩ := view_tup S1.sub vd
      subst e1
      refine ⟨a, xs, rfl, hq, fun p hp => ?_⟩
      have g := Gr.new (o := .tup xs.reverse) S1.sub hp
      exact k _ _ _ _ _ w (S1.grow g) (s1.trans g.f) (.tup (SqT.of upd_same) (r.reverse.mono g.f))
    | _ => exact w.elim
/-! ### text * number -/
def repS (x : Str) (n : Nat) : Str := ⟨(List.replicate n x.cps).foldl (· ++ ·) #[]⟩
theorem fold_len (x : Array Nat) : ∀ (n : Nat) (acc : Array Nat), ((List.replicate n x).foldl (· ++ ·) acc).size = acc.size + x.size * n
  | 0, acc => by simp
  | n + 1, acc => by rw [List.replicate_succ, List.foldl_cons, fold_len x n, Array.size_append, Nat.mul_add]; omega
theorem repS_len (x : Str) (n : Nat) : (repS x n).length = x.length * n := by
  show ((List.replicate n x.cps).foldl (· ++ ·) #[]).size = x.cps.size * n
  rw [fold_len]
  simp
theorem fold_mem (x : Array Nat) : ∀ (n : Nat) (acc : Array Nat) (c : Nat), c ∈ ((List.replicate n x).foldl (· ++ ·) acc).toList → c ∈ acc.toList ∨ c ∈ x.toList
  | 0, acc, c, h => .inl (by simpa using h)
  | n + 1, acc, c, h => by
    rw [List.replicate_succ, List.foldl_cons] at h
    rcases fold_mem x n _ c h with h | h
    · simp at h
      rcases h with h | h
      · exact .inl (by simpa using h)
      · exact .inr (by simpa using h)
    · exact .inr h
theorem repS_mem {x : Str} {n c : Nat} (h : c ∈ (repS x n).cps.toList) : c ∈ x.cps.toList := by
  rcases fold_mem x.cps n #[] c h with h | h
  · simp at h
  · exact h
theorem op_mulS : OpR X (binaryOp .Mult) (fun x y H Q => ∃ a n, x = .str a ∧ y = .int n ∧ 2 ≤ n ∧ n ≤ 1000 ∧ a.length ≤ 10000 ∧ Q (.str (if a.length = 0 then a else repS a n.toNat)) H) := by
  intro pins s σ H x y v u Q I rx ry h
  obtain ⟨a, n, rfl, rfl, h1, h2, h3, q⟩ := h
  obtain ⟨t, rfl⟩ := rx
  obtain ⟨t', rfl⟩ := ry
  have hm : a.length * n.toNat ≤ 10000 * 1000 := Nat.mul_le_mul h3 (by omega)
  refine PySem.P.mul_str ?_ (fun _ _ => ?_) (fun _ _ => ?_) ?_
  · rw [decide_eq_false (by omega), decide_eq_false (by omega)]; rfl
  · have hd : (1000000000 : Int) ≤ (2 ^ 63 - 1) / n := by
      rw [Int.le_ediv_iff_mul_le (by omega)]
      omega
    omega
  · have : a.length * n.toNat ≤ 16777216 := by omega
    exact PyProof.Rows.short24 this
  · rw [if_neg (by omega)]
    by_cases c : a.length = 0
    · rw [if_pos (by simp [c])]
      rw [if_pos c] at q
      exact ⟨.str a, H, I, ⟨t, rfl⟩, q⟩
    · rw [if_neg (by simp [c]; omega)]
      rw [if_neg c] at q
      exact ⟨by show (repS a n.toNat).length ≤ sizeLine; rw [repS_len]; exact le_line (Nat.le_trans hm tle), .str (repS a n.toNat), H, I.tok _, ⟨_, rfl⟩, q⟩
def mulXD : Op2 := fun d e k => match d, e with
  | .str a, .int n => 2 ≤ n ∧ n ≤ 1000 ∧ a.length ≤ 10000 ∧ k (.str (if a.length = 0 then a else repS a n.toNat))
  | .tuple ds, .int n => ds ≠ [] ∧ 2 ≤ n ∧ n ≤ 1000 ∧ ds.length ≤ 1000 ∧ k (.tuple (List.replicate n.toNat ds).flatten)
  | _, _ => False
theorem repAll_rep {K : PySem.W.Frag} {F : Hp} {xs : List V} {ds : List PyData} (r : RepAll K F xs ds) : ∀ n : Nat, RepAll K F (List.replicate n xs).flatten (List.replicate n ds).flatten
  | 0 => .nil
  | n + 1 => by rw [List.replicate_succ, List.flatten_cons, List.replicate_succ, List.flatten_cons]; exact r.append (repAll_rep r n)
theorem ok_mulX : OpOk X (fun x y H Q => (∃ a n, x = .str a ∧ y = .int n ∧ 2 ≤ n ∧ n ≤ 1000 ∧ a.length ≤ 10000 ∧ Q (.str (if a.length = 0 then a else repS a n.toNat)) H) ∨ rRepT X.K x y H Q) mulXD := fun F H x y d e q Q s v1 v2 w k => by
  match d, e, w, v1, v2 with
  | .str a, .int n, w, v1, v2 =>
    obtain ⟨h1, h2, h3, w⟩ := w
    exact .inl ⟨a, n, view_str v1, view_int v2, h1, h2, h3, k _ _ _ _ w (Gr.refl s) (.str _)⟩
  | .tuple ds, .int n, w, v1, v2 =>
    obtain ⟨h0, h1, h2, h3, w⟩ := w
    obtain ⟨a, xs, e1, hq, r, _⟩ := view_tup s v1
    subst e1
    refine .inr ⟨a, n, xs, rfl, view_int v2, hq, fun e => h0 ?_, h1, h2, by rw [r.length]; exact h3, fun p hp => ?_⟩
    · subst e; cases r; rfl
    · have g := Gr.new (o := .tup (List.replicate n.toNat xs).flatten) s hp
      exact k _ _ _ _ w g (.tup (SqT.of upd_same) ((repAll_rep r _).mono g.f))
theorem q_mulX (ha : QE X C a ta) (hb : QE X C b tb) : QE X C (.BinOp a .Mult b pos) (dBin mulXD ta tb) := q_bin (op_mulS.or op_repT) ok_mulX ha hb
/-! ### text.upper(), str(number) -/
def strID : OpN := fun ds k => match ds with
  | [.int i] => i.natAbs.log2 < 1920 ∧ k (.str (toString i))
  | _ => False
theorem ok_strI : CallOk X (fun xs H Q => ∃ i : Int, xs = [.int i] ∧ i.natAbs.log2 < 1920 ∧ Q (.str (toString i)) H) strID := fun F H vs ds q Q s v w k => by
  match ds, v, w with
  | [.int i], v, w =>
    obtain ⟨v, e, vw⟩ := va1 v
    subst e
    exact ⟨i, by rw [view_int vw], w.1, k _ _ _ _ w.2 (Gr.refl s) (.str _)⟩
theorem q_strI (hm : X.mg "str" = none) (ha : QA X C [a] tA) (hg : Gl X "str" := by rfl)
    (he : starEach [a] X.env = (false, eval a X.env) :: starEach [] X.env := by rfl) (hpl : (backTo pos (starEach [] X.env)).any (·.1) = false := by rfl) : QE X C (.Call (.Name "str" p) [a] [] pos) (dCB strID tA) :=
  q_callTy call_str_int ok_strI hm (by decide +kernel) ha hg (by decide) (by decide) he hpl
end
end Dv

set_option Elab.async false
set_option linter.all false
set_option maxRecDepth 100000
namespace Dv
open PySem PySem.Spec PySem.W L2 PyProof.Rows
section
variable {X : Cx} {C : FC} {P : List Bool} {e a b : Expr} {te ta tb : DE} {tA : DA} {p pos : Pos} {k : Nat}
/-! ### a list != [] -/
theorem op_neL (hu : X.A.units + 1 < cLine) : OpR X (compareOp .NotEq) (fun x y H Q => ∃ a b us, x = .ref a ∧ y = .ref b ∧ SqL X.K H a us ∧ SqL X.K H b [] ∧ Q (.bl (!us.isEmpty)) H) := by
  intro pins s σ H x y v u Q I rx ry h
  obtain ⟨a, b, us, rfl, rfl, h1, h2, q⟩ := h
  cases rx
  cases ry
  obtain ⟨its, rv, p1, _⟩ := I.list h1
  obtain ⟨its2, rv2, p2, _⟩ := I.list h2
  cases rv2
  cases us with
  | nil =>
    cases rv
    have := SeqAt.RcNeAt.lists (A := X.A) (e := fun _ => true) p1.isList p2.isList rfl (by omega) (fun j j1 j2 => absurd j2 (by simp))
    exact this X.prog X.w _ _ ⟨.bl _, H, I, rfl, q⟩
  | cons x xs =>
    cases rv with
    | cons r rr =>
      have := SeqAt.RcNeAt.lists_lengths (A := X.A) p1.isList p2.isList (by simp) (by omega)
      exact this X.prog X.w _ _ ⟨.bl _, H, I, rfl, q⟩
def neLD : Op2 := fun d e k => match d, e with
  | .list ds, .list [] => k (.bool (!ds.isEmpty))
  | _, _ => False
theorem ok_neL : OpOk X (fun x y H Q => ∃ a b us, x = .ref a ∧ y = .ref b ∧ SqL X.K H a us ∧ SqL X.K H b [] ∧ Q (.bl (!us.isEmpty)) H) neLD := fun F H x y d e q Q s v1 v2 w k => by
  match d, e, w, v1, v2 with
  | .list ds, .list [], w, v1, v2 =>
    obtain ⟨a, us, e1, h1, r1⟩ := v1
    obtain ⟨b, us2, e2, h2, r2⟩ := v2
    cases r2
    subst e1 e2
    have l := r1.length
    have e : us.isEmpty = ds.isEmpty := by
      cases us with
      | nil => cases ds with
        | nil => rfl
        | cons _ _ => simp at l
      | cons _ _ => cases ds with
        | nil => simp at l
        | cons _ _ => rfl
    refine ⟨a, b, us, rfl, rfl, h1, h2, ?_⟩
    rw [e]
    exact k _ _ _ _ w (Gr.refl s) (.bl _)
theorem q_neL (hr : Room k X.A) (ha : QE X C a ta) (hb : QE X C b tb) : QE X C (.Compare a [.NotEq] [b] pos) (dBin neLD ta tb) := q_cmp (op_neL (by have := hr.un; omega)) ok_neL ha hb
theorem t_neL (hr : Room k X.A) (ha : QE X C a ta) (hb : QE X C b tb) : QT X C (.Compare a [.NotEq] [b] pos) (dTest (dBin neLD ta tb)) := t_cmp (op_neL (by have := hr.un; omega)) ok_neL ha hb
/-! ### max(a list of numbers) -/
def maxLD : OpN := fun ds k => match ds with
  | [.list xs] => match intsD xs with
    | some ns => 0 < ns.length ∧ ∀ m, m ∈ ns → (∀ y, y ∈ ns → y ≤ m) → k (.int m)
    | none => False
  | _ => False
theorem q_maxL (hc : X.calm = true) (hm : X.mg "max" = none) (ha : QA X C [a] tA) (hg : Gl X "max" := by rfl)
    (he : starEach [a] X.env = (false, eval a X.env) :: starEach [] X.env := by rfl) (hpl : (backTo pos (starEach [] X.env)).any (·.1) = false := by rfl) : QE X C (.Call (.Name "max" p) [a] [] pos) (dCB maxLD tA) :=
  q_callB (cr_max hc) (fun F H vs ds q Q s v w k => by
    match ds, v, w with
    | [.list xs], v, w =>
      obtain ⟨v, e, b, ys, e2, h, r⟩ := va1 v
      subst e e2
      have w2 : (match intsD xs with | some ns => 0 < ns.length ∧ ∀ m, m ∈ ns → (∀ y, y ∈ ns → y ≤ m) → q (.int m) | none => False) := w
      cases z : intsD xs with
      | none => rw [z] at w2; exact w2.elim
      | some ns =>
        rw [z] at w2
        have e := ints_map z
        subst e
        have e2 := rep_ints r
        subst e2
        exact ⟨b, ns, rfl, h, w2.1, fun m h1 h2 => k _ _ _ _ (w2.2 m h1 h2) (Gr.refl s) (.int _)⟩) hm (by decide +kernel) ha hg (by decide) (by decide) he hpl
/-! ### tuple * n for n from 0 on -/
theorem tuple_mul1 (l : Addr) (items : Array Value) (n : Nat) (dd : Option Addr) (sl : Array (Option Value)) (u : Tok) :
    Meets (Builtin.«tuple.__mul__» ⟨[.ref l, .int 1 u], []⟩) (fun _ R s => s.heap.get? l = some { cls := .type "tuple", dict := dd, data := .seq items n, slots := sl } ∧ R (.ok (.ret (Value.ref l))) s) :=
  .of_wp fun prog w A R s h => by
    obtain ⟨hp, g, d, tk, os⟩ := s
    obtain ⟨hl, h⟩ := h
    have f1 := AutoSeq1.idx_int
    have c0 : (decide ((1 : Int) < -(2 ^ 63)) || decide ((1 : Int) ≥ 2 ^ 63)) = false := by decide
    have c1 : (items.isEmpty || ((1 : Int) == 1)) = true := by simp
    wp_walk using wpAny_loadPart' hl
    repeat (first
      | (refine wpAny_ite_false (decide_eq_false (by rw [c0]; exact Bool.false_ne_true)) ?_; wp_walk using wpAny_loadPart' hl)
      | (refine wpAny_ite_true (decide_eq_true (by rw [c1])) ?_; wp_walk using wpAny_loadPart' hl))
    exact ⟨_, rfl, h⟩
theorem tuple_mul0 (l : Addr) (items : Array Value) (n : Nat) (dd : Option Addr) (sl : Array (Option Value)) (u : Tok) (hi : items.isEmpty = false) :
    Meets (Builtin.«tuple.__mul__» ⟨[.ref l, .int 0 u], []⟩) (fun _ R s => s.heap.get? l = some { cls := .type "tuple", dict := dd, data := .seq items n, slots := sl } ∧
      R (.ok (.ret (Value.ref s.heap.objs.size))) { s with heap := s.heap.push { cls := Value.type "tuple", data := Data.seq #[] }, toks := s.toks }) :=
  .of_wp fun prog w A R s h => by
    obtain ⟨hp, g, d, tk, os⟩ := s
    obtain ⟨hl, h⟩ := h
    have f1 := AutoSeq1.idx_int
    have c0 : (decide ((0 : Int) < -(2 ^ 63)) || decide ((0 : Int) ≥ 2 ^ 63)) = false := by decide
    have c1 : (items.isEmpty || ((0 : Int) == 1)) = false := by rw [hi]; rfl
    have c2 : (decide ((0 : Int) ≤ 0) || items.isEmpty) = true := rfl
    wp_walk using wpAny_loadPart' hl
    repeat (first
      | (refine wpAny_ite_false (decide_eq_false (by rw [c0]; exact Bool.false_ne_true)) ?_; wp_walk using wpAny_loadPart' hl)
      | (refine wpAny_ite_false (decide_eq_false (by rw [c1]; exact Bool.false_ne_true)) ?_; wp_walk using wpAny_loadPart' hl)
      | (refine wpAny_ite_true (decide_eq_true (by rw [c2])) ?_; wp_walk using wpAny_loadPart' hl))
    exact ⟨_, rfl, h⟩
theorem op_rep01 : OpR X (binaryOp .Mult) (fun x y H Q => ∃ l xs, x = .ref l ∧ SqT X.K H l xs ∧ xs ≠ [] ∧ ((y = .int 1 ∧ Q (.ref l) H) ∨ (y = .int 0 ∧ ∀ p, H p = none → Q (.ref p) (upd H p (.tup []))))) := by
  intro pins s σ H x y v u Q I rx ry h
  obtain ⟨l, xs, rfl, hT, hne, h⟩ := h
  cases rx
  obtain ⟨its, r, ⟨⟨cls, dd, data, sl⟩, ho, hc, n, hd⟩, hs⟩ := I.tuple hT
  simp only at hc hd
  subst hc hd
  have hle : its.length = xs.length := r.length.symm
  have hn : its ≠ [] := fun e => hne (by
    rw [e] at hle
    exact List.eq_nil_of_length_eq_zero hle.symm)
  have hi : its.toArray.isEmpty = false := by
    cases its with
    | nil => exact absurd rfl hn
    | cons a b => rfl
  rcases h with ⟨rfl, q⟩ | ⟨rfl, q⟩
  · obtain ⟨t, rfl⟩ := ry
    exact wpAny_binaryOp_repeat_ref (T := "tuple") (U := "int") (by decide) ⟨_, ho, rfl⟩ (fun s' => typeIs_int s' 1 t) noFill_tuple_mul F.fills_int_mul F.slot_int_rmul repeat_tuple F.slot_int_index.lookup
      (call_meets F.slot_int_rmul (typeIs_int s 1 t) F.entry_int_rmul (F.args_int_rmul_2 _ _) (int_rmul_tuple 1 t l its.toArray n dd sl)
        ⟨ho, rfl, ⟨_, ho, rfl⟩, call_meets F.slot_tuple_mul ⟨_, ho, rfl⟩ F.entry_tuple_mul (F.args_tuple_mul_2 _ _) (tuple_mul1 l its.toArray n dd sl t) ⟨ho, .ref l, H, I, rfl, q⟩⟩)
  · obtain ⟨t, rfl⟩ := ry
    refine wpAny_binaryOp_repeat_ref (T := "tuple") (U := "int") (by decide) ⟨_, ho, rfl⟩ (fun s' => typeIs_int s' 0 t) noFill_tuple_mul F.fills_int_mul F.slot_int_rmul repeat_tuple F.slot_int_index.lookup
      (call_meets F.slot_int_rmul (typeIs_int s 0 t) F.entry_int_rmul (F.args_int_rmul_2 _ _) (int_rmul_tuple 0 t l its.toArray n dd sl)
        ⟨ho, rfl, ⟨_, ho, rfl⟩, call_meets F.slot_tuple_mul ⟨_, ho, rfl⟩ F.entry_tuple_mul (F.args_tuple_mul_2 _ _) (tuple_mul0 l its.toArray n dd sl t hi) ⟨ho, ?_⟩⟩)
    refine ⟨.ref s.heap.objs.size, _, I.laid (t' := s.toks) (o := .tup []) (fun b ob q => Heap.get?_push_of_some _ q) (Nat.le_refl _) ?_, rfl, q _ (I.hok.fresh (Nat.le_refl _))⟩
    exact ⟨Nat.zero_le _, _, .nil, IsTup.new _ _⟩
def mulYD : Op2 := fun d e k => match d, e with
  | .tuple ds, .int n => ds ≠ [] ∧ 0 ≤ n ∧ n ≤ 1000 ∧ ds.length ≤ 1000 ∧ k (.tuple (List.replicate n.toNat ds).flatten)
  | _, _ => False
theorem ok_mulY : OpOk X (fun x y H Q => (∃ l xs, x = .ref l ∧ SqT X.K H l xs ∧ xs ≠ [] ∧ ((y = .int 1 ∧ Q (.ref l) H) ∨ (y = .int 0 ∧ ∀ p, H p = none → Q (.ref p) (upd H p (.tup []))))) ∨ rRepT X.K x y H Q) mulYD := fun F H x y d e q Q s v1 v2 w k => by
  match d, e, w, v1, v2 with
  | .tuple ds, .int n, w, v1, v2 =>
    obtain ⟨h0, h1, h2, h3, w⟩ := w
    obtain ⟨a, xs, e1, hq, r, rp⟩ := view_tup s v1
    have hne : xs ≠ [] := fun e => h0 (by subst e; cases r; rfl)
    subst e1
    by_cases c1 : n = 1
    · subst c1
      refine .inl ⟨a, xs, rfl, hq, hne, .inl ⟨view_int v2, ?_⟩⟩
      have w : q (.tuple (List.replicate 1 ds).flatten) := w
      simp at w
      exact k _ _ _ _ w (Gr.refl s) rp
    · by_cases c0 : n = 0
      · subst c0
        refine .inl ⟨a, xs, rfl, hq, hne, .inr ⟨view_int v2, fun p hp => ?_⟩⟩
        have g := Gr.new (o := .tup []) s hp
        exact k _ _ _ _ w g (.tup (SqT.of upd_same) .nil)
      · refine .inr ⟨a, n, xs, rfl, view_int v2, hq, hne, by omega, h2, by rw [r.length]; exact h3, fun p hp => ?_⟩
        have g := Gr.new (o := .tup (List.replicate n.toNat xs).flatten) s hp
        exact k _ _ _ _ w g (.tup (SqT.of upd_same) ((repAll_rep r _).mono g.f))
theorem q_mulY (ha : QE X C a ta) (hb : QE X C b tb) : QE X C (.BinOp a .Mult b pos) (dBin mulYD ta tb) := q_bin (op_rep01.or op_repT) ok_mulY ha hb
end
end Dv

set_option Elab.async false
set_option linter.all false
set_option maxRecDepth 100000
namespace Dv
open PySem PySem.Spec PySem.W L2
open PyProof.Rows (Call_)
/-! ### dict(enumerate(x)) -/
section
variable {prog : Program} {w : World} {A : Around} {E : Value → Shared → Prop} {s : Shared} {e it T : Addr} {fp : List Addr} {n i : Nat} {P : Nat → Value → Prop} {St : Nat → Heap → Prop} {f : Bool} {oT : Obj} {old : Value}
theorem enumHeld_item {Q : Value → Shared → Prop} (D : Draws prog w A it fp n P St) (he : IsEnumHeld s.heap e it i old T f) (hT : s.heap.get? T = some oT) (hTe : T ≠ e) (hTi : T ≠ it) (hst : St i s.heap) (hlt : i < n) (hne : e ≠ it) (hef : e ∉ fp)
    (hQ : ∀ x h' tk, P i x → IsEnumHeld h' e it ((i : Int) + 1) old T true → St (i + 1) h' →
      h'.get? s.heap.objs.size = some { cls := .type "tuple", data := .seq #[.int i tk, x] } → h'.objs.size = s.heap.objs.size + 1 →
      (∀ b o, b ≠ e → b ≠ it → s.heap.get? b = some o → h'.get? b = some o) → Q (.ref s.heap.objs.size) { s with heap := h', toks := tk + 1 }) :
    wpAny (model prog w) A (Builtin.«enumerate.__next__» ⟨[.ref e], []⟩) (fun fin s' => ∃ v, fin = .done (.ret v) ∧ Q v s') E s := by
  obtain ⟨hp, g, d, tk0, os⟩ := s
  show wpAny _ _ (field (.ref e) 2 >>= _) _ _ _
  refine wpAny_bind (wpAny_field he rfl (x := .ref it) rfl ?_)
  refine wpAny_bind (D.item i _ _ _ hlt hst fun x h₁ tk hPx hit₁ hs₁ => ?_)
  replace hs₁ : Heap.SameBut it hp h₁ := hs₁
  have he₁ : IsEnumHeld h₁ e it i old T f := (hs₁.2 e hne).trans he
  show wpAny _ _ (field (.ref e) 3 >>= _) _ _ ⟨h₁, g, d, tk, os⟩
  refine wpAny_bind (wpAny_field he₁ rfl (x := rawInt i) rfl ?_)
  show wpAny _ _ (field (.ref e) 4 >>= _) _ _ ⟨h₁, g, d, tk, os⟩
  refine wpAny_bind (wpAny_field he₁ rfl (x := .none) rfl ?_)
  show wpAny _ _ (mkInt i >>= _) _ _ ⟨h₁, g, d, tk, os⟩
  refine wpAny_bind (wpAny_mkInt ?_)
  show wpAny _ _ (setField (.ref e) 3 (rawInt ((i : Int) + 1)) >>= _) _ _ ⟨h₁, g, d, tk + 1, os⟩
  refine wpAny_bind (wpAny_setField_rec he₁ (by simp) fun h₂ he₂ hs₂ => ?_)
  replace hs₂ : Heap.SameBut e h₁ h₂ := hs₂
  replace he₂ : IsEnumHeld h₂ e it ((i : Int) + 1) old T f := he₂
  show wpAny _ _ (setField (.ref e) 4 .none >>= _) _ _ ⟨h₂, g, d, tk + 1, os⟩
  refine wpAny_bind (wpAny_setField_rec he₂ (by simp) fun h₃ he₃ hs₃ => ?_)
  replace hs₃ : Heap.SameBut e h₂ h₃ := hs₃
  replace he₃ : IsEnumHeld h₃ e it ((i : Int) + 1) old T f := he₃
  show wpAny _ _ (newTuple [.int i tk, x] >>= _) _ _ ⟨h₃, g, d, tk + 1, os⟩
  refine wpAny_bind (wpAny_newTuple ?_)
  have he₄ : IsEnumHeld (h₃.push { cls := .type "tuple", data := .seq #[.int i tk, x] }) e it ((i : Int) + 1) old T f := Heap.get?_push_of_some _ he₃
  generalize hh₄ : h₃.push { cls := .type "tuple", data := .seq #[.int i tk, x] } = h₄ at he₄
  have hsz : h₃.objs.size = hp.objs.size := by rw [hs₃.1, hs₂.1, hs₁.1]
  have hel : e < hp.objs.size := Heap.lt_size he
  have ht₄ : h₄.get? hp.objs.size = some { cls := .type "tuple", data := .seq #[.int i tk, x] } := by rw [← hh₄, ← hsz]; exact Heap.get?_push_size _ rfl
  have hz₄ : h₄.objs.size = hp.objs.size + 1 := by rw [← hh₄, Heap.size_push, hsz]
  have hk₄ : ∀ b o, b ≠ e → b ≠ it → hp.get? b = some o → h₄.get? b = some o := fun b o hbe hbi hb => by
    rw [← hh₄]; exact Heap.get?_push_of_some _ (hs₃.extBut b o hbe (hs₂.extBut b o hbe (hs₁.extBut b o hbi hb)))
  have hit₄ : St (i + 1) h₄ := D.frame _ _ _ hit₁ fun b hb o y => by
    have hbe : b ≠ e := fun q => hef (q ▸ hb)
    rw [← hh₄]; exact Heap.get?_push_of_some _ (hs₃.extBut b o hbe (hs₂.extBut b o hbe y))
  show wpAny _ _ (Builtin.SmallTypes.ownedTupleIsFree (.ref e) >>= _) _ _ ⟨h₄, g, d, tk + 1, os⟩
  rw [hsz]
  clear hh₄ he₃ hs₃ he₂ hs₂ he₁ hs₁ hit₁ hsz h₃ h₂ h₁
  refine wpAny_bind (wpAny_tupleHeld_enum (s := ⟨h₄, g, d, tk + 1, os⟩) he₄ (hk₄ T oT hTe hTi hT) fun h₅ he₅ hs₅ => ?_)
  replace hs₅ : Heap.SameBut e h₄ h₅ := hs₅
  simp only [Bool.false_eq_true, if_false]
  refine wpAny_pure ⟨_, rfl, hQ x h₅ tk hPx he₅ ?_ (hs₅.extBut _ _ (Nat.ne_of_gt hel) ht₄) ?_ fun b o hbe hbi hb => hs₅.extBut b o hbe (hk₄ b o hbe hbi hb)⟩
  · exact D.frame _ _ _ hit₄ fun b hb o y => by
      have hbe : b ≠ e := fun q => hef (q ▸ hb)
      exact hs₅.extBut b o hbe y
  show h₅.objs.size = hp.objs.size + 1
  rw [hs₅.1, hz₄]
theorem nextEnumHeld_item {Q : Option Value → Shared → Prop} (D : Draws prog w A.in1 it fp n P St) (he : IsEnumHeld s.heap e it i old T f) (hT : s.heap.get? T = some oT) (hTe : T ≠ e) (hTi : T ≠ it) (hst : St i s.heap) (hlt : i < n) (hne : e ≠ it) (hef : e ∉ fp)
    (hQ : ∀ x h' tk, P i x → IsEnumHeld h' e it ((i : Int) + 1) old T true → St (i + 1) h' →
      h'.get? s.heap.objs.size = some { cls := .type "tuple", data := .seq #[.int i tk, x] } → h'.objs.size = s.heap.objs.size + 1 →
      (∀ b o, b ≠ e → b ≠ it → s.heap.get? b = some o → h'.get? b = some o) → Q (some (.ref s.heap.objs.size)) { s with heap := h', toks := tk + 1 }) :
    wpAny (model prog w) A (pyNext (.ref e)) Q E s := by
  have hTy : s.TypeIs (.ref e) "enumerate" := ⟨_, he, rfl⟩
  unfold pyNext
  exact wpAny_bind (wpAny_attempt (wpAny_callSpecial?_slot (name := Str.ofString "__next__") hTy F.slot_enumerate_next
    (wpAny_call_entry F.slot_enumerate_next hTy F.entry_enumerate_next
      (enumHeld_item D he hT hTe hTi hst hlt hne hef fun x h' tk a1 a2 a3 a4 a5 a6 => wpAny_pure (hQ x h' tk a1 a2 a3 a4 a5 a6)) (F.args_enumerate_next_1 _))))
theorem nextEnumHeld_end {Q : Option Value → Shared → Prop} (D : Draws prog w A.in1 it fp n P St) {c : Int} (he : IsEnumHeld s.heap e it c old T f) (hst : St n s.heap)
    (hQ : ∀ h', Heap.ExtBut it s.heap h' → Q none { s with heap := h' }) : wpAny (model prog w) A (pyNext (.ref e)) Q E s := by
  have hTy : s.TypeIs (.ref e) "enumerate" := ⟨_, he, rfl⟩
  unfold pyNext
  refine wpAny_bind (wpAny_attempt (wpAny_callSpecial?_slot (name := Str.ofString "__next__") hTy F.slot_enumerate_next
    (wpAny_call_entry F.slot_enumerate_next hTy F.entry_enumerate_next ?_ (F.args_enumerate_next_1 _))))
  show wpAny _ _ (field (.ref e) 2 >>= _) _ _ _
  refine wpAny_bind (wpAny_field he rfl (x := .ref it) rfl ?_)
  refine wpAny_bind (D.done _ _ _ hst fun h' x he' hx' => ?_)
  obtain ⟨o, ho, hc⟩ := hx'
  refine wpAny_bind (wpAny_isInstance (T := "StopIteration") (b := true) ⟨o, ho, hc⟩ isSubtype_stop ?_)
  exact wpAny_pure (hQ _ he')
/-- enumerate(x) as the argument of dict() -/
theorem pairEnum (hei : e ≠ it) (hef : e ∉ fp) (hif : it ∈ fp) (D : ∀ A : Around, A.handled = none → Draws prog w A it fp n P St)
    (L : ∀ i h, St i h → ∀ b ∈ fp, ∃ o, h.get? b = some o) (hA0 : ∃ A : Around, A.handled = none) :
    PairArg prog w "enumerate" e (e :: fp) [e, it] n (fun i k v => (∃ t, k = .int i t) ∧ P i v) (fun h => (∃ old, IsEnum h e it 0 old) ∧ St 0 h) where
  type := fun s ok => let ⟨⟨_, he⟩, _⟩ := ok; ⟨_, he, rfl⟩
  notDict := by decide
  keep := fun h h' ok hk => by
    obtain ⟨A0, h0⟩ := hA0
    obtain ⟨⟨old, he⟩, g⟩ := ok
    exact ⟨⟨old, hk _ _ he⟩, (D A0 h0).frame _ _ _ g fun x _ o e => hk x o e⟩
  there := fun h ok b hb => by
    obtain ⟨⟨old, he⟩, g⟩ := ok
    rcases List.mem_cons.mp hb with rfl | hb
    · exact ⟨_, he⟩
    · exact L _ _ g b hb
  sub := fun b hb => by
    simp only [List.mem_cons, List.not_mem_nil, or_false] at hb
    rcases hb with rfl | rfl
    · exact List.mem_cons_self ..
    · exact List.mem_cons_of_mem _ hif
  noKeys := fun A s Q E hA ok h => let ⟨⟨_, he⟩, _⟩ := ok; getAttrOr_miss_enumerate he rfl rfl rfl enumerate_no_keys (by decide +kernel) hA h
  iter := fun A s d Q E hA ok hd hdf h => by
    obtain ⟨⟨old, he⟩, st0⟩ := ok
    simp only [List.mem_cons, not_or] at hdf
    obtain ⟨de, df⟩ := hdf
    have dit : d ≠ it := fun q => df (q ▸ hif)
    have D1 := D A.in1 hA
    refine wpAny_pyIter_enum he (h e [e, it] (fun i h => St i h ∧ ((∃ old, IsEnum h e it i old) ∨ ∃ old T f oT, IsEnumHeld h e it i old T f ∧ h.get? T = some oT ∧ T ≠ e ∧ T ≠ it ∧ T ≠ d)) s.heap s.toks ?_
      ⟨st0, .inl ⟨old, he⟩⟩ (fun _ _ e => e) fun b hb => .inl hb)
    refine ⟨fun hm => ?_, fun i h₁ h₂ st hk => ?_, fun i s₁ Q₁ E₁ hi st hds hQ => ?_, fun s₁ Q₁ E₁ st hQ => ?_⟩
    · simp only [List.mem_cons, List.not_mem_nil, or_false] at hm
      rcases hm with x | x
      · exact de x
      · exact dit x
    · obtain ⟨st, he⟩ := st
      refine ⟨D1.frame _ _ _ st fun x hx o e => hk x o (fun q => df (q ▸ hx)) e, ?_⟩
      rcases he with ⟨old, he⟩ | ⟨old, T, f, oT, he, hT, r1, r2, r3⟩
      · exact .inl ⟨old, hk _ _ (Ne.symm de) he⟩
      · exact .inr ⟨old, T, f, oT, hk _ _ (Ne.symm de) he, hk _ _ r3 hT, r1, r2, r3⟩
    · obtain ⟨st, he⟩ := st
      have ec : ((i + 1 : Nat) : Int) = (i : Int) + 1 := by omega
      have nit : s₁.heap.objs.size ≠ it := let ⟨_, x⟩ := D1.live _ _ st; Nat.ne_of_gt (Heap.lt_size x)
      rcases he with ⟨old, he⟩ | ⟨old, T, f, oT, he, hT, r1, r2, r3⟩
      · refine wpAny_pyNext_enum_itemD D1 he st hi hei hef fun x h' tk px ho st' hT hsz hk => ?_
        exact hQ s₁.heap.objs.size _ _ h' (tk + 1) ⟨⟨_, rfl⟩, px⟩ (.inl ⟨_, hT, rfl, _, rfl⟩)
          ⟨st', .inr ⟨_, s₁.heap.objs.size, false, _, (by rw [ec]; exact ho), hT, Nat.ne_of_gt (Heap.lt_size he), nit, Nat.ne_of_gt hds⟩⟩
          fun b o hb x => hk b o (fun y => hb (by simp [y])) (fun y => hb (by simp [y])) x
      · refine nextEnumHeld_item D1 he hT r1 r2 st hi hei hef fun x h' tk px ho st' hT' hsz hk => ?_
        exact hQ s₁.heap.objs.size _ _ h' (tk + 1) ⟨⟨_, rfl⟩, px⟩ (.inl ⟨_, hT', rfl, _, rfl⟩)
          ⟨st', .inr ⟨old, T, true, oT, (by rw [ec]; exact ho), hk _ _ r1 r2 hT, r1, r2, r3⟩⟩
          fun b o hb x => hk b o (fun y => hb (by simp [y])) (fun y => hb (by simp [y])) x
    · obtain ⟨st, he⟩ := st
      rcases he with ⟨old, he⟩ | ⟨old, T, f, oT, he, hT, r1, r2, r3⟩
      · exact wpAny_pyNext_enum_endD D1 he st fun h' hk => hQ h' s₁.toks fun b o hb x => hk b o (fun y => hb (by simp [y])) x
      · exact nextEnumHeld_end D1 he st fun h' hk => hQ h' s₁.toks fun b o hb x => hk b o (fun y => hb (by simp [y])) x
end
def numK (n : Nat) : List Key := (List.range n).map fun (i : Nat) => (Sum.inl (i : Int) : Key)
theorem numK_len (n : Nat) : (numK n).length = n := by simp [numK]
theorem numK_get {n i : Nat} (h : i < n) : (numK n)[i]? = some (Sum.inl (i : Int) : Key) := by simp [numK, h]
def tDictEnum (K : PySem.W.Frag) (ta : TA) : TE := fun σ H Q => ta σ H fun vs H1 => ∃ (a : Addr) (ys : List V), vs = [.ref a] ∧ (SqL K H1 a ys ∨ SqT K H1 a ys) ∧ ys.length ≤ sizeLine ∧
  ∀ p, H1 p = none → Q (.ref p) (upd H1 p (.dK (mergeK [] ((numK ys.length).zip ys))))
section
variable {X : Cx} {C : FC} {e1 : Expr} {p p2 q2 pos : Pos} {tA : DA}
theorem pe_dictEnum {ta : TA} (hc : X.calm = true) (hg : Gl X "dict") (hm : X.mg "dict" = none) (hg2 : Gl X "enumerate") (hm2 : X.mg "enumerate" = none) (ha : PA X [e1] ta)
    (hs : starEach [e1] X.env = (false, eval e1 X.env) :: starEach [] X.env := by rfl) (hpl : (backTo q2 (starEach [] X.env)).any (·.1) = false := by rfl)
    (hs2 : starEach [.Call (.Name "enumerate" p2) [e1] [] q2] X.env = (false, eval (.Call (.Name "enumerate" p2) [e1] [] q2) X.env) :: starEach [] X.env := by rfl) :
    PE X (.Call (.Name "dict" p) [.Call (.Name "enumerate" p2) [e1] [] q2] [] pos) (tDictEnum X.K ta) := by
  refine ⟨fun pins s σ H Q I h => ?_⟩
  refine Call_ (ld_blt I hg hm (show bootBuiltins "dict" = some (.type "dict") by decide +kernel) ?_)
  refine PyProof.Rows.callWith_type1 (PyProof.Rows.args_cons ?_ hs2) hs2 rfl
  refine Call_ (ld_blt I hg2 hm2 (show bootBuiltins "enumerate" = some (.type "enumerate") by decide +kernel) (PyProof.Rows.callWith_type1 (thn (ha.run q2 pins s σ H _ I h) fun us s1 ⟨vs, H1, I1, r1, q1⟩ => ?_) hs hpl))
  obtain ⟨a, ys, ex, ha1, hlen, q⟩ := q1
  subst ex
  cases r1 with
  | cons r rr =>
    cases rr
    cases r
    have src : ∃ its, Vals ys its ∧ Src X.prog X.w s1.heap a its := by
      rcases ha1 with h | h
      · obtain ⟨its, rv, p1, _⟩ := I1.list h
        exact ⟨its, rv, Src.list p1.isList⟩
      · obtain ⟨its, rv, p1, _⟩ := I1.tuple h
        exact ⟨its, rv, Src.tuple p1⟩
    obtain ⟨its, rv, S⟩ := src
    obtain ⟨o, Q1, B, k1, lt1, F1⟩ := S.ex
    obtain ⟨St, D, L, z1⟩ := F1 s1.heap.objs.size (Nat.ne_of_lt lt1)
    refine enum_begins1 B k1 (fun h' he g1 hsz hk => ?_) B.free
    refine PyProof.Rows.args_nil ?_
    have l1 : ys.length = its.length := rv.length
    have PA := pairEnum (prog := X.prog) (w := X.w) (e := s1.heap.objs.size + 1) (Nat.succ_ne_self _) (fun hm => by
      simp only [List.mem_cons, List.not_mem_nil, or_false] at hm
      rcases hm with e | e
      · exact Nat.succ_ne_self _ e
      · exact Nat.ne_of_gt (Nat.lt_succ_of_lt lt1) e) (by simp) D L ⟨X.A, I1.ok.hd hc⟩
    refine PySem.call_dict_pairs (s := { s1 with heap := h' }) (knd := mixKind X.prog X.w) (kvs := (numK its.length).zip its) PA (I1.ok.hd hc) ⟨⟨_, he⟩, z1 h' g1 fun o e => hk _ _ e⟩ ⟨?_, ?_⟩ ?_ fun g tk hd hkk => ?_
    · rw [List.length_zip, numK_len, Nat.min_self]
    · rintro i key v ⟨⟨t, hkey⟩, hy⟩
      have hi : i < its.length := (List.getElem?_eq_some_iff.mp hy).1
      refine ⟨(Sum.inl (i : Int) : Key), ?_, by rw [hkey]; exact keyIs_int _ t⟩
      rw [List.getElem?_zip_eq_some]
      exact ⟨numK_get hi, hy⟩
    · omega
    · have big : (h'.objs.size == sysModules) = false := beq_eq_false_iff_ne.mpr (Nat.ne_of_gt (Nat.lt_of_lt_of_le I1.big (show s1.heap.objs.size ≤ h'.objs.size by omega)))
      have old : ∀ b o, s1.heap.get? b = some o → g.get? b = some o := fun x o e => hkk x o (fun hm => by
        have lt : x < s1.heap.objs.size := Heap.lt_size e
        simp only [List.mem_cons, List.not_mem_nil, or_false] at hm
        rcases hm with e | e
        · exact Nat.ne_of_lt (Nat.lt_of_lt_of_le lt (Nat.le_add_right _ 1)) e
        · exact Nat.ne_of_lt lt e) (hk x o e)
      have hml : (mergeK [] ((numK ys.length).zip ys)).length ≤ sizeLine := by
        refine Nat.le_trans (length_mergeK _ []) ?_
        rw [List.length_nil, Nat.zero_add, List.length_zip]
        exact Nat.le_trans (Nat.min_le_right ..) hlen
      exact ⟨.ref h'.objs.size, upd H1 h'.objs.size (.dK (mergeK [] ((numK ys.length).zip ys))), I1.laid (t' := tk) old (by omega) (show ObjOk X.prog X.w _ _ _ (.dK (mergeK [] ((numK ys.length).zip ys))) from ⟨hml, big, merged [] ((numK its.length).zip its), KV.merge (l1 ▸ kv_zip rv) .nil, hd⟩), rfl, q _ (I1.hok.fresh (by omega))⟩
def dDictEnum (t : DA) : DO := fun ρ Q => t ρ fun os ρ1 => withAll ρ1 os fun ds => match ds with
  | [a] => match seqOf a with
    | some ys => ys.length ≤ big ∧ Q (.dict (mergeD [] ((numK ys.length).zip ys))) ρ1
    | none => False
  | _ => False
theorem o_dictEnum (hc : X.calm = true) (hm : X.mg "dict" = none) (hm2 : X.mg "enumerate" = none) (ha : QA X C [e1] tA) (hg : Gl X "dict" := by rfl) (hg2 : Gl X "enumerate" := by rfl)
    (hs : starEach [e1] X.env = (false, eval e1 X.env) :: starEach [] X.env := by rfl) (hpl : (backTo q2 (starEach [] X.env)).any (·.1) = false := by rfl)
    (hs2 : starEach [.Call (.Name "enumerate" p2) [e1] [] q2] X.env = (false, eval (.Call (.Name "enumerate" p2) [e1] [] q2) X.env) :: starEach [] X.env := by rfl) :
    QO X C (.Call (.Name "dict" p) [.Call (.Name "enumerate" p2) [e1] [] q2] [] pos) (dDictEnum tA) :=
  QO.of (pe_dictEnum hc hg hm hg2 hm2 ha.pa hs hpl hs2) fun σ H Q ⟨F, ρ, q, S, ht, k⟩ => by
    refine ⟨F, ρ, _, S, ht, fun os ρ1 F1 H1 vs h1 S1 s1 d1 => ?_⟩
    obtain ⟨ds, v1, w1⟩ := S1.seeAll d1 h1
    match ds, v1, w1 with
    | [a], v1, w1 =>
      cases v1 with
      | @cons u _ _ _ hu hr =>
        cases hr
        have w1 : (match seqOf a with | some ys => ys.length ≤ big ∧ q (.dict (mergeD [] ((numK ys.length).zip ys))) ρ1 | none => False) := w1
        cases ea : seqOf a with
        | none => rw [ea] at w1; exact w1.elim
        | some xs =>
          rw [ea] at w1
          obtain ⟨hl, w1⟩ := w1
          obtain ⟨A1, us, rfl, g1, r1⟩ := seq_view S1.sub hu ea
          have el := r1.length
          refine ⟨A1, us, rfl, g1, by rw [el]; exact le_line hl, fun p hp => ?_⟩
          rw [el]
          obtain ⟨S3, fr⟩ := S1.layD hp ((zip_ps r1).merge .nil)
          exact k _ _ _ _ _ w1 S3 s1 fr
end
end Dv

set_option Elab.async false
set_option linter.all false
set_option maxRecDepth 100000
set_option autoImplicit false
/-! ### exceptions: defs that may raise, and their calls -/
namespace Dv
open PySem PySem.Spec L2
open PyProof.Rows (AllBare)
/-- what is wanted where an exception is let out: its class, its own names, the slots -/
abbrev XEnds := Str → List (PyData × PyData) → DEnv → Prop
def wX (K : PySem.W.Frag) (C : FC) (Ex : XEnds) : WX := fun cls d σ H => ∃ n D fs es F ρ, cls = .ref D ∧ ClsN K n D ∧ ExF F d fs ∧ RepFs K F fs es ∧ Sim K C F H ρ σ ∧ Ex n es ρ
abbrev SpX := List PyData → (SV → Outs → Prop) → (Str → List (PyData × PyData) → Prop) → Prop
def spX (K : PySem.W.Frag) (P : List Bool) (S : SpX) : Sp := fun vs H Q E => ∃ F ds q x, Same F H ∧ Args K F H P vs ds ∧ S ds q x ∧ (∀ r outs F' H' v, q r outs → Post K P F H vs F' H' outs r v → Q v H') ∧
  ∀ n es D d fs F' H', x n es → ClsN K n D → ExF F' d fs → RepFs K F' fs es → Gr F H F' H' → E (.ref D) d H'
structure FnX (Pg : Program) (w : World) (K : PySem.W.Frag) (mg : Str → Option Value) (base : Heap) (k : Nat) (f : Addr) (fd : FuncData) (ps : List Str) (S : Sp) : Prop where
  len : ∀ {vs H Q E}, S vs H Q E → vs.length = ps.length
  go : ∀ {A : Around} {outer : List Env} {s : Shared} {H : Hp} {args : PySem.Args} {us : List Value} {vs : List V} {Q : VK} {E : XK}, RG k A → Env0 Pg w K mg base A outer s H → BindsTo s fd args (ps.zip us) → Vals vs us → S vs H Q E → codeAny (model Pg w) A (.call (.ref f) args) (CR (L2.CX Pg w) outer Pg w H s Q E) s
section
variable {Pg : Program} {w : World} {K : PySem.W.Frag} {mg : Str → Option Value} {base : Heap} {j k : Nat} {f : Addr} {fd : FuncData} {ps : List Str} {S T : Sp}
theorem FnX.mono (h : FnX Pg w K mg base j f fd ps S) (hjk : j ≤ k) : FnX Pg w K mg base k f fd ps S := ⟨h.len, fun r => h.go (r.mono hjk)⟩
theorem FnX.imp (h : FnX Pg w K mg base k f fd ps S) (i : ∀ {vs H Q E}, T vs H Q E → S vs H Q E) : FnX Pg w K mg base k f fd ps T := ⟨fun t => h.len (i t), fun r e b v t => h.go r e b v (i t)⟩
end
/-- a call of such a def by its name -/
theorem pe_callX {X : Cx} {k : Nat} {f : Addr} {fd : FuncData} {ps : List Str} {S : Sp} {x : Str} {p pos : Pos} {e : Expr} {es : List Expr} {t : TA} {W : WX} (h : FnX X.prog X.w X.K X.mg X.base k f fd ps S) (hr : RG k X.A) (hg : Gl X x) (hm : X.mg x = some (.ref f)) (hk : PySem.W.keepIn X.K (.ref f) = true) (hb : Binds X.K fd ps []) (tk : Takes X W)
    (ha : PA X (e :: es) t) (hdb : (x == ("__debug__" : Str)) = false) (he : starEach (e :: es) X.env = (false, eval e X.env) :: starEach es X.env) (hpl : (backTo pos (starEach es X.env)).any (·.1) = false) :
    PE X (.Call (.Name x p) (e :: es) [] pos) (tCallS S (WE W) t) := by
  constructor
  intro pins s σ H Q I hq
  apply wpAny_Call_Name_kw
  apply ld_glob I hg hm _ hdb
  refine PySem.W.callWith_K (h₀ := X.base) I.ok.mod.kin hk (thn (ha.run pos pins s σ H _ I hq) ?_) he hpl
  rintro us s2 ⟨vs, H2, J, rv, hS⟩
  refine ⟨J.kIn, ?_⟩
  have hl : us.length = ps.length := rv.length.symm.trans (h.len hS)
  have bind : BindsTo s2 fd ⟨us, []⟩ (ps.zip us) := by simpa using hb s2 us J.kIn (by simpa using hl)
  apply wpAny_call
  refine codeAny_mono (h.go hr J.env0 bind rv hS) ?_
  rintro (er | (_ | _ | _ | u)) s3 hc
  all_goals first | exact passAt tk σ pins H2 s2 _ s3 J hc | exact J.after hc | exact hc.elim
/-- a def by its body -/
theorem fnX_def {Pg : Program} {w : World} {K : PySem.W.Frag} {mg : Str → Option Value} {base : Heap} {x qual : Str} {st : Stmt} {f : Addr} {fd : FuncData} {N ps : List Str} {k : Nat} {S : Sp} (F : Fun K x qual st f fd) (Sc : FnScope N ps (defScope st)) (len : ∀ {vs H Q E}, S vs H Q E → vs.length = ps.length)
    (body : ∀ (cdv : Value) (A : Around) (outer : List Env) (s : Shared) (H : Hp) (vs : List V) (Q : VK) (E : XK), RG k (A.deeper (PyProof.Rows.envOfC qual (defScope st) s.heap.objs.size f cdv)) → S vs H Q E →
      ∃ t, PSs (cxOf (L2.CX Pg w) Pg w K mg base N qual (defScope st) f cdv A outer s H E) (defBody st) t ∧ t { nx := fun _ H' => Q .non H', rt := Q } (start N vs) H) : FnX Pg w K mg base (k + 1) f fd ps S := by
  obtain ⟨oc, od, kV, doc, pm, an, cdv, ct, osl, rfl, lk, code⟩ := F.ex
  refine ⟨len, ?_⟩
  intro A outer s H args us vs Q E hr e0 hb rv hS
  have old : ∀ b o, base.get? b = some o → s.heap.get? b = some o := fun b o z => (e0.bs b o z).1
  have KX : K.In s.heap := e0.mod.kin.keeps old
  refine codeAny_call_function hr.r.depth (KX _ _ lk) rfl Sc.co Sc.gen rfl (PySem.W.codeRec_of KX code) (hb _ _ _ _ ?_)
  refine wpAny_newFunctionEnv_cells Sc.kind (fun y hy => ?_) ?_
  · rcases Sc.par y.1 (List.of_mem_zip (show (y.1, y.2) ∈ ps.zip us from hy)).1 with z | z
    · exact .inl z
    · exact .inr ⟨z, PySem.W.cellsFrom_some _ _ _ (.inl z)⟩
  rintro _ rfl s1 hc
  refine ⟨(e0.mod.nolimit.keeps old).keeps hc.toInCall.keep, codeAny_func ?_⟩
  obtain ⟨t, ht, hq⟩ := body cdv A outer s H vs Q E ⟨hr.r.deeper _, hr.g⟩ hS
  have I : Inv (cxOf (L2.CX Pg w) Pg w K mg base N qual (defScope st) f cdv A outer s H E) [] (start N vs) H s1 := inv_start Sc hr.r.hd e0 (len hS) rv hc
  refine wpAny_mono (ht.run [] s1 (start N vs) H _ I hq) ?_ fun _ _ z => z
  rintro (_ | _ | _ | u) s2 hz
  · obtain ⟨σ', H', J, z⟩ := hz
    exact ⟨.non, H', J.os, J.bare, J.base, J.hok, rfl, z⟩
  · obtain ⟨_, _, _, z⟩ := hz
    exact z.elim
  · obtain ⟨_, _, _, z⟩ := hz
    exact z.elim
  · obtain ⟨v, σ', H', J, r, z⟩ := hz
    exact ⟨v, H', J.os, J.bare, J.base, J.hok, r, z⟩

def dCallXS (Ex : XEnds) (P ts : List Bool) (S : SpX) (a : DA) (ρ : DEnv) (Q : SV → DEnv → Prop) : Prop := a ρ fun os ρ1 => shareSel P ts ρ1 os fun ρ2 => selOk ts ρ2 os ∧ (selSlots ts os).Nodup ∧ withAll ρ2 os fun ds => S ds (fun r outs => Q r (wb os outs ρ2)) fun n es => Ex n es ρ2
def dCallX (Ex : XEnds) (P ts : List Bool) (S : SpX) (a : DA) : DE := fun ρ Q => dCallXS Ex P ts S a ρ fun r ρ' => Q (.val r.d) ρ'
section
variable {X : Cx} {C : FC} {P ts : List Bool} {S : SpX} {ta : DA} {k : Nat} {f : Addr} {fd : FuncData} {ps : List Str} {x : Str} {p pos : Pos} {e : Expr} {es : List Expr}
theorem call_lowX {W : WX} {Ex : XEnds} (hP : C.Tags P) {σ : L2.St} {H : Hp} {Q : VK} {F : Hp} {ρ : DEnv} {q : SV → DEnv → Prop} (Sm : Sim X.K C F H ρ σ) (h : dCallXS Ex P ts S ta ρ q) (hW : ∀ cls d σ H, wX X.K C Ex cls d σ H → W cls d σ H)
    (k : ∀ r ρ' F' H' v, q r ρ' → Sim X.K C F' H' ρ' σ → Same F F' → (match r with
      | .frz d => Rep X.K F' v d
      | .own d => ∃ a, v = .ref a ∧ Fresh X.K C F' H' ρ' σ a d
      | .own2 _ => False) → Q v H') : tCallS (spX X.K ts S) (WE W) (lA X.K C ta) σ H Q := by
  refine ⟨F, ρ, _, Sm, h, fun os ρ1 F1 H1 vs h1 S1 s1 d1 => ?_⟩
  obtain ⟨ρ2, F2, ⟨sok, nd, h2⟩, S2, s2⟩ := Sim.shareSel hP S1 d1 h1
  obtain ⟨ds, hS, hl, hget⟩ := withAll_get h2
  have d2 := d1.mono s2
  have lts := selOk_len sok
  have osAt : ∀ (i : Nat) b, ts[i]? = some b → ∃ o, os[i]? = some o := fun i b e => by
    have : i < os.length := by rw [← lts]; exact (List.getElem?_eq_some_iff.mp e).1
    exact ⟨os[i], List.getElem?_eq_getElem this⟩
  -- an owned argument stands in a slot
  have ownAt : ∀ (i : Nat), ts[i]? = some true → ∃ j e, os[i]? = some (.slot j) ∧ ρ2[j]? = some (some (.own e)) ∧ ds[i]? = some e ∧ vs[i]? = (σ[j]?).join := fun i e => by
    obtain ⟨o, ho⟩ := osAt i true e
    have z := selOk_at sok e ho
    cases o with
    | val _ => exact z.elim
    | slot j =>
      obtain ⟨x, hx⟩ := z
      obtain ⟨d, hd, wd⟩ := hget i _ ho
      unfold withO at wd
      dsimp only at wd
      rw [hx] at wd
      subst wd
      obtain ⟨v, hv, dv⟩ := d2.get ho
      have dv' : σ[j]? = some (some v) := dv
      exact ⟨j, _, ho, hx, hd, by rw [dv', hv]; rfl⟩
  refine ⟨F2, ds, _, _, S2.sub, ⟨by rw [d2.length, hl], by rw [lts, hl], fun i v d hv hd ht => ?_, fun i v d hv hd ht => ?_, fun i j a hi hj hvi hvj => ?_⟩, hS, fun r outs F' H' v hq post => ?_, fun n es D d fs F' H' hx hc hf hr g => hW _ _ _ _ ⟨n, D, fs, es, F', ρ2, rfl, hc, hf, hr, S2.grow g, hx⟩⟩
  · obtain ⟨o, ho⟩ := osAt i false ht
    have z := selOk_at sok ht ho
    obtain ⟨d', hd', wd⟩ := hget i _ ho
    rw [hd] at hd'; cases hd'
    obtain ⟨v', hv', dv⟩ := d2.get ho
    rw [hv] at hv'; cases hv'
    cases o with
    | val e => have : e = d := wd; subst this; exact dv
    | slot j =>
      obtain ⟨x, hx⟩ := z
      unfold withO at wd
      dsimp only at wd
      rw [hx] at wd
      subst wd
      obtain ⟨v', g1, g2⟩ := S2.frz j _ hx
      have dv' : σ[j]? = some (some v) := dv
      rw [g1] at dv'; cases dv'
      exact g2
  · obtain ⟨j, e, ho, hx, he, hvj⟩ := ownAt i ht
    rw [hd] at he; cases he
    obtain ⟨a, g1, g2, g3, _⟩ := S2.own j d hx
    rw [hv, g1] at hvj
    exact ⟨a, Option.some.inj hvj, g2, g3⟩
  · obtain ⟨j1, e1, ho1, hx1, _, hv1⟩ := ownAt i hi
    obtain ⟨j2, e2, ho2, hx2, _, hv2⟩ := ownAt j hj
    obtain ⟨a1, g1, _⟩ := S2.own j1 e1 hx1
    obtain ⟨a2, g2, _⟩ := S2.own j2 e2 hx2
    rw [hvi, g1] at hv1
    rw [hvj, g2] at hv2
    have c1 : V.ref a = V.ref a1 := Option.some.inj hv1
    have c2 : V.ref a = V.ref a2 := Option.some.inj hv2
    cases c1; cases c2
    have ej := S2.ne j1 j2 a e1 e2 hx1 hx2 g1 g2
    subst ej
    -- the same slot twice: the places are the same
    have key : ∀ (ts : List Bool) (os : List Opd) (i j m : Nat), (selSlots ts os).Nodup → ts[i]? = some true → ts[j]? = some true → os[i]? = some (.slot m) → os[j]? = some (.slot m) → i = j := by
      intro ts
      induction ts with
      | nil => intro os i j m _ h; simp at h
      | cons t ts ih =>
        intro os i j m nd hi hj oi oj
        cases os with
        | nil => simp at oi
        | cons o os =>
          cases i with
          | zero =>
            cases j with
            | zero => rfl
            | succ j =>
              simp at hi hj oi oj
              subst hi oi
              simp only [selSlots, List.nodup_cons] at nd
              exact absurd (selSlots_mem.mpr ⟨j, hj, oj⟩) nd.1
          | succ i =>
            cases j with
            | zero =>
              simp at hi hj oi oj
              subst hj oj
              simp only [selSlots, List.nodup_cons] at nd
              exact absurd (selSlots_mem.mpr ⟨i, hi, oi⟩) nd.1
            | succ j =>
              simp at hi hj oi oj
              have nd' : (selSlots ts os).Nodup := by
                cases t with
                | false => simpa [selSlots] using nd
                | true =>
                  cases o with
                  | val _ => simpa [selSlots] using nd
                  | slot _ => simp only [selSlots, List.nodup_cons] at nd; exact nd.2
              rw [ih os i j m nd' hi hj oi oj]
    exact key ts os i j j1 nd hi hj ho1 ho2
  · have Sa : Sim X.K C F' H' (wb os outs ρ2) σ := by
      refine S2.after (selSlots ts os) post.f post.s post.n (fun b o e hb => post.h b o e fun i hi z => ?_) (wb_length os outs ρ2) (fun i hi => ?_) (fun i hi => ?_) (fun i hi => ?_)
      · obtain ⟨j, e', ho, hx, _, hv⟩ := ownAt i hi
        obtain ⟨a, g1, _⟩ := S2.own j e' hx
        rw [z, g1] at hv
        have c : V.ref b = V.ref a := Option.some.inj hv
        cases c
        exact hb j (selSlots_mem.mpr ⟨i, hi, ho⟩) g1
      · obtain ⟨j, ht, ho⟩ := selSlots_mem.mp hi
        obtain ⟨j1, e', ho', hx, _⟩ := ownAt j ht
        rw [ho] at ho'; cases ho'
        exact ⟨e', hx⟩
      · exact wb_out fun j d ho hx => hi (selSlots_mem.mpr ⟨j, post.oN j d hx, ho⟩)
      · obtain ⟨j, ht, ho⟩ := selSlots_mem.mp hi
        obtain ⟨j1, e', ho', hx, _, hv⟩ := ownAt j ht
        rw [ho] at ho'; cases ho'
        obtain ⟨a, g1, _⟩ := S2.own i e' hx
        rw [g1] at hv
        obtain ⟨d, p1, p2, p3⟩ := post.o j a ht hv
        exact ⟨a, d, g1, wb_in nd post.oN (List.getElem?_eq_some_iff.mp hx).1 ht ho p1, p2, p3⟩
    refine k r _ F' H' v hq Sa ((s1.trans s2).trans post.f) ?_
    have res := post.res
    cases r with
    | frz d => exact res
    | own2 d => exact res
    | own d =>
      obtain ⟨a, e1, e2, e3, e4⟩ := res
      refine ⟨a, e1, e2, e3, S2.h0none e4, S2.pnone e4, fun j y hy z => ?_, S2.footAfter Sa e4 fun j y hy => ?_⟩
      rotate_left
      · by_cases hj : j ∈ selSlots ts os
        · obtain ⟨m, ht, ho⟩ := selSlots_mem.mp hj
          obtain ⟨j1, e', ho', hx, _, hv⟩ := ownAt m ht
          rw [ho] at ho'; cases ho'
          obtain ⟨a, g1, _⟩ := S2.own j e' hx
          rw [g1] at hv
          obtain ⟨d, p1, p2, p3⟩ := post.o m a ht hv
          rw [wb_in nd post.oN (List.getElem?_eq_some_iff.mp hx).1 ht ho p1] at hy
          cases hy
        · rw [wb_out fun m d ho hx => hj (selSlots_mem.mpr ⟨m, post.oN m d hx, ho⟩)] at hy
          exact ⟨hy, fun b hb o hH => post.h b o hH fun m hm z => by
            obtain ⟨j1, e', ho', hx, _, hv⟩ := ownAt m hm
            obtain ⟨a, g1, _⟩ := S2.own j1 e' hx
            rw [z, g1] at hv
            have c : V.ref b = V.ref a := Option.some.inj hv
            cases c
            exact (S2.dp.loose hb).2.2.2.2 j1 e' hx g1⟩
      obtain ⟨b, hb1, hb2, hb3, _⟩ := Sa.own j y hy
      rw [z] at hb1; cases hb1
      -- the slot owned an object ahead of the call too
      by_cases hj : j ∈ selSlots ts os
      · obtain ⟨m, ht, ho⟩ := selSlots_mem.mp hj
        obtain ⟨j1, e', ho', hx, _⟩ := ownAt m ht
        rw [ho] at ho'; cases ho'
        obtain ⟨b', g1, _, g3, _⟩ := S2.own j e' hx
        rw [z] at g1; cases g1
        obtain ⟨o, ho2⟩ := g3.there
        rw [e4] at ho2; cases ho2
      · rw [wb_out fun m d ho hx => hj (selSlots_mem.mpr ⟨m, post.oN m d hx, ho⟩)] at hy
        obtain ⟨b', g1, _, g3, _⟩ := S2.own j y hy
        rw [z] at g1; cases g1
        obtain ⟨o, ho2⟩ := g3.there
        rw [e4] at ho2; cases ho2
theorem q_callX {Ex : XEnds} (hP : C.Tags P) (tk : Takes X (wX X.K C Ex)) (F : FnX X.prog X.w X.K X.mg X.base k f fd ps (spX X.K ts S)) (hr : RG k X.A) (hm : X.mg x = some (.ref f)) (hk : PySem.W.keepIn X.K (.ref f) = true) (hb : Binds X.K fd ps [])
    (ha : QA X C (e :: es) ta) (hg : Gl X x := by rfl) (hdb : (x == ("__debug__" : Str)) = false := by decide) (he : starEach (e :: es) X.env = (false, eval e X.env) :: starEach es X.env := by rfl) (hpl : (backTo pos (starEach es X.env)).any (·.1) = false := by rfl) :
    QE X C (.Call (.Name x p) (e :: es) [] pos) (dCallX Ex P ts S ta) :=
  QE.of (pe_callX F hr hg hm hk hb tk ha.pa hdb he hpl) fun σ H Q ⟨F1, ρ, q, Sm, ht, kk⟩ => by
    refine call_lowX hP Sm ht (fun _ _ _ _ h => h) fun r ρ' F' H' v hq S' s' res => ?_
    cases r with
    | frz d => exact kk _ _ _ _ _ hq S' s' res
    | own2 d => exact res.elim
    | own d =>
      obtain ⟨a, e1, fr⟩ := res
      subst e1
      obtain ⟨F2, s2, S2, r2⟩ := S'.froze fr
      exact kk _ _ _ _ _ hq S2 (s'.trans s2) r2
end
/-- THE RULE for a def that may raise; it owns no parameter -/
theorem fnX_ok {Pg : Program} {w : World} {K : PySem.W.Frag} {mg : Str → Option Value} {base : Heap} {x qual : Str} {st : Stmt} {f : Addr} {fd : FuncData} {N ps : List Str} {k : Nat} {P : List Bool} {S : SpX} {g : XEnds → DS}
    (F : Fun K x qual st f fd) (Sc : FnScope N ps (defScope st)) (hl : P.length = ps.length) (hN : ps.length ≤ N.length) (hP0 : ∀ i : Nat, P[i]? ≠ some true)
    (der : ∀ (cdv : Value) (A : Around) (outer : List Env) (s : Shared) (H : Hp) (E : XK) (C : FC) (Ex : XEnds), RG k (A.deeper (PyProof.Rows.envOfC qual (defScope st) s.heap.objs.size f cdv)) → C.Tags P → Takes (cxOf (L2.CX Pg w) Pg w K mg base N qual (defScope st) f cdv A outer s H E) (wX K C Ex) →
      QSs (cxOf (L2.CX Pg w) Pg w K mg base N qual (defScope st) f cdv A outer s H E) C (defBody st) (g Ex))
    (pure : ∀ ds q x, S ds q x → ds.length = P.length → g (fun n es _ => x n es) (endsOf P q) (startE N.length P ds)) : FnX Pg w K mg base (k + 1) f fd ps (spX K P S) := by
  refine fnX_def F Sc (fun {vs H Q E} h => ?_) (fun cdv A outer s H vs Q E hr h => ?_)
  · obtain ⟨F, ds, q, x, _, A, _⟩ := h
    rw [A.len, ← A.lenP, hl]
  · obtain ⟨F1, ds, q, x, sF, Ar, hS, k1, k2⟩ := h
    have tk : Takes (cxOf (L2.CX Pg w) Pg w K mg base N qual (defScope st) f cdv A outer s H E) (wX K (fcOf F1 H P vs) fun n es _ => x n es) := by
      refine (takes_of (X := cxOf (L2.CX Pg w) Pg w K mg base N qual (defScope st) f cdv A outer s H E) (E := E) rfl rfl rfl rfl).imp fun cls d σ H' hw => ?_
      obtain ⟨n, D, fs, es, F', ρ, rfl, hc, hf, hr', Sm, hx⟩ := hw
      refine k2 n es D d fs F' H' hx hc hf hr' ⟨Sm.f0, fun b o e => Sm.h0 b o e fun z => ?_, Sm.sub, Sm.new⟩
      obtain ⟨i, hi⟩ := List.mem_iff_getElem?.mp z
      exact hP0 i (paOf_get.mp hi).1
    refine ⟨_, (der cdv A outer s H E (fcOf F1 H P vs) _ hr fc_tags tk).pss, F1, startE N.length P ds, endsOf P q, sim_start sF Ar (by rw [← Ar.lenP, hl]; exact hN), pure ds q x hS Ar.lenP.symm, ⟨?_, ?_, ?_, ?_⟩⟩
    · intro ρ' F' H' σ' h S' s'
      exact k1 _ _ _ _ _ h (post_of S' Rep.non)
    · intro r ρ' F' H' σ' v h S' s' rr
      exact k1 _ _ _ _ _ h (post_of S' rr)
    · intro _ _ _ _ h
      exact h.elim
    · intro _ _ _ _ h
      exact h.elim
structure FnAtX (Pg : Program) (w : World) (K : PySem.W.Frag) (mg : Str → Option Value) (base : Heap) (k : Nat) (x : Str) (ps : List Str) (P : List Bool) (S : SpX) : Prop where
  ex : ∃ f fd, FnX Pg w K mg base k f fd ps (spX K P S) ∧ mg x = some (.ref f) ∧ PySem.W.keepIn K (.ref f) = true ∧ Binds K fd ps []
theorem FnAtX.mono {Pg : Program} {w : World} {K : PySem.W.Frag} {mg : Str → Option Value} {base : Heap} {j k : Nat} {x : Str} {ps : List Str} {P : List Bool} {S : SpX} (h : FnAtX Pg w K mg base j x ps P S) (hjk : j ≤ k := by omega) : FnAtX Pg w K mg base k x ps P S := by
  obtain ⟨f, fd, F, a, b, c⟩ := h.ex
  exact ⟨f, fd, F.mono hjk, a, b, c⟩
theorem fnX_at {Pg : Program} {w : World} {K : PySem.W.Frag} {mg : Str → Option Value} {base : Heap} {x : Str} {st : Stmt} {N ps : List Str} {k : Nat} {P : List Bool} {S : SpX} {g : XEnds → DS}
    (FA : FunAt K mg x st ps) (Sc : FnScope N ps (defScope st)) (hl : P.length = ps.length) (hN : ps.length ≤ N.length) (hP0 : P.all (fun b => !b) = true)
    (der : ∀ (f : Addr) (cdv : Value) (A : Around) (outer : List Env) (s : Shared) (H : Hp) (E : XK) (C : FC) (Ex : XEnds), RG k (A.deeper (PyProof.Rows.envOfC x (defScope st) s.heap.objs.size f cdv)) → C.Tags P → Takes (cxOf (L2.CX Pg w) Pg w K mg base N x (defScope st) f cdv A outer s H E) (wX K C Ex) →
      QSs (cxOf (L2.CX Pg w) Pg w K mg base N x (defScope st) f cdv A outer s H E) C (defBody st) (g Ex))
    (pure : ∀ ds q x, S ds q x → ds.length = P.length → g (fun n es _ => x n es) (endsOf P q) (startE N.length P ds)) : FnAtX Pg w K mg base (k + 1) x ps P S := by
  obtain ⟨f, fd, F, hm, hb⟩ := FA.ex
  refine ⟨f, fd, fnX_ok F Sc hl hN (fun i h => ?_) (fun cdv A outer s H E C Ex hr hP tk => der f cdv A outer s H E C Ex hr hP tk) pure, hm, F.kp, hb⟩
  have := List.all_eq_true.mp hP0 true (List.mem_of_getElem? h)
  cases this
section
variable {X : Cx} {C : FC} {P ts : List Bool} {S : SpX} {ta : DA} {k : Nat} {ps : List Str} {x : Str} {p pos : Pos} {e : Expr} {es : List Expr}
theorem q_callXF {Ex : XEnds} (hP : C.Tags P) (tk : Takes X (wX X.K C Ex)) (h : FnAtX X.prog X.w X.K X.mg X.base k x ps ts S) (hr : RG k X.A) (ha : QA X C (e :: es) ta) (hg : Gl X x := by rfl) (hdb : (x == ("__debug__" : Str)) = false := by decide) (he : starEach (e :: es) X.env = (false, eval e X.env) :: starEach es X.env := by rfl) (hpl : (backTo pos (starEach es X.env)).any (·.1) = false := by rfl) :
    QE X C (.Call (.Name x p) (e :: es) [] pos) (dCallX Ex P ts S ta) := by
  obtain ⟨f, fd, F, a, b, c⟩ := h.ex
  exact q_callX hP tk F hr a b c ha hg hdb he hpl
end
end Dv

set_option Elab.async false
set_option linter.all false
set_option maxRecDepth 100000
set_option autoImplicit false
/-! ### exceptions: raise, try, isinstance of what was caught -/
namespace Dv
open PySem PySem.Spec L2
open PyProof.Rows (AllBare)
def excD (n : Str) (es : List (PyData × PyData)) : PyData := .dict ((.bool true, .str n) :: es)
/-! ### classes -/
structure ClsAt (K : PySem.W.Frag) (mg : Str → Option Value) (m : Str) : Prop where
  ex : ∃ C, mg m = some (.ref C) ∧ PySem.W.nsIn K mainGlobals m = some (some (.ref C)) ∧ PySem.W.kitOne K (.type "NoneType") (.ref C) = some false
structure ExcAt (K : PySem.W.Frag) (mg : Str → Option Value) (n : Str) : Prop where
  ex : ∃ D, mg n = some (.ref D) ∧ PySem.W.keepIn K (.ref D) = true ∧ ClsN K n D ∧ PySem.W.excIn K D [.type "ValueError", .type "Exception", .type "BaseException", .type "object"] "ValueError.__new__" = true ∧ PySem.W.subIn K (.ref D) (.type "BaseException") = some true ∧ PySem.W.typeIn K (.ref D) = some (.type "type")
def dRaise (Ex : XEnds) (n : Str) : DS := fun _ ρ => Ex n [] ρ
theorem s_raise {X : Cx} {C : FC} {n m : Str} {j : Nat} {p p2 pos pos' : Pos} {Ex : XEnds} (hc : X.calm = true) (tk : Takes X (wX X.K C Ex)) (h : ExcAt X.K X.mg n) (hg : Gl X n := by rfl) (hdb : (n == ("__debug__" : Str)) = false := by decide) :
    QS X C (.Raise (some (.Call (.Name n p) [.Constant (.str m) j p2] [] pos)) none pos') (dRaise Ex n) := by
  obtain ⟨D, hm, hk, hn, he, hs, ht⟩ := h.ex
  exact QS.of (ps_raise hc tk (pmk_own PySem.F.excBase_ValueError he hm hk (raises_own hs ht) hg hdb)) fun D' σ H ⟨F, ρ, E, S, hx, ok⟩ => ⟨n, D, [], [], F, ρ, rfl, hn, rfl, .nil, S, hx⟩

/-! ### the state with what was caught -/
section
variable {X : Cx} {pins : List (Addr × Obj)} {σ : L2.St} {H : Hp} {s : Shared}
theorem track (I : Inv X pins σ H s) {a D : Addr} {d : Option Addr} {oe : Obj} {vs : Array Value} (he : s.heap.get? a = some oe) (hz : Zc (.ref D) d oe) (hd : oe.data = .fields vs) (na : H a = none) (nL : a ≠ X.env.locals) (np : ∀ p ∈ X.pn ++ pins, p.1 ≠ a) (n0 : X.s_0.heap.get? a = none) :
    Inv X pins σ (upd H a (ExH D d a)) s where
  ok := I.ok
  os := I.os
  bare := I.bare
  base := ⟨I.base.keep, I.base.slot, fun b o e n hx => by
      rw [upd_ne (fun z => by rw [z, n0] at e; cases e)]
      exact I.base.free b o e n hx, I.base.there,
    fun b xs e => by
      have q := I.base.tups b xs e
      rw [upd_ne (ne_of_none q na)]; exact q,
    fun b o u e => by
      have q := I.base.frzs b o u e
      rw [upd_ne (ne_of_none q na)]; exact q,
    fun b ps e => by
      obtain ⟨m, q⟩ := I.base.tbls b ps e
      exact ⟨m, by rw [upd_ne (ne_of_none q na)]; exact q⟩⟩
  loc := I.loc
  cell := I.cell
  free := by rw [upd_ne (Ne.symm nL)]; exact I.free
  freeC := fun x c e => by
    obtain ⟨v, o, ho, hv⟩ := I.cell x c e
    rw [upd_ne (fun z => by
      rw [z, he] at ho
      cases ho
      rw [hd] at hv
      cases hv)]
    exact I.freeC x c e
  pin := fun p hp => by
    obtain ⟨e, n, ne, nf, dd⟩ := I.pin p hp
    exact ⟨e, by rw [upd_ne (np p hp)]; exact n, ne, nf, dd⟩
  hok := I.hok.laidN (fun _ _ q => q) na ⟨⟨oe, vs, he, hz, hd⟩, ⟨oe, he⟩, fun _ _ ⟨o, v, q, r⟩ k => ⟨o, v, k o q, r⟩⟩
  len := I.len
theorem suite0 (I : Inv X pins σ H s) (a : Addr) : Inv (X.suite a (X.pn ++ pins)) [] σ H s :=
  ⟨I.ok.suite _ _, I.os, I.bare, I.base, I.loc, I.cell, I.free, I.freeC, fun p hp => I.pin p (by rw [List.append_nil] at hp; exact hp), I.hok, I.len⟩
theorem unsuite0 {a : Addr} {pn' : List (Addr × Obj)} (I : Inv (X.suite a (X.pn ++ pins)) pn' σ H s) (ok : X.Ok) : Inv X pins σ H s :=
  ⟨ok, I.os, I.bare, I.base, I.loc, I.cell, I.free, I.freeC, fun p hp => I.pin p (List.mem_append_left _ hp), I.hok, I.len⟩
end
def unSlot (i : Nat) (D : Ends) : Ends := { nx := fun σ' H' => D.nx (σ'.set i none) H', rt := D.rt, bk := fun σ' H' => D.bk (σ'.set i none) H', ct := fun σ' H' => D.ct (σ'.set i none) H' }
theorem try_run {X : Cx} {x n : Str} {c : Value} {i : Nat} {body suite : List Stmt} {b₀ : Stmt} {npo pos pos' : Pos} (hs : X.stack = X.env :: X.outer) (hf : X.env.frame = some X.env.locals) (hex : X.ex = []) (hN : X.N.Nodup) (hi : X.N[i]? = some n) (hln : X.env.kindOf n = some .local) (hc : Names X x c)
    {pins : List (Addr × Obj)} {σ : L2.St} {H : Hp} {s : Shared} {D : Ends} {W : WX} (I : Inv X pins σ H s)
    (hb : ∀ (pn : List (Addr × Obj)) (xe : Value → Shared → Prop), Takes (X.tr pn xe) W → PassesOwn (model X.prog X.w) X.A X.env xe → ∀ s, Inv (X.tr pn xe) [] σ H s → wpAny (model X.prog X.w) X.A (execs body X.env) (SP (X.tr pn xe) [] D) xe s)
    (hW : ∀ cls d σ' H', W cls d σ' H' → ∃ C0, cls = .ref C0 ∧ PySem.W.exmOne X.K cls c = some true ∧ ∀ (a : Addr) (pn : List (Addr × Obj)) (s5 : Shared), H' a = none → Inv (X.suite a pn) [] (σ'.set i (some (.ref a))) (upd H' a (ExH C0 d a)) s5 →
      wpAny (model X.prog X.w) (X.A.mark (some (.ref a))) (execs (b₀ :: suite) X.env) (SP (X.suite a pn) [] (unSlot i D)) (fun _ _ => False) s5) :
    wpAny (model X.prog X.w) X.A (exec (.Try body [.ExceptHandler (some (.Name x npo)) (some n) (b₀ :: suite) pos'] [] [] pos) X.env) (SP X pins D) X.xe s := by
  have ok := I.ok
  have hfr : X.A.frames = some (X.env :: X.outer) := by rw [ok.frames, hs]
  have hloc : Loc X.env.scope n := .inl hln
  refine wpAny_Try_except ?_
  refine wpAny_mono (hb (X.pn ++ pins) (fun e s₁ => wpAny (model X.prog X.w) X.A (noteFrame e X.env) (fun _ s₂ => wpAny (model X.prog X.w) X.A (setFlight e none) (fun _ s₃ =>
    wpAny (model X.prog X.w) X.A (handleBy e X.env [.ExceptHandler (some (.Name x npo)) (some n) (b₀ :: suite) pos']) (SP X pins D) X.xe s₃) X.xe s₂) X.xe s₁) (fun u s' xx => ?_) PassesOwn.looking s (I.toTry _)) (fun f s1 hsp => ?_) (fun e s1 he => he)
  · obtain ⟨a, B, sI, pins', σ', H', cls, d, rfl, J', nb, up, sky, na, os, ag, w⟩ := xx
    obtain ⟨C0, rfl, hb1, hyes⟩ := hW cls d σ' H' w
    have J : Inv X pins σ' H' sI := J'.ofTry ok
    have sky' : Sky B (X.env :: X.outer) a (Zc (.ref C0) d) X.env.locals s'.heap := by rw [← hs]; exact sky
    show wpAny (model X.prog X.w) X.A (noteFrame (.ref a) X.env) _ _ _
    refine Sky.land Zc.steady hfr hf sky' fun h3 fl3 up3 => ?_
    have J3 : Inv X pins σ' H' { s' with heap := h3 } := J.landed nb fl3.1 (up.trans up3) os ag
    obtain ⟨oe3, vs3, he3, hz3, hd3⟩ := fl3.there
    have notFr : ∀ {h : Heap} {o : Obj} {vs : Array Value}, h.FunFrames B (X.env :: X.outer) → h.get? a = some o → o.data = .fields vs → a ∉ frs (X.env :: X.outer) := fun {h o vs} ff e dd hm => by
      obtain ⟨_, o', e', hnf⟩ := ff.mem hm
      rw [e] at e'; cases e'
      exact hnf _ dd
    have nfr := notFr fl3.2.2.1 he3 hd3
    have nL : a ≠ X.env.locals := fun z => nfr (List.mem_filterMap.mpr ⟨X.env, List.mem_cons_self, by rw [hf, z]⟩)
    have nI : sI.heap.get? a = none := by
      cases e : sI.heap.get? a with
      | none => rfl
      | some o =>
        have z := nb a o e (by rw [hs]; exact nfr)
        rw [fl3.2.1] at z; cases z
    have n0 : X.s_0.heap.get? a = none := by
      cases e : X.s_0.heap.get? a with
      | none => rfl
      | some o =>
        obtain ⟨o', z⟩ := J.base.there a o e (by rw [hex]; exact fun z => nomatch z)
        rw [nI] at z; cases z
    have np : ∀ p ∈ X.pn ++ pins, p.1 ≠ a := fun p hp z => by
      have e := (J.pin p hp).1
      rw [z, nI] at e; cases e
    have S3 := suite0 (track J3 he3 hz3 hd3 na nL np n0) a
    refine wpAny_handleBy_cons (codeAny_handlers_test ?_) (by intro q; cases q)
    have LT : PySem.W.Looks (model X.prog X.w) h3 (typeOf (.ref a)) (.ref C0) := fun A Q E s k q => wpAny_typeOf_ref (k _ _ he3) (by rw [hz3.1]; exact q)
    have LM := PySem.W.exm_one (M := model X.prog X.w) (J3.kIn) LT hb1
    have test : ∀ {Q : Value → Shared → Prop} {E : Value → Shared → Prop}, Q c { s' with heap := h3 } → wpAny (model X.prog X.w) (X.A.mark (some (.ref a))) (eval (.Name x npo) X.env) Q E { s' with heap := h3 } := fun {Q E} q => by
      obtain ⟨hg, hdbg, hm | ⟨hm, hv, hnn⟩⟩ := hc
      · exact ld_glob (X := X.suite a (X.pn ++ pins)) S3 hg hm q hdbg
      · exact ld_blt (X := X.suite a (X.pn ++ pins)) S3 hg hm hv q hnn hdbg
    refine test (LM.here ?_)
    refine codeAny_handlers_suite_as ?_
    refine HandSPX.lands_againZ fl3 fun h4 fl4 up4 => ?_
    have J4 : Inv X pins σ' H' { s' with heap := h4 } := J.landed nb fl4.1 ((up.trans up3).trans up4) os ag
    obtain ⟨oe4, vs4, he4, hz4, hd4⟩ := fl4.there
    have S4 := suite0 (track J4 he4 hz4 hd4 na nL np n0) a
    refine store_ok (X := X.suite a (X.pn ++ pins)) (v := .ref a) S4 hN hi hloc rfl (fun s5 S5 => ?_) (.inr hln)
    refine wpAny_mono (hyes a (X.pn ++ pins) s5 na S5) (fun f s6 hsp => ?_) (fun _ _ z => False.elim z)
    have end_ : ∀ {σ6 : L2.St} {H6 : Hp} {Q : Shared → Prop}, Inv (X.suite a (X.pn ++ pins)) [] σ6 H6 s6 → (∀ s7, Inv X pins (σ6.set i none) H6 s7 → Q s7) →
        wpAny (model X.prog X.w) X.A (do bindName X.env n .none; unbindBehindTheSuite X.env n pos') (fun _ s7 => Q s7) X.xe s6 := fun {σ6 H6 Q} S6 hq => gone_ok (unsuite0 S6 ok) hN hi hln hq
    cases f with
    | next =>
      obtain ⟨σ6, H6, S6, q6⟩ := hsp
      exact end_ S6 fun s7 J7 => ⟨_, _, J7, q6⟩
    | brk =>
      obtain ⟨σ6, H6, S6, q6⟩ := hsp
      exact end_ S6 fun s7 J7 => ⟨_, _, J7, q6⟩
    | cont =>
      obtain ⟨σ6, H6, S6, q6⟩ := hsp
      exact end_ S6 fun s7 J7 => ⟨_, _, J7, q6⟩
    | ret u =>
      obtain ⟨v6, σ6, H6, S6, r6, q6⟩ := hsp
      exact end_ S6 fun s7 J7 => ⟨_, _, _, J7, r6, q6⟩
  · cases f with
    | next =>
      obtain ⟨σ', H', J', q⟩ := hsp
      exact wpAny_execs_nil ⟨σ', H', J'.ofTry ok, q⟩
    | brk =>
      obtain ⟨σ', H', J', q⟩ := hsp
      exact ⟨σ', H', J'.ofTry ok, q⟩
    | cont =>
      obtain ⟨σ', H', J', q⟩ := hsp
      exact ⟨σ', H', J'.ofTry ok, q⟩
    | ret u =>
      obtain ⟨v, σ', H', J', r, q⟩ := hsp
      exact ⟨v, σ', H', J'.ofTry ok, r, q⟩

/-! ### try: body, except DelayError as n: suite -/
section
variable {K : PySem.W.Frag} {C : FC} {F F1 H : Hp} {ρ : DEnv} {σ : L2.St}
theorem Sim.reF (S : Sim K { C with F0 := F1 } F H ρ σ) (f : Same C.F0 F1) (n : ∀ b, F1 b ≠ none → C.F0 b ≠ none ∨ C.H0 b = none) : Sim K C F H ρ σ :=
  ⟨S.len, S.sub, S.frz, S.own, S.ne, S.par, f.trans S.f0, S.h0, fun b e => by
    rcases S.new b e with z | z
    · exact n b z
    · exact .inr z, S.pin, S.dp⟩
theorem Sim.toF (S : Sim K C F H ρ σ) : Sim K { C with F0 := F } F H ρ σ :=
  ⟨S.len, S.sub, S.frz, S.own, S.ne, S.par, Same.refl F, S.h0, fun b e => .inl e, S.pin, S.dp⟩
theorem Sim.clear (S : Sim K C F H ρ σ) {i : Nat} (hp : ¬ C.isP i) : Sim K C F H (ρ.set i none) (σ.set i none) := by
  by_cases hi : i < σ.length
  · refine ⟨by simp [S.len], S.sub, fun j d h => ?_, fun j d h => ?_, fun j k a d e h1 h2 h3 h4 => ?_, fun j a h => ?_, S.f0, S.h0, S.new, fun b o e => ?_, S.dp.keep (Same.refl F) (own2_set (fun d z => by cases z)) fun b hb ⟨h1, h2, h3, h4, h5⟩ => ⟨fun o e => e, ⟨h1, h2, h3, h4, fun j y h => ?_⟩⟩⟩
    · rw [get_set (S.len ▸ hi)] at h
      rw [get_set hi]
      split at h
      · cases h
      · rename_i q; rw [if_neg q]; exact S.frz j d h
    · rw [get_set (S.len ▸ hi)] at h
      rw [get_set hi]
      split at h
      · cases h
      · rename_i q; rw [if_neg q]; exact S.own j d h
    · rw [get_set (S.len ▸ hi)] at h1 h2
      rw [get_set hi] at h3 h4
      split at h1
      · cases h1
      · rename_i q1
        split at h2
        · cases h2
        · rename_i q2
          rw [if_neg q1] at h3
          rw [if_neg q2] at h4
          exact S.ne j k a d e h1 h2 h3 h4
    · have q : j ≠ i := fun z => hp ⟨a, z ▸ h⟩
      rw [get_set (S.len ▸ hi), get_set hi, if_neg q, if_neg q]
      exact S.par j a h
    · obtain ⟨h1, h2, h3⟩ := S.pin b o e
      refine ⟨h1, h2, fun j y h => ?_⟩
      rw [get_set (S.len ▸ hi)] at h
      rw [get_set hi]
      split at h
      · cases h
      · rename_i q; rw [if_neg q]; exact h3 j y h
    · rw [get_set (S.len ▸ hi)] at h
      rw [get_set hi]
      split at h
      · cases h
      · rename_i q; rw [if_neg q]; exact h5 j y h
  · rw [List.set_eq_of_length_le (by rw [S.len]; omega), List.set_eq_of_length_le (by omega)]; exact S
end
def dTry (i : Nat) (t : XEnds → DS) (u : DS) : DS := fun E ρ =>
  t (fun n es ρ' => u { nx := fun ρ'' => E.nx (ρ''.set i none), rt := E.rt, bk := fun ρ'' => E.bk (ρ''.set i none), ct := fun ρ'' => E.ct (ρ''.set i none) } (ρ'.set i (some (.frz (excD n es))))) E ρ
section
variable {X : Cx} {C : FC} {P : List Bool} {a e : Expr} {ta : DE} {p pos pos' : Pos}
theorem s_try {n : Str} {i : Nat} {body suite : List Stmt} {b₀ : Stmt} {np : Pos} {t : XEnds → DS} {u : DS} (hP : C.Tags P) (hN : X.N.Nodup) (hx : ClsAt X.K X.mg "DelayError")
    (hb : ∀ (pn : List (Addr × Obj)) (xe : Value → Shared → Prop) (C' : FC) (Ex' : XEnds), C'.Tags P → Takes (X.tr pn xe) (wX X.K C' Ex') → PassesOwn (model X.prog X.w) X.A X.env xe → QSs (X.tr pn xe) C' body (t Ex'))
    (hsu : ∀ (a : Addr) (pn : List (Addr × Obj)), QSs (X.suite a pn) C (b₀ :: suite) u)
    (hs : X.stack = X.env :: X.outer := by rfl) (hf : X.env.frame = some X.env.locals := by rfl) (hex : X.ex = [] := by rfl) (hi : X.N[i]? = some n := by rfl) (hln : X.env.kindOf n = some .local := by rfl) (hp : P[i]? ≠ some true := by decide) (hg : Gl X "DelayError" := by rfl) :
    QS X C (.Try body [.ExceptHandler (some (.Name "DelayError" np)) (some n) (b₀ :: suite) pos'] [] [] pos) (dTry i t u) := by
  obtain ⟨c, hm, hns, _⟩ := hx.ex
  refine ⟨⟨fun pins s σ H D I h => ?_⟩⟩
  obtain ⟨F, ρ, E, S, ht, ok⟩ := h
  have nw := S.new
  refine try_run hs hf hex hN hi hln ⟨hg, by decide, .inl hm⟩ I (W := wX X.K { C with F0 := F } fun n es ρ' => u { nx := fun ρ'' => E.nx (ρ''.set i none), rt := E.rt, bk := fun ρ'' => E.bk (ρ''.set i none), ct := fun ρ'' => E.ct (ρ''.set i none) } (ρ'.set i (some (.frz (excD n es))))) ?_ ?_
  · intro pn xe tk po s1 I1
    have hP' : FC.Tags { C with F0 := F } P := hP
    exact (hb pn xe _ _ hP' tk po).pss.run [] s1 σ H D I1 ⟨F, ρ, E, S.toF, ht, ⟨fun ρ' F' H' σ' h S' s' => ok.nx _ _ _ _ h (S'.reF S.f0 nw) s', fun r ρ' F' H' σ' v h S' s' rr => ok.rt _ _ _ _ _ _ h (S'.reF S.f0 nw) s' rr, fun ρ' F' H' σ' h S' s' => ok.bk _ _ _ _ h (S'.reF S.f0 nw) s', fun ρ' F' H' σ' h S' s' => ok.ct _ _ _ _ h (S'.reF S.f0 nw) s'⟩⟩
  · rintro cls d σ' H' ⟨n, D0, fs, es, F', ρ', rfl, hn, hf', hr, S1, hu⟩
    refine ⟨D0, rfl, ?_, fun a pn s5 na I5 => ?_⟩
    · have z := (hn.sub "DelayError" (by decide) c hns).2
      rw [z]
      show some (n == "DelayError" || true) = some true
      rw [Bool.or_true]
    · have S2 : Sim X.K C F' H' ρ' σ' := S1.reF S.f0 nw
      have g : Gr F' H' (upd F' a (ExH D0 d a)) (upd H' a (ExH D0 d a)) := Gr.new S2.sub na
      have rp : Rep X.K (upd F' a (ExH D0 d a)) (.ref a) (excD n es) := .exc (.inl upd_same) hn (exF_mono g.f hf') (hr.mono g.f)
      have S4 := setF' (i := i) (S2.grow g) (noP hP hp) rp
      have s14 : Same F (upd F' a (ExH D0 d a)) := S1.f0.trans g.f
      have np' := noP hP hp
      exact (hsu a pn).pss.run [] s5 _ _ _ I5 ⟨_, _, _, S4, hu, ⟨fun ρ' F' H' σ' h S' s' => ok.nx _ _ _ _ h (S'.clear np') (s14.trans s'), fun r ρ' F' H' σ' v h S' s' rr => ok.rt _ _ _ _ _ _ h S' (s14.trans s') rr, fun ρ' F' H' σ' h S' s' => ok.bk _ _ _ _ h (S'.clear np') (s14.trans s'), fun ρ' F' H' σ' h S' s' => ok.ct _ _ _ _ h (S'.clear np') (s14.trans s')⟩⟩

/-! ### isinstance of what was caught -/
def isCD (f : Str → Bool) (nn : Bool) : PyData → (Bool → Prop) → Prop := fun d k => match d with
  | .none => nn = true ∧ k false
  | .dict ((.bool true, .str n) :: _) => k (f n)
  | _ => False
theorem exc_view {K : PySem.W.Frag} {F H : Hp} {v : V} {n : Str} {es : List (PyData × PyData)} (s : Same F H) (w : View K F H v (.dict ((.bool true, .str n) :: es))) : ∃ D, ClsN K n D ∧ TyY K H v (.ref D) := by
  obtain ⟨a, e, ⟨xs, h, r⟩ | ⟨w0, xs, _, h, r⟩ | hx⟩ := w
  · generalize q : ((PyData.bool true, PyData.str n) :: es) = l at r
    cases r with
    | nil => cases q
    | @cons k v vs d ds h1 h2 =>
      injection q with q1 q2
      injection q1 with q1 q3
      cases k <;> cases q1
  · generalize q : ((PyData.bool true, PyData.str n) :: es) = l at r
    cases r with
    | nil => cases q
    | @cons k b v vs d ds h0 h1 h2 h3 =>
      injection q with q1 q2
      injection q1 with q1 q3
      cases k <;> cases q1
  · obtain ⟨D, d, m, fs, es', q, h1, h2, h3, h4⟩ := hx
    cases q
    exact ⟨D, h2, .inr (.inr ⟨a, D, d, fs, e, rfl, rd_mono s h1, h2.ec, exF_mono s h3⟩)⟩
theorem non_view {K : PySem.W.Frag} {F H : Hp} {v : V} (w : View K F H v .none) : TyY K H v (.type "NoneType") := by
  cases (show Rep K F v .none from w)
  exact .inl (.base .non)
def dIsC (f : Str → Bool) (nn : Bool) (t : DE) : DE := fun ρ Q => t ρ fun o ρ1 => withO ρ1 o fun d => isCD f nn d fun b => Q (.val (.bool b)) ρ1
theorem isCD_view {K : PySem.W.Frag} {F H : Hp} {v : V} {d : PyData} {f : Str → Bool} {nn : Bool} {k : Bool → Prop} (s : Same F H) (w : View K F H v d) (h : isCD f nn d k) :
    (nn = true ∧ TyY K H v (.type "NoneType") ∧ k false) ∨ ∃ n D, ClsN K n D ∧ TyY K H v (.ref D) ∧ k (f n) := by
  cases d with
  | none => exact .inl ⟨h.1, non_view w, h.2⟩
  | dict l =>
    cases l with
    | nil => exact h.elim
    | cons y es =>
      obtain ⟨y1, y2⟩ := y
      cases y1 with
      | bool b =>
        cases b with
        | true =>
          cases y2 with
          | str n =>
            obtain ⟨D, h1, h2⟩ := exc_view s w
            exact .inr ⟨n, D, h1, h2, h⟩
          | _ => exact h.elim
        | false => exact h.elim
      | _ => exact h.elim
  | _ => exact h.elim
/-- isinstance(e, C) -/
theorem q_isC {m : Str} {p2 : Pos} (hm : X.mg "isinstance" = none) (hx : ClsAt X.K X.mg m) (ha : QE X C a ta) (hmem : m ∈ excNames := by decide) (hg : Gl X "isinstance" := by rfl) (hg2 : Gl X m := by rfl) (hdx : (m == ("__debug__" : Str)) = false := by decide)
    (hs : starEach [a, .Name m p2] X.env = (false, eval a X.env) :: starEach [.Name m p2] X.env := by rfl) (hs2 : starEach [.Name m p2] X.env = (false, eval (.Name m p2) X.env) :: starEach [] X.env := by rfl)
    (hpl : (backTo pos (starEach [.Name m p2] X.env)).any (·.1) = false := by rfl) : QE X C (.Call (.Name "isinstance" p) [a, .Name m p2] [] pos) (dIsC (fun n => isSub n m) true ta) := by
  obtain ⟨c, hmg, hns, hnn⟩ := hx.ex
  refine QE.of (pe_callB call_isiY hg hm (by decide +kernel) (pa_cons ha.pe (pa_cons (pe_glob (v := .ref c) hg2 hmg rfl hdx) pa_nil hs2) hs) (by decide) (by decide) hs hpl) fun σ H Q ⟨F, ρ, q, S, ht, k⟩ => ?_
  refine ⟨F, ρ, _, S, ht, fun o ρ1 F1 H1 v hq S1 s1 d1 => ?_⟩
  obtain ⟨d, vd, w⟩ := S1.see d1 hq
  rcases isCD_view S1.sub vd w with ⟨_, ty, w⟩ | ⟨n, D, cl, ty, w⟩
  · exact ⟨v, .ref c, _, .ref c, false, rfl, .own c, ty, hnn, k _ _ _ _ _ w S1 s1 (.bl _)⟩
  · exact ⟨v, .ref c, _, .ref c, _, rfl, .own c, ty, (cl.sub m hmem c hns).1, k _ _ _ _ _ w S1 s1 (.bl _)⟩
/-- isinstance(e, ValueError) -/
theorem q_isVE {p2 : Pos} (hm : X.mg "isinstance" = none) (hm2 : X.mg "ValueError" = none) (ha : QE X C a ta) (hg : Gl X "isinstance" := by rfl) (hg2 : Gl X "ValueError" := by rfl)
    (hs : starEach [a, .Name "ValueError" p2] X.env = (false, eval a X.env) :: starEach [.Name "ValueError" p2] X.env := by rfl) (hs2 : starEach [.Name "ValueError" p2] X.env = (false, eval (.Name "ValueError" p2) X.env) :: starEach [] X.env := by rfl)
    (hpl : (backTo pos (starEach [.Name "ValueError" p2] X.env)).any (·.1) = false := by rfl) : QE X C (.Call (.Name "isinstance" p) [a, .Name "ValueError" p2] [] pos) (dIsC (fun _ => true) false ta) := by
  refine QE.of (pe_callB call_isiY hg hm (by decide +kernel) (pa_cons ha.pe (pa_cons (pe_bltn (v := .ty "ValueError") hg2 hm2 (by decide +kernel) rfl (by decide) (by decide)) pa_nil hs2) hs) (by decide) (by decide) hs hpl) fun σ H Q ⟨F, ρ, q, S, ht, k⟩ => ?_
  refine ⟨F, ρ, _, S, ht, fun o ρ1 F1 H1 v hq S1 s1 d1 => ?_⟩
  obtain ⟨d, vd, w⟩ := S1.see d1 hq
  rcases isCD_view S1.sub vd w with ⟨z, _⟩ | ⟨n, D, cl, ty, w⟩
  · cases z
  · exact ⟨v, .ty "ValueError", _, .type "ValueError", _, rfl, .ty _, ty, cl.ve, k _ _ _ _ _ w S1 s1 (.bl _)⟩
/-- names of classes, in a tuple -/
def CRel (K : PySem.W.Frag) (m : Str) (c : Addr) : Prop := m ∈ excNames ∧ PySem.W.nsIn K mainGlobals m = some (some (.ref c)) ∧ PySem.W.kitOne K (.type "NoneType") (.ref c) = some false
structure QCs (X : Cx) (es : List Expr) (ms : List Str) : Prop where
  ex : ∃ cs, Paired (CRel X.K) ms cs ∧ PA X es fun _ H Q => Q (cs.map V.ref) H
theorem cs_nil : QCs X [] [] := ⟨[], .nil, pa_nil⟩
theorem cs_cons {m : Str} {ms : List Str} {es : List Expr} (hx : ClsAt X.K X.mg m) (h : QCs X es ms) (hmem : m ∈ excNames := by decide) (hg : Gl X m := by rfl) (hdx : (m == ("__debug__" : Str)) = false := by decide)
    (hs : starEach (.Name m p :: es) X.env = (false, eval (.Name m p) X.env) :: starEach es X.env := by rfl) : QCs X (.Name m p :: es) (m :: ms) := by
  obtain ⟨c, hmg, hns, hnn⟩ := hx.ex
  obtain ⟨cs, h1, h2⟩ := h.ex
  exact ⟨c :: cs, .cons ⟨hmem, hns, hnn⟩ h1, pa_cons (pe_glob (v := .ref c) hg hmg rfl hdx) h2 hs⟩
theorem kitAny_cls {K : PySem.W.Frag} {t : Value} {f : Str → Bool} : ∀ {ms : List Str} {cs : List Addr}, Paired (fun m c => PySem.W.kitOne K t (.ref c) = some (f m)) ms cs → PySem.W.kitAny K t (cs.map Value.ref) = some (ms.any f)
  | _, _, .nil => rfl
  | _, _, .cons (a := m) h r => by
    rw [List.map_cons, PySem.W.kitAny, h, List.any_cons]
    cases f m with
    | true => rfl
    | false => exact kitAny_cls r
theorem own_all : ∀ (cs : List Addr), Paired ClsV (cs.map V.ref) (cs.map Value.ref)
  | [] => .nil
  | c :: cs => .cons (.own c) (own_all cs)
/-- isinstance(e, (C, ..)) -/
theorem q_isCs {ms : List Str} {es : List Expr} {kk : Nat} {p4 : Pos} (hm : X.mg "isinstance" = none) (hx : QCs X es ms) (ha : QE X C a ta) (hl : ms.length ≤ 20 := by decide) (hg : Gl X "isinstance" := by rfl)
    (hs : starEach [a, .Tuple es kk p4] X.env = (false, eval a X.env) :: starEach [.Tuple es kk p4] X.env := by rfl) (hs2 : starEach [.Tuple es kk p4] X.env = (false, eval (.Tuple es kk p4) X.env) :: starEach [] X.env := by rfl)
    (hpl : (backTo pos (starEach [.Tuple es kk p4] X.env)).any (·.1) = false := by rfl) : QE X C (.Call (.Name "isinstance" p) [a, .Tuple es kk p4] [] pos) (dIsC (fun n => ms.any (isSub n)) true ta) := by
  obtain ⟨cs, h1, h2⟩ := hx.ex
  refine QE.of (pe_callB call_isiTY hg hm (by decide +kernel) (pa_cons ha.pe (pa_cons (pe_tup h2) pa_nil hs2) hs) (by decide) (by decide) hs hpl) fun σ H Q ⟨F, ρ, q, S, ht, k⟩ => ?_
  refine ⟨F, ρ, _, S, ht, fun o ρ1 F1 H1 v hq S1 s1 d1 => ?_⟩
  obtain ⟨d, vd, w⟩ := S1.see d1 hq
  refine ⟨by rw [List.length_map, ← Paired.length h1]; exact Nat.le_trans hl (by decide), fun pp hp => ?_⟩
  have g := Gr.new (o := .tup (cs.map V.ref)) S1.sub hp
  have S2 := S1.grow g
  have vd2 := vd.grow g
  rcases isCD_view S2.sub vd2 w with ⟨_, ty, w⟩ | ⟨n, D, cl, ty, w⟩
  · refine ⟨v, pp, _, _, cs.map Value.ref, false, rfl, upd_same, own_all cs, ty, ?_, k _ _ _ _ _ w S2 (s1.trans g.f) (.bl _)⟩
    rw [kitAny_cls (f := fun _ => false) (Paired.mapP h1 fun m c z => z.2.2)]
    simp
  · exact ⟨v, pp, _, _, cs.map Value.ref, _, rfl, upd_same, own_all cs, ty, kitAny_cls (Paired.mapP h1 fun m c z => (cl.sub m z.1 c z.2.1).1), k _ _ _ _ _ w S2 (s1.trans g.f) (.bl _)⟩
end
end Dv

set_option Elab.async false
set_option linter.all false
set_option maxRecDepth 100000
set_option autoImplicit false
/-! ### exceptions: the end of a claim; sorted(d) of a dict of texts -/
namespace Dv
open PySem PySem.Spec L2
theorem takes_no {X : Cx} {C : FC} : Takes X (wX X.K C fun _ _ _ => False) := by
  rintro u s' ⟨a, B, sI, pins, σ, H, cls, d, e, I, nb, up, sky, na, os, ag, w⟩
  obtain ⟨_, _, _, _, _, _, _, _, _, _, _, h⟩ := w
  exact h.elim
theorem po_cx {Pg : Program} {w : World} {K : PySem.W.Frag} {mg : Str → Option Value} {base : Heap} {N : List Str} {qual : Str} {sc : Scope} {f : Addr} {cdv : Value} {A : Around} {outer : List Env} {s : Shared} {H : Hp} {E : XK} :
    PassesOwn (model Pg w) (cxOf (L2.CX Pg w) Pg w K mg base N qual sc f cdv A outer s H E).A (cxOf (L2.CX Pg w) Pg w K mg base N qual sc f cdv A outer s H E).env (cxOf (L2.CX Pg w) Pg w K mg base N qual sc f cdv A outer s H E).xe :=
  passes_of (X := cxOf (L2.CX Pg w) Pg w K mg base N qual sc f cdv A outer s H E) (K := fun e s'' => L2.CX Pg w outer H s E e s'') rfl
section
variable {K : PySem.W.Frag} {h : Heap} {mg : Str → Option Value} {n m : Str} {D C0 : Addr} {ms : List Str} {b : Bool}
theorem cls_mk (X : K.In h) (G : h.Ns mainGlobals mg) (a : PySem.W.nsIn K mainGlobals m = some (some (.ref C0))) (q : PySem.W.kitOne K (.type "NoneType") (.ref C0) = some false) : ClsAt K mg m := ⟨C0, PySem.W.mg_of X G a, a, q⟩
def SubL (K : PySem.W.Frag) (D : Addr) (n : Str) (ms : List Str) : Prop := ∀ m ∈ ms, ∀ C, PySem.W.nsIn K mainGlobals m = some (some (.ref C)) → PySem.W.kitOne K (.ref D) (.ref C) = some (isSub n m) ∧ PySem.W.exmOne K (.ref D) (.ref C) = some (isSub n m)
theorem sub_nil : SubL K D n [] := fun _ h => nomatch h
theorem sub_no (a : PySem.W.nsIn K mainGlobals m = some none) (t : SubL K D n ms) : SubL K D n (m :: ms) := fun x hx C e => by
  rcases List.mem_cons.mp hx with rfl | hx
  · rw [a] at e; cases e
  · exact t x hx C e
theorem sub_yes (a : PySem.W.nsIn K mainGlobals m = some (some (.ref C0))) (k : PySem.W.kitOne K (.ref D) (.ref C0) = some b) (x : PySem.W.exmOne K (.ref D) (.ref C0) = some b) (eb : isSub n m = b) (t : SubL K D n ms) : SubL K D n (m :: ms) := fun x' hx C e => by
  rcases List.mem_cons.mp hx with rfl | hx
  · rw [a] at e; cases e
    rw [eb]
    exact ⟨k, x⟩
  · exact t x' hx C e
theorem exc_mk (X : K.In h) (G : h.Ns mainGlobals mg) (a : PySem.W.nsIn K mainGlobals n = some (some (.ref D))) (k : PySem.W.keepIn K (.ref D) = true)
    (e1 : PySem.W.findIn K (.ref D) "__getattribute__" = some (some (.builtin "BaseException.__getattribute__"))) (e2 : PySem.W.findIn K (.ref D) "__getattr__" = some none) (e3 : PySem.W.subIn K (.ref D) (.type "BaseException") = some true)
    (e4 : PySem.W.hasDictIn K D = true) (e5 : PySem.W.findIn K (.ref D) "__class__" = some (some (.builtin "object.__class__"))) (e6 : PySem.W.specialIn K (.builtin "object.__class__") "__get__" = some (some (.builtin "getset_descriptor.__get__")))
    (e7 : PySem.W.takesIn K (.builtin "object.__class__") = some true) (e8 : PySem.W.mroIn K D (.type "object") = some true)
    (t1 : PySem.W.kitOne K (.ref D) (.type "str") = some false) (t2 : PySem.W.kitOne K (.ref D) (.type "int") = some false) (t3 : PySem.W.kitOne K (.ref D) (.type "bool") = some false) (t4 : PySem.W.kitOne K (.ref D) (.type "list") = some false) (t5 : PySem.W.kitOne K (.ref D) (.type "tuple") = some false)
    (s : SubL K D n excNames) (ve : PySem.W.kitOne K (.ref D) (.type "ValueError") = some true)
    (x : PySem.W.excIn K D [.type "ValueError", .type "Exception", .type "BaseException", .type "object"] "ValueError.__new__" = true) (ty : PySem.W.typeIn K (.ref D) = some (.type "type")) : ExcAt K mg n :=
  ⟨D, PySem.W.mg_of X G a, k, ⟨a, ⟨e1, e2, e3, e4, e5, e6, e7, e8⟩, fun T hT => by
    simp only [List.mem_cons, List.not_mem_nil, or_false] at hT
    rcases hT with rfl | rfl | rfl | rfl | rfl
    · exact t1
    · exact t2
    · exact t3
    · exact t4
    · exact t5, s, ve⟩, x, e3, ty⟩
end
/-! ### sorted(d), d's keys texts, fewer than 64 -/
def sortKD : OpNL := fun ds k => match ds with
  | [.dict kvs] => match strsD (kvs.map (·.1)) with
    | some zs => zs.length < 64 ∧ ∀ ys : List Str, ys.Perm zs → PyProof.Rows.sortedS ys = true → k (ys.map .str)
    | none => False
  | _ => False
theorem keys_inr {K : PySem.W.Frag} {F : Hp} : ∀ {ks : List (Key × V)} {ds : List (PyData × PyData)} {zs : List Str}, RepKV K F ks ds → ds.map (·.1) = zs.map PyData.str → ks.map (·.1) = zs.map Sum.inr
  | _, _, [], .nil, _ => rfl
  | _, _, _ :: _, .nil, h => by cases h
  | _, _, [], .cons _ _, h => by cases h
  | (k, v) :: ks, _ :: ds, z :: zs, .cons r t, h => by
    rw [List.map_cons, List.map_cons] at h
    injection h with h1 h2
    rw [List.map_cons, List.map_cons, keys_inr t h2]
    cases k with
    | inl i => cases h1
    | inr x => cases h1; rfl
section
variable {X : Cx} {C : FC} {a : Expr} {tA : DA} {p pos : Pos}
theorem o_sortK (hc : X.calm = true) (hm : X.mg "sorted" = none) (ha : QA X C [a] tA) (hg : Gl X "sorted" := by rfl)
    (he : starEach [a] X.env = (false, eval a X.env) :: starEach [] X.env := by rfl) (hpl : (backTo pos (starEach [] X.env)).any (·.1) = false := by rfl) : QO X C (.Call (.Name "sorted" p) [a] [] pos) (dCBL sortKD tA) :=
  o_callB (call_sortedD hc) (fun F H vs ds q Q s v w k => by
    match ds, v, w with
    | [.dict kvs], v, w =>
      have w : (match strsD (kvs.map (·.1)) with
        | some zs => zs.length < 64 ∧ ∀ ys : List Str, ys.Perm zs → PyProof.Rows.sortedS ys = true → q (ys.map .str)
        | none => False) := w
      cases e : strsD (kvs.map (·.1)) with
      | none => rw [e] at w; exact w.elim
      | some zs =>
        rw [e] at w
        have ek := strs_map e
        obtain ⟨v, e1, b, e2, ⟨ks, h, r⟩ | ⟨w0, ks, n, h, r⟩ | hx⟩ := va1 v
        · subst e1 e2
          exact ⟨b, ks, zs, rfl, h, keys_inr r ek, w.1, fun ys p h1 h2 hp => k _ _ p (w.2 ys h1 h2) hp (strs_rep ys)⟩
        · cases r with
          | nil => exact absurd rfl n
          | @cons kk b v vs d ds c r1 r2 r3 =>
            cases zs with
            | nil => cases ek
            | cons z zs =>
              rw [List.map_cons, List.map_cons] at ek
              injection ek with ek1 ek2
              cases kk with
              | text x => exact absurd c.pl (by simp [plK])
              | _ => cases ek1
        · obtain ⟨D, d, m, fs, es', q1, _⟩ := hx
          subst q1
          cases zs with
          | nil => cases ek
          | cons z zs =>
            rw [List.map_cons, List.map_cons] at ek
            injection ek with ek1 ek2
            cases ek1) hm (by decide +kernel) ha hg (by decide) (by decide) he hpl
end
end Dv

set_option Elab.async false
set_option linter.all false
set_option maxRecDepth 100000
set_option autoImplicit false
/-! ### [.. for x in xs ..] over an owned list, which stays owned -/
namespace Dv
open PySem PySem.Spec L2
def dLcB (P : List Bool) (i : Nat) (g : DG) (tt : DT) (te : DE) (vs : List Nat) : DO := fun ρ Q => match ρ[i]? with
  | some (some (.own (.list ds))) => dLcL P g tt te vs (fun d ρ' => Q d (ρ'.set i (some (.own (.list ds))))) ds [] (ρ.set i none)
  | _ => False
section
variable {K : PySem.W.Frag} {C : FC} {F H : Hp} {ρ : DEnv} {σ : L2.St} {P : List Bool}
/-- a slot is left out -/
theorem Sim.drop (S : Sim K C F H ρ σ) {i : Nat} (hp : ¬ C.isP i) : Sim K C F H (ρ.set i none) σ where
  len := by simp [S.len]
  sub := S.sub
  frz := fun j d h => by
    by_cases e : j = i
    · subst e
      by_cases hl : j < ρ.length
      · rw [List.getElem?_set_self hl] at h; cases h
      · rw [List.getElem?_eq_none (by simp; omega)] at h; cases h
    · rw [List.getElem?_set_ne (Ne.symm e)] at h; exact S.frz j d h
  own := fun j d h => by
    by_cases e : j = i
    · subst e
      by_cases hl : j < ρ.length
      · rw [List.getElem?_set_self hl] at h; cases h
      · rw [List.getElem?_eq_none (by simp; omega)] at h; cases h
    · rw [List.getElem?_set_ne (Ne.symm e)] at h; exact S.own j d h
  ne := fun j k a d e h1 h2 h3 h4 => by
    have go : ∀ (m : Nat) (x : PyData), (ρ.set i none)[m]? = some (some (.own x)) → ρ[m]? = some (some (.own x)) := fun m x h => by
      by_cases e : m = i
      · subst e
        by_cases hl : m < ρ.length
        · rw [List.getElem?_set_self hl] at h; cases h
        · rw [List.getElem?_eq_none (by simp; omega)] at h; cases h
      · rw [List.getElem?_set_ne (Ne.symm e)] at h; exact h
    exact S.ne j k a d e (go j d h1) (go k e h2) h3 h4
  par := fun j a h => by
    have q : j ≠ i := fun z => hp ⟨a, z ▸ h⟩
    rw [List.getElem?_set_ne (Ne.symm q)]
    exact S.par j a h
  f0 := S.f0
  h0 := S.h0
  new := S.new
  pin := fun b o e => by
    obtain ⟨h1, h2, h3⟩ := S.pin b o e
    refine ⟨h1, h2, fun j x h => ?_⟩
    by_cases e : j = i
    · subst e
      by_cases hl : j < ρ.length
      · rw [List.getElem?_set_self hl] at h; cases h
      · rw [List.getElem?_eq_none (by simp; omega)] at h; cases h
    · rw [List.getElem?_set_ne (Ne.symm e)] at h; exact h3 j x h
  dp := by
    have go : ∀ (m : Nat) (x : SV), (ρ.set i none)[m]? = some (some x) → ρ[m]? = some (some x) := fun m x h => by
      by_cases e : m = i
      · subst e
        by_cases hl : m < ρ.length
        · rw [List.getElem?_set_self hl] at h; cases h
        · rw [List.getElem?_eq_none (by simp; omega)] at h; cases h
      · rw [List.getElem?_set_ne (Ne.symm e)] at h; exact h
    exact S.dp.keep (Same.refl F) (fun j e h => ⟨go j _ h, rfl⟩) fun b hb ⟨h1, h2, h3, h4, h5⟩ => ⟨fun o e => e, ⟨h1, h2, h3, h4, fun j x h => h5 j x (go j _ h)⟩⟩
/-- an owned object is taken back into its slot -/
theorem Sim.back (S : Sim K C F H ρ σ) {i : Nat} {a : Addr} {d : PyData} (ha : σ[i]? = some (some (.ref a))) (hp : ¬ C.isP i) (hF : F a = none) (hO : Own K F H a d) (h0 : C.H0 a = none) (hpn : C.pn a = none)
    (hn : ∀ (j : Nat) (e : PyData), ρ[j]? = some (some (.own e)) → σ[j]? ≠ some (some (.ref a))) (nf : ¬ InFoot H ρ σ a) : Sim K C F H (ρ.set i (some (.own d))) σ := by
  have hi : i < σ.length := (List.getElem?_eq_some_iff.mp ha).1
  have := S.setO (i := i) hi hp hF hO h0 hpn hn nf
  rw [show σ.set i (some (.ref a)) = σ from ?_] at this
  · exact this
  · apply List.ext_getElem?
    intro j
    by_cases e : j = i
    · subst e; rw [List.getElem?_set_self hi, ha]
    · rw [List.getElem?_set_ne (Ne.symm e)]
end
section
variable {X : Cx} {C : FC} {P : List Bool}
theorem lcB_low {g : TG} {gd : DG} {tt : DT} {te : DE} {vs : List Nat} {i : Nat} (hP : C.Tags P) (hi : P[i]? ≠ some true) (tg : TgtOk X.K P vs g gd) (hvs : ∀ v ∈ vs, P[v]? ≠ some true) {σ : L2.St} {H : Hp} {Q : VK} (h : lO X.K C (dLcB P i gd tt te vs) σ H Q) :
    tLc (iList X.K (tVar i)) g (lT' X.K P tt) (lE' X.K P te) vs σ H Q := by
  obtain ⟨F, ρ, q, S, ht, k⟩ := h
  have ht' : match ρ[i]? with
    | some (some (.own (.list ds))) => dLcL P gd tt te vs (fun d ρ' => q d (ρ'.set i (some (.own (.list ds))))) ds [] (ρ.set i none)
    | _ => False := ht
  have nP : ¬ C.isP i := noP hP hi
  cases e : ρ[i]? with
  | none => rw [e] at ht'; exact ht'.elim
  | some y =>
    cases y with
    | none => rw [e] at ht'; exact ht'.elim
    | some z =>
      cases z with
      | frz d => rw [e] at ht'; exact ht'.elim
      | own2 d => rw [e] at ht'; exact ht'.elim
      | own d =>
        cases d with
        | list ds =>
          rw [e] at ht'
          dsimp only at ht'
          obtain ⟨a, h1, hF, ⟨xs, hH, rA⟩, hor⟩ := S.own i _ e
          have h0 : C.H0 a = none := hor.resolve_right fun z => nP ⟨a, z⟩
          have pna : C.pn a = none := by
            cases z : C.pn a with
            | none => rfl
            | some o => exact absurd h1 ((S.pin a o z).2.2 i _ e)
          have nor : ∀ (j : Nat) (x : PyData), (ρ.set i none)[j]? = some (some (.own x)) → σ[j]? ≠ some (some (.ref a)) := fun j x hj hs => by
            by_cases ej : j = i
            · subst ej
              rw [List.getElem?_set_self (List.getElem?_eq_some_iff.mp e).1] at hj
              cases hj
            · rw [List.getElem?_set_ne (Ne.symm ej)] at hj
              exact ej (S.ne j i a x _ hj e hs h1)
          have nf1 : ¬ InFoot H (ρ.set i none) σ a := fun z => by
            obtain ⟨j, d', b, q1, q2, q3⟩ := z
            have hj : ρ[j]? = some (some (.own2 d')) := by
              by_cases ej : j = i
              · subst ej
                rw [List.getElem?_set_self (List.getElem?_eq_some_iff.mp e).1] at q1
                cases q1
              · rw [List.getElem?_set_ne (Ne.symm ej)] at q1; exact q1
            exact (S.dp.loose ⟨j, d', b, hj, q2, q3⟩).2.2.2.2 i _ e h1
          have S1 : Sim X.K (C.pin a (.lst xs)) F H (ρ.set i none) σ := (S.drop nP).pinned hH hF nor nf1
          refine ⟨.ref a, h1, a, rfl, ⟨xs, SqL.of hH⟩, ?_⟩
          refine lc_bodyG (C := C.pin a (.lst xs)) (FC.pin_tags hP) tg hvs (Same.refl _) S1 (fun F2 H2 ρ2 s2 S2 => ?_) ht' fun d ρ' F' H' b hq S' s' fr => ?_
          · have hH2 : H2 a = some (.lst xs) := (S2.pin a (.lst xs) (show upd C.pn a (.lst xs) a = some (.lst xs) from upd_same)).1
            have r2 := rA.mono s2
            refine ⟨⟨xs, SqL.of hH2, by rw [r2.length]; exact Nat.le_refl _⟩, fun j d hd => ?_⟩
            obtain ⟨v, hv, rv⟩ := r2.get hd
            refine ⟨⟨xs, v, SqL.of hH2, hv⟩, fun x H3 hy => ?_⟩
            obtain ⟨e3, hy⟩ := hy
            subst e3
            have := hy xs (SqL.of hH2)
            rw [hv] at this; cases this
            exact ⟨F2, Gr.refl S2.sub, rv⟩
          · obtain ⟨S3, hH3, hF3, hn3, nf3⟩ := Sim.unpinned pna S'
            have nb : b ≠ a := fun z => by
              have := fr.pn
              rw [z] at this
              rw [show (C.pin a (.lst xs)).pn a = some (.lst xs) from upd_same] at this
              cases this
            have pnb : C.pn b = none := by
              have := fr.pn
              rw [show (C.pin a (.lst xs)).pn b = C.pn b from upd_ne nb] at this
              exact this
            refine k _ _ F' H' b hq (S3.back h1 nP hF3 ⟨xs, hH3, rA.mono s'⟩ h0 pna hn3 nf3) s' ⟨fr.f, fr.o, fr.h0, pnb, fun j x hj hs => ?_, fun z => fr.nf ?_⟩
            rotate_left
            · obtain ⟨j, d', c, q1, q2, q3⟩ := z
              refine ⟨j, d', c, ?_, q2, q3⟩
              by_cases ej : j = i
              · subst ej
                by_cases hl : j < ρ'.length
                · rw [List.getElem?_set_self hl] at q1; cases q1
                · rw [List.getElem?_eq_none (by simp; omega)] at q1; cases q1
              · rw [List.getElem?_set_ne (Ne.symm ej)] at q1; exact q1
            by_cases ej : j = i
            · subst ej
              rw [h1] at hs
              cases hs
              exact nb rfl
            · rw [List.getElem?_set_ne (Ne.symm ej)] at hj
              exact fr.ne j x hj hs
        | _ => rw [e] at ht'; exact ht'.elim
variable {tg elt : Expr} {ifs : List Expr} {scope : Scope} {own : List (Str × Nat)} {pos spos p : Pos} {g : TG} {gd : DG} {tt : DT} {te : DE} {x : Str} {i : Nat}
theorem o_lcB (hP : C.Tags P) (hc : X.calm = true) (hN : X.N.Nodup) (hv : PE X (.Name x p) (tVar i)) (ok : BlkOk X.N X.env.scope scope own)
    (hg : ∀ (s : Shared) (H : Hp) (Ca : Addr) (cl : List (Str × Addr)) (fp : List Addr), PG (X.blk s H scope (compEnvC scope cl Ca X.env) fp) tg g) (tgk : TgtOk X.K P (own.map (·.2)) g gd)
    (ht : ∀ (s : Shared) (H : Hp) (Ca : Addr) (cl : List (Str × Addr)) (fp : List Addr) (C' : FC), C'.Tags P → QTs (X.blk s H scope (compEnvC scope cl Ca X.env) fp) C' ifs tt)
    (he : ∀ (s : Shared) (H : Hp) (Ca : Addr) (cl : List (Str × Addr)) (fp : List Addr) (C' : FC), C'.Tags P → QE (X.blk s H scope (compEnvC scope cl Ca X.env) fp) C' elt te)
    (hi : P[i]? ≠ some true := by decide) (hvs : ∀ v ∈ own.map (·.2), P[v]? ≠ some true := by decide) (hs : ∀ z, foldedSetIterable (.Name x p) X.env z = pure z := by intro _; rfl) : QO X C (.ListComp elt [⟨tg, .Name x p, ifs, 0⟩] scope pos) (dLcB P i gd tt te (own.map (·.2))) :=
  QO.of (pe_lc hc hN (pi_list hv) ok hg (fun s H Ca cl fp => pts' (ht s H Ca cl fp)) (fun s H Ca cl fp => pe' (he s H Ca cl fp)) hs) fun _ _ _ h => lcB_low hP hi tgk hvs h
end
theorem withK {K : PySem.W.Frag} {h : Heap} {P : PySem.W.Frag → Prop} (_ : K.In h) (p : P K) : P K := p
end Dv

set_option Elab.async false
set_option linter.all false
set_option maxRecDepth 100000
set_option autoImplicit false
/-! ### raising a class that has an own __init__ -/
namespace Dv
open PySem PySem.Spec L2
/-- the class whose __init__ the own ones call -/
structure BaseI (K : PySem.W.Frag) (mg : Str → Option Value) : Prop where
  ex : ∃ C0, mg "DelayError" = some (.ref C0) ∧ PySem.W.specialIn K (.ref C0) "__getattribute__" = some (some (.builtin "type.__getattribute__")) ∧ PySem.W.readsIn K C0 (.type "type") = true ∧ PySem.W.findCls K (.ref C0) (.type "type") "__init__" = some (.val (.builtin "ValueError.__init__"))
theorem pe_baseI {X : Cx} {e : Expr} {es : List Expr} {ta : TA} {p1 p2 pos : Pos} {pl : Sem Bool} (hB : BaseI X.K X.mg) (ha : PA X (e :: es) ta) (hg : Gl X "DelayError" := by rfl)
    (hc : eval (.Call (.Attribute (.Name "DelayError" p1) "__init__" p2) (e :: es) [] pos) X.env = (do
      let ov ← eval (.Name "DelayError" p1) X.env
      standAt p2.atName
      let (f, first) ← holding [ov] (getMethod ov "__init__" pl)
      callWith pos f first (backTo pos (starEach (e :: es) X.env)) (backToKw pos (keywordEach [] X.env))) := by rfl)
    (he : starEach (e :: es) X.env = (false, eval e X.env) :: starEach es X.env := by rfl) (hpl : (backTo pos (starEach es X.env)).any (·.1) = false := by rfl) :
    PE X (.Call (.Attribute (.Name "DelayError" p1) "__init__" p2) (e :: es) [] pos) (tVeI X.K ta) := by
  obtain ⟨C0, hm, hs, hr, hf⟩ := hB.ex
  refine ⟨fun pins s σ H Q I h => ?_⟩
  refine PySem.W.methodCall_KW (ld_glob I hg hm ?_ (by decide)) hc
  refine PySem.W.method_cls I.kIn hs ?_
  refine PySem.W.cls_value I.kIn hr hf (by decide +kernel) ?_
  show wpAny _ _ (callWith pos (Value.builtin "ValueError.__init__") [] (backTo pos (starEach (e :: es) X.env)) []) _ _ _
  refine PyProof.Rows.callWith_method1 (thn (ha.run pos pins _ σ H _ (I.tok _) h) fun us s1 ⟨vs, H1, I1, r1, a, C, ws, ev, hl, T, ea, q⟩ => ?_) he hpl
  subst ev
  cases r1 with
  | @cons _ u0 _ ur ra rw' =>
    obtain rfl : u0 = Value.ref a := ra
    have hlen : ur.length ≤ sizeLine := by
      rw [← Paired.length rw', sizeLine_eq]
      omega
    exact oinit_ok T I1 ea hlen fun s' J => ⟨.non, H1, J, rfl, q⟩
/-- .. with one field -/
def spI1 (K : PySem.W.Frag) (D : Addr) (f : Str) : Sp := fun vs H Q _ => ∃ a y, vs = [.ref a, y] ∧ H a = some (exo a D none) ∧ OexC K D ∧ PySem.W.findIn K (.ref D) f = some none ∧ ∀ dx, H dx = none → dx ≠ a → Q .non (upd (upd H dx (exd dx [(f, y)])) a (exo a D (some dx)))
def spI2 (K : PySem.W.Frag) (D : Addr) (f g : Str) : Sp := fun vs H Q _ => ∃ a y z, vs = [.ref a, y, z] ∧ H a = some (exo a D none) ∧ OexC K D ∧ PySem.W.findIn K (.ref D) f = some none ∧ PySem.W.findIn K (.ref D) g = some none ∧
  ∀ dx, H dx = none → dx ≠ a → Q .non (upd (upd (upd H dx (exd dx [(f, y)])) a (exo a D (some dx))) dx (exd dx [(g, z), (f, y)]))
abbrev cxI (Pg : Program) (w : World) (K : PySem.W.Frag) (mg : Str → Option Value) (base : Heap) (N : List Str) (qual : Str) (sc : Scope) (f : Addr) (cdv : Value) (A : Around) (outer : List Env) (s : Shared) (H : Hp) (E : XK) : Cx := (cxOf CX0 Pg w K mg base N qual sc f cdv A outer s H E).nox
section
variable {Pg : Program} {w : World} {K : PySem.W.Frag} {mg : Str → Option Value} {base : Heap} {qual m f g : Str} {st : Stmt} {fI D : Addr} {fd : FuncData} {j : Nat} {k : Nat} {p1 p2 p3 p4 p5 p6 p7 p8 p9 p10 p11 p12 p13 p14 : Pos}
theorem ini1 (F : Fun K "__init__" qual st fI fd) (Sc : FnScope ["self", f] ["self", f] (defScope st))
    (hb : ∀ (cdv : Value) (A : Around) (outer : List Env) (s : Shared) (H : Hp) (E : XK), PSs (cxI Pg w K mg base ["self", f] qual (defScope st) fI cdv A outer s H E) (defBody st) (tSeq (tDrop (tVeI K (tCons (tVar 0) (tCons (tC (.str m)) tNil)))) (tOst K f (tVar 0) (tVar 1)))) : FnOk Pg w K mg base CX0 (k + 1) fI fd ["self", f] (spI1 K D f) := by
  refine F.ok Sc (fun vs H Q E h => ?_) (fun cdv A outer s H vs Q E hr h => ?_)
  · obtain ⟨a, y, rfl, _⟩ := h; rfl
  · obtain ⟨a, y, rfl, ha, T, hf, q⟩ := h
    refine ⟨_, hb cdv A outer s H E, ?_⟩
    refine ⟨.ref a, rfl, ⟨a, D, [.str m], rfl, by show 1 ≤ 1000; decide, T, ha, ?_⟩⟩
    refine ⟨y, rfl, .ref a, rfl, a, D, rfl, T, hf, .inl ⟨ha, fun dx hn hne => q dx hn hne⟩⟩
theorem ini2 (F : Fun K "__init__" qual st fI fd) (Sc : FnScope ["self", f, g] ["self", f, g] (defScope st))
    (hb : ∀ (cdv : Value) (A : Around) (outer : List Env) (s : Shared) (H : Hp) (E : XK), PSs (cxI Pg w K mg base ["self", f, g] qual (defScope st) fI cdv A outer s H E) (defBody st) (tSeq (tDrop (tVeI K (tCons (tVar 0) (tCons (tC (.str m)) tNil)))) (tSeq (tOst K f (tVar 0) (tVar 1)) (tOst K g (tVar 0) (tVar 2))))) : FnOk Pg w K mg base CX0 (k + 1) fI fd ["self", f, g] (spI2 K D f g) := by
  refine F.ok Sc (fun vs H Q E h => ?_) (fun cdv A outer s H vs Q E hr h => ?_)
  · obtain ⟨a, y, z, rfl, _⟩ := h; rfl
  · obtain ⟨a, y, z, rfl, ha, T, hf, hg, q⟩ := h
    refine ⟨_, hb cdv A outer s H E, ?_⟩
    refine ⟨.ref a, rfl, ⟨a, D, [.str m], rfl, by show 1 ≤ 1000; decide, T, ha, ?_⟩⟩
    refine ⟨y, rfl, .ref a, rfl, a, D, rfl, T, hf, .inl ⟨ha, fun dx hn hne => ?_⟩⟩
    refine ⟨z, rfl, .ref a, rfl, a, D, rfl, T, hg, .inr ⟨dx, [(f, y)], upd_same, ?_, by simp, q dx hn hne⟩⟩
    rw [upd_ne hne, upd_same]
end
/-- a class with an own __init__ of one field -/
structure Ini1 (Pg : Program) (w : World) (K : PySem.W.Frag) (mg : Str → Option Value) (base : Heap) (n f : Str) : Prop where
  ex : ∃ D fI fd, mg n = some (.ref D) ∧ ClsN K n D ∧ OexC K D ∧ PySem.W.findIn K (.ref D) f = some none ∧ PySem.W.findIn K (.ref D) "__init__" = some (some (.ref fI)) ∧ PySem.W.typeIn K (.ref fI) = some (.type "function") ∧ Binds K fd ["self", f] [] ∧ ∀ k, FnOk Pg w K mg base CX0 (k + 1) fI fd ["self", f] (spI1 K D f)
structure Ini2 (Pg : Program) (w : World) (K : PySem.W.Frag) (mg : Str → Option Value) (base : Heap) (n f g : Str) : Prop where
  ex : ∃ D fI fd, mg n = some (.ref D) ∧ ClsN K n D ∧ OexC K D ∧ PySem.W.findIn K (.ref D) f = some none ∧ PySem.W.findIn K (.ref D) g = some none ∧ PySem.W.findIn K (.ref D) "__init__" = some (some (.ref fI)) ∧ PySem.W.typeIn K (.ref fI) = some (.type "function") ∧ Binds K fd ["self", f, g] [] ∧ ∀ k, FnOk Pg w K mg base CX0 (k + 1) fI fd ["self", f, g] (spI2 K D f g)
def dRaise1 (Ex : XEnds) (P : List Bool) (n f : Str) (t : DE) : DS := fun _ ρ => t ρ fun o ρ1 => share P ρ1 o fun d ρ2 => Ex n [(.tuple [.str f], d)] ρ2
def dRaise2 (Ex : XEnds) (P : List Bool) (n f g : Str) (t u : DE) : DS := fun _ ρ => t ρ fun o ρ1 => u ρ1 fun o2 ρ2 => share P ρ2 o fun d ρ3 => share P ρ3 o2 fun e ρ4 => Ex n [(.tuple [.str g], e), (.tuple [.str f], d)] ρ4
section
variable {X : Cx} {C : FC} {P : List Bool} {n f g : Str} {a b : Expr} {ta tb : DE} {p pos pos' : Pos} {Ex : XEnds} {k : Nat}
theorem upd3 {H1 : Hp} {a dx : Addr} {u u' : HO} {o o' : HO} (ha : H1 a = none) (hd : dx ≠ a) : upd (L2.del (upd (upd (upd H1 a u) dx o) a u') a) dx o' = upd H1 dx o' := by
  funext b
  by_cases h1 : b = dx
  · subst h1; rw [upd_same, upd_same]
  · rw [upd_ne h1, upd_ne h1]
    by_cases h2 : b = a
    · subst h2; rw [L2.del_same, ha]
    · rw [L2.del_ne h2, upd_ne h2, upd_ne h1, upd_ne h2]
theorem s_raise1 (hP : C.Tags P) (hc : X.calm = true) (tk : Takes X (wX X.K C Ex)) (h : Ini1 X.prog X.w X.K X.mg X.base n f) (hr : RG k X.A) (hk : 2 ≤ k) (ha : QE X C a ta) (hg : Gl X n := by rfl) (hdb : (n == ("__debug__" : Str)) = false := by decide)
    (he : starEach [a] X.env = (false, eval a X.env) :: starEach [] X.env := by rfl) (hpl : (backTo pos (starEach [] X.env)).any (·.1) = false := by rfl) :
    QS X C (.Raise (some (.Call (.Name n p) [a] [] pos)) none pos') (dRaise1 Ex P n f ta) := by
  obtain ⟨D, fI, fd, hm, hn, T, hf, iC, tI, hb, F⟩ := h.ex
  refine QS.of (ps_raise hc tk (pmk_oex (k := k - 1) T iC tI ((F (k - 2)).mono (by omega)) (hr.r.mono (by omega)) hb .nil pass0 hg hm (pa_cons ha.pe pa_nil he) hdb he hpl)) fun D' σ H ⟨F0, ρ, E, S, hx, ok⟩ => ?_
  refine ⟨F0, ρ, _, S, hx, fun o ρ1 F1 H1 v hq S1 s1 d1 => ?_⟩
  obtain ⟨d, ρ2, F2, w, S2, s2, r2⟩ := S1.share hP d1 hq
  refine ⟨by show 1 ≤ 1000; decide, fun a' na => ?_⟩
  refine ⟨a', v, rfl, upd_same, T, hf, fun dx hnx hne => ?_⟩
  have hnd : H1 dx = none := by rw [upd_ne hne] at hnx; exact hnx
  refine ⟨rfl, dx, [(f, v)], upd_same, by rw [upd_ne hne, upd_same], hnd, ?_⟩
  rw [upd3 na hne]
  have g := Gr.new (o := .xd [(f, v)]) S2.sub hnd
  exact ⟨n, D, [(f, v)], [(.tuple [.str f], d)], _, ρ2, rfl, hn, .inl upd_same, .cons (r2.mono g.f) .nil, S2.grow g, w⟩
theorem s_raise2 (hP : C.Tags P) (hc : X.calm = true) (tk : Takes X (wX X.K C Ex)) (h : Ini2 X.prog X.w X.K X.mg X.base n f g) (hr : RG k X.A) (hk : 2 ≤ k) (ha : QE X C a ta) (hb2 : QE X C b tb) (hg : Gl X n := by rfl) (hdb : (n == ("__debug__" : Str)) = false := by decide)
    (he : starEach [a, b] X.env = (false, eval a X.env) :: starEach [b] X.env := by rfl) (he2 : starEach [b] X.env = (false, eval b X.env) :: starEach [] X.env := by rfl) (hpl : (backTo pos (starEach [b] X.env)).any (·.1) = false := by rfl) :
    QS X C (.Raise (some (.Call (.Name n p) [a, b] [] pos)) none pos') (dRaise2 Ex P n f g ta tb) := by
  obtain ⟨D, fI, fd, hm, hn, T, hf, hgg, iC, tI, hb, F⟩ := h.ex
  refine QS.of (ps_raise hc tk (pmk_oex (k := k - 1) T iC tI ((F (k - 2)).mono (by omega)) (hr.r.mono (by omega)) hb .nil pass0 hg hm (pa_cons ha.pe (pa_cons hb2.pe pa_nil he2) he) hdb he hpl)) fun D' σ H ⟨F0, ρ, E, S, hx, ok⟩ => ?_
  refine ⟨F0, ρ, _, S, hx, fun o ρ1 F1 H1 v hq S1 s1 d1 => ?_⟩
  refine ⟨F1, ρ1, _, S1, hq, fun o2 ρ2 F2 H2 v2 hq2 S2 s2 d2 => ?_⟩
  obtain ⟨d, ρ3, F3, w, S3, s3, r3⟩ := S2.share hP (d1.mono s2) hq2
  obtain ⟨e, ρ4, F4, w4, S4, s4, r4⟩ := S3.share hP (d2.mono s3) w
  refine ⟨by show 2 ≤ 1000; decide, fun a' na => ?_⟩
  refine ⟨a', v, v2, rfl, upd_same, T, hf, hgg, fun dx hnx hne => ?_⟩
  have hnd : H2 dx = none := by rw [upd_ne hne] at hnx; exact hnx
  refine ⟨rfl, dx, [(g, v2), (f, v)], by rw [upd_ne (Ne.symm hne), upd_same], upd_same, hnd, ?_⟩
  have eu : upd (L2.del (upd (upd (upd (upd H2 a' (exo a' D none)) dx (exd dx [(f, v)])) a' (exo a' D (some dx))) dx (exd dx [(g, v2), (f, v)])) a') dx (.xd [(g, v2), (f, v)]) = upd H2 dx (.xd [(g, v2), (f, v)]) := by
    funext b
    by_cases h1 : b = dx
    · subst h1; rw [upd_same, upd_same]
    · rw [upd_ne h1, upd_ne h1]
      by_cases h2 : b = a'
      · subst h2; rw [L2.del_same, na]
      · rw [L2.del_ne h2, upd_ne h1, upd_ne h2, upd_ne h1, upd_ne h2]
  rw [eu]
  have g' := Gr.new (o := .xd [(g, v2), (f, v)]) S4.sub hnd
  exact ⟨n, D, [(g, v2), (f, v)], [(.tuple [.str g], e), (.tuple [.str f], d)], _, ρ4, rfl, hn, .inl upd_same, .cons (r4.mono g'.f) (.cons ((r3.mono s4).mono g'.f) .nil), S4.grow g', w4⟩
end
/-! ### the end of a claim -/
theorem baseI_mk {K : PySem.W.Frag} {h : Heap} {mg : Str → Option Value} {C0 : Addr} (X : K.In h) (G : h.Ns mainGlobals mg) (a : PySem.W.nsIn K mainGlobals "DelayError" = some (some (.ref C0))) (b : PySem.W.specialIn K (.ref C0) "__getattribute__" = some (some (.builtin "type.__getattribute__")))
    (c : PySem.W.readsIn K C0 (.type "type") = true) (d : PySem.W.findCls K (.ref C0) (.type "type") "__init__" = some (.val (.builtin "ValueError.__init__"))) : BaseI K mg := ⟨C0, PySem.W.mg_of X G a, b, c, d⟩
theorem bind1 {K : PySem.W.Frag} {qual f : Str} {st : Stmt} {fI : Addr} {fd : FuncData} (F : Fun K "__init__" qual st fI fd) {ps : List Str}
    (h : ∀ (kV doc pm : Value) (an : Option Addr) (cdv ct : Value) (us : List Value), us.length = ps.length → bindArgs (PySem.W.fnOf "__init__" qual (defArgs st) (defBody st) (defScope st) .none kV doc pm an cdv ct) ⟨us, []⟩ = pure (ps.zip us)) : Binds K fd ps [] := F.binds h
theorem clsN_mk {K : PySem.W.Frag} {n : Str} {D : Addr} (a : PySem.W.nsIn K mainGlobals n = some (some (.ref D)))
    (e1 : PySem.W.findIn K (.ref D) "__getattribute__" = some (some (.builtin "BaseException.__getattribute__"))) (e2 : PySem.W.findIn K (.ref D) "__getattr__" = some none) (e3 : PySem.W.subIn K (.ref D) (.type "BaseException") = some true)
    (e4 : PySem.W.hasDictIn K D = true) (e5 : PySem.W.findIn K (.ref D) "__class__" = some (some (.builtin "object.__class__"))) (e6 : PySem.W.specialIn K (.builtin "object.__class__") "__get__" = some (some (.builtin "getset_descriptor.__get__")))
    (e7 : PySem.W.takesIn K (.builtin "object.__class__") = some true) (e8 : PySem.W.mroIn K D (.type "object") = some true)
    (t1 : PySem.W.kitOne K (.ref D) (.type "str") = some false) (t2 : PySem.W.kitOne K (.ref D) (.type "int") = some false) (t3 : PySem.W.kitOne K (.ref D) (.type "bool") = some false) (t4 : PySem.W.kitOne K (.ref D) (.type "list") = some false) (t5 : PySem.W.kitOne K (.ref D) (.type "tuple") = some false)
    (s : SubL K D n excNames) (ve : PySem.W.kitOne K (.ref D) (.type "ValueError") = some true) : ClsN K n D :=
  ⟨a, ⟨e1, e2, e3, e4, e5, e6, e7, e8⟩, fun T hT => by
    simp only [List.mem_cons, List.not_mem_nil, or_false] at hT
    rcases hT with rfl | rfl | rfl | rfl | rfl
    · exact t1
    · exact t2
    · exact t3
    · exact t4
    · exact t5, s, ve⟩
section
variable {K : PySem.W.Frag} {h : Heap} {mg : Str → Option Value} {n qual f g : Str} {st : Stmt} {D fI : Addr} {ps : List Str}
theorem ini1_mk (X : K.In h) (G : h.Ns mainGlobals mg) (c0 : ClsN K n D) {nm q : Str} {N bs bm sn sub ab col dd k0 k1 k2 k3 k5} (o1 : K.lookup D = some (excClassObj nm q D N bs bm true sn sub ab col dd k0 k1 k2 k3 k5 "ValueError.__new__")) (o2 : PySem.HandSPX.refsVE bm = true)
    (o3 : PySem.W.findIn K (.ref D) "__setattr__" = some (some (.builtin "object.__setattr__"))) (o4 : PySem.W.subIn K (.ref D) (.type "BaseException") = some true) (o5 : PySem.W.typeIn K (.ref D) = some (.type "type")) (o6 : PySem.W.keepIn K (.ref D) = true)
    (o7 : PySem.W.findIn K (.ref D) f = some none) (o8 : PySem.W.findIn K (.ref D) "__init__" = some (some (.ref fI))) (o9 : PySem.W.typeIn K (.ref fI) = some (.type "function"))
    {oc : Value} {od an : Option Addr} {osl : Array (Option Value)} {kV doc pm cdv ct : Value}
    (l : K.lookup fI = some ⟨oc, od, .func (PySem.W.fnOf "__init__" qual (defArgs st) (defBody st) (defScope st) .none kV doc pm an cdv ct), osl⟩) (c : PySem.W.codeIn K cdv qual = true) (k : PySem.W.keepIn K (.ref fI) = true)
    (hb : ∀ (kV doc pm : Value) (an : Option Addr) (cdv ct : Value) (us : List Value), us.length = 2 → bindArgs (PySem.W.fnOf "__init__" qual (defArgs st) (defBody st) (defScope st) .none kV doc pm an cdv ct) ⟨us, []⟩ = pure (([("self" : Str), f] : List Str).zip us))
    (go : ∀ (Pg : Program) (w : World) (base : Heap) (fd : FuncData), Fun K "__init__" qual st fI fd → ∀ k, FnOk Pg w K mg base CX0 (k + 1) fI fd ["self", f] (spI1 K D f)) : ∀ (Pg : Program) (w : World) (base : Heap), Ini1 Pg w K mg base n f := fun Pg w base =>
  ⟨D, fI, _, PySem.W.mg_of X G c0.ns, c0, ⟨⟨_, _, _, _, _, _, _, _, _, _, _, _, _, _, _, o1, o2⟩, o3, o4, o5, o6⟩, o7, o8, o9, (fun_mk l c k).binds hb, fun j => go Pg w base _ (fun_mk l c k) j⟩
theorem ini2_mk (X : K.In h) (G : h.Ns mainGlobals mg) (c0 : ClsN K n D) {nm q : Str} {N bs bm sn sub ab col dd k0 k1 k2 k3 k5} (o1 : K.lookup D = some (excClassObj nm q D N bs bm true sn sub ab col dd k0 k1 k2 k3 k5 "ValueError.__new__")) (o2 : PySem.HandSPX.refsVE bm = true)
    (o3 : PySem.W.findIn K (.ref D) "__setattr__" = some (some (.builtin "object.__setattr__"))) (o4 : PySem.W.subIn K (.ref D) (.type "BaseException") = some true) (o5 : PySem.W.typeIn K (.ref D) = some (.type "type")) (o6 : PySem.W.keepIn K (.ref D) = true)
    (o7 : PySem.W.findIn K (.ref D) f = some none) (o7b : PySem.W.findIn K (.ref D) g = some none) (o8 : PySem.W.findIn K (.ref D) "__init__" = some (some (.ref fI))) (o9 : PySem.W.typeIn K (.ref fI) = some (.type "function"))
    {oc : Value} {od an : Option Addr} {osl : Array (Option Value)} {kV doc pm cdv ct : Value}
    (l : K.lookup fI = some ⟨oc, od, .func (PySem.W.fnOf "__init__" qual (defArgs st) (defBody st) (defScope st) .none kV doc pm an cdv ct), osl⟩) (c : PySem.W.codeIn K cdv qual = true) (k : PySem.W.keepIn K (.ref fI) = true)
    (hb : ∀ (kV doc pm : Value) (an : Option Addr) (cdv ct : Value) (us : List Value), us.length = 3 → bindArgs (PySem.W.fnOf "__init__" qual (defArgs st) (defBody st) (defScope st) .none kV doc pm an cdv ct) ⟨us, []⟩ = pure (([("self" : Str), f, g] : List Str).zip us))
    (go : ∀ (Pg : Program) (w : World) (base : Heap) (fd : FuncData), Fun K "__init__" qual st fI fd → ∀ k, FnOk Pg w K mg base CX0 (k + 1) fI fd ["self", f, g] (spI2 K D f g)) : ∀ (Pg : Program) (w : World) (base : Heap), Ini2 Pg w K mg base n f g := fun Pg w base =>
  ⟨D, fI, _, PySem.W.mg_of X G c0.ns, c0, ⟨⟨_, _, _, _, _, _, _, _, _, _, _, _, _, _, _, o1, o2⟩, o3, o4, o5, o6⟩, o7, o7b, o8, o9, (fun_mk l c k).binds hb, fun j => go Pg w base _ (fun_mk l c k) j⟩
end
end Dv

set_option Elab.async false
set_option linter.all false
set_option maxRecDepth 100000
set_option autoImplicit false
/-! ### a, b = x, y with local names -/
namespace Dv
open PySem PySem.Spec L2
def lO' (K : PySem.W.Frag) (P : List Bool) (t : DO) : TE := fun σ H Q => ∃ C : FC, C.Tags P ∧ lO K C t σ H Q
theorem peO' {X : Cx} {P : List Bool} {e : Expr} {t : DO} (h : ∀ C : FC, C.Tags P → QO X C e t) : PE X e (lO' X.K P t) := ⟨fun pins s σ H Q I ⟨C, hP, hq⟩ => (h C hP).pe.run pins s σ H Q I hq⟩
/-- both as data -/
def dPar2 (P : List Bool) (i j : Nat) (ta tb : DE) : DS := fun E ρ => ta ρ fun o ρ1 => tb ρ1 fun o2 ρ2 => share P ρ2 o fun d ρ3 => share P ρ3 o2 fun e ρ4 => E.nx ((ρ4.set i (some (.frz d))).set j (some (.frz e)))
/-- the first as a datum, two new owned objects -/
def dPar3 (P : List Bool) (i j l : Nat) (ta : DE) (tb tc : DO) : DS := fun E ρ => ta ρ fun o ρ1 => share P ρ1 o fun d ρ2 => tb ρ2 fun e ρ3 => tc ρ3 fun f ρ4 => E.nx (((ρ4.set i (some (.frz d))).set j (some (.own e))).set l (some (.own f)))
section
variable {X : Cx} {C : FC} {P : List Bool} {i j l : Nat} {x y z : Str} {a b c : Expr} {ta tb : DE} {ub uc : DO} {px py pz pt pos : Pos} {kt k2 pt2}
theorem s_par2 (hP : C.Tags P) (hc : X.calm = true) (hN : X.N.Nodup) (ha : QE X C a ta) (hb : QE X C b tb)
    (hw : swappedStores [.Tuple [.Name x px, .Name y py] kt pt] (.Tuple [a, b] k2 pt2) X.env = pure (some [x, y]) := by rfl) (hij : i ≠ j := by decide) (hi : X.N[i]? = some x := by rfl) (hj : X.N[j]? = some y := by rfl)
    (hx : X.env.scope.names.lookup x = some .local := by rfl) (hy : X.env.scope.names.lookup y = some .local := by rfl) (pi : P[i]? ≠ some true := by decide) (pj : P[j]? ≠ some true := by decide)
    (hs : swapsWithSole [.Tuple [.Name x px, .Name y py] kt pt] (.Tuple [a, b] k2 pt2) pos.line X.env = pure false := by rfl) (h1 : starEach [a, b] X.env = (false, eval a X.env) :: starEach [b] X.env := by rfl) (h2 : starEach [b] X.env = (false, eval b X.env) :: starEach [] X.env := by rfl) :
    QS X C (.Assign [.Tuple [.Name x px, .Name y py] kt pt] (.Tuple [a, b] k2 pt2) pos) (dPar2 P i j ta tb) :=
  QS.of (ps_par hc hN hi hj hij hx hy (pa_cons ha.pe (pa_cons hb.pe pa_nil h2) h1) hw hs) fun D σ H ⟨F, ρ, E, S, ht, ok⟩ => by
    refine ⟨F, ρ, _, S, ht, fun o ρ1 F1 H1 v hq S1 s1 d1 => ?_⟩
    refine ⟨F1, ρ1, _, S1, hq, fun o2 ρ2 F2 H2 v2 hq2 S2 s2 d2 => ?_⟩
    obtain ⟨d, ρ3, F3, w, S3, s3, r3⟩ := S2.share hP (d1.mono s2) hq2
    obtain ⟨e, ρ4, F4, w4, S4, s4, r4⟩ := S3.share hP (d2.mono s3) w
    exact ⟨v, v2, rfl, ok.nx _ _ _ _ w4 (setF' (setF' S4 (noP hP pi) (r3.mono s4)) (noP hP pj) r4) (((s1.trans s2).trans s3).trans s4)⟩
theorem Fresh.grow {K : PySem.W.Frag} {C : FC} {F H F' H' : Hp} {ρ ρ' : DEnv} {σ : L2.St} {a : Addr} {d : PyData} {o : HO} (fr : Fresh K C F H ρ σ a d) (hH : H a = some o) (s : Same F F') (hH' : H' a = some o) (hF' : F' a = none) (hn : ∀ (j : Nat) (e : PyData), ρ'[j]? = some (some (.own e)) → σ[j]? ≠ some (some (.ref a))) (hf : ¬ InFoot H' ρ' σ a) : Fresh K C F' H' ρ' σ a d :=
  ⟨hF', fr.o.mono s fun u hu => by rw [hH] at hu; cases hu; exact hH', fr.h0, fr.pn, hn, hf⟩
theorem s_par3 (hP : C.Tags P) (hc : X.calm = true) (hN : X.N.Nodup) (ha : QE X C a ta) (hb : ∀ C' : FC, C'.Tags P → QO X C' b ub) (hcc : ∀ C' : FC, C'.Tags P → QO X C' c uc)
    (hw : swappedStores [.Tuple [.Name x px, .Name y py, .Name z pz] kt pt] (.Tuple [a, b, c] k2 pt2) X.env = pure (some [x, y, z]) := by rfl) (hij : i ≠ j := by decide) (hil : i ≠ l := by decide) (hjl : j ≠ l := by decide) (hi : X.N[i]? = some x := by rfl) (hj : X.N[j]? = some y := by rfl) (hl : X.N[l]? = some z := by rfl)
    (hx : X.env.scope.names.lookup x = some .local := by rfl) (hy : X.env.scope.names.lookup y = some .local := by rfl) (hz : X.env.scope.names.lookup z = some .local := by rfl) (pi : P[i]? ≠ some true := by decide) (pj : P[j]? ≠ some true := by decide) (pl : P[l]? ≠ some true := by decide)
    (hs : swapsWithSole [.Tuple [.Name x px, .Name y py, .Name z pz] kt pt] (.Tuple [a, b, c] k2 pt2) pos.line X.env = pure false := by rfl) (h1 : starEach [a, b, c] X.env = (false, eval a X.env) :: starEach [b, c] X.env := by rfl) (h2 : starEach [b, c] X.env = (false, eval b X.env) :: starEach [c] X.env := by rfl) (h3 : starEach [c] X.env = (false, eval c X.env) :: starEach [] X.env := by rfl) :
    QS X C (.Assign [.Tuple [.Name x px, .Name y py, .Name z pz] kt pt] (.Tuple [a, b, c] k2 pt2) pos) (dPar3 P i j l ta ub uc) :=
  QS.of (ps_par3 hc hN hi hj hl hij hil hjl hx hy hz (pa_cons ha.pe (pa_cons (hb C hP).pe (pa_cons (peO' hcc) pa_nil h3) h2) h1) hw hs) fun D σ H ⟨F, ρ, E, S, ht, ok⟩ => by
    refine ⟨F, ρ, _, S, ht, fun o ρ1 F1 H1 v hq S1 s1 d1 => ?_⟩
    obtain ⟨d, ρ2, F2, w, S2, s2, r2⟩ := S1.share hP d1 hq
    refine ⟨F2, ρ2, _, S2, w, fun e ρ3 F3 H3 a3 hq3 S3 s3 fr3 => ?_⟩
    obtain ⟨u, hu⟩ := fr3.o.there
    have S3' := S3.pinned hu fr3.f fr3.ne fr3.nf
    refine ⟨C.pin a3 u, FC.pin_tags hP, F3, ρ3, _, S3', hq3, fun f ρ4 F4 H4 a4 hq4 S4 s4 fr4 => ?_⟩
    obtain ⟨S4', hH4, hF4, hn4, nf4⟩ := Sim.unpinned fr3.pn S4
    have nb : a4 ≠ a3 := fun z => by
      have := fr4.pn
      rw [z, show (C.pin a3 u).pn a3 = some u from upd_same] at this
      cases this
    have pn4 : C.pn a4 = none := by
      have := fr4.pn
      rw [show (C.pin a3 u).pn a4 = C.pn a4 from upd_ne nb] at this
      exact this
    have fr3' : Fresh X.K C F4 H4 ρ4 σ a3 e := fr3.grow hu s4 hH4 hF4 hn4 nf4
    have Sa := setF' (i := i) S4' (noP hP pi) ((r2.mono s3).mono s4)
    have get : ∀ {i : Nat} {ρ : DEnv} {σ : L2.St} {b : Addr} {d : PyData}, (∀ (j : Nat) (e : PyData), ρ[j]? = some (some (.own e)) → σ[j]? ≠ some (some (.ref b))) → ∀ (v : V), (∀ (j : Nat) (e : PyData), (ρ.set i (some (.frz d)))[j]? = some (some (.own e)) → (σ.set i (some v))[j]? ≠ some (some (.ref b))) := by
      intro i ρ σ b d h v j x hj hs
      by_cases ej : j = i
      · subst ej
        by_cases hl : j < ρ.length
        · rw [List.getElem?_set_self hl] at hj; cases hj
        · rw [List.getElem?_eq_none (by simp; omega)] at hj; cases hj
      · rw [List.getElem?_set_ne (Ne.symm ej)] at hj hs
        exact h j x hj hs
    have fra : Fresh X.K C F4 H4 (ρ4.set i (some (.frz d))) (σ.set i (some v)) a3 e := ⟨fr3'.f, fr3'.o, fr3'.h0, fr3'.pn, get fr3'.ne v, fun z => fr3'.nf (z.mono (own2_set fun d q => by cases q))⟩
    have Sb := setO' (i := j) Sa (noP hP pj) fra
    have fr4a : ∀ (m : Nat) (x : PyData), ((ρ4.set i (some (.frz d))).set j (some (.own e)))[m]? = some (some (.own x)) → ((σ.set i (some v)).set j (some (.ref a3)))[m]? ≠ some (some (.ref a4)) := by
      intro m x hm hs
      by_cases em : m = j
      · subst em
        by_cases hl : m < (σ.set i (some v)).length
        · rw [List.getElem?_set_self hl] at hs; cases hs; exact nb rfl
        · rw [List.getElem?_eq_none (by simp at hl ⊢; omega)] at hs; cases hs
      · rw [List.getElem?_set_ne (Ne.symm em)] at hm hs
        exact get fr4.ne v m x hm hs
    have frb : Fresh X.K C F4 H4 ((ρ4.set i (some (.frz d))).set j (some (.own e))) ((σ.set i (some v)).set j (some (.ref a3))) a4 f := ⟨fr4.f, fr4.o, fr4.h0, pn4, fr4a, fun z => fr4.nf ((z.mono (own2_set fun d q => by cases q)).mono (own2_set fun d q => by cases q))⟩
    exact ⟨v, .ref a3, .ref a4, rfl, ok.nx _ _ _ _ hq4 (setO' Sb (noP hP pl) frb) (((s1.trans s2).trans s3).trans s4)⟩
end
end Dv

set_option Elab.async false
set_option linter.all false
set_option maxRecDepth 100000
set_option autoImplicit false
/-! ### slots that own an object of owned parts -/
namespace Dv
open PySem PySem.Spec L2
section
variable {K : PySem.W.Frag} {C : FC} {P : List Bool} {F H F' H' : Hp} {ρ ρ' : DEnv} {σ : L2.St}
open Classical in
/-- the objects of some addresses -/
noncomputable def partH (H : Hp) (as : List Addr) : Hp := fun b => if b ∈ as then H b else none
theorem partH_some {as : List Addr} {b : Addr} {o : HO} (h : partH H as b = some o) : b ∈ as ∧ H b = some o := by
  unfold partH at h
  by_cases e : b ∈ as
  · rw [if_pos e] at h; exact ⟨e, h⟩
  · rw [if_neg e] at h; cases h
theorem partH_in {as : List Addr} {b : Addr} (h : b ∈ as) : partH H as b = H b := by
  unfold partH; rw [if_pos h]
/-- with many pinned objects more -/
def FC.pins (C : FC) (f : Hp) : FC := { C with pn := fun b => match f b with
  | some o => some o
  | none => C.pn b }
theorem FC.pins_tags {f : Hp} (h : C.Tags P) : (C.pins f).Tags P := h
theorem pins_some {f : Hp} {b : Addr} {o : HO} (h : f b = some o) : (C.pins f).pn b = some o := by
  show (match f b with
    | some o => some o
    | none => C.pn b) = some o
  rw [h]
theorem pins_none {f : Hp} {b : Addr} (h : f b = none) : (C.pins f).pn b = C.pn b := by
  show (match f b with
    | some o => some o
    | none => C.pn b) = C.pn b
  rw [h]
theorem Sim.pinsed (S : Sim K C F H ρ σ) {f : Hp} (h : ∀ b o, f b = some o → H b = some o ∧ F b = none ∧ (∀ (j : Nat) (e : PyData), ρ[j]? = some (some (.own e)) → σ[j]? ≠ some (some (.ref b))) ∧ ¬ InFoot H ρ σ b) : Sim K (C.pins f) F H ρ σ :=
  ⟨S.len, S.sub, S.frz, S.own, S.ne, S.par, S.f0, S.h0, S.new, fun b u e => by
    cases q : f b with
    | some o =>
      rw [pins_some q] at e; cases e
      obtain ⟨h1, h2, h3, _⟩ := h b _ q
      exact ⟨h1, h2, h3⟩
    | none => rw [pins_none q] at e; exact S.pin b u e,
   S.dp.keep (Same.refl F) (fun j e h => ⟨h, rfl⟩) fun b hb ⟨g1, g2, g3, g4, g5⟩ => ⟨fun o e => e, ⟨g1, g2, g3, by
      cases q : f b with
      | some o => exact absurd hb (h b o q).2.2.2
      | none => rw [pins_none q]; exact g4, g5⟩⟩⟩
theorem Sim.unpins {f : Hp} (hD : ∀ b, f b ≠ none → C.pn b = none) (S : Sim K (C.pins f) F H ρ σ) : Sim K C F H ρ σ ∧ ∀ b o, f b = some o → H b = some o ∧ F b = none ∧ (∀ (j : Nat) (e : PyData), ρ[j]? = some (some (.own e)) → σ[j]? ≠ some (some (.ref b))) ∧ ¬ InFoot H ρ σ b := by
  have nf : ∀ b, f b ≠ none → ¬ InFoot H ρ σ b := fun b hb z => by
    have q : (C.pins f).pn b = none := (S.dp.loose z).2.2.2.1
    cases e : f b with
    | none => exact hb e
    | some o => rw [pins_some e] at q; cases q
  refine ⟨⟨S.len, S.sub, S.frz, S.own, S.ne, S.par, S.f0, S.h0, S.new, fun b u e => S.pin b u (by
    cases q : f b with
    | none => rw [pins_none q]; exact e
    | some o => rw [hD b (by rw [q]; intro z; cases z)] at e; cases e),
    S.dp.keep (Same.refl F) (fun j e h => ⟨h, rfl⟩) fun b hb ⟨g1, g2, g3, g4, g5⟩ => ⟨fun o e => e, ⟨g1, g2, g3, by
      cases q : f b with
      | none => rw [pins_none q] at g4; exact g4
      | some o => exact absurd hb (nf b (by rw [q]; intro z; cases z)), g5⟩⟩⟩, fun b o e => ?_⟩
  obtain ⟨p1, p2, p3⟩ := S.pin b o (pins_some e)
  exact ⟨p1, p2, p3, nf b (by rw [e]; intro z; cases z)⟩
/-- no slot with owned parts -/
def noD (ρ : DEnv) : Bool := ρ.all fun x => match x with
  | some (.own2 _) => false
  | _ => true
theorem noD_not {ρ : DEnv} (h : noD ρ = true) {j : Nat} {d : PyData} : ρ[j]? ≠ some (some (.own2 d)) := fun e => by
  have := List.all_eq_true.mp h _ (List.mem_of_getElem? e)
  cases this
theorem foot_noD {ρ : DEnv} (h : noD ρ = true) {b : Addr} : ¬ InFoot H ρ σ b := fun ⟨_, _, _, e, _⟩ => noD_not h e
theorem set_none {ρ : DEnv} {i j : Nat} {x : SV} (h : (ρ.set i none)[j]? = some (some x)) : j ≠ i ∧ ρ[j]? = some (some x) := by
  by_cases e : j = i
  · subst e
    by_cases hl : j < ρ.length
    · rw [List.getElem?_set_self hl] at h; cases h
    · rw [List.getElem?_eq_none (by simp; omega)] at h; cases h
  · rw [List.getElem?_set_ne (Ne.symm e)] at h
    exact ⟨e, h⟩
theorem own2_noP (S : Sim K C F H ρ σ) {i : Nat} {d : PyData} (h : ρ[i]? = some (some (.own2 d))) : ¬ C.isP i := fun ⟨a, z⟩ => by
  obtain ⟨e, h1, _⟩ := S.par i a z
  rw [h] at h1; cases h1
/-- a name is bound to an object of owned parts -/
theorem Sim.setD (S : Sim K C F H ρ σ) {i : Nat} {a : Addr} {bs : List Addr} {d : PyData} (hi : i < σ.length) (hp : ¬ C.isP i) (nd : (a :: bs).Nodup) (hl : ∀ b ∈ a :: bs, Loose C F H ρ σ b) (D : Deep K F H a bs d) (no : noD (ρ.set i none) = true) : Sim K C F H (ρ.set i (some (.own2 d))) (σ.set i (some (.ref a))) where
  len := by simp [S.len]
  sub := S.sub
  frz := fun j e h => by
    rw [get_set (S.len ▸ hi)] at h
    rw [get_set hi]
    split at h
    · cases h
    · rename_i q; rw [if_neg q]; exact S.frz j e h
  own := fun j e h => by
    rw [get_set (S.len ▸ hi)] at h
    rw [get_set hi]
    split at h
    · cases h
    · rename_i q; rw [if_neg q]; exact S.own j e h
  ne := fun j k a e e' h1 h2 h3 h4 => by
    rw [get_set (S.len ▸ hi)] at h1 h2
    split at h1
    · cases h1
    · rename_i q1
      split at h2
      · cases h2
      · rename_i q2
        rw [get_set hi, if_neg q1] at h3
        rw [get_set hi, if_neg q2] at h4
        exact S.ne j k a e e' h1 h2 h3 h4
  par := fun j a h => by
    have q : j ≠ i := fun z => hp ⟨a, z ▸ h⟩
    rw [get_set (S.len ▸ hi), get_set hi, if_neg q, if_neg q]
    exact S.par j a h
  f0 := S.f0
  h0 := S.h0
  new := S.new
  pin := fun b o e => by
    obtain ⟨h1, h2, h3⟩ := S.pin b o e
    refine ⟨h1, h2, fun j x h => ?_⟩
    rw [get_set (S.len ▸ hi)] at h
    split at h
    · cases h
    · rename_i q; rw [get_set hi, if_neg q]; exact h3 j x h
  dp := fun j e h => by
    have only : ∀ (j : Nat) (e : PyData), (ρ.set i (some (.own2 d)))[j]? = some (some (.own2 e)) → j = i := fun j e h => by
      by_cases q : j = i
      · exact q
      · rw [List.getElem?_set_ne (Ne.symm q)] at h
        exact absurd (by rw [List.getElem?_set_ne (Ne.symm q)]; exact h) (noD_not no (j := j) (d := e))
    have := only j e h
    subst this
    rw [get_set (S.len ▸ hi), if_pos rfl] at h
    cases h
    refine ⟨a, bs, by rw [get_set hi, if_pos rfl], nd, fun b hb => ?_, D, only⟩
    obtain ⟨h1, h2, h3, h4, h5⟩ := hl b hb
    refine ⟨h1, h2, h3, h4, fun m x h => ?_⟩
    rw [get_set (S.len ▸ hi)] at h
    split at h
    · cases h
    · rename_i q; rw [get_set hi, if_neg q]; exact h5 m x h
theorem Sim.undeep (S : Sim K C F H ρ σ) {i : Nat} {d : PyData} (e : ρ[i]? = some (some (.own2 d))) : ∃ (a : Addr) (bs : List Addr), σ[i]? = some (some (.ref a)) ∧ (a :: bs).Nodup ∧ (∀ b ∈ a :: bs, Loose C F H ρ σ b) ∧ Deep K F H a bs d ∧ Sim K (C.pins (partH H (a :: bs))) F H (ρ.set i none) σ := by
  obtain ⟨a, bs, h1, h2, h3, h4, h5⟩ := S.dp i d e
  refine ⟨a, bs, h1, h2, h3, h4, (S.drop (own2_noP S e)).pinsed fun b o hb => ?_⟩
  obtain ⟨m, hH⟩ := partH_some hb
  obtain ⟨g1, g2, g3, g4, g5⟩ := h3 b m
  refine ⟨hH, g2, fun j x hj => g5 j x (set_none hj).2, fun ⟨j, x, c, q1, _⟩ => ?_⟩
  obtain ⟨nj, q⟩ := set_none q1
  exact nj (h5 j x q)
theorem Sim.redeep {i : Nat} {a : Addr} {bs : List Addr} {d : PyData} {H1 : Hp} {F1 : Hp} {ρ1 : DEnv} (ha : σ[i]? = some (some (.ref a))) (hp : ¬ C.isP i) (nd : (a :: bs).Nodup) (hl : ∀ b ∈ a :: bs, Loose C F1 H1 ρ1 σ b) (f : Same F1 F) (D : Deep K F1 H1 a bs d)
    (S : Sim K (C.pins (partH H1 (a :: bs))) F H ρ σ) (no : noD (ρ.set i none) = true) : Sim K C F H (ρ.set i (some (.own2 d))) σ ∧ Sim K C F H (ρ.set i none) σ ∧ (∀ b ∈ a :: bs, H b = H1 b ∧ Loose C F H (ρ.set i none) σ b) ∧ Deep K F H a bs d := by
  obtain ⟨S0, hf⟩ := S.unpins fun b hb => by
    cases q : partH H1 (a :: bs) b with
    | none => exact absurd q hb
    | some o => exact (hl b (partH_some q).1).2.2.2.1
  have key : ∀ b ∈ a :: bs, H b = H1 b ∧ Loose C F H ρ σ b := fun b hb => by
    obtain ⟨g1, g2, g3, g4, g5⟩ := hl b hb
    cases q : H1 b with
    | none => exact absurd q g1
    | some o =>
      obtain ⟨k1, k2, k3, k4⟩ := hf b o (by rw [partH_in hb]; exact q)
      exact ⟨k1, ⟨fun z => (by rw [k1] at z; cases z), k2, g3, g4, k3⟩⟩
  have D' : Deep K F H a bs d := D.mono f fun b hb o e => by rw [(key b hb).1]; exact e
  have hi : i < σ.length := (List.getElem?_eq_some_iff.mp ha).1
  have eσ : σ.set i (some (.ref a)) = σ := by
    apply List.ext_getElem?
    intro j
    by_cases e : j = i
    · subst e; rw [List.getElem?_set_self hi, ha]
    · rw [List.getElem?_set_ne (Ne.symm e)]
  have S2 := S0.setD (i := i) hi hp nd (fun b hb => (key b hb).2) D' no
  rw [eσ] at S2
  refine ⟨S2, S0.drop hp, fun b hb => ⟨(key b hb).1, ?_⟩, D'⟩
  obtain ⟨h1, h2, h3, h4, h5⟩ := (key b hb).2
  exact ⟨h1, h2, h3, h4, fun j x hj => h5 j x (set_none hj).2⟩
/-! ### parts -/
def partI : PyData → PyData → Option (Nat × PyData)
  | .list ds, .int n => match ixN ds.length n with
    | some j => match ds[j]? with
      | some d => some (j, d)
      | none => none
    | none => none
  | .dict kvs, k => match keyD k with
    | some q => match kvs.findIdx? (fun p => decide (keyD p.1 = some q)) with
      | some j => match kvs[j]? with
        | some p => some (j, p.2)
        | none => none
      | none => none
    | none => none
  | _, _ => none
def partS : PyData → Nat → PyData → PyData
  | .list ds, j, x => .list (ds.set j x)
  | .dict kvs, j, x => match kvs[j]? with
    | some p => .dict (kvs.set j (p.1, x))
    | none => .dict kvs
  | d, _, _ => d
theorem OwnAll.get : ∀ {bs : List Addr} {ds : List PyData} {j : Nat} {d : PyData}, OwnAll K F H bs ds → ds[j]? = some d → ∃ b, bs[j]? = some b ∧ Own K F H b d
  | _, _, _, _, .nil, e => by simp at e
  | _, _, 0, _, .cons r _, e => by simp at e; subst e; exact ⟨_, rfl, r⟩
  | _, _, j + 1, d, .cons _ t, e => by
    obtain ⟨b, h1, h2⟩ := OwnAll.get (j := j) (d := d) t (by simpa using e)
    exact ⟨b, by simpa using h1, h2⟩
theorem OwnAll.set {o : HO} {b : Addr} {d' : PyData} (hO : Own K F (upd H b o) b d') : ∀ {bs : List Addr} {ds : List PyData} {j : Nat}, bs.Nodup → bs[j]? = some b → OwnAll K F H bs ds → OwnAll K F (upd H b o) bs (ds.set j d')
  | _, _, _, _, e, .nil => by simp at e
  | b0 :: bs, d0 :: ds, 0, nd, e, .cons r t => by
    simp at e
    subst e
    refine .cons hO (t.mono (Same.refl F) fun c hc u hu => ?_)
    rw [upd_ne (show c ≠ b0 from fun z => (List.nodup_cons.mp nd).1 (z ▸ hc))]
    exact hu
  | b0 :: bs, d0 :: ds, j + 1, nd, e, .cons r t => by
    have e' : bs[j]? = some b := by simpa using e
    refine .cons (r.mono (Same.refl F) fun u hu => ?_) (OwnAll.set hO (List.nodup_cons.mp nd).2 e' t)
    rw [upd_ne (show b0 ≠ b from fun z => (List.nodup_cons.mp nd).1 (z ▸ List.mem_of_getElem? e'))]
    exact hu
theorem zipFind : ∀ {ks : List Key} {bs : List Addr} {ds : List PyData} {q : Key} {j : Nat} {pr : PyData × PyData}, ks.length = bs.length → OwnAll K F H bs ds → (List.zip (ks.map kD) ds).findIdx? (fun p => decide (keyD p.1 = some q)) = some j → (List.zip (ks.map kD) ds)[j]? = some pr →
    ∃ b, bs[j]? = some b ∧ Own K F H b pr.2 ∧ valV (List.zip ks (bs.map V.ref)) q = some (.ref b)
  | [], _, _, _, _, _, _, _, e, _ => by simp at e
  | _ :: _, _, _, _, _, _, h, .nil, _, _ => by simp at h
  | k :: ks, b :: bs, d :: ds, q, j, pr, h, .cons r t, e1, e2 => by
    rw [List.map_cons, List.zip_cons_cons, List.findIdx?_cons] at e1
    by_cases z : k = q
    · subst z
      rw [if_pos (by simp [kD_keyD])] at e1
      cases e1
      rw [List.map_cons, List.zip_cons_cons] at e2
      simp at e2
      subst e2
      refine ⟨b, rfl, r, ?_⟩
      rw [List.map_cons, List.zip_cons_cons]
      exact valV_pos rfl
    · rw [if_neg (by simp [kD_keyD, z])] at e1
      cases e3 : (List.zip (ks.map kD) ds).findIdx? (fun p => decide (keyD p.1 = some q)) with
      | none => rw [e3] at e1; cases e1
      | some j' =>
        rw [e3] at e1
        cases e1
        obtain ⟨c, h1, h2, h3⟩ := zipFind (ks := ks) (bs := bs) (ds := ds) (q := q) (j := j') (pr := pr) (by simpa using h) t e3 (by simpa using e2)
        refine ⟨c, by simpa using h1, h2, ?_⟩
        rw [List.map_cons, List.zip_cons_cons, valV_neg (p := (k, V.ref b)) z]
        exact h3
/-- a part is read -/
theorem Deep.part {a : Addr} {bs : List Addr} {d di p : PyData} {j : Nat} {iv : V} (D : Deep K F H a bs d) (h : partI d di = some (j, p)) (vi : View K F H iv di) : ∃ b, bs[j]? = some b ∧ Own K F H b p ∧ ∀ Q : VK, Q (.ref b) H → rIxA K (.ref a) iv H Q := by
  cases d with
  | list ds =>
    cases di with
    | int n =>
      have h' : (match ixN ds.length n with
        | some j => match ds[j]? with
          | some d => some (j, d)
          | none => none
        | none => none) = some (j, p) := h
      cases q : ixN ds.length n with
      | none => rw [q] at h'; cases h'
      | some j' =>
        rw [q] at h'
        dsimp only at h'
        cases q2 : ds[j']? with
        | none => rw [q2] at h'; cases h'
        | some d =>
          rw [q2] at h'; cases h'
          obtain ⟨b, h1, h2⟩ := D.2.get q2
          rw [view_int vi]
          refine ⟨b, h1, h2, fun Q hq => .inl (.inl ⟨a, _, n, .ref b, rfl, rfl, SqL.of D.1, ?_, hq⟩)⟩
          unfold atI
          rw [List.length_map, D.2.length, q]
          simp [h1]
    | _ => cases h
  | dict kvs =>
    have h' : (match keyD di with
      | some q => match kvs.findIdx? (fun p => decide (keyD p.1 = some q)) with
        | some j => match kvs[j]? with
          | some p => some (j, p.2)
          | none => none
        | none => none
      | none => none) = some (j, p) := by cases di <;> exact h
    cases q : keyD di with
    | none => rw [q] at h'; cases h'
    | some key =>
      rw [q] at h'
      dsimp only at h'
      cases q2 : kvs.findIdx? (fun p => decide (keyD p.1 = some key)) with
      | none => rw [q2] at h'; cases h'
      | some j' =>
        rw [q2] at h'
        dsimp only at h'
        cases q3 : kvs[j']? with
        | none => rw [q3] at h'; cases h'
        | some pr =>
          rw [q3] at h'; cases h'
          obtain ⟨ks, ds, e1, e2, e3, e4⟩ := D
          subst e2
          obtain ⟨b, h1, h2, h3⟩ := zipFind e1 e4 q2 q3
          rw [key_view vi q]
          refine ⟨b, h1, h2, fun Q hq => .inr ⟨a, .ref b, rfl, ?_, hq⟩⟩
          rw [← h3]
          exact DGet.k e3
  | _ => cases h
theorem Own.rep {a : Addr} {d : PyData} (f : Same F F') (e : F' a = H a) (h : Own K F H a d) : Rep K F' (.ref a) d := by
  cases d with
  | list ds => obtain ⟨xs, e1, r⟩ := h; exact .lst (SqL.of (e.trans e1)) (r.mono f)
  | dict ds =>
    rcases h with ⟨xs, e1, r⟩ | ⟨w, xs, n, e1, r⟩
    · exact .dct (.inl (e.trans e1)) (r.mono f)
    · exact .dcn n (.inl (e.trans e1)) (r.mono f)
  | _ => exact h.elim
theorem OwnAll.rep (f : Same F F') : ∀ {bs : List Addr} {ds : List PyData}, (∀ b ∈ bs, F' b = H b) → OwnAll K F H bs ds → RepAll K F' (bs.map V.ref) ds
  | _, _, _, .nil => .nil
  | _, _, h, .cons r t => .cons (r.rep f (h _ List.mem_cons_self)) (OwnAll.rep f (fun b hb => h b (List.mem_cons_of_mem _ hb)) t)
theorem OwnAll.repKV (f : Same F F') : ∀ {ks : List Key} {bs : List Addr} {ds : List PyData}, (∀ b ∈ bs, F' b = H b) → OwnAll K F H bs ds → RepKV K F' (List.zip ks (bs.map V.ref)) (List.zip (ks.map kD) ds)
  | [], _, _, _, _ => by simp; exact .nil
  | _ :: _, _, _, _, .nil => by simp; exact .nil
  | k :: ks, _, _, h, .cons r t => .cons (r.rep f (h _ List.mem_cons_self)) (OwnAll.repKV f (fun b hb => h b (List.mem_cons_of_mem _ hb)) t)
theorem Deep.rep {a : Addr} {bs : List Addr} {d : PyData} (f : Same F F') (e : ∀ b ∈ a :: bs, F' b = H b) (D : Deep K F H a bs d) : Rep K F' (.ref a) d := by
  cases d with
  | list ds => exact .lst (SqL.of ((e a List.mem_cons_self).trans D.1)) (D.2.rep f fun b hb => e b (List.mem_cons_of_mem _ hb))
  | dict kvs =>
    obtain ⟨ks, ds, e1, e2, e3, e4⟩ := D
    subst e2
    exact .dct (.inl ((e a List.mem_cons_self).trans e3)) (e4.repKV f fun b hb => e b (List.mem_cons_of_mem _ hb))
  | _ => exact D.elim
/-- loose objects are left as they are from now on -/
theorem Sim.growF (S : Sim K C F H ρ σ) {B : Addr → Prop} (hB : ∀ b, B b → Loose C F H ρ σ b ∧ ¬ InFoot H ρ σ b) : Same F (plus F H B) ∧ Sim K C (plus F H B) H ρ σ := by
  have inB : ∀ b, B b → plus F H B b = H b := fun b h => by unfold plus; rw [if_pos h]
  have out : ∀ b, ¬ B b → plus F H B b = F b := fun b h => by unfold plus; rw [if_neg h]
  have sF : Same F (plus F H B) := fun b o e => by
    rw [out b fun z => by have := (hB b z).1.2.1; rw [e] at this; cases this]
    exact e
  refine ⟨sF, S.len, fun b o e => ?_, fun j d e => ?_, fun j d e => ?_, S.ne, S.par, S.f0.trans sF, S.h0, fun b e => ?_, fun b o e => ?_, S.dp.keep sF (fun j e h => ⟨h, rfl⟩) fun b hb ⟨h1, h2, h3, h4, h5⟩ => ⟨fun o e => e, ⟨h1, ?_, h3, h4, h5⟩⟩⟩
  · by_cases hb : B b
    · rw [inB b hb] at e; exact e
    · rw [out b hb] at e; exact S.sub b o e
  · obtain ⟨v, h1, h2⟩ := S.frz j d e
    exact ⟨v, h1, h2.mono sF⟩
  · obtain ⟨b, h1, h2, h3, h4⟩ := S.own j d e
    exact ⟨b, h1, by rw [out b fun z => (hB b z).1.2.2.2.2 j d e h1]; exact h2, h3.mono sF fun x y => y, h4⟩
  · by_cases hb : B b
    · exact .inr (hB b hb).1.2.2.1
    · rw [out b hb] at e; exact S.new b e
  · obtain ⟨h1, h2, h3⟩ := S.pin b o e
    exact ⟨h1, by rw [out b fun z => by have := (hB b z).1.2.2.2.1; rw [e] at this; cases this]; exact h2, h3⟩
  · rw [out b fun z => (hB b z).2 hb]; exact h2
theorem Sim.updL (S : Sim K C F H ρ σ) {b : Addr} {o : HO} (hl : Loose C F H ρ σ b) (nf : ¬ InFoot H ρ σ b) : Sim K C F (upd H b o) ρ σ := by
  obtain ⟨h1, h2, h3, h4, h5⟩ := hl
  refine ⟨S.len, fun c x e => ?_, S.frz, fun j d e => ?_, S.ne, S.par, S.f0, fun c x e hc => ?_, S.new, fun c x e => ?_, S.dp.upd nf⟩
  · rw [upd_ne (ne_of_none e h2)]; exact S.sub c x e
  · obtain ⟨c, g1, g2, g3, g4⟩ := S.own j d e
    have nb : c ≠ b := fun z => h5 j d e (z ▸ g1)
    exact ⟨c, g1, g2, g3.mono (Same.refl _) fun o ho => by rw [upd_ne nb]; exact ho, g4⟩
  · have nb : c ≠ b := fun z => by rw [z, h3] at e; cases e
    rw [upd_ne nb]; exact S.h0 c x e hc
  · obtain ⟨g1, g2, g3⟩ := S.pin c x e
    have nb : c ≠ b := fun z => by rw [z, h4] at e; cases e
    exact ⟨by rw [upd_ne nb]; exact g1, g2, g3⟩
theorem set_same {α : Type} {l : List (Option α)} {i : Nat} {v : α} (h : l[i]? = some (some v)) : l.set i (some v) = l := by
  apply List.ext_getElem?
  intro j
  by_cases e : j = i
  · subst e; rw [List.getElem?_set_self (List.getElem?_eq_some_iff.mp h).1, h]
  · rw [List.getElem?_set_ne (Ne.symm e)]
theorem set_twice {α : Type} {l : List α} {i : Nat} {v w : α} : (l.set i v).set i w = l.set i w := by simp
/-- an object of owned parts is left as it is from now on -/
theorem Sim.freezeD (S : Sim K C F H ρ σ) {i : Nat} {d : PyData} (e : ρ[i]? = some (some (.own2 d))) : ∃ (a : Addr) (F' : Hp), σ[i]? = some (some (.ref a)) ∧ Same F F' ∧ Rep K F' (.ref a) d ∧ Sim K C F' H (ρ.set i (some (.frz d))) σ := by
  have hp := own2_noP S e
  obtain ⟨a, bs, h1, h2, h3, h4, h5⟩ := S.dp i d e
  have S0 := S.drop hp
  have ls : ∀ b ∈ a :: bs, Loose C F H (ρ.set i none) σ b := fun b hb => by
    obtain ⟨g1, g2, g3, g4, g5⟩ := h3 b hb
    exact ⟨g1, g2, g3, g4, fun j x hj => g5 j x (set_none hj).2⟩
  obtain ⟨sF, S1⟩ := S0.growF (B := fun b => b ∈ a :: bs) fun b hb => ⟨ls b hb, fun ⟨j, x, c, q1, _⟩ => by
    obtain ⟨nj, q⟩ := set_none q1
    exact nj (h5 j x q)⟩
  have rp : Rep K (plus F H fun b => b ∈ a :: bs) (.ref a) d := h4.rep sF fun b hb => by unfold plus; rw [if_pos hb]
  have S2 := setF' (i := i) S1 hp rp
  rw [set_same h1, set_twice] at S2
  exact ⟨a, _, h1, sF, rp, S2⟩
theorem zip_set : ∀ {ks : List PyData} {ds : List PyData} {j : Nat} {x : PyData} {pr : PyData × PyData}, (List.zip ks ds)[j]? = some pr → (List.zip ks ds).set j (pr.1, x) = List.zip ks (ds.set j x)
  | [], _, _, _, _, h => by simp at h
  | _ :: _, [], _, _, _, h => by simp at h
  | k :: ks, d :: ds, 0, x, pr, h => by simp at h; subst h; simp
  | k :: ks, d :: ds, j + 1, x, pr, h => by simp at h ⊢; exact zip_set (by simpa using h)
theorem Deep.set {a b : Addr} {bs : List Addr} {d di p p' : PyData} {j : Nat} {o : HO} (nd : (a :: bs).Nodup) (D : Deep K F H a bs d) (h : partI d di = some (j, p)) (hb : bs[j]? = some b) (hO : Own K F (upd H b o) b p') : Deep K F (upd H b o) a bs (partS d j p') := by
  have na : a ≠ b := fun z => (List.nodup_cons.mp nd).1 (z ▸ List.mem_of_getElem? hb)
  have nb := (List.nodup_cons.mp nd).2
  cases d with
  | list ds => exact ⟨by rw [upd_ne na]; exact D.1, D.2.set hO nb hb⟩
  | dict kvs =>
    have h' : (match keyD di with
      | some q => match kvs.findIdx? (fun p => decide (keyD p.1 = some q)) with
        | some j => match kvs[j]? with
          | some p => some (j, p.2)
          | none => none
        | none => none
      | none => none) = some (j, p) := by cases di <;> exact h
    have : ∃ pr, kvs[j]? = some pr := by
      cases q : keyD di with
      | none => rw [q] at h'; cases h'
      | some key =>
        rw [q] at h'
        dsimp only at h'
        cases q2 : kvs.findIdx? (fun p => decide (keyD p.1 = some key)) with
        | none => rw [q2] at h'; cases h'
        | some j' =>
          rw [q2] at h'
          dsimp only at h'
          cases q3 : kvs[j']? with
          | none => rw [q3] at h'; cases h'
          | some pr => rw [q3] at h'; cases h'; exact ⟨pr, q3⟩
    obtain ⟨pr, hpr⟩ := this
    obtain ⟨ks, ds, e1, e2, e3, e4⟩ := D
    subst e2
    show Deep K F (upd H b o) a bs (match (List.zip (ks.map kD) ds)[j]? with
      | some p => .dict ((List.zip (ks.map kD) ds).set j (p.1, p'))
      | none => _)
    rw [hpr]
    exact ⟨ks, ds.set j p', e1, zip_set hpr, by rw [upd_ne na]; exact e3, e4.set hO nb hb⟩
  | _ => cases h
/-! ### statements and expressions -/
def partK (ρ : DEnv) (i : Nat) (di : PyData) (k : PyData → Nat → PyData → Prop) : Prop := match ρ[i]? with
  | some (some (.own2 d)) => match partI d di with
    | some (j, p) => k d j p
    | none => False
  | _ => False
theorem partK_is {i : Nat} {di : PyData} {k : PyData → Nat → PyData → Prop} (h : partK ρ i di k) : ∃ d j p, ρ[i]? = some (some (.own2 d)) ∧ partI d di = some (j, p) ∧ k d j p := by
  unfold partK at h
  cases q : ρ[i]? with
  | none => rw [q] at h; exact h.elim
  | some x =>
    cases x with
    | none => rw [q] at h; exact h.elim
    | some y =>
      cases y with
      | frz d => rw [q] at h; exact h.elim
      | own d => rw [q] at h; exact h.elim
      | own2 d =>
        rw [q] at h
        dsimp only at h
        cases q2 : partI d di with
        | none => rw [q2] at h; exact h.elim
        | some jp => rw [q2] at h; exact ⟨d, jp.1, jp.2, rfl, q2, h⟩
def isD2 (ρ : DEnv) (i : Nat) (k : Prop) : Prop := match ρ[i]? with
  | some (some (.own2 _)) => k
  | _ => False
theorem isD2_is {i : Nat} {k : Prop} (h : isD2 ρ i k) : ∃ d, ρ[i]? = some (some (.own2 d)) ∧ k := by
  unfold isD2 at h
  cases q : ρ[i]? with
  | none => rw [q] at h; exact h.elim
  | some x =>
    cases x with
    | none => rw [q] at h; exact h.elim
    | some y =>
      cases y with
      | frz d => rw [q] at h; exact h.elim
      | own d => rw [q] at h; exact h.elim
      | own2 d => rw [q] at h; exact ⟨d, rfl, h⟩
/-- x[e].m(..), x owns its parts -/
def dMutP (P : List Bool) (T : String) (i : Nat) (f : OpM) (ti : DE) (a : DA) : DE := fun ρ Q => isD2 ρ i (ti ρ fun oi ρ1 => withO ρ1 oi fun di => partK ρ1 i di fun d j p => tyD T p ∧ a (ρ1.set i none) fun os ρ2 => shareAll P ρ2 os fun vs ρ3 => noD (ρ3.set i none) = true ∧ f p vs fun p' g => Q (.val g) (ρ3.set i (some (.own2 (partS d j p')))))
/-- f(x[e]) of a built-in -/
def dCBP (f : OpN) (i : Nat) (ti : DE) : DE := fun ρ Q => match ρ[i]? with
  | some (some (.frz d)) => ti ρ fun oi ρ1 => withO ρ1 oi fun di => ixD d di fun p => f [p] fun g => Q (.val g) ρ1
  | some (some (.own2 _)) => ti ρ fun oi ρ1 => withO ρ1 oi fun di => partK ρ1 i di fun _ _ p => f [p] fun g => Q (.val g) ρ1
  | _ => False
/-- x as a datum, from now on it stays -/
def dVar2 (i : Nat) : DE := fun ρ Q => match ρ[i]? with
  | some (some (.own2 d)) => Q (.val d) (ρ.set i (some (.frz d)))
  | some (some (.frz d)) => Q (.val d) ρ
  | _ => False
end
section
variable {X : Cx} {C : FC} {P : List Bool} {T id : String} {name x y : Str} {r : V → List V → Hp → VK → Prop} {f : OpM} {i k : Nat} {e ix : Expr} {es : List Expr} {ta : DA} {ti : DE} {p spos apos cpos pos : Pos}
theorem q_var2 (h : PE X (.Name x pos) (tVar i)) : QE X C (.Name x pos) (dVar2 i) := QE.of h fun σ H Q ⟨F, ρ, q, S, ht, kk⟩ => by
  have ht' : match ρ[i]? with
    | some (some (.own2 d)) => q (.val d) (ρ.set i (some (.frz d)))
    | some (some (.frz d)) => q (.val d) ρ
    | _ => False := ht
  cases e : ρ[i]? with
  | none => rw [e] at ht'; exact ht'.elim
  | some y =>
    cases y with
    | none => rw [e] at ht'; exact ht'.elim
    | some z =>
      cases z with
      | own d => rw [e] at ht'; exact ht'.elim
      | frz d =>
        rw [e] at ht'
        obtain ⟨v, h1, h2⟩ := S.frz i d e
        exact ⟨v, h1, kk _ _ _ _ _ ht' S (Same.refl F) h2⟩
      | own2 d =>
        rw [e] at ht'
        obtain ⟨a, F', h1, s, r, S'⟩ := S.freezeD e
        exact ⟨_, h1, kk _ _ _ _ _ ht' S' s r⟩
theorem m_part (hP : C.Tags P) (hr : Room k X.A) (pa : PlainAttrs T) (slot : Slot T name id) (hty : typeOf (.builtin id) = pure (.type "method_descriptor")) (hm : MtR X id r) (ok : MutOk X r f) (hi : QE X C ix ti) (ha : ∀ C : FC, C.Tags P → QA X C (e :: es) ta)
    (hv : PE X (.Name x p) (tVar i)) (hpl : PlainIx ix := by exact fun _ _ => rfl) (hbase : attributeBase (.Subscript (.Name x p) ix spos) name X.env (eval (.Subscript (.Name x p) ix spos) X.env) = eval (.Subscript (.Name x p) ix spos) X.env := by rfl)
    (hfew : ((backTo cpos (starEach (e :: es) X.env)).all (fun x => !x.1) && (backToKw cpos (keywordEach [] X.env)).all (fun x => x.1.isSome)
      && decide ((e :: es).length + ([] : List Keyword).length + (if ([] : List Keyword).isEmpty then 0 else 1) < 30)) = true := by rfl)
    (hline : (apos.endLine == cpos.line) = true := by rfl) (hs : starEach (e :: es) X.env = (false, eval e X.env) :: starEach es X.env := by rfl) (hplain : (backTo cpos (starEach es X.env)).any (·.1) = false := by rfl) :
    QE X C (.Call (.Attribute (.Subscript (.Name x p) ix spos) name apos) (e :: es) [] cpos) (dMutP P T i f ti ta) :=
  QE.of (pe_bm pa slot hty hm (pe_ix (ix_all (hu_of hr)) hv hi.pe hpl) (pa' ha) hbase hfew hline hs hplain) fun σ H Q ⟨F, ρ, q, S, ht, kk⟩ => by
    obtain ⟨d0, hd0, ht⟩ := isD2_is ht
    obtain ⟨a, _, g1, _⟩ := S.dp i d0 hd0
    refine ⟨.ref a, g1, F, ρ, _, S, ht, fun oi ρ1 F1 H1 iv h1 S1 s1 d1 => ?_⟩
    obtain ⟨di, vi, h1⟩ := S1.see d1 h1
    obtain ⟨d, j, pt, hd, hpt, ty, h1⟩ := partK_is h1
    have hp := own2_noP S1 hd
    obtain ⟨a', bs, e1, nd, hl, D, Sp⟩ := S1.undeep hd
    rw [g1] at e1; cases e1
    obtain ⟨b, hb, hO, hrd⟩ := D.part hpt vi
    refine hrd _ ⟨View.ty (Own.view hO) ty, C.pins (partH H1 (a :: bs)), FC.pins_tags hP, F1, _, _, Sp, h1, fun os ρ2 F2 H2 vs h2 S2 s2 d2 => ?_⟩
    obtain ⟨ds, ρ3, F3, ⟨no, w⟩, S3, s3, rr⟩ := Sim.shareAll (FC.pins_tags hP) S2 d2 h2
    obtain ⟨S4, S4n, hk, D4⟩ := Sim.redeep g1 hp nd hl (s2.trans s3) D S3 no
    have mb : b ∈ a :: bs := List.mem_cons_of_mem _ (List.mem_of_getElem? hb)
    obtain ⟨eb, lb⟩ := hk b mb
    have hO' : Own X.K F3 H2 b pt := hO.mono (s2.trans s3) fun o ho => by rw [eb]; exact ho
    refine ok F3 H2 b vs pt ds _ Q S4.sub lb.2.1 hO' rr w fun p' g o v hq hO2 hr2 => ?_
    have nf : ¬ InFoot H2 (ρ3.set i none) σ b := foot_noD no
    have S5 := S4n.updL (o := o) lb nf
    have D5 := D4.set nd hpt hb hO2
    have S6 := S5.setD (i := i) (List.getElem?_eq_some_iff.mp g1).1 hp nd (fun c hc => by
      obtain ⟨_, l1, l2, l3, l4, l5⟩ := hk c hc
      refine ⟨?_, l2, l3, l4, l5⟩
      by_cases ec : c = b
      · rw [ec, upd_same]; intro z; cases z
      · rw [upd_ne ec]; exact l1) D5 (by rw [set_twice]; exact no)
    rw [set_same g1, set_twice] at S6
    exact kk _ _ _ _ _ hq S6 (s1.trans (s2.trans s3)) hr2
theorem m_appendP (hP : C.Tags P) (hr : Room k X.A) (hi : QE X C ix ti) (ha : ∀ C : FC, C.Tags P → QA X C [e] ta) (hN : X.N[i]? = some x := by rfl) (hvis : Vis X.env.scope x := by first | exact Or.inl rfl | exact Or.inr (Or.inl rfl) | exact Or.inr (Or.inr rfl)) (hd : (x == ("__debug__" : Str)) = false := by decide) (hcd : (x == ("__classdict__" : Str)) = false := by decide)
    (hpl : PlainIx ix := by exact fun _ _ => rfl) (hbase : attributeBase (.Subscript (.Name x p) ix spos) "append" X.env (eval (.Subscript (.Name x p) ix spos) X.env) = eval (.Subscript (.Name x p) ix spos) X.env := by rfl)
    (hfew : ((backTo cpos (starEach [e] X.env)).all (fun x => !x.1) && (backToKw cpos (keywordEach [] X.env)).all (fun x => x.1.isSome)
      && decide ([e].length + ([] : List Keyword).length + (if ([] : List Keyword).isEmpty then 0 else 1) < 30)) = true := by rfl)
    (hline : (apos.endLine == cpos.line) = true := by rfl) (hs : starEach [e] X.env = (false, eval e X.env) :: starEach [] X.env := by rfl) (hplain : (backTo cpos (starEach [] X.env)).any (·.1) = false := by rfl) :
    QE X C (.Call (.Attribute (.Subscript (.Name x p) ix spos) "append" apos) [e] [] cpos) (dMutP P "list" i appendD ti ta) :=
  m_part hP hr PySem.F.plainAttrs_list PySem.F.slot_list_append PySem.F.type_list_append mt_append ok_append hi ha (pe_var hN hvis hd hcd) hpl hbase hfew hline hs hplain
theorem q_lenP (hr : Room k X.A) (hm : X.mg "len" = none) (hi : QE X C ix ti) (hN : X.N[i]? = some x := by rfl) (hvis : Vis X.env.scope x := by first | exact Or.inl rfl | exact Or.inr (Or.inl rfl) | exact Or.inr (Or.inr rfl)) (hd : (x == ("__debug__" : Str)) = false := by decide) (hcd : (x == ("__classdict__" : Str)) = false := by decide)
    (hpl : PlainIx ix := by exact fun _ _ => rfl) (hg : Gl X "len" := by rfl)
    (he : starEach [.Subscript (.Name x p) ix spos] X.env = (false, eval (.Subscript (.Name x p) ix spos) X.env) :: starEach [] X.env := by rfl) (hpl2 : (backTo pos (starEach [] X.env)).any (·.1) = false := by rfl) :
    QE X C (.Call (.Name "len" apos) [.Subscript (.Name x p) ix spos] [] pos) (dCBP lenD i ti) :=
  QE.of (pe_callB call_lenA hg hm PySem.boot_len (pa_cons (pe_ix (ix_all (hu_of hr)) (pe_var (i := i) hN hvis hd hcd) hi.pe hpl) pa_nil he) (by decide) (by decide) he hpl2) fun σ H Q ⟨F, ρ, q, S, ht, kk⟩ => by
    have ht' : match ρ[i]? with
      | some (some (.frz d)) => ti ρ fun oi ρ1 => withO ρ1 oi fun di => ixD d di fun p => lenD [p] fun g => q (.val g) ρ1
      | some (some (.own2 _)) => ti ρ fun oi ρ1 => withO ρ1 oi fun di => partK ρ1 i di fun _ _ p => lenD [p] fun g => q (.val g) ρ1
      | _ => False := ht
    cases e0 : ρ[i]? with
    | none => rw [e0] at ht'; exact ht'.elim
    | some y =>
      cases y with
      | none => rw [e0] at ht'; exact ht'.elim
      | some z =>
        cases z with
        | own d => rw [e0] at ht'; exact ht'.elim
        | frz d =>
          rw [e0] at ht'
          obtain ⟨v, g1, g2⟩ := S.frz i d e0
          refine ⟨v, g1, F, ρ, _, S, ht', fun oi ρ1 F1 H1 iv h1 S1 s1 d1 => ?_⟩
          obtain ⟨di, vi, h1⟩ := S1.see d1 h1
          refine ok_ix F1 H1 v iv d di _ _ S1.sub (Rep.view S1.sub (g2.mono s1)) vi h1 fun p F2 H2 u hq gr r => ?_
          have S2 := S1.grow gr
          exact ok_len F2 H2 [u] [p] _ Q S2.sub (.cons (Rep.view S2.sub r) .nil) hq (kont_of (ρ1 := ρ1) (F1 := F1) (H1 := H1) S2 (s1.trans gr.f) kk)
        | own2 d0 =>
          rw [e0] at ht'
          obtain ⟨a, _, g1, _⟩ := S.dp i d0 e0
          refine ⟨.ref a, g1, F, ρ, _, S, ht', fun oi ρ1 F1 H1 iv h1 S1 s1 d1 => ?_⟩
          obtain ⟨di, vi, h1⟩ := S1.see d1 h1
          obtain ⟨d, j, pt, hd, hpt, h1⟩ := partK_is h1
          obtain ⟨a', bs, e1, nd, hl, D, _⟩ := S1.undeep hd
          rw [g1] at e1; cases e1
          obtain ⟨b, hb, hO, hrd⟩ := D.part hpt vi
          exact hrd _ (ok_len F1 H1 [.ref b] [pt] _ Q S1.sub (.cons (Own.view hO) .nil) h1 (kont_of (ρ1 := ρ1) (F1 := F1) (H1 := H1) S1 s1 kk))
end
/-! ### x = [o, ..] of new objects -/
def dOs : List DO → DEnv → (List PyData → DEnv → Prop) → Prop
  | [], ρ, Q => Q [] ρ
  | t :: ts, ρ, Q => t ρ fun d ρ1 => dOs ts ρ1 fun ds ρ2 => Q (d :: ds) ρ2
def taOs (K : PySem.W.Frag) (P : List Bool) : List DO → TA
  | [] => tNil
  | t :: ts => tCons (lO' K P t) (taOs K P ts)
structure QOs (X : Cx) (P : List Bool) (es : List Expr) (ts : List DO) : Prop where
  pa : PA X es (taOs X.K P ts)
def dDeepL (i : Nat) (ts : List DO) : DS := fun E ρ => dOs ts ρ fun ds ρ1 => ds.length ≤ big ∧ noD (ρ1.set i none) = true ∧ E.nx (ρ1.set i (some (.own2 (.list ds))))
section
variable {X : Cx} {P : List Bool} {C : FC} {i : Nat} {x : Str} {e : Expr} {es : List Expr} {t : DO} {ts : List DO} {pos lpos npos : Pos}
theorem os_nil : QOs X P [] [] := ⟨pa_nil⟩
theorem os_cons (h : ∀ C : FC, C.Tags P → QO X C e t) (h2 : QOs X P es ts) (hs : starEach (e :: es) X.env = (false, eval e X.env) :: starEach es X.env := by rfl) : QOs X P (e :: es) (t :: ts) := ⟨pa_cons (peO' h) h2.pa hs⟩
theorem os_run {K : PySem.W.Frag} : ∀ {ts : List DO} {C : FC} {F H : Hp} {ρ : DEnv} {σ : L2.St} {q : List PyData → DEnv → Prop} {Q : List V → Hp → Prop}, C.Tags P → Sim K C F H ρ σ → dOs ts ρ q →
    (∀ ds ρ' F' H' bs, q ds ρ' → Sim K C F' H' ρ' σ → Same F F' → bs.Nodup → (∀ b ∈ bs, Loose C F' H' ρ' σ b ∧ ¬ InFoot H' ρ' σ b) → OwnAll K F' H' bs ds → Q (bs.map V.ref) H') → taOs K P ts σ H Q
  | [], C, F, H, ρ, σ, q, Q, hP, S, h, k => k [] ρ F H [] h S (Same.refl F) .nil (fun b hb => by simp at hb) .nil
  | t :: ts, C, F, H, ρ, σ, q, Q, hP, S, h, k => by
    refine ⟨C, hP, F, ρ, _, S, h, fun d ρ1 F1 H1 a h1 S1 s1 fr => ?_⟩
    obtain ⟨o, ho⟩ := fr.o.there
    refine os_run (FC.pin_tags (o := o) (D := a) hP) (S1.pinned ho fr.f fr.ne fr.nf) h1 fun ds ρ2 F2 H2 bs h2 S2 s2 nd hl hO => ?_
    obtain ⟨S3, hH, hF, hne, hnf⟩ := Sim.unpinned fr.pn S2
    have nb : ∀ b ∈ bs, b ≠ a := fun b hb z => by
      have := (hl b hb).1.2.2.2.1
      rw [z, show (C.pin a o).pn a = some o from upd_same] at this
      cases this
    refine k (d :: ds) ρ2 F2 H2 (a :: bs) h2 S3 (s1.trans s2) (List.nodup_cons.mpr ⟨fun z => nb a z rfl, nd⟩) (fun b hb => ?_) (.cons (fr.o.mono s2 fun u hu => by rw [ho] at hu; cases hu; exact hH) hO)
    rcases List.mem_cons.mp hb with z | z
    · subst z
      exact ⟨⟨fun z => (by rw [hH] at z; cases z), hF, fr.h0, fr.pn, hne⟩, hnf⟩
    · obtain ⟨⟨g1, g2, g3, g4, g5⟩, g6⟩ := hl b z
      refine ⟨⟨g1, g2, g3, ?_, g5⟩, g6⟩
      rw [show (C.pin a o).pn b = C.pn b from upd_ne (nb b z)] at g4
      exact g4
theorem s_deepL {pos' : Pos} (hP : C.Tags P) (hN : X.N.Nodup) (h : QOs X P es ts) (hi : X.N[i]? = some x := by rfl) (hx : Loc X.env.scope x := by first | exact .inl rfl | exact .inr rfl) (hp : P[i]? ≠ some true := by decide)
    (hs : swapsWith (.List es lpos) (some (.Name x pos')) pos.line X.env = pure false := by rfl) (hf : X.fn x = true ∨ X.env.scope.names.lookup x = some .local := by first | exact .inl rfl | exact .inr rfl | assumption) :
    QS X C (.Assign [.Name x pos'] (.List es lpos) pos) (dDeepL i ts) := QS.of (ps_set hN hi hx (pe_lst h.pa) hs hf) fun D σ H ⟨F, ρ, E, S, ht, ok⟩ => by
  refine os_run hP S ht fun ds ρ1 F1 H1 bs ⟨hlen, no, hq⟩ S1 s1 nd hl hO => ⟨by rw [List.length_map, hO.length]; exact le_line hlen, fun p hp' => ?_⟩
  obtain ⟨S2, f2, h2, p2, n2, nf2⟩ := S1.lay hp' (o := .lst (bs.map V.ref))
  have nb : ∀ b ∈ bs, b ≠ p := fun b hb z => (hl b hb).1.1 (z ▸ hp')
  by_cases hii : i < σ.length
  · refine ok.nx _ _ _ _ hq (S2.setD (i := i) (a := p) (bs := bs) hii (noP hP hp) (List.nodup_cons.mpr ⟨fun z => nb p z rfl, nd⟩) (fun b hb => ?_) ⟨upd_same, hO.mono (Same.refl F1) fun b hb o e => by rw [upd_ne (nb b hb)]; exact e⟩ no) s1
    rcases List.mem_cons.mp hb with z | z
    · subst z
      exact ⟨fun z => (by rw [upd_same] at z; cases z), f2, h2, p2, n2⟩
    · obtain ⟨⟨g1, g2, g3, g4, g5⟩, _⟩ := hl b z
      exact ⟨by rw [upd_ne (nb b z)]; exact g1, g2, g3, g4, g5⟩
  · show D.nx (σ.set i (some (.ref p))) _
    rw [List.set_eq_of_length_le (by omega)]
    rw [List.set_eq_of_length_le (by rw [S1.len]; omega)] at hq
    exact ok.nx _ _ _ _ hq S2 s1
end
/-! ### l.count(t) of texts -/
def countTD : OpN := fun ds k => match ds with
  | [.list xs, .str n] => match strsD xs with
    | some ns => k (.int (ns.count n : Nat))
    | none => False
  | _ => False
def rCntS (K : PySem.W.Frag) : V → List V → Hp → VK → Prop := fun x xs H Q => ∃ (p : Addr) (ns : List Str) (k : Str), x = .ref p ∧ xs = [.str k] ∧ SqL K H p (ns.map V.str) ∧ Q (.int (ns.count k : Nat)) H
theorem countIn_strs (k : Str) : ∀ ns : List Str, PySem.Spec.countIn (.str k) (ns.map PyData.str) = ((ns.count k : Nat) : Int)
  | [] => rfl
  | n :: ns => by
    rw [List.map_cons, PySem.Spec.countIn, List.count_cons, countIn_strs k ns]
    simp only [same]
    rcases Bool.eq_false_or_eq_true (n == k) with hb | hb <;> simp only [hb, Bool.false_eq_true, if_true, if_false] <;> push_cast <;> omega
section
variable {X : Cx} {C : FC} {o e : Expr} {to : DE} {tA : DA} {apos cpos : Pos}
theorem mt_lcountS : MtR X "list.count" (rCntS X.K) := by
  intro pins s σ H x xs v us Q I rx rxs h
  obtain ⟨p, ns, k, rfl, rfl, hs, q⟩ := h
  cases rx
  obtain ⟨u, rfl, ru⟩ := rxs.one
  obtain ⟨t, rfl⟩ := ru
  obtain ⟨its, rv, hl, hlen⟩ := I.list hs
  refine PyProof.Rows.count_list_strs (vs := its) hl.isList (strs_of_vals rv) ?_
  rw [countIn_strs]
  exact ⟨.int (ns.count k : Nat), H, I.tok _, ⟨s.toks, rfl⟩, q⟩
theorem strs_vals {K : PySem.W.Frag} {F : Hp} {us : List V} {xs : List PyData} {ns : List Str} (r : RepAll K F us xs) (h : strsD xs = some ns) : us = ns.map V.str := by
  rw [strs_map h] at r
  exact r.strs
theorem ok_countT : MtOk X (rCntS X.K) countTD := fun F H v vs d ds q Q s w0 w1 w k => by
  cases d with
  | list xs =>
    cases w1 with
    | nil => exact w.elim
    | @cons v1 _ d1 _ hv hr =>
      cases hr with
      | cons _ _ => cases d1 <;> exact w.elim
      | nil =>
        cases d1 with
        | str n =>
          have w : (match strsD xs with | some ns => q (.int (ns.count n : Nat)) | none => False) := w
          cases z : strsD xs with
          | none => rw [z] at w; exact w.elim
          | some ns =>
            rw [z] at w
            obtain ⟨a, us, e, h1, r⟩ := w0
            subst e
            have := strs_vals r z
            subst this
            rw [view_str hv]
            exact ⟨a, ns, n, rfl, rfl, h1, k _ _ _ _ w (Gr.refl s) (.int _)⟩
        | _ => exact w.elim
  | _ => exact w.elim
theorem q_countT (ho : QE X C o to) (ha : QA X C [e] tA) (hbase : attributeBase o "count" X.env (eval o X.env) = eval o X.env := by rfl)
    (hfew : ((backTo cpos (starEach [e] X.env)).all (fun x => !x.1) && (backToKw cpos (keywordEach [] X.env)).all (fun x => x.1.isSome)
      && decide ([e].length + ([] : List Keyword).length + (if ([] : List Keyword).isEmpty then 0 else 1) < 30)) = true := by rfl)
    (hline : (apos.endLine == cpos.line) = true := by rfl) (hs : starEach [e] X.env = (false, eval e X.env) :: starEach [] X.env := by rfl) (hplain : (backTo cpos (starEach [] X.env)).any (·.1) = false := by rfl) :
    QE X C (.Call (.Attribute o "count" apos) [e] [] cpos) (dBM "list" countTD to tA) :=
  m_look PySem.F.plainAttrs_list PySem.F.slot_list_count PySem.F.type_list_count mt_lcountS ok_countT ho ha hbase hfew hline hs hplain
end
end Dv
/-! ### sorted(a tuple) of tuples whose heads are unlike -/
namespace PySem.W
open PySem PySem.Calls PyProof.Rows
section
variable {prog : Program} {w : World} {A : Around} {E : Value → Shared → Prop} {s : Shared}
theorem near_sortedT {β : Type} {vs : List Value} {bs : List β} {enc : β → PyData} {R : Value → β → Prop} {l : Addr} {Q : Value → Shared → Prop} (hl : s.heap.IsTuple l vs.toArray) (e : EachIs R vs bs) (er : EachIs (fun v b => ∃ as, Reads s.heap v (enc b) as) vs bs) (hal : AllNear (bs.map enc)) (ht : ∀ d, d ∈ bs.map enc → ∃ x r, d = .tuple (x :: r)) (hL : bs.length ≤ sizeLine)
    (hu : ∀ b, b ∈ bs → A.units + 2 + (enc b).depth < cLine) (h : ∀ out, out.length = bs.length → EachIs R out (bs.mergeSort (dataLe false enc)) → Q (.ref (s.heap.objs.size + 1)) { s with heap := sortedAll s.heap vs (List.toArray out) }) :
    wpAny (model prog w) A (call (.builtin "sorted") [.ref l]) Q E s := by
  have er' : EachIs (fun v b => ∃ as, Reads (sortingHeap (copyHeap s.heap vs) (s.heap.objs.size + 1) vs) v (enc b) as) vs bs := er.mono fun _ _ ⟨as, r⟩ => ⟨as, PyProof.Rows.Reads.keeps (fun _ _ => sorting_copy_old) r⟩
  have em := each_map (R := fun v d => ∃ as, Reads (sortingHeap (copyHeap s.heap vs) (s.heap.objs.size + 1) vs) v d as) enc er'
  have hL' : vs.length ≤ sizeLine := by rw [e.length]; exact hL
  exact Dv.sorted_of_sortT hl hL' fun _ => list_sort_vals (s := { s with heap := copyHeap s.heap vs }) (copyHeap_at s.heap vs) (near_sorts (s := { s with heap := sortingHeap (copyHeap s.heap vs) (s.heap.objs.size + 1) vs }) em hal ht (bound_map hu)) hL' ⟨rfl, h _ (by rw [sortVals_length false rfl]; exact e.length) (sortVals_each (κ := dataKind _ (bs.map enc)) (fun b => keyToks (enc b)) e (each_of_map enc ((each_mem em).mono fun _ _ ⟨⟨_, r⟩, hd⟩ => near_key hal hd r)))⟩
end
end PySem.W
namespace Dv
open PySem PySem.Spec PyProof.Rows L2
def rSortTn (K : PySem.W.Frag) : List V → Hp → VK → Prop := fun vs H Q => ∃ (a : Addr) (xs : List V) (ds : List PyData), vs = [.ref a] ∧ SqT K H a xs ∧ DpAll K H xs ds ∧ PySem.W.AllNear ds ∧ (∀ d, d ∈ ds → ∃ x r, d = .tuple (x :: r)) ∧ ds.length ≤ sizeLine ∧ (∀ d ∈ ds, PyData.depth d ≤ 60) ∧
  ∀ p, H p = none → Q (.ref p) (upd H p (.lst (((xs.zip ds).mergeSort (PySem.W.dataLe false Prod.snd)).map Prod.fst)))
theorem cr_sortTn {X : Cx} (hu : X.A.units + 65 < cLine) : CallR X (.builtin "sorted") (rSortTn X.K) := by
  intro pins s σ H vs us Q I r h
  obtain ⟨a, xs, ds, rfl, hs, hd, hal, hk, hlen, hdep, q⟩ := h
  obtain ⟨its, rv, hl, _⟩ := I.tuple hs
  rw [Vals.ref1 r]
  obtain ⟨e1, e2⟩ := each_zip I rv hd
  have hxd := dp_len hd
  have em : (xs.zip ds).map Prod.snd = ds := List.map_snd_zip (by omega)
  refine PySem.W.near_sortedT (enc := Prod.snd) hl e1 e2 (by rw [em]; exact hal) (by rw [em]; exact hk) (by simp; omega) (fun b hb => ?_) fun out ho eo => ?_
  · have := hdep b.2 (by rw [← em]; exact List.mem_map.mpr ⟨b, hb, rfl⟩)
    omega
  · obtain ⟨ep, he'⟩ := PyProof.Rows.sortedAll_at s.heap its out.toArray
    exact ⟨.ref _, upd H (s.heap.objs.size + 1) (.lst _), I.laid (t' := s.toks) (fun _ _ => PyProof.Rows.sortedAll_old) (Nat.le_succ _) ⟨by simp; omega, out, ep, each_vals eo, he'⟩, rfl, q _ (I.hok.fresh (Nat.le_succ _))⟩
def sortedTn : OpNL := fun ds k => match ds with
  | [.tuple xs] => SrtN xs ∧ k (sortD xs)
  | _ => False
section
variable {X : Cx} {C : FC} {a : Expr} {tA : DA} {p pos : Pos} {k : Nat}
theorem o_sortedTn (hr : Room k X.A) (hm : X.mg "sorted" = none) (ha : QA X C [a] tA) (hg : Gl X "sorted" := by rfl)
    (he : starEach [a] X.env = (false, eval a X.env) :: starEach [] X.env := by rfl) (hpl : (backTo pos (starEach [] X.env)).any (·.1) = false := by rfl) : QO X C (.Call (.Name "sorted" p) [a] [] pos) (dCBL sortedTn tA) :=
  o_callB (cr_sortTn (by have := hr.un; omega)) (fun F H vs ds q Q s v w k => by
    match ds, v, w with
    | [.tuple xs], v, w =>
      obtain ⟨v, e, vv⟩ := va1 v
      obtain ⟨b, ys, e2, h, r, _⟩ := view_tup s vv
      subst e e2
      obtain ⟨hs, f⟩ := w
      have hcan : PyData.canLayAll0 xs = true := canAll_iff.mpr fun d hd => (hs.sh d hd).can
      refine ⟨b, ys, xs, rfl, h, r.dp s hcan, hs.al, hs.tu, hs.ln, fun d hd => (hs.sh d hd).dep, fun p hp => ?_⟩
      have em : (ys.zip xs).map Prod.snd = xs := List.map_snd_zip (by rw [r.length]; exact Nat.le_refl _)
      have e : ((ys.zip xs).mergeSort (PySem.W.dataLe false Prod.snd)).map Prod.snd = sortD xs := by
        have z := PySem.W.sort_maps (r := PySem.W.dataLe false (Prod.snd : V × PyData → PyData)) (s := PySem.W.dataLe false id) Prod.snd (l := ys.zip xs) (fun _ _ _ _ => rfl)
        rw [em] at z
        exact z
      refine k _ _ p f hp ?_
      rw [← e]
      exact repAll_of fun c hc => repAll_zip r c ((List.mergeSort_perm _ _).mem_iff.mp hc)) hm (by decide +kernel) ha hg (by decide) (by decide) he hpl
end
end Dv

set_option Elab.async false
set_option linter.all false
set_option maxRecDepth 100000
set_option maxHeartbeats 4000000
set_option autoImplicit false
namespace My
open PySem PySem.Spec L2 Dv
def topS (i : Nat) : Stmt := PySem.Challenge.pw_delaygates_k55_parts_put_together.main.body.getD i (.Pass ⟨0, 0, 0, 0⟩)
/-- what the module's names hold -/
structure Mg (mg : Str → Option Value) : Prop where
  b_ValueError : mg "ValueError" = none
  b_abs : mg "abs" = none
  b_int : mg "int" = none
  b_isinstance : mg "isinstance" = none
  b_len : mg "len" = none
  b_list : mg "list" = none
  b_range : mg "range" = none
  b_repr : mg "repr" = none
  b_set : mg "set" = none
  b_sorted : mg "sorted" = none
  b_tuple : mg "tuple" = none
  c_MOST_WIRES : ∃ t, mg "MOST_WIRES" = some (.int 8 t)
/-- what its classes of errors are -/
structure Cl (K : PySem.W.Frag) (mg : Str → Option Value) : Prop where
  x_NoFit : ExcAt K mg "NoFit"
  y_Clash : ClsAt K mg "Clash"
  y_DelayError : ClsAt K mg "DelayError"
  y_NoBeat : ClsAt K mg "NoBeat"
  y_NoFit : ClsAt K mg "NoFit"
  y_NoMove : ClsAt K mg "NoMove"
  y_NoName : ClsAt K mg "NoName"
  y_NoNet : ClsAt K mg "NoNet"
  y_NoPut : ClsAt K mg "NoPut"
  y_NoRow : ClsAt K mg "NoRow"
  y_NoText : ClsAt K mg "NoText"
  y_NoWire : ClsAt K mg "NoWire"
  y_NotSound : ClsAt K mg "NotSound"
section
variable {Pg : Program} {w : World} {K : PySem.W.Frag} {mg : Str → Option Value} {base : Heap}
/-! ### other_side -/
abbrev s_other_side : Stmt := topS 15
abbrev N_other_side : List Str := ["side"]
abbrev P_other_side : List Bool := [false]
theorem sc_other_side : FnScope N_other_side ["side"] (defScope s_other_side) := ⟨rfl, rfl, rfl, by decide +kernel, rfl, by decide +kernel, by decide +kernel⟩
def g_other_side : DS :=
    (dRet P_other_side (dBin ixD (dFroz (dLst P_other_side (dCons (dC (.str "ask")) (dCons (dC (.str "answer")) dNil)))) (dCB intOfD (dCons (dBin eqD (dVar 0) (dC (.str "ask"))) dNil))))
theorem d_other_side {k : Nat} {f : Addr} {cdv : Value} {A : Around} {outer : List Env} {s : Shared} {H : Hp} {E : XK} {C : FC} (T : Mg mg) (Y : Cl K mg)
    (hr : RG k (A.deeper (PyProof.Rows.envOfC "other_side" (defScope s_other_side) s.heap.objs.size f cdv))) (hP : C.Tags P_other_side) :
    QSs (cxOf CX0 Pg w K mg base N_other_side "other_side" (defScope s_other_side) f cdv A outer s H E).nox C (defBody s_other_side) (g_other_side) :=
    have nd := sc_other_side.nd
    (s_one (s_ret hP (q_idx hr.r (q_froz (o_lst hP (a_cons q_str (a_cons q_str a_nil)))) (q_intOf T.b_int (a_cons (q_eq hr.r (qv 0) q_str) a_nil)))))
theorem at_other_side {k : Nat} {S : SpD} (T : Mg mg) (Y : Cl K mg) (FA : FunAt K mg "other_side" s_other_side ["side"])
    (pure : ∀ ds q, S ds q → ds.length = P_other_side.length → g_other_side (endsOf P_other_side q) (startE N_other_side.length P_other_side ds)) : FnAt Pg w K mg base (k + 1) "other_side" ["side"] P_other_side S :=
    fn_at FA sc_other_side rfl (by decide) (fun f cdv A outer s H E C hr hP => d_other_side T Y hr hP) pure
/-! ### mirrored -/
abbrev s_mirrored : Stmt := topS 16
abbrev N_mirrored : List Str := ["sheet", "wires", "turns", "spots", "name", "side", "value"]
abbrev P_mirrored : List Bool := [false]
theorem sc_mirrored : FnScope N_mirrored ["sheet"] (defScope s_mirrored) := ⟨rfl, rfl, rfl, by decide +kernel, rfl, by decide +kernel, by decide +kernel⟩
def g_mirrored_L2 (S_other_side : SpD) : DS :=
    (dRet P_mirrored (dTup P_mirrored (dCons (dCB tupleSD (dCons (dFroz (dLc P_mirrored (dSeqI P_mirrored (dVar 1)) (gTup' 3 (gNs' [4, 5, 6])) dYes (dTup P_mirrored (dCons (dVar 4) (dCons (dCall P_mirrored [false] S_other_side (dCons (dVar 5) dNil)) (dCons (dVar 6) dNil)))) [4, 5, 6])) dNil)) (dCons (dVar 2) (dCons (dVar 3) dNil)))))
def g_mirrored (S_other_side : SpD) : DS :=
    (dSeq (dAsg P_mirrored (dVar 0) (gTup' 3 (gCons' (gN 1) (gCons' (gN 2) (gCons' (gN 3) gNil')))))
    (g_mirrored_L2 S_other_side))
theorem d_mirrored {S_other_side : SpD} {k : Nat} {f : Addr} {cdv : Value} {A : Around} {outer : List Env} {s : Shared} {H : Hp} {E : XK} {C : FC} (T : Mg mg) (Y : Cl K mg) (h_other_side : FnAt Pg w K mg base k "other_side" ["side"] [false] S_other_side)
    (hr : RG k (A.deeper (PyProof.Rows.envOfC "mirrored" (defScope s_mirrored) s.heap.objs.size f cdv))) (hP : C.Tags P_mirrored) :
    QSs (cxOf CX0 Pg w K mg base N_mirrored "mirrored" (defScope s_mirrored) f cdv A outer s H E).nox C (defBody s_mirrored) (g_mirrored S_other_side) :=
    have nd := sc_mirrored.nd
    (s_cons (s_asg hP (qv 0) (g_tup rfl (gs_cons (g_name (i := 1) hP nd) (gs_cons (g_name (i := 2) hP nd) (gs_cons (g_name (i := 3) hP nd) gs_nil)))))
    (s_one (s_ret hP (q_tup hP (a_cons (q_tupleS rfl T.b_tuple (a_cons (q_froz (o_lc (own := [("name", 4), ("side", 5), ("value", 6)]) hP rfl nd (i_seq hP (qv 1)) (blkOk_by (own := [("name", 4), ("side", 5), ("value", 6)]) (N := N_mirrored) (sc := defScope s_mirrored) (by decide +kernel)) (fun _ _ _ _ _ => pg_tup rfl (pgs_cons (pg_name (i := 4) nd rfl (Or.inl rfl)) (pgs_cons (pg_name (i := 5) nd rfl (Or.inl rfl)) (pgs_cons (pg_name (i := 6) nd rfl (Or.inl rfl)) pgs_nil)))) (tgt_tup (is := [4, 5, 6]) (by decide)) (fun _ _ _ _ _ _ _ => ts_nil) (fun _ _ _ _ _ _ hP => (q_tup hP (a_cons (qv 4) (a_cons (q_callF hP h_other_side hr (a_cons (qv 5) a_nil)) (a_cons (qv 6) a_nil))))))) a_nil)) (a_cons (qv 2) (a_cons (qv 3) a_nil)))))))
theorem at_mirrored {S_other_side : SpD} {k : Nat} {S : SpD} (T : Mg mg) (Y : Cl K mg) (FA : FunAt K mg "mirrored" s_mirrored ["sheet"]) (h_other_side : FnAt Pg w K mg base k "other_side" ["side"] [false] S_other_side)
    (pure : ∀ ds q, S ds q → ds.length = P_mirrored.length → g_mirrored S_other_side (endsOf P_mirrored q) (startE N_mirrored.length P_mirrored ds)) : FnAt Pg w K mg base (k + 1) "mirrored" ["sheet"] P_mirrored S :=
    fn_at FA sc_mirrored rfl (by decide) (fun f cdv A outer s H E C hr hP => d_mirrored T Y h_other_side hr hP) pure
/-! ### closed -/
abbrev s_closed : Stmt := topS 17
abbrev N_closed : List Str := ["sheet", "wires", "turns", "spots", "name", "side", "value"]
abbrev P_closed : List Bool := [false]
theorem sc_closed : FnScope N_closed ["sheet"] (defScope s_closed) := ⟨rfl, rfl, rfl, by decide +kernel, rfl, by decide +kernel, by decide +kernel⟩
def g_closed_L2 : DS :=
    (dRet P_closed (dTup P_closed (dCons (dCB tupleSD (dCons (dFroz (dLc P_closed (dSeqI P_closed (dVar 1)) (gTup' 3 (gNs' [4, 5, 6])) dYes (dTup P_closed (dCons (dVar 4) (dCons (dC (.str "answer")) (dCons (dVar 6) dNil)))) [4, 5, 6])) dNil)) (dCons (dVar 2) (dCons (dVar 3) dNil)))))
def g_closed : DS :=
    (dSeq (dAsg P_closed (dVar 0) (gTup' 3 (gCons' (gN 1) (gCons' (gN 2) (gCons' (gN 3) gNil')))))
    (g_closed_L2))
theorem d_closed {k : Nat} {f : Addr} {cdv : Value} {A : Around} {outer : List Env} {s : Shared} {H : Hp} {E : XK} {C : FC} (T : Mg mg) (Y : Cl K mg)
    (hr : RG k (A.deeper (PyProof.Rows.envOfC "closed" (defScope s_closed) s.heap.objs.size f cdv))) (hP : C.Tags P_closed) :
    QSs (cxOf CX0 Pg w K mg base N_closed "closed" (defScope s_closed) f cdv A outer s H E).nox C (defBody s_closed) (g_closed) :=
    have nd := sc_closed.nd
    (s_cons (s_asg hP (qv 0) (g_tup rfl (gs_cons (g_name (i := 1) hP nd) (gs_cons (g_name (i := 2) hP nd) (gs_cons (g_name (i := 3) hP nd) gs_nil)))))
    (s_one (s_ret hP (q_tup hP (a_cons (q_tupleS rfl T.b_tuple (a_cons (q_froz (o_lc (own := [("name", 4), ("side", 5), ("value", 6)]) hP rfl nd (i_seq hP (qv 1)) (blkOk_by (own := [("name", 4), ("side", 5), ("value", 6)]) (N := N_closed) (sc := defScope s_closed) (by decide +kernel)) (fun _ _ _ _ _ => pg_tup rfl (pgs_cons (pg_name (i := 4) nd rfl (Or.inl rfl)) (pgs_cons (pg_name (i := 5) nd rfl (Or.inl rfl)) (pgs_cons (pg_name (i := 6) nd rfl (Or.inl rfl)) pgs_nil)))) (tgt_tup (is := [4, 5, 6]) (by decide)) (fun _ _ _ _ _ _ _ => ts_nil) (fun _ _ _ _ _ _ hP => (q_tup hP (a_cons (qv 4) (a_cons q_str (a_cons (qv 6) a_nil))))))) a_nil)) (a_cons (qv 2) (a_cons (qv 3) a_nil)))))))
theorem at_closed {k : Nat} {S : SpD} (T : Mg mg) (Y : Cl K mg) (FA : FunAt K mg "closed" s_closed ["sheet"])
    (pure : ∀ ds q, S ds q → ds.length = P_closed.length → g_closed (endsOf P_closed q) (startE N_closed.length P_closed ds)) : FnAt Pg w K mg base (k + 1) "closed" ["sheet"] P_closed S :=
    fn_at FA sc_closed rfl (by decide) (fun f cdv A outer s H E C hr hP => d_closed T Y hr hP) pure
/-! ### names_of -/
abbrev s_names_of : Stmt := topS 18
abbrev N_names_of : List Str := ["gates", "gate"]
abbrev P_names_of : List Bool := [false]
theorem sc_names_of : FnScope N_names_of ["gates"] (defScope s_names_of) := ⟨rfl, rfl, rfl, by decide +kernel, rfl, by decide +kernel, by decide +kernel⟩
def g_names_of : DS :=
    (dRet P_names_of (dFroz (dLc P_names_of (dSeqI P_names_of (dVar 0)) (gN 1) dYes (dBin ixD (dVar 1) (dC (.int 0))) [1])))
theorem d_names_of {k : Nat} {f : Addr} {cdv : Value} {A : Around} {outer : List Env} {s : Shared} {H : Hp} {E : XK} {C : FC} (T : Mg mg) (Y : Cl K mg)
    (hr : RG k (A.deeper (PyProof.Rows.envOfC "names_of" (defScope s_names_of) s.heap.objs.size f cdv))) (hP : C.Tags P_names_of) :
    QSs (cxOf CX0 Pg w K mg base N_names_of "names_of" (defScope s_names_of) f cdv A outer s H E).nox C (defBody s_names_of) (g_names_of) :=
    have nd := sc_names_of.nd
    (s_one (s_ret hP (q_froz (o_lc (own := [("gate", 1)]) hP rfl nd (i_seq hP (qv 0)) (blkOk_by (own := [("gate", 1)]) (N := N_names_of) (sc := defScope s_names_of) (by decide +kernel)) (fun _ _ _ _ _ => pg_name (i := 1) nd rfl (Or.inl rfl)) (tgt_name (i := 1) (by decide) (by decide)) (fun _ _ _ _ _ _ _ => ts_nil) (fun _ _ _ _ _ _ hP => (q_idx hr.r (qv 1) q_int))))))
theorem at_names_of {k : Nat} {S : SpD} (T : Mg mg) (Y : Cl K mg) (FA : FunAt K mg "names_of" s_names_of ["gates"])
    (pure : ∀ ds q, S ds q → ds.length = P_names_of.length → g_names_of (endsOf P_names_of q) (startE N_names_of.length P_names_of ds)) : FnAt Pg w K mg base (k + 1) "names_of" ["gates"] P_names_of S :=
    fn_at FA sc_names_of rfl (by decide) (fun f cdv A outer s H E C hr hP => d_names_of T Y hr hP) pure
/-! ### look_at_outside -/
abbrev s_look_at_outside : Stmt := topS 19
abbrev N_look_at_outside : List Str := ["outside", "gates", "name"]
abbrev P_look_at_outside : List Bool := [false, false]
theorem sc_look_at_outside : FnScope N_look_at_outside ["outside", "gates"] (defScope s_look_at_outside) := ⟨rfl, rfl, rfl, by decide +kernel, rfl, by decide +kernel, by decide +kernel⟩
def g_look_at_outside_L2 (S_names_of : SpD) (Ex : XEnds) : DS :=
    (dIf (dTest (dBin (inD false) (dVar 2) (dCall P_look_at_outside [false] S_names_of (dCons (dVar 1) dNil))))
        (dRaise Ex "NoFit")
        dNext)
def g_look_at_outside (S_names_of : SpD) (Ex : XEnds) : DS :=
    (dFor (dSeqI P_look_at_outside (dVar 0)) (gN 2)
      (g_look_at_outside_L2 S_names_of Ex))
theorem d_look_at_outside {S_names_of : SpD} {k : Nat} {f : Addr} {cdv : Value} {A : Around} {outer : List Env} {s : Shared} {H : Hp} {E : XK} {C : FC} (T : Mg mg) (Y : Cl K mg) (h_names_of : FnAt Pg w K mg base k "names_of" ["gates"] [false] S_names_of)
    (hr : RG k (A.deeper (PyProof.Rows.envOfC "look_at_outside" (defScope s_look_at_outside) s.heap.objs.size f cdv))) (hP : C.Tags P_look_at_outside) {Ex : XEnds} (tk : Takes (cxOf (L2.CX Pg w) Pg w K mg base N_look_at_outside "look_at_outside" (defScope s_look_at_outside) f cdv A outer s H E) (wX K C Ex)) :
    QSs (cxOf (L2.CX Pg w) Pg w K mg base N_look_at_outside "look_at_outside" (defScope s_look_at_outside) f cdv A outer s H E) C (defBody s_look_at_outside) (g_look_at_outside S_names_of Ex) :=
    have nd := sc_look_at_outside.nd
    (s_one (s_for po_cx rfl (i_seq hP (qv 0)) (g_name (i := 2) hP nd)
      (s_one (s_if (t_notin (qv 2) (q_callF hP h_names_of hr (a_cons (qv 1) a_nil)))
        (s_one (s_raise rfl tk Y.x_NoFit))
        s_nil))))
theorem at_look_at_outside {S_names_of : SpD} {k : Nat} {S : SpX} (T : Mg mg) (Y : Cl K mg) (FA : FunAt K mg "look_at_outside" s_look_at_outside ["outside", "gates"]) (h_names_of : FnAt Pg w K mg base k "names_of" ["gates"] [false] S_names_of)
    (pure : ∀ ds q x, S ds q x → ds.length = P_look_at_outside.length → g_look_at_outside S_names_of (fun n es _ => x n es) (endsOf P_look_at_outside q) (startE N_look_at_outside.length P_look_at_outside ds)) : FnAtX Pg w K mg base (k + 1) "look_at_outside" ["outside", "gates"] P_look_at_outside S :=
    fnX_at FA sc_look_at_outside rfl (by decide) (by decide) (fun f cdv A outer s H E C Ex hr hP tk => d_look_at_outside T Y h_names_of hr hP tk) pure
/-! ### joined -/
abbrev s_joined : Stmt := topS 20
abbrev N_joined : List Str := ["one", "other", "gates"]
abbrev P_joined : List Bool := [false, false]
theorem sc_joined : FnScope N_joined ["one", "other"] (defScope s_joined) := ⟨rfl, rfl, rfl, by decide +kernel, rfl, by decide +kernel, by decide +kernel⟩
def g_joined_L6 (S_names_of : SpD) (S_look_at_outside : SpX) (Ex : XEnds) : DS :=
    (dRet P_joined (dTup P_joined (dCons (dTup P_joined dNil) (dCons (dCB tupleSD (dCons (dFroz (dCBL sortedTn (dCons (dVar 2) dNil))) dNil)) dNil))))
def g_joined_L5 (S_names_of : SpD) (S_look_at_outside : SpX) (Ex : XEnds) : DS :=
    (dSeq (dDrop (dCallX Ex P_joined [false, false] S_look_at_outside (dCons (dBin ixD (dVar 1) (dC (.int 0))) (dCons (dBin ixD (dVar 0) (dC (.int 1))) dNil))))
    (g_joined_L6 S_names_of S_look_at_outside Ex))
def g_joined_L4 (S_names_of : SpD) (S_look_at_outside : SpX) (Ex : XEnds) : DS :=
    (dSeq (dDrop (dCallX Ex P_joined [false, false] S_look_at_outside (dCons (dBin ixD (dVar 0) (dC (.int 0))) (dCons (dBin ixD (dVar 1) (dC (.int 1))) dNil))))
    (g_joined_L5 S_names_of S_look_at_outside Ex))
def g_joined_L2 (S_names_of : SpD) (S_look_at_outside : SpX) (Ex : XEnds) : DS :=
    (dSeq (dIf (dOr (dTest (dBin ltD (dCB lenSetD (dCons (dCall P_joined [false] S_names_of (dCons (dVar 2) dNil)) dNil)) (dCB lenD (dCons (dVar 2) dNil)))) (dTest (dBin gtD (dCB lenD (dCons (dVar 2) dNil)) (dC (.int 8)))))
      (dRaise Ex "NoFit")
      dNext)
    (g_joined_L4 S_names_of S_look_at_outside Ex))
def g_joined (S_names_of : SpD) (S_look_at_outside : SpX) (Ex : XEnds) : DS :=
    (dSeq (dSet P_joined 2 (dBin addAD (dBin ixD (dVar 0) (dC (.int 1))) (dBin ixD (dVar 1) (dC (.int 1)))))
    (g_joined_L2 S_names_of S_look_at_outside Ex))
theorem d_joined {S_names_of : SpD} {S_look_at_outside : SpX} {k : Nat} {f : Addr} {cdv : Value} {A : Around} {outer : List Env} {s : Shared} {H : Hp} {E : XK} {C : FC} (T : Mg mg) (Y : Cl K mg) (h_names_of : FnAt Pg w K mg base k "names_of" ["gates"] [false] S_names_of) (h_look_at_outside : FnAtX Pg w K mg base k "look_at_outside" ["outside", "gates"] [false, false] S_look_at_outside)
    (hr : RG k (A.deeper (PyProof.Rows.envOfC "joined" (defScope s_joined) s.heap.objs.size f cdv))) (hP : C.Tags P_joined) {Ex : XEnds} (tk : Takes (cxOf (L2.CX Pg w) Pg w K mg base N_joined "joined" (defScope s_joined) f cdv A outer s H E) (wX K C Ex)) :
    QSs (cxOf (L2.CX Pg w) Pg w K mg base N_joined "joined" (defScope s_joined) f cdv A outer s H E) C (defBody s_joined) (g_joined S_names_of S_look_at_outside Ex) :=
    have nd := sc_joined.nd
    (s_cons (s_set (i := 2) hP nd (q_addA (q_idx hr.r (qv 0) q_int) (q_idx hr.r (qv 1) q_int)))
    (s_cons (s_if (t_w (w_or (t_lt (q_lenSet rfl T.b_len T.b_set (a_cons (q_callF hP h_names_of hr (a_cons (qv 2) a_nil)) a_nil)) (q_len T.b_len (a_cons (qv 2) a_nil))) (w_or1 (t_gt (q_len T.b_len (a_cons (qv 2) a_nil)) (q_gint' T.c_MOST_WIRES)))))
      (s_one (s_raise rfl tk Y.x_NoFit))
      s_nil)
    (s_cons (s_expr (q_callXF hP tk h_look_at_outside hr (a_cons (q_idx hr.r (qv 0) q_int) (a_cons (q_idx hr.r (qv 1) q_int) a_nil))))
    (s_cons (s_expr (q_callXF hP tk h_look_at_outside hr (a_cons (q_idx hr.r (qv 1) q_int) (a_cons (q_idx hr.r (qv 0) q_int) a_nil))))
    (s_one (s_ret hP (q_tup hP (a_cons (q_tup hP a_nil) (a_cons (q_tupleS rfl T.b_tuple (a_cons (q_froz (o_sortedTn hr.r T.b_sorted (a_cons (qv 2) a_nil))) a_nil)) a_nil)))))))))
theorem at_joined {S_names_of : SpD} {S_look_at_outside : SpX} {k : Nat} {S : SpX} (T : Mg mg) (Y : Cl K mg) (FA : FunAt K mg "joined" s_joined ["one", "other"]) (h_names_of : FnAt Pg w K mg base k "names_of" ["gates"] [false] S_names_of) (h_look_at_outside : FnAtX Pg w K mg base k "look_at_outside" ["outside", "gates"] [false, false] S_look_at_outside)
    (pure : ∀ ds q x, S ds q x → ds.length = P_joined.length → g_joined S_names_of S_look_at_outside (fun n es _ => x n es) (endsOf P_joined q) (startE N_joined.length P_joined ds)) : FnAtX Pg w K mg base (k + 1) "joined" ["one", "other"] P_joined S :=
    fnX_at FA sc_joined rfl (by decide) (by decide) (fun f cdv A outer s H E C Ex hr hP tk => d_joined T Y h_names_of h_look_at_outside hr hP tk) pure
/-! ### _law_pen -/
abbrev s__law_pen : Stmt := topS 22
abbrev N__law_pen : List Str := ["_law_script"]
abbrev P__law_pen : List Bool := [false]
theorem sc__law_pen : FnScope N__law_pen ["_law_script"] (defScope s__law_pen) := ⟨rfl, rfl, rfl, by decide +kernel, rfl, by decide +kernel, by decide +kernel⟩
def g__law_pen : DS :=
    (dRetO (dLst P__law_pen (dCons (dFroz (dCBL listSD (dCons (dSlA (dVar 0) dNoP (dPart (dC (.int 63)))) dNil))) (dCons (dC (.int 0)) (dCons (dC (.int 0)) dNil)))))
theorem d__law_pen {k : Nat} {f : Addr} {cdv : Value} {A : Around} {outer : List Env} {s : Shared} {H : Hp} {E : XK} {C : FC} (T : Mg mg) (Y : Cl K mg)
    (hr : RG k (A.deeper (PyProof.Rows.envOfC "_law_pen" (defScope s__law_pen) s.heap.objs.size f cdv))) (hP : C.Tags P__law_pen) :
    QSs (cxOf CX0 Pg w K mg base N__law_pen "_law_pen" (defScope s__law_pen) f cdv A outer s H E).nox C (defBody s__law_pen) (g__law_pen) :=
    have nd := sc__law_pen.nd
    (s_one (s_retO (o_lst hP (a_cons (q_froz (o_listS rfl T.b_list (a_cons (q_sliceA (qv 0) p_none (p_some q_int)) a_nil))) (a_cons q_int (a_cons q_int a_nil))))))
theorem at__law_pen {k : Nat} {S : SpD} (T : Mg mg) (Y : Cl K mg) (FA : FunAt K mg "_law_pen" s__law_pen ["_law_script"])
    (pure : ∀ ds q, S ds q → ds.length = P__law_pen.length → g__law_pen (endsOf P__law_pen q) (startE N__law_pen.length P__law_pen ds)) : FnAt Pg w K mg base (k + 1) "_law_pen" ["_law_script"] P__law_pen S :=
    fn_at FA sc__law_pen rfl (by decide) (fun f cdv A outer s H E C hr hP => d__law_pen T Y hr hP) pure
/-! ### _law_draw -/
abbrev s__law_draw : Stmt := topS 23
abbrev N__law_draw : List Str := ["_law_pen_here", "_law_many", "_law_at", "_law_cell", "_law_mixed", "_law_digit"]
abbrev P__law_draw : List Bool := [true, false]
theorem sc__law_draw : FnScope N__law_draw ["_law_pen_here", "_law_many"] (defScope s__law_draw) := ⟨rfl, rfl, rfl, by decide +kernel, rfl, by decide +kernel, by decide +kernel⟩
def g__law_draw_L4 : DS :=
    (dRet P__law_draw (dVar 5))
def g__law_draw_L3 : DS :=
    (dSeq (dSetIx P__law_draw 0 setD (dBin fdivD (dBin ixD (dVar 0) (dC (.int 2))) (dVar 1)) (dC (.int 2)))
      (g__law_draw_L4))
def g__law_draw_L12 : DS :=
    (dRet P__law_draw (dBin modD (dCB absD (dCons (dVar 3) dNil)) (dVar 1)))
def g__law_draw_L14 : DS :=
    (dRet P__law_draw (dBin modD (dBin fdivD (dBin modD (dBin mulAD (dVar 4) (dBin addAD (dBin addAD (dBin modD (dVar 4) (dC (.int 65519))) (dVar 2)) (dC (.int 3)))) (dC (.int 2147483587))) (dC (.int 64))) (dVar 1)))
def g__law_draw_L13 : DS :=
    (dSeq (dSet P__law_draw 4 (dBin modD (dBin powD (dBin addAD (dBin addAD (dBin modD (dVar 3) (dC (.int 2147483629))) (dBin mulAD (dC (.int 50021)) (dVar 2))) (dC (.int 307))) (dC (.int 3))) (dC (.int 2147483647))))
    (g__law_draw_L14))
def g__law_draw_L10 : DS :=
    (dSeq (dIf (dAnd (dTest (dBin ltD (dVar 2) (dCB lenD (dCons (dBin ixD (dVar 0) (dC (.int 0))) dNil)))) (dTest (dBin geD (dCB absD (dCons (dVar 3) dNil)) (dBin powD (dC (.int 10)) (dC (.int 18))))))
      (dSeq (dSetIx P__law_draw 0 setD (dBin fdivD (dCB absD (dCons (dVar 3) dNil)) (dVar 1)) (dC (.int 2)))
      (g__law_draw_L12))
      dNext)
    (g__law_draw_L13))
def g__law_draw_L8 : DS :=
    (dSeq (dIf (dTest (dBin gtD (dCB lenD (dCons (dBin ixD (dVar 0) (dC (.int 0))) dNil)) (dC (.int 0))))
      (dSet P__law_draw 3 (dBin ixD (dBin ixD (dVar 0) (dC (.int 0))) (dBin modD (dVar 2) (dCB lenD (dCons (dBin ixD (dVar 0) (dC (.int 0))) dNil)))))
      dNext)
    (g__law_draw_L10))
def g__law_draw_L7 : DS :=
    (dSeq (dSet P__law_draw 3 (dBin addAD (dBin mulAD (dC (.int 29)) (dVar 2)) (dC (.int 13))))
    (g__law_draw_L8))
def g__law_draw_L6 : DS :=
    (dSeq (dSetIx P__law_draw 0 setD (dBin addAD (dVar 2) (dC (.int 1))) (dC (.int 1)))
    (g__law_draw_L7))
def g__law_draw_L5 : DS :=
    (dSeq (dSet P__law_draw 2 (dBin ixD (dVar 0) (dC (.int 1))))
    (g__law_draw_L6))
def g__law_draw : DS :=
    (dSeq (dIf (dTest (dBin gtD (dBin ixD (dVar 0) (dC (.int 2))) (dC (.int 0))))
      (dSeq (dSet P__law_draw 5 (dBin modD (dBin ixD (dVar 0) (dC (.int 2))) (dVar 1)))
      (g__law_draw_L3))
      dNext)
    (g__law_draw_L5))
theorem d__law_draw {k : Nat} {f : Addr} {cdv : Value} {A : Around} {outer : List Env} {s : Shared} {H : Hp} {E : XK} {C : FC} (T : Mg mg) (Y : Cl K mg)
    (hr : RG k (A.deeper (PyProof.Rows.envOfC "_law_draw" (defScope s__law_draw) s.heap.objs.size f cdv))) (hP : C.Tags P__law_draw) :
    QSs (cxOf CX0 Pg w K mg base N__law_draw "_law_draw" (defScope s__law_draw) f cdv A outer s H E).nox C (defBody s__law_draw) (g__law_draw) :=
    have nd := sc__law_draw.nd
    (s_cons (s_if (t_gt (q_idx hr.r (qv 0) q_int) q_int)
      (s_cons (s_set (i := 5) hP nd (q_mod (q_idx hr.r (qv 0) q_int) (qv 1)))
      (s_cons (s_put (i := 0) hP hr.r (q_fdiv (q_idx hr.r (qv 0) q_int) (qv 1)) q_int)
      (s_one (s_ret hP (qv 5)))))
      s_nil)
    (s_cons (s_set (i := 2) hP nd (q_idx hr.r (qv 0) q_int))
    (s_cons (s_put (i := 0) hP hr.r (q_addA (qv 2) q_int) q_int)
    (s_cons (s_set (i := 3) hP nd (q_addA (q_mulA q_int (qv 2)) q_int))
    (s_cons (s_if (t_gt (q_len T.b_len (a_cons (q_idx hr.r (qv 0) q_int) a_nil)) q_int)
      (s_one (s_set (i := 3) hP nd (q_idx hr.r (q_idx hr.r (qv 0) q_int) (q_mod (qv 2) (q_len T.b_len (a_cons (q_idx hr.r (qv 0) q_int) a_nil))))))
      s_nil)
    (s_cons (s_if (t_w (w_and (t_lt (qv 2) (q_len T.b_len (a_cons (q_idx hr.r (qv 0) q_int) a_nil))) (w_and1 (t_ge (q_abs T.b_abs (a_cons (qv 3) a_nil)) (q_pow q_int q_int)))))
      (s_cons (s_put (i := 0) hP hr.r (q_fdiv (q_abs T.b_abs (a_cons (qv 3) a_nil)) (qv 1)) q_int)
      (s_one (s_ret hP (q_mod (q_abs T.b_abs (a_cons (qv 3) a_nil)) (qv 1)))))
      s_nil)
    (s_cons (s_set (i := 4) hP nd (q_mod (q_pow (q_addA (q_addA (q_mod (qv 3) q_int) (q_mulA q_int (qv 2))) q_int) q_int) q_int))
    (s_one (s_ret hP (q_mod (q_fdiv (q_mod (q_mulA (qv 4) (q_addA (q_addA (q_mod (qv 4) q_int) (qv 2)) q_int)) q_int) q_int) (qv 1)))))))))))
theorem at__law_draw {k : Nat} {S : SpD} (T : Mg mg) (Y : Cl K mg) (FA : FunAt K mg "_law_draw" s__law_draw ["_law_pen_here", "_law_many"])
    (pure : ∀ ds q, S ds q → ds.length = P__law_draw.length → g__law_draw (endsOf P__law_draw q) (startE N__law_draw.length P__law_draw ds)) : FnAt Pg w K mg base (k + 1) "_law_draw" ["_law_pen_here", "_law_many"] P__law_draw S :=
    fn_at FA sc__law_draw rfl (by decide) (fun f cdv A outer s H E C hr hP => d__law_draw T Y hr hP) pure
/-! ### _law_names -/
abbrev s__law_names : Stmt := topS 24
abbrev N__law_names : List Str := ["_law_pen_here", "_law_many", "_law_letters", "_law_turn", "_law_found", "_law_k", "_law_size", "_law_stem", "_law_j"]
abbrev P__law_names : List Bool := [true, false]
theorem sc__law_names : FnScope N__law_names ["_law_pen_here", "_law_many"] (defScope s__law_names) := ⟨rfl, rfl, rfl, by decide +kernel, rfl, by decide +kernel, by decide +kernel⟩
def g__law_names_L7 (S__law_draw : SpD) : DS :=
    (dDrop (dMut P__law_names "list" 4 appendD (dCons (dBin addAD (dVar 7) (dBin ixD (dVar 2) (dBin modD (dBin addAD (dVar 3) (dVar 5)) (dC (.int 26))))) dNil)))
def g__law_names_L6 (S__law_draw : SpD) : DS :=
    (dSeq (dSet P__law_names 7 (dBM "str" joinD (dC (.str "")) (dCons (dFroz (dLc P__law_names (dRng1 (dCons (dVar 6) dNil)) (gN 8) dYes (dBin ixD (dVar 2) (dCall P__law_names [true, false] S__law_draw (dCons (dVar 0) (dCons (dC (.int 26)) dNil)))) [8])) dNil)))
      (g__law_names_L7 S__law_draw))
def g__law_names_L5 (S__law_draw : SpD) : DS :=
    (dSeq (dSet P__law_names 6 (dCall P__law_names [true, false] S__law_draw (dCons (dVar 0) (dCons (dBin ixD (dFroz (dLst P__law_names (dCons (dC (.int 1)) (dCons (dC (.int 3)) (dCons (dC (.int 8)) dNil))))) (dCall P__law_names [true, false] S__law_draw (dCons (dVar 0) (dCons (dC (.int 3)) dNil)))) dNil))))
      (g__law_names_L6 S__law_draw))
def g__law_names_L8 (S__law_draw : SpD) : DS :=
    (dRet P__law_names (dVar 4))
def g__law_names_L4 (S__law_draw : SpD) : DS :=
    (dSeq (dFor (dRng1 (dCons (dVar 1) dNil)) (gN 5)
      (g__law_names_L5 S__law_draw))
    (g__law_names_L8 S__law_draw))
def g__law_names_L3 (S__law_draw : SpD) : DS :=
    (dSeq (dSetO 4 (dLst P__law_names dNil))
    (g__law_names_L4 S__law_draw))
def g__law_names_L2 (S__law_draw : SpD) : DS :=
    (dSeq (dSet P__law_names 3 (dCall P__law_names [true, false] S__law_draw (dCons (dVar 0) (dCons (dC (.int 26)) dNil))))
    (g__law_names_L3 S__law_draw))
def g__law_names (S__law_draw : SpD) : DS :=
    (dSeq (dSet P__law_names 2 (dC (.str "abcdefghijklmnopqrstuvwxyz")))
    (g__law_names_L2 S__law_draw))
theorem d__law_names {S__law_draw : SpD} {k : Nat} {f : Addr} {cdv : Value} {A : Around} {outer : List Env} {s : Shared} {H : Hp} {E : XK} {C : FC} (T : Mg mg) (Y : Cl K mg) (h__law_draw : FnAt Pg w K mg base k "_law_draw" ["_law_pen_here", "_law_many"] [true, false] S__law_draw)
    (hr : RG k (A.deeper (PyProof.Rows.envOfC "_law_names" (defScope s__law_names) s.heap.objs.size f cdv))) (hP : C.Tags P__law_names) :
    QSs (cxOf CX0 Pg w K mg base N__law_names "_law_names" (defScope s__law_names) f cdv A outer s H E).nox C (defBody s__law_names) (g__law_names S__law_draw) :=
    have nd := sc__law_names.nd
    (s_cons (s_set (i := 2) hP nd q_str)
    (s_cons (s_set (i := 3) hP nd (q_callF hP h__law_draw hr (a_cons (qv 0) (a_cons q_int a_nil))))
    (s_cons (s_setO (i := 4) hP nd (o_lst hP a_nil))
    (s_cons (s_for PassesOwn.never rfl (i_range1 T.b_range (a_cons (qv 1) a_nil)) (g_name (i := 5) hP nd)
      (s_cons (s_set (i := 6) hP nd (q_callF hP h__law_draw hr (a_cons (qv 0) (a_cons (q_idx hr.r (q_froz (o_lst hP (a_cons q_int (a_cons q_int (a_cons q_int a_nil))))) (q_callF hP h__law_draw hr (a_cons (qv 0) (a_cons q_int a_nil)))) a_nil))))
      (s_cons (s_set (i := 7) hP nd (q_join q_str (a_cons (q_froz (o_lc (own := [("_law_j", 8)]) hP rfl nd (i_range1 T.b_range (a_cons (qv 6) a_nil)) (blkOk_by (own := [("_law_j", 8)]) (N := N__law_names) (sc := defScope s__law_names) (by decide +kernel)) (fun _ _ _ _ _ => pg_name (i := 8) nd rfl (Or.inl rfl)) (tgt_name (i := 8) (by decide) (by decide)) (fun _ _ _ _ _ _ _ => ts_nil) (fun _ _ _ _ _ _ hP => (q_idx hr.r (qv 2) (q_callF hP h__law_draw hr (a_cons (qv 0) (a_cons q_int a_nil))))))) a_nil)))
      (s_one (s_expr (m_append (i := 4) hP (a_cons (q_addA (qv 7) (q_idx hr.r (qv 2) (q_mod (q_addA (qv 3) (qv 5)) q_int))) a_nil)))))))
    (s_one (s_ret hP (qv 4)))))))
theorem at__law_names {S__law_draw : SpD} {k : Nat} {S : SpD} (T : Mg mg) (Y : Cl K mg) (FA : FunAt K mg "_law_names" s__law_names ["_law_pen_here", "_law_many"]) (h__law_draw : FnAt Pg w K mg base k "_law_draw" ["_law_pen_here", "_law_many"] [true, false] S__law_draw)
    (pure : ∀ ds q, S ds q → ds.length = P__law_names.length → g__law_names S__law_draw (endsOf P__law_names q) (startE N__law_names.length P__law_names ds)) : FnAt Pg w K mg base (k + 1) "_law_names" ["_law_pen_here", "_law_many"] P__law_names S :=
    fn_at FA sc__law_names rfl (by decide) (fun f cdv A outer s H E C hr hP => d__law_names T Y h__law_draw hr hP) pure
/-! ### _law_rule -/
abbrev s__law_rule : Stmt := topS 25
abbrev N__law_rule : List Str := ["_law_pen_here", "_law_names_here", "_law_room", "_law_way", "_law_many", "_law_k"]
abbrev P__law_rule : List Bool := [true, false, false]
theorem sc__law_rule : FnScope N__law_rule ["_law_pen_here", "_law_names_here", "_law_room"] (defScope s__law_rule) := ⟨rfl, rfl, rfl, by decide +kernel, rfl, by decide +kernel, by decide +kernel⟩
def g__law_rule_L9 (S__law_draw : SpD) (S__law_rule : SpD) : DS :=
    (dRet P__law_rule (dTup P__law_rule (dCons (dBin ixD (dFroz (dLst P__law_rule (dCons (dC (.str "all")) (dCons (dC (.str "some")) dNil)))) (dBin modD (dVar 3) (dC (.int 2)))) (dCons (dCB tupleSD (dCons (dFroz (dLc P__law_rule (dRng1 (dCons (dVar 4) dNil)) (gN 5) dYes (dCall P__law_rule [true, false, false] S__law_rule (dCons (dVar 0) (dCons (dVar 1) (dCons (dBin subD (dVar 2) (dC (.int 1))) dNil)))) [5])) dNil)) dNil))))
def g__law_rule_L8 (S__law_draw : SpD) (S__law_rule : SpD) : DS :=
    (dSeq (dSet P__law_rule 4 (dCall P__law_rule [true, false] S__law_draw (dCons (dVar 0) (dCons (dC (.int 4)) dNil))))
    (g__law_rule_L9 S__law_draw S__law_rule))
def g__law_rule_L6 (S__law_draw : SpD) (S__law_rule : SpD) : DS :=
    (dSeq (dIf (dTest (dBin eqD (dVar 3) (dC (.int 3))))
      (dRet P__law_rule (dTup P__law_rule (dCons (dC (.str "not")) (dCons (dCall P__law_rule [true, false, false] S__law_rule (dCons (dVar 0) (dCons (dVar 1) (dCons (dBin subD (dVar 2) (dC (.int 1))) dNil)))) dNil))))
      dNext)
    (g__law_rule_L8 S__law_draw S__law_rule))
def g__law_rule_L4 (S__law_draw : SpD) (S__law_rule : SpD) : DS :=
    (dSeq (dIf (dOr (dTest (dBin eqD (dVar 2) (dC (.int 1)))) (dTest (dBin ltD (dVar 3) (dC (.int 3)))))
      (dRet P__law_rule (dTup P__law_rule (dCons (dC (.str "is")) (dCons (dBin ixD (dVar 1) (dCall P__law_rule [true, false] S__law_draw (dCons (dVar 0) (dCons (dCB lenD (dCons (dVar 1) dNil)) dNil)))) (dCons (dCall P__law_rule [true, false] S__law_draw (dCons (dVar 0) (dCons (dC (.int 2)) dNil))) dNil)))))
      dNext)
    (g__law_rule_L6 S__law_draw S__law_rule))
def g__law_rule_L2 (S__law_draw : SpD) (S__law_rule : SpD) : DS :=
    (dSeq (dIf (dAnd (dTest (dBin eqD (dVar 2) (dC (.int 1)))) (dTest (dBin eqD (dVar 3) (dC (.int 7)))))
      (dRet P__law_rule (dTup P__law_rule (dCons (dBin ixD (dFroz (dLst P__law_rule (dCons (dC (.str "all")) (dCons (dC (.str "some")) dNil)))) (dCall P__law_rule [true, false] S__law_draw (dCons (dVar 0) (dCons (dC (.int 2)) dNil)))) (dCons (dTup P__law_rule dNil) dNil))))
      dNext)
    (g__law_rule_L4 S__law_draw S__law_rule))
def g__law_rule (S__law_draw : SpD) (S__law_rule : SpD) : DS :=
    (dSeq (dSet P__law_rule 3 (dCall P__law_rule [true, false] S__law_draw (dCons (dVar 0) (dCons (dC (.int 8)) dNil))))
    (g__law_rule_L2 S__law_draw S__law_rule))
theorem d__law_rule {S__law_draw : SpD} {S__law_rule : SpD} {k : Nat} {f : Addr} {cdv : Value} {A : Around} {outer : List Env} {s : Shared} {H : Hp} {E : XK} {C : FC} (T : Mg mg) (Y : Cl K mg) (h__law_draw : FnAt Pg w K mg base k "_law_draw" ["_law_pen_here", "_law_many"] [true, false] S__law_draw) (h__law_rule : FnAt Pg w K mg base k "_law_rule" ["_law_pen_here", "_law_names_here", "_law_room"] [true, false, false] S__law_rule)
    (hr : RG k (A.deeper (PyProof.Rows.envOfC "_law_rule" (defScope s__law_rule) s.heap.objs.size f cdv))) (hP : C.Tags P__law_rule) :
    QSs (cxOf CX0 Pg w K mg base N__law_rule "_law_rule" (defScope s__law_rule) f cdv A outer s H E).nox C (defBody s__law_rule) (g__law_rule S__law_draw S__law_rule) :=
    have nd := sc__law_rule.nd
    (s_cons (s_set (i := 3) hP nd (q_callF hP h__law_draw hr (a_cons (qv 0) (a_cons q_int a_nil))))
    (s_cons (s_if (t_w (w_and (t_eq hr.r (qv 2) q_int) (w_and1 (t_eq hr.r (qv 3) q_int))))
      (s_one (s_ret hP (q_tup hP (a_cons (q_idx hr.r (q_froz (o_lst hP (a_cons q_str (a_cons q_str a_nil)))) (q_callF hP h__law_draw hr (a_cons (qv 0) (a_cons q_int a_nil)))) (a_cons (q_tup hP a_nil) a_nil)))))
      s_nil)
    (s_cons (s_if (t_w (w_or (t_eq hr.r (qv 2) q_int) (w_or1 (t_lt (qv 3) q_int))))
      (s_one (s_ret hP (q_tup hP (a_cons q_str (a_cons (q_idx hr.r (qv 1) (q_callF hP h__law_draw hr (a_cons (qv 0) (a_cons (q_len T.b_len (a_cons (qv 1) a_nil)) a_nil)))) (a_cons (q_callF hP h__law_draw hr (a_cons (qv 0) (a_cons q_int a_nil))) a_nil))))))
      s_nil)
    (s_cons (s_if (t_eq hr.r (qv 3) q_int)
      (s_one (s_ret hP (q_tup hP (a_cons q_str (a_cons (q_callF hP h__law_rule hr (a_cons (qv 0) (a_cons (qv 1) (a_cons (q_sub (qv 2) q_int) a_nil)))) a_nil)))))
      s_nil)
    (s_cons (s_set (i := 4) hP nd (q_callF hP h__law_draw hr (a_cons (qv 0) (a_cons q_int a_nil))))
    (s_one (s_ret hP (q_tup hP (a_cons (q_idx hr.r (q_froz (o_lst hP (a_cons q_str (a_cons q_str a_nil)))) (q_mod (qv 3) q_int)) (a_cons (q_tupleS rfl T.b_tuple (a_cons (q_froz (o_lc (own := [("_law_k", 5)]) hP rfl nd (i_range1 T.b_range (a_cons (qv 4) a_nil)) (blkOk_by (own := [("_law_k", 5)]) (N := N__law_rule) (sc := defScope s__law_rule) (by decide +kernel)) (fun _ _ _ _ _ => pg_name (i := 5) nd rfl (Or.inl rfl)) (tgt_name (i := 5) (by decide) (by decide)) (fun _ _ _ _ _ _ _ => ts_nil) (fun _ _ _ _ _ _ hP => (q_callF hP h__law_rule hr (a_cons (qv 0) (a_cons (qv 1) (a_cons (q_sub (qv 2) q_int) a_nil))))))) a_nil)) a_nil))))))))))
theorem at__law_rule {S__law_draw : SpD} {S__law_rule : SpD} {k : Nat} {S : SpD} (T : Mg mg) (Y : Cl K mg) (FA : FunAt K mg "_law_rule" s__law_rule ["_law_pen_here", "_law_names_here", "_law_room"]) (h__law_draw : FnAt Pg w K mg base k "_law_draw" ["_law_pen_here", "_law_many"] [true, false] S__law_draw) (h__law_rule : FnAt Pg w K mg base k "_law_rule" ["_law_pen_here", "_law_names_here", "_law_room"] [true, false, false] S__law_rule)
    (pure : ∀ ds q, S ds q → ds.length = P__law_rule.length → g__law_rule S__law_draw S__law_rule (endsOf P__law_rule q) (startE N__law_rule.length P__law_rule ds)) : FnAt Pg w K mg base (k + 1) "_law_rule" ["_law_pen_here", "_law_names_here", "_law_room"] P__law_rule S :=
    fn_at FA sc__law_rule rfl (by decide) (fun f cdv A outer s H E C hr hP => d__law_rule T Y h__law_draw h__law_rule hr hP) pure
/-! ### _law_gate -/
abbrev s__law_gate : Stmt := topS 26
abbrev N__law_gate : List Str := ["_law_pen_here", "_law_name", "_law_first", "_law_names_here", "_law_up"]
abbrev P__law_gate : List Bool := [true, false, false, false]
theorem sc__law_gate : FnScope N__law_gate ["_law_pen_here", "_law_name", "_law_first", "_law_names_here"] (defScope s__law_gate) := ⟨rfl, rfl, rfl, by decide +kernel, rfl, by decide +kernel, by decide +kernel⟩
def g__law_gate_L2 (S__law_rule : SpD) (S__law_draw : SpD) : DS :=
    (dRet P__law_gate (dTup P__law_gate (dCons (dVar 1) (dCons (dVar 2) (dCons (dVar 4) (dCons (dCall P__law_gate [true, false, false] S__law_rule (dCons (dVar 0) (dCons (dVar 3) (dCons (dBin addAD (dC (.int 1)) (dCall P__law_gate [true, false] S__law_draw (dCons (dVar 0) (dCons (dC (.int 4)) dNil)))) dNil)))) dNil))))))
def g__law_gate (S__law_rule : SpD) (S__law_draw : SpD) : DS :=
    (dSeq (dSet P__law_gate 4 (dCall P__law_gate [true, false, false] S__law_rule (dCons (dVar 0) (dCons (dVar 3) (dCons (dBin addAD (dC (.int 1)) (dCall P__law_gate [true, false] S__law_draw (dCons (dVar 0) (dCons (dC (.int 4)) dNil)))) dNil)))))
    (g__law_gate_L2 S__law_rule S__law_draw))
theorem d__law_gate {S__law_rule : SpD} {S__law_draw : SpD} {k : Nat} {f : Addr} {cdv : Value} {A : Around} {outer : List Env} {s : Shared} {H : Hp} {E : XK} {C : FC} (T : Mg mg) (Y : Cl K mg) (h__law_rule : FnAt Pg w K mg base k "_law_rule" ["_law_pen_here", "_law_names_here", "_law_room"] [true, false, false] S__law_rule) (h__law_draw : FnAt Pg w K mg base k "_law_draw" ["_law_pen_here", "_law_many"] [true, false] S__law_draw)
    (hr : RG k (A.deeper (PyProof.Rows.envOfC "_law_gate" (defScope s__law_gate) s.heap.objs.size f cdv))) (hP : C.Tags P__law_gate) :
    QSs (cxOf CX0 Pg w K mg base N__law_gate "_law_gate" (defScope s__law_gate) f cdv A outer s H E).nox C (defBody s__law_gate) (g__law_gate S__law_rule S__law_draw) :=
    have nd := sc__law_gate.nd
    (s_cons (s_set (i := 4) hP nd (q_callF hP h__law_rule hr (a_cons (qv 0) (a_cons (qv 3) (a_cons (q_addA q_int (q_callF hP h__law_draw hr (a_cons (qv 0) (a_cons q_int a_nil)))) a_nil)))))
    (s_one (s_ret hP (q_tup hP (a_cons (qv 1) (a_cons (qv 2) (a_cons (qv 4) (a_cons (q_callF hP h__law_rule hr (a_cons (qv 0) (a_cons (qv 3) (a_cons (q_addA q_int (q_callF hP h__law_draw hr (a_cons (qv 0) (a_cons q_int a_nil)))) a_nil)))) a_nil))))))))
theorem at__law_gate {S__law_rule : SpD} {S__law_draw : SpD} {k : Nat} {S : SpD} (T : Mg mg) (Y : Cl K mg) (FA : FunAt K mg "_law_gate" s__law_gate ["_law_pen_here", "_law_name", "_law_first", "_law_names_here"]) (h__law_rule : FnAt Pg w K mg base k "_law_rule" ["_law_pen_here", "_law_names_here", "_law_room"] [true, false, false] S__law_rule) (h__law_draw : FnAt Pg w K mg base k "_law_draw" ["_law_pen_here", "_law_many"] [true, false] S__law_draw)
    (pure : ∀ ds q, S ds q → ds.length = P__law_gate.length → g__law_gate S__law_rule S__law_draw (endsOf P__law_gate q) (startE N__law_gate.length P__law_gate ds)) : FnAt Pg w K mg base (k + 1) "_law_gate" ["_law_pen_here", "_law_name", "_law_first", "_law_names_here"] P__law_gate S :=
    fn_at FA sc__law_gate rfl (by decide) (fun f cdv A outer s H E C hr hP => d__law_gate T Y h__law_rule h__law_draw hr hP) pure
/-! ### _law_some -/
abbrev s__law_some : Stmt := topS 27
abbrev N__law_some : List Str := ["_law_pen_here", "_law_many", "_law_k"]
abbrev P__law_some : List Bool := [true, false]
theorem sc__law_some : FnScope N__law_some ["_law_pen_here", "_law_many"] (defScope s__law_some) := ⟨rfl, rfl, rfl, by decide +kernel, rfl, by decide +kernel, by decide +kernel⟩
def g__law_some (S__law_draw : SpD) : DS :=
    (dRet P__law_some (dCB tupleSD (dCons (dFroz (dCBL sortSetD (dCons (dFroz (dLc P__law_some (dRng1 (dCons (dBin addAD (dC (.int 1)) (dCall P__law_some [true, false] S__law_draw (dCons (dVar 0) (dCons (dC (.int 3)) dNil)))) dNil)) (gN 2) dYes (dCall P__law_some [true, false] S__law_draw (dCons (dVar 0) (dCons (dVar 1) dNil))) [2])) dNil))) dNil)))
theorem d__law_some {S__law_draw : SpD} {k : Nat} {f : Addr} {cdv : Value} {A : Around} {outer : List Env} {s : Shared} {H : Hp} {E : XK} {C : FC} (T : Mg mg) (Y : Cl K mg) (h__law_draw : FnAt Pg w K mg base k "_law_draw" ["_law_pen_here", "_law_many"] [true, false] S__law_draw)
    (hr : RG k (A.deeper (PyProof.Rows.envOfC "_law_some" (defScope s__law_some) s.heap.objs.size f cdv))) (hP : C.Tags P__law_some) :
    QSs (cxOf CX0 Pg w K mg base N__law_some "_law_some" (defScope s__law_some) f cdv A outer s H E).nox C (defBody s__law_some) (g__law_some S__law_draw) :=
    have nd := sc__law_some.nd
    (s_one (s_ret hP (q_tupleS rfl T.b_tuple (a_cons (q_froz (o_sortSet rfl T.b_sorted T.b_set (a_cons (q_froz (o_lc (own := [("_law_k", 2)]) hP rfl nd (i_range1 T.b_range (a_cons (q_addA q_int (q_callF hP h__law_draw hr (a_cons (qv 0) (a_cons q_int a_nil)))) a_nil)) (blkOk_by (own := [("_law_k", 2)]) (N := N__law_some) (sc := defScope s__law_some) (by decide +kernel)) (fun _ _ _ _ _ => pg_name (i := 2) nd rfl (Or.inl rfl)) (tgt_name (i := 2) (by decide) (by decide)) (fun _ _ _ _ _ _ _ => ts_nil) (fun _ _ _ _ _ _ hP => (q_callF hP h__law_draw hr (a_cons (qv 0) (a_cons (qv 1) a_nil)))))) a_nil))) a_nil))))
theorem at__law_some {S__law_draw : SpD} {k : Nat} {S : SpD} (T : Mg mg) (Y : Cl K mg) (FA : FunAt K mg "_law_some" s__law_some ["_law_pen_here", "_law_many"]) (h__law_draw : FnAt Pg w K mg base k "_law_draw" ["_law_pen_here", "_law_many"] [true, false] S__law_draw)
    (pure : ∀ ds q, S ds q → ds.length = P__law_some.length → g__law_some S__law_draw (endsOf P__law_some q) (startE N__law_some.length P__law_some ds)) : FnAt Pg w K mg base (k + 1) "_law_some" ["_law_pen_here", "_law_many"] P__law_some S :=
    fn_at FA sc__law_some rfl (by decide) (fun f cdv A outer s H E C hr hP => d__law_some T Y h__law_draw hr hP) pure
/-! ### _law_sheet -/
abbrev s__law_sheet : Stmt := topS 28
abbrev N__law_sheet : List Str := ["_law_pen_here", "_law_names_here", "_law_wires", "_law_turns", "_law_spots", "_law_k", "_law_name"]
abbrev P__law_sheet : List Bool := [true, false]
theorem sc__law_sheet : FnScope N__law_sheet ["_law_pen_here", "_law_names_here"] (defScope s__law_sheet) := ⟨rfl, rfl, rfl, by decide +kernel, rfl, by decide +kernel, by decide +kernel⟩
def g__law_sheet_L5 (S__law_draw : SpD) (S__law_some : SpD) : DS :=
    (dDrop (dMut P__law_sheet "list" 4 appendD (dCons (dTup P__law_sheet (dCons (dCall P__law_sheet [true, false] S__law_some (dCons (dVar 0) (dCons (dCB lenD (dCons (dVar 3) dNil)) dNil))) (dCons (dCall P__law_sheet [true, false] S__law_some (dCons (dVar 0) (dCons (dCB lenD (dCons (dVar 3) dNil)) dNil))) (dCons (dCall P__law_sheet [true, false] S__law_draw (dCons (dVar 0) (dCons (dC (.int 2)) dNil))) dNil)))) dNil)))
def g__law_sheet_L6 (S__law_draw : SpD) (S__law_some : SpD) : DS :=
    (dRet P__law_sheet (dTup P__law_sheet (dCons (dCB tupleSD (dCons (dVar 2) dNil)) (dCons (dCB tupleSD (dCons (dVar 3) dNil)) (dCons (dCB tupleSD (dCons (dVar 4) dNil)) dNil)))))
def g__law_sheet_L4 (S__law_draw : SpD) (S__law_some : SpD) : DS :=
    (dSeq (dFor (dRng1 (dCons (dCall P__law_sheet [true, false] S__law_draw (dCons (dVar 0) (dCons (dC (.int 8)) dNil))) dNil)) (gN 5)
      (g__law_sheet_L5 S__law_draw S__law_some))
    (g__law_sheet_L6 S__law_draw S__law_some))
def g__law_sheet_L3 (S__law_draw : SpD) (S__law_some : SpD) : DS :=
    (dSeq (dSetO 4 (dLst P__law_sheet dNil))
    (g__law_sheet_L4 S__law_draw S__law_some))
def g__law_sheet_L2 (S__law_draw : SpD) (S__law_some : SpD) : DS :=
    (dSeq (dSet P__law_sheet 3 (dFroz (dLc P__law_sheet (dRng1 (dCons (dBin addAD (dC (.int 1)) (dCall P__law_sheet [true, false] S__law_draw (dCons (dVar 0) (dCons (dC (.int 9)) dNil)))) dNil)) (gN 5) dYes (dTup P__law_sheet (dCons (dBin ixD (dVar 1) (dCall P__law_sheet [true, false] S__law_draw (dCons (dVar 0) (dCons (dCB lenD (dCons (dVar 1) dNil)) dNil)))) (dCons (dCall P__law_sheet [true, false] S__law_draw (dCons (dVar 0) (dCons (dC (.int 2)) dNil))) dNil))) [5])))
    (g__law_sheet_L3 S__law_draw S__law_some))
def g__law_sheet (S__law_draw : SpD) (S__law_some : SpD) : DS :=
    (dSeq (dSet P__law_sheet 2 (dFroz (dLc P__law_sheet (dSeqI P__law_sheet (dFroz (dCBL sortedD (dCons (dVar 1) dNil)))) (gN 6) dYes (dTup P__law_sheet (dCons (dVar 6) (dCons (dBin ixD (dFroz (dLst P__law_sheet (dCons (dC (.str "ask")) (dCons (dC (.str "answer")) dNil)))) (dCall P__law_sheet [true, false] S__law_draw (dCons (dVar 0) (dCons (dC (.int 2)) dNil)))) (dCons (dCall P__law_sheet [true, false] S__law_draw (dCons (dVar 0) (dCons (dC (.int 2)) dNil))) dNil)))) [6])))
    (g__law_sheet_L2 S__law_draw S__law_some))
theorem d__law_sheet {S__law_draw : SpD} {S__law_some : SpD} {k : Nat} {f : Addr} {cdv : Value} {A : Around} {outer : List Env} {s : Shared} {H : Hp} {E : XK} {C : FC} (T : Mg mg) (Y : Cl K mg) (h__law_draw : FnAt Pg w K mg base k "_law_draw" ["_law_pen_here", "_law_many"] [true, false] S__law_draw) (h__law_some : FnAt Pg w K mg base k "_law_some" ["_law_pen_here", "_law_many"] [true, false] S__law_some)
    (hr : RG k (A.deeper (PyProof.Rows.envOfC "_law_sheet" (defScope s__law_sheet) s.heap.objs.size f cdv))) (hP : C.Tags P__law_sheet) :
    QSs (cxOf CX0 Pg w K mg base N__law_sheet "_law_sheet" (defScope s__law_sheet) f cdv A outer s H E).nox C (defBody s__law_sheet) (g__law_sheet S__law_draw S__law_some) :=
    have nd := sc__law_sheet.nd
    (s_cons (s_setLc (own := [("_law_name", 6)]) (i := 2) hP rfl nd (i_seq hP (q_froz (o_sorted T.b_sorted (a_cons (qv 1) a_nil)))) (blkOk_by (own := [("_law_name", 6)]) (N := N__law_sheet) (sc := defScope s__law_sheet) (by decide +kernel)) (fun _ _ _ _ _ => pg_name (i := 6) nd rfl (Or.inl rfl)) (tgt_name (i := 6) (by decide) (by decide)) (fun _ _ _ _ _ _ _ => ts_nil) (fun _ _ _ _ _ _ hP => (q_tup hP (a_cons (qv 6) (a_cons (q_idx hr.r (q_froz (o_lst hP (a_cons q_str (a_cons q_str a_nil)))) (q_callF hP h__law_draw hr (a_cons (qv 0) (a_cons q_int a_nil)))) (a_cons (q_callF hP h__law_draw hr (a_cons (qv 0) (a_cons q_int a_nil))) a_nil))))) (sw_true rfl rfl rfl (by decide +kernel)))
    (s_cons (s_setLc (own := [("_law_k", 5)]) (i := 3) hP rfl nd (i_range1 T.b_range (a_cons (q_addA q_int (q_callF hP h__law_draw hr (a_cons (qv 0) (a_cons q_int a_nil)))) a_nil)) (blkOk_by (own := [("_law_k", 5)]) (N := N__law_sheet) (sc := defScope s__law_sheet) (by decide +kernel)) (fun _ _ _ _ _ => pg_name (i := 5) nd rfl (Or.inl rfl)) (tgt_name (i := 5) (by decide) (by decide)) (fun _ _ _ _ _ _ _ => ts_nil) (fun _ _ _ _ _ _ hP => (q_tup hP (a_cons (q_idx hr.r (qv 1) (q_callF hP h__law_draw hr (a_cons (qv 0) (a_cons (q_len T.b_len (a_cons (qv 1) a_nil)) a_nil)))) (a_cons (q_callF hP h__law_draw hr (a_cons (qv 0) (a_cons q_int a_nil))) a_nil)))) (sw_true rfl rfl rfl (by decide +kernel)))
    (s_cons (s_setO (i := 4) hP nd (o_lst hP a_nil))
    (s_cons (s_for PassesOwn.never rfl (i_range1 T.b_range (a_cons (q_callF hP h__law_draw hr (a_cons (qv 0) (a_cons q_int a_nil))) a_nil)) (g_name (i := 5) hP nd)
      (s_one (s_expr (m_append (i := 4) hP (a_cons (q_tup hP (a_cons (q_callF hP h__law_some hr (a_cons (qv 0) (a_cons (q_len T.b_len (a_cons (qv 3) a_nil)) a_nil))) (a_cons (q_callF hP h__law_some hr (a_cons (qv 0) (a_cons (q_len T.b_len (a_cons (qv 3) a_nil)) a_nil))) (a_cons (q_callF hP h__law_draw hr (a_cons (qv 0) (a_cons q_int a_nil))) a_nil)))) a_nil)))))
    (s_one (s_ret hP (q_tup hP (a_cons (q_tupleS rfl T.b_tuple (a_cons (qv 2) a_nil)) (a_cons (q_tupleS rfl T.b_tuple (a_cons (qv 3) a_nil)) (a_cons (q_tupleS rfl T.b_tuple (a_cons (qv 4) a_nil)) a_nil))))))))))
theorem at__law_sheet {S__law_draw : SpD} {S__law_some : SpD} {k : Nat} {S : SpD} (T : Mg mg) (Y : Cl K mg) (FA : FunAt K mg "_law_sheet" s__law_sheet ["_law_pen_here", "_law_names_here"]) (h__law_draw : FnAt Pg w K mg base k "_law_draw" ["_law_pen_here", "_law_many"] [true, false] S__law_draw) (h__law_some : FnAt Pg w K mg base k "_law_some" ["_law_pen_here", "_law_many"] [true, false] S__law_some)
    (pure : ∀ ds q, S ds q → ds.length = P__law_sheet.length → g__law_sheet S__law_draw S__law_some (endsOf P__law_sheet q) (startE N__law_sheet.length P__law_sheet ds)) : FnAt Pg w K mg base (k + 1) "_law_sheet" ["_law_pen_here", "_law_names_here"] P__law_sheet S :=
    fn_at FA sc__law_sheet rfl (by decide) (fun f cdv A outer s H E C hr hP => d__law_sheet T Y h__law_draw h__law_some hr hP) pure
/-! ### _law_net -/
abbrev s__law_net : Stmt := topS 29
abbrev N__law_net : List Str := ["_law_pen_here", "_law_own", "_law_outside", "_law_wires", "_law_gates", "_law_name"]
abbrev P__law_net : List Bool := [true, false, false]
theorem sc__law_net : FnScope N__law_net ["_law_pen_here", "_law_own", "_law_outside"] (defScope s__law_net) := ⟨rfl, rfl, rfl, by decide +kernel, rfl, by decide +kernel, by decide +kernel⟩
def g__law_net_L4 (S__law_gate : SpD) (S__law_draw : SpD) : DS :=
    (dRet P__law_net (dTup P__law_net (dCons (dCB tupleSD (dCons (dFroz (dCBL sortedD (dCons (dVar 2) dNil))) dNil)) (dCons (dCB tupleSD (dCons (dVar 4) dNil)) dNil))))
def g__law_net_L3 (S__law_gate : SpD) (S__law_draw : SpD) : DS :=
    (dSeq (dSet P__law_net 4 (dFroz (dLc P__law_net (dSeqI P__law_net (dFroz (dCBL sortedD (dCons (dVar 1) dNil)))) (gN 5) dYes (dCall P__law_net [true, false, false, false] S__law_gate (dCons (dVar 0) (dCons (dVar 5) (dCons (dCall P__law_net [true, false] S__law_draw (dCons (dVar 0) (dCons (dC (.int 2)) dNil))) (dCons (dVar 3) dNil))))) [5])))
    (g__law_net_L4 S__law_gate S__law_draw))
def g__law_net_L2 (S__law_gate : SpD) (S__law_draw : SpD) : DS :=
    (dSeq (dSet P__law_net 3 (dBin addAD (dVar 1) (dVar 2)))
    (g__law_net_L3 S__law_gate S__law_draw))
def g__law_net (S__law_gate : SpD) (S__law_draw : SpD) : DS :=
    (dSeq (dSet P__law_net 2 (dSlA (dVar 2) dNoP (dPart (dBin subD (dC (.int 8)) (dCB lenD (dCons (dVar 1) dNil))))))
    (g__law_net_L2 S__law_gate S__law_draw))
theorem d__law_net {S__law_gate : SpD} {S__law_draw : SpD} {k : Nat} {f : Addr} {cdv : Value} {A : Around} {outer : List Env} {s : Shared} {H : Hp} {E : XK} {C : FC} (T : Mg mg) (Y : Cl K mg) (h__law_gate : FnAt Pg w K mg base k "_law_gate" ["_law_pen_here", "_law_name", "_law_first", "_law_names_here"] [true, false, false, false] S__law_gate) (h__law_draw : FnAt Pg w K mg base k "_law_draw" ["_law_pen_here", "_law_many"] [true, false] S__law_draw)
    (hr : RG k (A.deeper (PyProof.Rows.envOfC "_law_net" (defScope s__law_net) s.heap.objs.size f cdv))) (hP : C.Tags P__law_net) :
    QSs (cxOf CX0 Pg w K mg base N__law_net "_law_net" (defScope s__law_net) f cdv A outer s H E).nox C (defBody s__law_net) (g__law_net S__law_gate S__law_draw) :=
    have nd := sc__law_net.nd
    (s_cons (s_set (i := 2) hP nd (q_sliceA (qv 2) p_none (p_some (q_sub q_int (q_len T.b_len (a_cons (qv 1) a_nil))))))
    (s_cons (s_set (i := 3) hP nd (q_addA (qv 1) (qv 2)))
    (s_cons (s_setLc (own := [("_law_name", 5)]) (i := 4) hP rfl nd (i_seq hP (q_froz (o_sorted T.b_sorted (a_cons (qv 1) a_nil)))) (blkOk_by (own := [("_law_name", 5)]) (N := N__law_net) (sc := defScope s__law_net) (by decide +kernel)) (fun _ _ _ _ _ => pg_name (i := 5) nd rfl (Or.inl rfl)) (tgt_name (i := 5) (by decide) (by decide)) (fun _ _ _ _ _ _ _ => ts_nil) (fun _ _ _ _ _ _ hP => (q_callF hP h__law_gate hr (a_cons (qv 0) (a_cons (qv 5) (a_cons (q_callF hP h__law_draw hr (a_cons (qv 0) (a_cons q_int a_nil))) (a_cons (qv 3) a_nil)))))) (sw_true rfl rfl rfl (by decide +kernel)))
    (s_one (s_ret hP (q_tup hP (a_cons (q_tupleS rfl T.b_tuple (a_cons (q_froz (o_sorted T.b_sorted (a_cons (qv 2) a_nil))) a_nil)) (a_cons (q_tupleS rfl T.b_tuple (a_cons (qv 4) a_nil)) a_nil))))))))
theorem at__law_net {S__law_gate : SpD} {S__law_draw : SpD} {k : Nat} {S : SpD} (T : Mg mg) (Y : Cl K mg) (FA : FunAt K mg "_law_net" s__law_net ["_law_pen_here", "_law_own", "_law_outside"]) (h__law_gate : FnAt Pg w K mg base k "_law_gate" ["_law_pen_here", "_law_name", "_law_first", "_law_names_here"] [true, false, false, false] S__law_gate) (h__law_draw : FnAt Pg w K mg base k "_law_draw" ["_law_pen_here", "_law_many"] [true, false] S__law_draw)
    (pure : ∀ ds q, S ds q → ds.length = P__law_net.length → g__law_net S__law_gate S__law_draw (endsOf P__law_net q) (startE N__law_net.length P__law_net ds)) : FnAt Pg w K mg base (k + 1) "_law_net" ["_law_pen_here", "_law_own", "_law_outside"] P__law_net S :=
    fn_at FA sc__law_net rfl (by decide) (fun f cdv A outer s H E C hr hP => d__law_net T Y h__law_gate h__law_draw hr hP) pure
/-! ### _law_two -/
abbrev s__law_two : Stmt := topS 30
abbrev N__law_two : List Str := ["_law_pen_here", "_law_both", "_law_strange", "_law_names_here", "_law_last", "_law_owned", "_law_name", "_law_found", "_law_side", "_law_own", "_law_others"]
abbrev P__law_two : List Bool := [true]
theorem sc__law_two : FnScope N__law_two ["_law_pen_here"] (defScope s__law_two) := ⟨rfl, rfl, rfl, by decide +kernel, rfl, by decide +kernel, by decide +kernel⟩
def g__law_two_L8 (S__law_draw : SpD) (S__law_names : SpD) (S__law_net : SpD) : DS :=
    (dDrop (dMutP P__law_two "list" 5 appendD (dBin ixD (dFroz (dLst P__law_two (dCons (dVar 8) (dCons (dBin subD (dC (.int 1)) (dVar 8)) dNil)))) (dCB intOfD (dCons (dBin eqD (dCBP lenD 5 (dVar 8)) (dC (.int 8))) dNil))) (dCons (dVar 6) dNil)))
def g__law_two_L7 (S__law_draw : SpD) (S__law_names : SpD) (S__law_net : SpD) : DS :=
    (dSeq (dSet P__law_two 8 (dCall P__law_two [true, false] S__law_draw (dCons (dVar 0) (dCons (dC (.int 2)) dNil))))
      (g__law_two_L8 S__law_draw S__law_names S__law_net))
def g__law_two_L15 (S__law_draw : SpD) (S__law_names : SpD) (S__law_net : SpD) : DS :=
    (dSet P__law_two 10 (dFroz (dLc P__law_two (dSeqI P__law_two (dVar 10)) (gN 6) (dTest (dBin neD (dVar 6) (dBin ixD (dVar 9) (dNeg (dC (.int 1)))))) (dVar 6) [6])))
def g__law_two_L18 (S__law_draw : SpD) (S__law_names : SpD) (S__law_net : SpD) : DS :=
    (dDrop (dMut P__law_two "list" 7 appendD (dCons (dCall P__law_two [true, false, false] S__law_net (dCons (dVar 0) (dCons (dVar 9) (dCons (dVar 10) dNil)))) dNil)))
def g__law_two_L16 (S__law_draw : SpD) (S__law_names : SpD) (S__law_net : SpD) : DS :=
    (dSeq (dIf (dOr (dAnd (dTest (dVar 2)) (dTest (dBin eqD (dCall P__law_two [true, false] S__law_draw (dCons (dVar 0) (dCons (dC (.int 2)) dNil))) (dC (.int 0))))) (dTest (dBin eqD (dBin addAD (dVar 9) (dVar 10)) (dFroz (dLst P__law_two dNil)))))
        (dSet P__law_two 10 (dBin addAD (dFroz (dLst P__law_two (dCons (dVar 4) dNil))) (dVar 10)))
        dNext)
      (g__law_two_L18 S__law_draw S__law_names S__law_net))
def g__law_two_L13 (S__law_draw : SpD) (S__law_names : SpD) (S__law_net : SpD) : DS :=
    (dSeq (dIf (dAnd (dTest (dVar 1)) (dAnd (dTest (dBin eqD (dVar 8) (dC (.int 1)))) (dAnd (dTest (dBin ltD (dCB lenD (dCons (dVar 9) dNil)) (dC (.int 8)))) (dTest (dBin neLD (dBin ixD (dVar2 5) (dC (.int 0))) (dFroz (dLst P__law_two dNil)))))))
        (dSeq (dDrop (dMut P__law_two "list" 9 appendD (dCons (dBin ixD (dBin ixD (dVar2 5) (dC (.int 0))) (dCall P__law_two [true, false] S__law_draw (dCons (dVar 0) (dCons (dCBP lenD 5 (dC (.int 0))) dNil)))) dNil)))
        (g__law_two_L15 S__law_draw S__law_names S__law_net))
        dNext)
      (g__law_two_L16 S__law_draw S__law_names S__law_net))
def g__law_two_L12 (S__law_draw : SpD) (S__law_names : SpD) (S__law_net : SpD) : DS :=
    (dSeq (dSet P__law_two 10 (dFroz (dLc P__law_two (dSeqI P__law_two (dBin ixD (dVar2 5) (dBin subD (dC (.int 1)) (dVar 8)))) (gN 6) (dTest (dBin gtD (dCall P__law_two [true, false] S__law_draw (dCons (dVar 0) (dCons (dC (.int 3)) dNil))) (dC (.int 0)))) (dVar 6) [6])))
      (g__law_two_L13 S__law_draw S__law_names S__law_net))
def g__law_two_L11 (S__law_draw : SpD) (S__law_names : SpD) (S__law_net : SpD) : DS :=
    (dSeq (dSetO 9 (dCBL listSD (dCons (dBin ixD (dVar2 5) (dVar 8)) dNil)))
      (g__law_two_L12 S__law_draw S__law_names S__law_net))
def g__law_two_L19 (S__law_draw : SpD) (S__law_names : SpD) (S__law_net : SpD) : DS :=
    (dRet P__law_two (dVar 7))
def g__law_two_L10 (S__law_draw : SpD) (S__law_names : SpD) (S__law_net : SpD) : DS :=
    (dSeq (dFor (dSeqI P__law_two (dTup P__law_two (dCons (dC (.int 0)) (dCons (dC (.int 1)) dNil)))) (gN 8)
      (g__law_two_L11 S__law_draw S__law_names S__law_net))
    (g__law_two_L19 S__law_draw S__law_names S__law_net))
def g__law_two_L9 (S__law_draw : SpD) (S__law_names : SpD) (S__law_net : SpD) : DS :=
    (dSeq (dSetO 7 (dLst P__law_two dNil))
    (g__law_two_L10 S__law_draw S__law_names S__law_net))
def g__law_two_L6 (S__law_draw : SpD) (S__law_names : SpD) (S__law_net : SpD) : DS :=
    (dSeq (dFor (dSeqI P__law_two (dVar 3)) (gN 6)
      (g__law_two_L7 S__law_draw S__law_names S__law_net))
    (g__law_two_L9 S__law_draw S__law_names S__law_net))
def g__law_two_L5 (S__law_draw : SpD) (S__law_names : SpD) (S__law_net : SpD) : DS :=
    (dSeq (dDeepL 5 [(dLst P__law_two dNil), (dLst P__law_two dNil)])
    (g__law_two_L6 S__law_draw S__law_names S__law_net))
def g__law_two_L4 (S__law_draw : SpD) (S__law_names : SpD) (S__law_net : SpD) : DS :=
    (dSeq (dSet P__law_two 4 (dMut0 "list" 3 popD))
    (g__law_two_L5 S__law_draw S__law_names S__law_net))
def g__law_two_L3 (S__law_draw : SpD) (S__law_names : SpD) (S__law_net : SpD) : DS :=
    (dSeq (dSetO 3 (dCallO P__law_two [true, false] S__law_names (dCons (dVar 0) (dCons (dBin addAD (dC (.int 2)) (dCall P__law_two [true, false] S__law_draw (dCons (dVar 0) (dCons (dC (.int 9)) dNil)))) dNil))))
    (g__law_two_L4 S__law_draw S__law_names S__law_net))
def g__law_two_L2 (S__law_draw : SpD) (S__law_names : SpD) (S__law_net : SpD) : DS :=
    (dSeq (dSet P__law_two 2 (dBin eqD (dCall P__law_two [true, false] S__law_draw (dCons (dVar 0) (dCons (dC (.int 8)) dNil))) (dC (.int 0))))
    (g__law_two_L3 S__law_draw S__law_names S__law_net))
def g__law_two (S__law_draw : SpD) (S__law_names : SpD) (S__law_net : SpD) : DS :=
    (dSeq (dSet P__law_two 1 (dBin eqD (dCall P__law_two [true, false] S__law_draw (dCons (dVar 0) (dCons (dC (.int 8)) dNil))) (dC (.int 0))))
    (g__law_two_L2 S__law_draw S__law_names S__law_net))
theorem d__law_two {S__law_draw : SpD} {S__law_names : SpD} {S__law_net : SpD} {k : Nat} {f : Addr} {cdv : Value} {A : Around} {outer : List Env} {s : Shared} {H : Hp} {E : XK} {C : FC} (T : Mg mg) (Y : Cl K mg) (h__law_draw : FnAt Pg w K mg base k "_law_draw" ["_law_pen_here", "_law_many"] [true, false] S__law_draw) (h__law_names : FnAt Pg w K mg base k "_law_names" ["_law_pen_here", "_law_many"] [true, false] S__law_names) (h__law_net : FnAt Pg w K mg base k "_law_net" ["_law_pen_here", "_law_own", "_law_outside"] [true, false, false] S__law_net)
    (hr : RG k (A.deeper (PyProof.Rows.envOfC "_law_two" (defScope s__law_two) s.heap.objs.size f cdv))) (hP : C.Tags P__law_two) :
    QSs (cxOf CX0 Pg w K mg base N__law_two "_law_two" (defScope s__law_two) f cdv A outer s H E).nox C (defBody s__law_two) (g__law_two S__law_draw S__law_names S__law_net) :=
    have nd := sc__law_two.nd
    (s_cons (s_set (i := 1) hP nd (q_eq hr.r (q_callF hP h__law_draw hr (a_cons (qv 0) (a_cons q_int a_nil))) q_int))
    (s_cons (s_set (i := 2) hP nd (q_eq hr.r (q_callF hP h__law_draw hr (a_cons (qv 0) (a_cons q_int a_nil))) q_int))
    (s_cons (s_setO (i := 3) hP nd (o_callF hP h__law_names hr (a_cons (qv 0) (a_cons (q_addA q_int (q_callF hP h__law_draw hr (a_cons (qv 0) (a_cons q_int a_nil)))) a_nil))))
    (s_cons (s_set (i := 4) hP nd (m_pop (i := 3)))
    (s_cons (s_deepL (i := 5) hP nd (os_cons (fun _ hP => (o_lst hP a_nil)) (os_cons (fun _ hP => (o_lst hP a_nil)) os_nil)))
    (s_cons (s_for PassesOwn.never rfl (i_seq hP (qv 3)) (g_name (i := 6) hP nd)
      (s_cons (s_set (i := 8) hP nd (q_callF hP h__law_draw hr (a_cons (qv 0) (a_cons q_int a_nil))))
      (s_one (s_expr (m_appendP (i := 5) hP hr.r (q_idx hr.r (q_froz (o_lst hP (a_cons (qv 8) (a_cons (q_sub q_int (qv 8)) a_nil)))) (q_intOf T.b_int (a_cons (q_eq hr.r (q_lenP (i := 5) hr.r T.b_len (qv 8)) q_int) a_nil))) (fun _ hP => (a_cons (qv 6) a_nil)))))))
    (s_cons (s_setO (i := 7) hP nd (o_lst hP a_nil))
    (s_cons (s_for PassesOwn.never rfl (i_seq hP (q_tup hP (a_cons q_int (a_cons q_int a_nil)))) (g_name (i := 8) hP nd)
      (s_cons (s_setO (i := 9) hP nd (o_listS rfl T.b_list (a_cons (q_idx hr.r (q_var2 (pev 5)) (qv 8)) a_nil)))
      (s_cons (s_setLc (own := [("_law_name", 6)]) (i := 10) hP rfl nd (i_seq hP (q_idx hr.r (q_var2 (pev 5)) (q_sub q_int (qv 8)))) (blkOk_by (own := [("_law_name", 6)]) (N := N__law_two) (sc := defScope s__law_two) (by decide +kernel)) (fun _ _ _ _ _ => pg_name (i := 6) nd rfl (Or.inl rfl)) (tgt_name (i := 6) (by decide) (by decide)) (fun _ _ _ _ _ _ hP => ts_one (t_gt (q_callF hP h__law_draw hr (a_cons (qv 0) (a_cons q_int a_nil))) q_int)) (fun _ _ _ _ _ _ hP => (qv 6)) (sw_true rfl rfl rfl (by decide +kernel)))
      (s_cons (s_if (t_w (w_and (t_val (qv 1)) (w_and (t_eq hr.r (qv 8) q_int) (w_and (t_lt (q_len T.b_len (a_cons (qv 9) a_nil)) q_int) (w_and1 (t_neL hr.r (q_idx hr.r (q_var2 (pev 5)) q_int) (q_froz (o_lst hP a_nil))))))))
        (s_cons (s_expr (m_append (i := 9) hP (a_cons (q_idx hr.r (q_idx hr.r (q_var2 (pev 5)) q_int) (q_callF hP h__law_draw hr (a_cons (qv 0) (a_cons (q_lenP (i := 5) hr.r T.b_len q_int) a_nil)))) a_nil)))
        (s_one (s_setLc (own := [("_law_name", 6)]) (i := 10) hP rfl nd (i_seq hP (qv 10)) (blkOk_by (own := [("_law_name", 6)]) (N := N__law_two) (sc := defScope s__law_two) (by decide +kernel)) (fun _ _ _ _ _ => pg_name (i := 6) nd rfl (Or.inl rfl)) (tgt_name (i := 6) (by decide) (by decide)) (fun _ _ _ _ _ _ hP => ts_one (t_ne hr.r (qv 6) (q_idx hr.r (qv 9) (q_neg q_int)))) (fun _ _ _ _ _ _ hP => (qv 6)) (sw_true rfl rfl rfl (by decide +kernel)))))
        s_nil)
      (s_cons (s_if (t_w (w_or (t_w (w_and (t_val (qv 2)) (w_and1 (t_eq hr.r (q_callF hP h__law_draw hr (a_cons (qv 0) (a_cons q_int a_nil))) q_int)))) (w_or1 (t_eq hr.r (q_addA (qv 9) (qv 10)) (q_froz (o_lst hP a_nil))))))
        (s_one (s_set (i := 10) hP nd (q_addA (q_froz (o_lst hP (a_cons (qv 4) a_nil))) (qv 10))))
        s_nil)
      (s_one (s_expr (m_append (i := 7) hP (a_cons (q_callF hP h__law_net hr (a_cons (qv 0) (a_cons (qv 9) (a_cons (qv 10) a_nil)))) a_nil)))))))))
    (s_one (s_ret hP (qv 7)))))))))))
theorem at__law_two {S__law_draw : SpD} {S__law_names : SpD} {S__law_net : SpD} {k : Nat} {S : SpD} (T : Mg mg) (Y : Cl K mg) (FA : FunAt K mg "_law_two" s__law_two ["_law_pen_here"]) (h__law_draw : FnAt Pg w K mg base k "_law_draw" ["_law_pen_here", "_law_many"] [true, false] S__law_draw) (h__law_names : FnAt Pg w K mg base k "_law_names" ["_law_pen_here", "_law_many"] [true, false] S__law_names) (h__law_net : FnAt Pg w K mg base k "_law_net" ["_law_pen_here", "_law_own", "_law_outside"] [true, false, false] S__law_net)
    (pure : ∀ ds q, S ds q → ds.length = P__law_two.length → g__law_two S__law_draw S__law_names S__law_net (endsOf P__law_two q) (startE N__law_two.length P__law_two ds)) : FnAt Pg w K mg base (k + 1) "_law_two" ["_law_pen_here"] P__law_two S :=
    fn_at FA sc__law_two rfl (by decide) (fun f cdv A outer s H E C hr hP => d__law_two T Y h__law_draw h__law_names h__law_net hr hP) pure
/-! ### _law_due -/
abbrev s__law_due : Stmt := topS 31
abbrev N__law_due : List Str := ["_law_one", "_law_other", "_law_turned_by", "_law_names_here", "_law_net_here", "_law_others", "_law_gates", "_law_name", "_law_gate_here"]
abbrev P__law_due : List Bool := [false, false]
theorem sc__law_due : FnScope N__law_due ["_law_one", "_law_other"] (defScope s__law_due) := ⟨rfl, rfl, rfl, by decide +kernel, rfl, by decide +kernel, by decide +kernel⟩
abbrev cs__law_due_1_21 : Scope := { kind := PySem.ScopeKind.function, names := [(PySem.Str.ofString ".0", PySem.NameKind.local), (PySem.Str.ofString "_law_net_here", PySem.NameKind.local)], isGenerator := false, isCoroutine := false, more := [] : PySem.Scope }
def g__law_due_L6 : DS :=
    (dIf (dTest (dBin neD (dFroz (dLc P__law_due (dSeqI P__law_due (dBin ixD (dVar 4) (dC (.int 0)))) (gN 7) (dTest (dBin (inD false) (dVar 7) (dVar 5))) (dVar 7) [7])) (dFroz (dLst P__law_due dNil))))
        (dRet P__law_due (dC .none))
        dNext)
def g__law_due_L10 : DS :=
    (dDrop (dMut P__law_due "list" 6 extendAD (dCons (dFroz (dLc P__law_due (dSeqI P__law_due (dBin addAD (dBin ixD (dVar 0) (dC (.int 1))) (dBin ixD (dVar 1) (dC (.int 1))))) (gN 8) (dTest (dBin eqD (dBin ixD (dVar 8) (dC (.int 0))) (dVar 7))) (dVar 8) [8])) dNil)))
def g__law_due_L11 : DS :=
    (dRet P__law_due (dTup P__law_due (dCons (dTup P__law_due dNil) (dCons (dCB tupleSD (dCons (dVar 6) dNil)) dNil))))
def g__law_due_L9 : DS :=
    (dSeq (dFor (dSeqI P__law_due (dVar 3)) (gN 7)
      (g__law_due_L10))
    (g__law_due_L11))
def g__law_due_L8 : DS :=
    (dSeq (dSetO 6 (dLst P__law_due dNil))
    (g__law_due_L9))
def g__law_due_L5 : DS :=
    (dSeq (dFor (dSeqI P__law_due (dTup P__law_due (dCons (dTup P__law_due (dCons (dVar 0) (dCons (dBin ixD (dVar 2) (dC (.int 1))) dNil))) (dCons (dTup P__law_due (dCons (dVar 1) (dCons (dBin ixD (dVar 2) (dC (.int 0))) dNil))) dNil)))) (gTup' 2 (gCons' (gN 4) (gCons' (gN 5) gNil')))
      (g__law_due_L6))
    (g__law_due_L8))
def g__law_due_L3 : DS :=
    (dSeq (dIf (dOr (dTest (dBin gtD (dCB lenD (dCons (dVar 3) dNil)) (dC (.int 8)))) (dTest (dBin neD (dFroz (dLc P__law_due (dSeqI P__law_due (dVar 3)) (gN 7) (dTest (dBin gtD (dBM "list" countTD (dVar 3) (dCons (dVar 7) dNil)) (dC (.int 1)))) (dVar 7) [7])) (dFroz (dLst P__law_due dNil)))))
      (dRet P__law_due (dC .none))
      dNext)
    (g__law_due_L5))
def g__law_due_L2 : DS :=
    (dSeq (dSet P__law_due 3 (dFroz (dCBL sortedD (dCons (dBin addAD (dBin ixD (dVar 2) (dC (.int 0))) (dBin ixD (dVar 2) (dC (.int 1)))) dNil))))
    (g__law_due_L3))
def g__law_due : DS :=
    (dSeq (dSet P__law_due 2 (dFroz (dLc P__law_due (dSeqI P__law_due (dTup P__law_due (dCons (dVar 0) (dCons (dVar 1) dNil)))) (gN 4) dYes (dFroz (dLc P__law_due (dSeqI P__law_due (dBin ixD (dVar 4) (dC (.int 1)))) (gN 8) dYes (dBin ixD (dVar 8) (dC (.int 0))) [8])) [4])))
    (g__law_due_L2))
theorem d__law_due {k : Nat} {f : Addr} {cdv : Value} {A : Around} {outer : List Env} {s : Shared} {H : Hp} {E : XK} {C : FC} (T : Mg mg) (Y : Cl K mg)
    (hr : RG k (A.deeper (PyProof.Rows.envOfC "_law_due" (defScope s__law_due) s.heap.objs.size f cdv))) (hP : C.Tags P__law_due) :
    QSs (cxOf CX0 Pg w K mg base N__law_due "_law_due" (defScope s__law_due) f cdv A outer s H E).nox C (defBody s__law_due) (g__law_due) :=
    have nd := sc__law_due.nd
    (s_cons (s_setLc (own := [("_law_net_here", 4)]) (i := 2) hP rfl nd (i_seq hP (q_tup hP (a_cons (qv 0) (a_cons (qv 1) a_nil)))) (blkOk_by (own := [("_law_net_here", 4)]) (N := N__law_due) (sc := defScope s__law_due) (by decide +kernel)) (fun _ _ _ _ _ => pg_name (i := 4) nd rfl (Or.inl rfl)) (tgt_name (i := 4) (by decide) (by decide)) (fun _ _ _ _ _ _ _ => ts_nil) (fun _ _ _ _ _ _ hP => (q_froz (o_lc (own := [("_law_gate_here", 8)]) hP rfl nd (i_seq hP (q_idx hr.r (qv 4) q_int)) (blkOk_by (own := [("_law_gate_here", 8)]) (N := N__law_due) (by kernel_rfl)) (fun _ _ _ _ _ => pg_name (i := 8) nd rfl (Or.inl rfl)) (tgt_name (i := 8) (by decide) (by decide)) (fun _ _ _ _ _ _ _ => ts_nil) (fun _ _ _ _ _ _ hP => (q_idx hr.r (qv 8) q_int))))) (sw_true rfl rfl rfl (by decide +kernel)))
    (s_cons (s_set (i := 3) hP nd (q_froz (o_sorted T.b_sorted (a_cons (q_addA (q_idx hr.r (qv 2) q_int) (q_idx hr.r (qv 2) q_int)) a_nil))))
    (s_cons (s_if (t_w (w_or (t_gt (q_len T.b_len (a_cons (qv 3) a_nil)) q_int) (w_or1 (t_ne hr.r (q_froz (o_lc (own := [("_law_name", 7)]) hP rfl nd (i_seq hP (qv 3)) (blkOk_by (own := [("_law_name", 7)]) (N := N__law_due) (sc := defScope s__law_due) (by decide +kernel)) (fun _ _ _ _ _ => pg_name (i := 7) nd rfl (Or.inl rfl)) (tgt_name (i := 7) (by decide) (by decide)) (fun _ _ _ _ _ _ hP => ts_one (t_gt (q_countT (qv 3) (a_cons (qv 7) a_nil)) q_int)) (fun _ _ _ _ _ _ hP => (qv 7)))) (q_froz (o_lst hP a_nil))))))
      (s_one (s_ret hP q_non))
      s_nil)
    (s_cons (s_for PassesOwn.never rfl (i_seq hP (q_tup hP (a_cons (q_tup hP (a_cons (qv 0) (a_cons (q_idx hr.r (qv 2) q_int) a_nil))) (a_cons (q_tup hP (a_cons (qv 1) (a_cons (q_idx hr.r (qv 2) q_int) a_nil))) a_nil)))) (g_tup rfl (gs_cons (g_name (i := 4) hP nd) (gs_cons (g_name (i := 5) hP nd) gs_nil)))
      (s_one (s_if (t_ne hr.r (q_froz (o_lc (own := [("_law_name", 7)]) hP rfl nd (i_seq hP (q_idx hr.r (qv 4) q_int)) (blkOk_by (own := [("_law_name", 7)]) (N := N__law_due) (sc := defScope s__law_due) (by decide +kernel)) (fun _ _ _ _ _ => pg_name (i := 7) nd rfl (Or.inl rfl)) (tgt_name (i := 7) (by decide) (by decide)) (fun _ _ _ _ _ _ hP => ts_one (t_notin (qv 7) (qv 5))) (fun _ _ _ _ _ _ hP => (qv 7)))) (q_froz (o_lst hP a_nil)))
        (s_one (s_ret hP q_non))
        s_nil)))
    (s_cons (s_setO (i := 6) hP nd (o_lst hP a_nil))
    (s_cons (s_for PassesOwn.never rfl (i_seq hP (qv 3)) (g_name (i := 7) hP nd)
      (s_one (s_expr (m_extendA (i := 6) hP (a_cons (q_froz (o_lc (own := [("_law_gate_here", 8)]) hP rfl nd (i_seq hP (q_addA (q_idx hr.r (qv 0) q_int) (q_idx hr.r (qv 1) q_int))) (blkOk_by (own := [("_law_gate_here", 8)]) (N := N__law_due) (sc := defScope s__law_due) (by decide +kernel)) (fun _ _ _ _ _ => pg_name (i := 8) nd rfl (Or.inl rfl)) (tgt_name (i := 8) (by decide) (by decide)) (fun _ _ _ _ _ _ hP => ts_one (t_eq hr.r (q_idx hr.r (qv 8) q_int) (qv 7))) (fun _ _ _ _ _ _ hP => (qv 8)))) a_nil)))))
    (s_one (s_ret hP (q_tup hP (a_cons (q_tup hP a_nil) (a_cons (q_tupleS rfl T.b_tuple (a_cons (qv 6) a_nil)) a_nil)))))))))))
theorem at__law_due {k : Nat} {S : SpD} (T : Mg mg) (Y : Cl K mg) (FA : FunAt K mg "_law_due" s__law_due ["_law_one", "_law_other"])
    (pure : ∀ ds q, S ds q → ds.length = P__law_due.length → g__law_due (endsOf P__law_due q) (startE N__law_due.length P__law_due ds)) : FnAt Pg w K mg base (k + 1) "_law_due" ["_law_one", "_law_other"] P__law_due S :=
    fn_at FA sc__law_due rfl (by decide) (fun f cdv A outer s H E C hr hP => d__law_due T Y hr hP) pure
/-! ### _law_joined_right -/
abbrev s__law_joined_right : Stmt := topS 32
abbrev N__law_joined_right : List Str := ["_law_one", "_law_other", "_law_due_net", "_law_caught", "_law_found", "e"]
abbrev P__law_joined_right : List Bool := [false, false, false]
theorem sc__law_joined_right : FnScope N__law_joined_right ["_law_one", "_law_other", "_law_due_net"] (defScope s__law_joined_right) := ⟨rfl, rfl, rfl, by decide +kernel, rfl, by decide +kernel, by decide +kernel⟩
def g__law_joined_right_L11 (S_joined : SpX) : DS :=
    (dRet P__law_joined_right (dAndV (dIsC (fun n => isSub n "NoFit") true (dVar 3)) (dIsC (fun _ => true) false (dVar 3))))
def g__law_joined_right_L9 (S_joined : SpX) : DS :=
    (dSeq (dIf (dTest (dIsC (fun n => [("Clash" : Str), ("NoBeat" : Str), ("NoMove" : Str), ("NoName" : Str), ("NoNet" : Str), ("NoPut" : Str), ("NoRow" : Str), ("NoText" : Str), ("NotSound" : Str), ("NoWire" : Str)].any (isSub n)) true (dVar 3)))
      (dRet P__law_joined_right (dC (.bool false)))
      dNext)
    (g__law_joined_right_L11 S_joined))
def g__law_joined_right_L7 (S_joined : SpX) : DS :=
    (dSeq (dIf (dTest (dBin (isND false) (dVar 2) (dC .none)))
      (dRet P__law_joined_right (dAndV (dBin (isND true) (dVar 3) (dC .none)) (dBin eqSD (dCB reprD (dCons (dVar 4) dNil)) (dCB reprD (dCons (dVar 2) dNil)))))
      dNext)
    (g__law_joined_right_L9 S_joined))
def g__law_joined_right_L3 (S_joined : SpX) : DS :=
    (dSeq (dTry 5 (fun Ex => (dSet P__law_joined_right 4 (dCallX Ex P__law_joined_right [false, false] S_joined (dCons (dVar 0) (dCons (dVar 1) dNil)))))
      (dSet P__law_joined_right 3 (dVar 5)))
    (g__law_joined_right_L7 S_joined))
def g__law_joined_right_L2 (S_joined : SpX) : DS :=
    (dSeq (dSet P__law_joined_right 4 (dC .none))
    (g__law_joined_right_L3 S_joined))
def g__law_joined_right (S_joined : SpX) : DS :=
    (dSeq (dSet P__law_joined_right 3 (dC .none))
    (g__law_joined_right_L2 S_joined))
theorem d__law_joined_right {S_joined : SpX} {k : Nat} {f : Addr} {cdv : Value} {A : Around} {outer : List Env} {s : Shared} {H : Hp} {E : XK} {C : FC} (T : Mg mg) (Y : Cl K mg) (h_joined : FnAtX Pg w K mg base k "joined" ["one", "other"] [false, false] S_joined)
    (hr : RG k (A.deeper (PyProof.Rows.envOfC "_law_joined_right" (defScope s__law_joined_right) s.heap.objs.size f cdv))) (hP : C.Tags P__law_joined_right) :
    QSs (cxOf CX0 Pg w K mg base N__law_joined_right "_law_joined_right" (defScope s__law_joined_right) f cdv A outer s H E).nox C (defBody s__law_joined_right) (g__law_joined_right S_joined) :=
    have nd := sc__law_joined_right.nd
    (s_cons (s_set (i := 3) hP nd q_non)
    (s_cons (s_set (i := 4) hP nd q_non)
    (s_cons (s_try (i := 5) hP nd Y.y_DelayError (fun _ _ _ _ hP tk po => (s_one (s_set (i := 4) hP nd (q_callXF hP tk h_joined hr (a_cons (qv 0) (a_cons (qv 1) a_nil))))))
      (fun _ _ => (s_one (s_set (i := 3) hP nd (qv 5)))))
    (s_cons (s_if (t_notN (qv 2) q_non)
      (s_one (s_ret hP (q_and (q_isN (qv 3) q_non) (q_one (q_eqS (q_repr hr T.b_repr (a_cons (qv 4) a_nil)) (q_repr hr T.b_repr (a_cons (qv 2) a_nil)))))))
      s_nil)
    (s_cons (s_if (t_val (q_isCs T.b_isinstance (cs_cons Y.y_Clash (cs_cons Y.y_NoBeat (cs_cons Y.y_NoMove (cs_cons Y.y_NoName (cs_cons Y.y_NoNet (cs_cons Y.y_NoPut (cs_cons Y.y_NoRow (cs_cons Y.y_NoText (cs_cons Y.y_NotSound (cs_cons Y.y_NoWire cs_nil)))))))))) (qv 3)))
      (s_one (s_ret hP q_bl))
      s_nil)
    (s_one (s_ret hP (q_and (q_isC T.b_isinstance Y.y_NoFit (qv 3)) (q_one (q_isVE T.b_isinstance T.b_ValueError (qv 3)))))))))))
theorem at__law_joined_right {S_joined : SpX} {k : Nat} {S : SpD} (T : Mg mg) (Y : Cl K mg) (FA : FunAt K mg "_law_joined_right" s__law_joined_right ["_law_one", "_law_other", "_law_due_net"]) (h_joined : FnAtX Pg w K mg base k "joined" ["one", "other"] [false, false] S_joined)
    (pure : ∀ ds q, S ds q → ds.length = P__law_joined_right.length → g__law_joined_right S_joined (endsOf P__law_joined_right q) (startE N__law_joined_right.length P__law_joined_right ds)) : FnAt Pg w K mg base (k + 1) "_law_joined_right" ["_law_one", "_law_other", "_law_due_net"] P__law_joined_right S :=
    fn_at FA sc__law_joined_right rfl (by decide) (fun f cdv A outer s H E C hr hP => d__law_joined_right T Y h_joined hr hP) pure
/-! ### _law_sides_right -/
abbrev s__law_sides_right : Stmt := topS 33
abbrev N__law_sides_right : List Str := ["_law_sheet_here", "_law_kept", "_law_other", "_law_mirror", "_law_shut", "_law_again", "_law_name", "_law_side", "_law_value"]
abbrev P__law_sides_right : List Bool := [false]
theorem sc__law_sides_right : FnScope N__law_sides_right ["_law_sheet_here"] (defScope s__law_sides_right) := ⟨rfl, rfl, rfl, by decide +kernel, rfl, by decide +kernel, by decide +kernel⟩
def g__law_sides_right_L6 (S_mirrored : SpD) (S_closed : SpD) : DS :=
    (dIf (dOr (dTest (dBin neSD (dCB reprD (dCons (dCall P__law_sides_right [false] S_mirrored (dCons (dVar 0) dNil)) dNil)) (dCB reprD (dCons (dVar 3) dNil)))) (dTest (dBin neSD (dCB reprD (dCons (dCall P__law_sides_right [false] S_closed (dCons (dVar 0) dNil)) dNil)) (dCB reprD (dCons (dVar 4) dNil)))))
        (dRet P__law_sides_right (dC (.bool false)))
        dNext)
def g__law_sides_right_L10 (S_mirrored : SpD) (S_closed : SpD) : DS :=
    (dRet P__law_sides_right (dBin eqSD (dCB reprD (dCons (dVar 0) dNil)) (dVar 1)))
def g__law_sides_right_L8 (S_mirrored : SpD) (S_closed : SpD) : DS :=
    (dSeq (dIf (dOr (dTest (dBin neSD (dCB reprD (dCons (dCall P__law_sides_right [false] S_mirrored (dCons (dVar 3) dNil)) dNil)) (dVar 1))) (dOr (dTest (dBin neSD (dCB reprD (dCons (dCall P__law_sides_right [false] S_closed (dCons (dVar 3) dNil)) dNil)) (dCB reprD (dCons (dVar 4) dNil)))) (dTest (dBin neSD (dCB reprD (dCons (dCall P__law_sides_right [false] S_closed (dCons (dVar 4) dNil)) dNil)) (dCB reprD (dCons (dVar 4) dNil))))))
      (dRet P__law_sides_right (dC (.bool false)))
      dNext)
    (g__law_sides_right_L10 S_mirrored S_closed))
def g__law_sides_right_L5 (S_mirrored : SpD) (S_closed : SpD) : DS :=
    (dSeq (dFor (dRng1 (dCons (dC (.int 2)) dNil)) (gN 5)
      (g__law_sides_right_L6 S_mirrored S_closed))
    (g__law_sides_right_L8 S_mirrored S_closed))
def g__law_sides_right_L4 (S_mirrored : SpD) (S_closed : SpD) : DS :=
    (dSeq (dSet P__law_sides_right 4 (dTup P__law_sides_right (dCons (dCB tupleSD (dCons (dFroz (dLc P__law_sides_right (dSeqI P__law_sides_right (dBin ixD (dVar 0) (dC (.int 0)))) (gTup' 3 (gNs' [6, 7, 8])) dYes (dTup P__law_sides_right (dCons (dVar 6) (dCons (dC (.str "answer")) (dCons (dVar 8) dNil)))) [6, 7, 8])) dNil)) (dCons (dBin ixD (dVar 0) (dC (.int 1))) (dCons (dBin ixD (dVar 0) (dC (.int 2))) dNil)))))
    (g__law_sides_right_L5 S_mirrored S_closed))
def g__law_sides_right_L3 (S_mirrored : SpD) (S_closed : SpD) : DS :=
    (dSeq (dSet P__law_sides_right 3 (dTup P__law_sides_right (dCons (dCB tupleSD (dCons (dFroz (dLc P__law_sides_right (dSeqI P__law_sides_right (dBin ixD (dVar 0) (dC (.int 0)))) (gTup' 3 (gNs' [6, 7, 8])) dYes (dTup P__law_sides_right (dCons (dVar 6) (dCons (dBin ixD (dVar 2) (dVar 7)) (dCons (dVar 8) dNil)))) [6, 7, 8])) dNil)) (dCons (dBin ixD (dVar 0) (dC (.int 1))) (dCons (dBin ixD (dVar 0) (dC (.int 2))) dNil)))))
    (g__law_sides_right_L4 S_mirrored S_closed))
def g__law_sides_right_L2 (S_mirrored : SpD) (S_closed : SpD) : DS :=
    (dSeq (dSet P__law_sides_right 2 (dFroz (dDisp P__law_sides_right [((dC (.str "ask")), (dC (.str "answer"))), ((dC (.str "answer")), (dC (.str "ask")))])))
    (g__law_sides_right_L3 S_mirrored S_closed))
def g__law_sides_right (S_mirrored : SpD) (S_closed : SpD) : DS :=
    (dSeq (dSet P__law_sides_right 1 (dCB reprD (dCons (dVar 0) dNil)))
    (g__law_sides_right_L2 S_mirrored S_closed))
theorem d__law_sides_right {S_mirrored : SpD} {S_closed : SpD} {k : Nat} {f : Addr} {cdv : Value} {A : Around} {outer : List Env} {s : Shared} {H : Hp} {E : XK} {C : FC} (T : Mg mg) (Y : Cl K mg) (h_mirrored : FnAt Pg w K mg base k "mirrored" ["sheet"] [false] S_mirrored) (h_closed : FnAt Pg w K mg base k "closed" ["sheet"] [false] S_closed)
    (hr : RG k (A.deeper (PyProof.Rows.envOfC "_law_sides_right" (defScope s__law_sides_right) s.heap.objs.size f cdv))) (hP : C.Tags P__law_sides_right) :
    QSs (cxOf CX0 Pg w K mg base N__law_sides_right "_law_sides_right" (defScope s__law_sides_right) f cdv A outer s H E).nox C (defBody s__law_sides_right) (g__law_sides_right S_mirrored S_closed) :=
    have nd := sc__law_sides_right.nd
    (s_cons (s_set (i := 1) hP nd (q_repr hr T.b_repr (a_cons (qv 0) a_nil)))
    (s_cons (s_set (i := 2) hP nd (q_froz (o_disp hP (ps_cons' (fun _ hP => q_str) (fun _ hP => q_str) (ps_cons' (fun _ hP => q_str) (fun _ hP => q_str) ps_nil')))))
    (s_cons (s_set (i := 3) hP nd (q_tup hP (a_cons (q_tupleS rfl T.b_tuple (a_cons (q_froz (o_lc (own := [("_law_name", 6), ("_law_side", 7), ("_law_value", 8)]) hP rfl nd (i_seq hP (q_idx hr.r (qv 0) q_int)) (blkOk_by (own := [("_law_name", 6), ("_law_side", 7), ("_law_value", 8)]) (N := N__law_sides_right) (sc := defScope s__law_sides_right) (by decide +kernel)) (fun _ _ _ _ _ => pg_tup rfl (pgs_cons (pg_name (i := 6) nd rfl (Or.inl rfl)) (pgs_cons (pg_name (i := 7) nd rfl (Or.inl rfl)) (pgs_cons (pg_name (i := 8) nd rfl (Or.inl rfl)) pgs_nil)))) (tgt_tup (is := [6, 7, 8]) (by decide)) (fun _ _ _ _ _ _ _ => ts_nil) (fun _ _ _ _ _ _ hP => (q_tup hP (a_cons (qv 6) (a_cons (q_idx hr.r (qv 2) (qv 7)) (a_cons (qv 8) a_nil))))))) a_nil)) (a_cons (q_idx hr.r (qv 0) q_int) (a_cons (q_idx hr.r (qv 0) q_int) a_nil)))))
    (s_cons (s_set (i := 4) hP nd (q_tup hP (a_cons (q_tupleS rfl T.b_tuple (a_cons (q_froz (o_lc (own := [("_law_name", 6), ("_law_side", 7), ("_law_value", 8)]) hP rfl nd (i_seq hP (q_idx hr.r (qv 0) q_int)) (blkOk_by (own := [("_law_name", 6), ("_law_side", 7), ("_law_value", 8)]) (N := N__law_sides_right) (sc := defScope s__law_sides_right) (by decide +kernel)) (fun _ _ _ _ _ => pg_tup rfl (pgs_cons (pg_name (i := 6) nd rfl (Or.inl rfl)) (pgs_cons (pg_name (i := 7) nd rfl (Or.inl rfl)) (pgs_cons (pg_name (i := 8) nd rfl (Or.inl rfl)) pgs_nil)))) (tgt_tup (is := [6, 7, 8]) (by decide)) (fun _ _ _ _ _ _ _ => ts_nil) (fun _ _ _ _ _ _ hP => (q_tup hP (a_cons (qv 6) (a_cons q_str (a_cons (qv 8) a_nil))))))) a_nil)) (a_cons (q_idx hr.r (qv 0) q_int) (a_cons (q_idx hr.r (qv 0) q_int) a_nil)))))
    (s_cons (s_for PassesOwn.never rfl (i_range1 T.b_range (a_cons q_int a_nil)) (g_name (i := 5) hP nd)
      (s_one (s_if (t_w (w_or (t_neS (q_repr hr T.b_repr (a_cons (q_callF hP h_mirrored hr (a_cons (qv 0) a_nil)) a_nil)) (q_repr hr T.b_repr (a_cons (qv 3) a_nil))) (w_or1 (t_neS (q_repr hr T.b_repr (a_cons (q_callF hP h_closed hr (a_cons (qv 0) a_nil)) a_nil)) (q_repr hr T.b_repr (a_cons (qv 4) a_nil))))))
        (s_one (s_ret hP q_bl))
        s_nil)))
    (s_cons (s_if (t_w (w_or (t_neS (q_repr hr T.b_repr (a_cons (q_callF hP h_mirrored hr (a_cons (qv 3) a_nil)) a_nil)) (qv 1)) (w_or (t_neS (q_repr hr T.b_repr (a_cons (q_callF hP h_closed hr (a_cons (qv 3) a_nil)) a_nil)) (q_repr hr T.b_repr (a_cons (qv 4) a_nil))) (w_or1 (t_neS (q_repr hr T.b_repr (a_cons (q_callF hP h_closed hr (a_cons (qv 4) a_nil)) a_nil)) (q_repr hr T.b_repr (a_cons (qv 4) a_nil)))))))
      (s_one (s_ret hP q_bl))
      s_nil)
    (s_one (s_ret hP (q_eqS (q_repr hr T.b_repr (a_cons (qv 0) a_nil)) (qv 1))))))))))
theorem at__law_sides_right {S_mirrored : SpD} {S_closed : SpD} {k : Nat} {S : SpD} (T : Mg mg) (Y : Cl K mg) (FA : FunAt K mg "_law_sides_right" s__law_sides_right ["_law_sheet_here"]) (h_mirrored : FnAt Pg w K mg base k "mirrored" ["sheet"] [false] S_mirrored) (h_closed : FnAt Pg w K mg base k "closed" ["sheet"] [false] S_closed)
    (pure : ∀ ds q, S ds q → ds.length = P__law_sides_right.length → g__law_sides_right S_mirrored S_closed (endsOf P__law_sides_right q) (startE N__law_sides_right.length P__law_sides_right ds)) : FnAt Pg w K mg base (k + 1) "_law_sides_right" ["_law_sheet_here"] P__law_sides_right S :=
    fn_at FA sc__law_sides_right rfl (by decide) (fun f cdv A outer s H E C hr hP => d__law_sides_right T Y h_mirrored h_closed hr hP) pure
/-! ### law -/
abbrev s_law : Stmt := topS 34
abbrev N_law : List Str := ["_law_script", "_law_pen_here", "_law_k", "_law_one", "_law_other", "_law_kept", "_law_due_net", "_law_again"]
abbrev P_law : List Bool := [false]
theorem sc_law : FnScope N_law ["_law_script"] (defScope s_law) := ⟨rfl, rfl, rfl, by decide +kernel, rfl, by decide +kernel, by decide +kernel⟩
def g_law_L9 (S__law_pen : SpD) (S__law_sides_right : SpD) (S__law_sheet : SpD) (S__law_names : SpD) (S__law_draw : SpD) (S__law_two : SpD) (S__law_due : SpD) (S__law_joined_right : SpD) : DS :=
    (dIf (dOr (dNot (dTest (dCall P_law [false, false, false] S__law_joined_right (dCons (dVar 3) (dCons (dVar 4) (dCons (dVar 6) dNil)))))) (dNot (dTest (dCall P_law [false, false, false] S__law_joined_right (dCons (dVar 4) (dCons (dVar 3) (dCons (dVar 6) dNil)))))))
          (dRet P_law (dC (.bool false)))
          dNext)
def g_law_L11 (S__law_pen : SpD) (S__law_sides_right : SpD) (S__law_sheet : SpD) (S__law_names : SpD) (S__law_draw : SpD) (S__law_two : SpD) (S__law_due : SpD) (S__law_joined_right : SpD) : DS :=
    (dIf (dTest (dBin neSD (dCB reprD (dCons (dTup P_law (dCons (dVar 3) (dCons (dVar 4) dNil))) dNil)) (dVar 5)))
        (dRet P_law (dC (.bool false)))
        dNext)
def g_law_L8 (S__law_pen : SpD) (S__law_sides_right : SpD) (S__law_sheet : SpD) (S__law_names : SpD) (S__law_draw : SpD) (S__law_two : SpD) (S__law_due : SpD) (S__law_joined_right : SpD) : DS :=
    (dSeq (dFor (dRng1 (dCons (dC (.int 2)) dNil)) (gN 7)
        (g_law_L9 S__law_pen S__law_sides_right S__law_sheet S__law_names S__law_draw S__law_two S__law_due S__law_joined_right))
      (g_law_L11 S__law_pen S__law_sides_right S__law_sheet S__law_names S__law_draw S__law_two S__law_due S__law_joined_right))
def g_law_L7 (S__law_pen : SpD) (S__law_sides_right : SpD) (S__law_sheet : SpD) (S__law_names : SpD) (S__law_draw : SpD) (S__law_two : SpD) (S__law_due : SpD) (S__law_joined_right : SpD) : DS :=
    (dSeq (dSet P_law 6 (dCall P_law [false, false] S__law_due (dCons (dVar 3) (dCons (dVar 4) dNil))))
      (g_law_L8 S__law_pen S__law_sides_right S__law_sheet S__law_names S__law_draw S__law_two S__law_due S__law_joined_right))
def g_law_L6 (S__law_pen : SpD) (S__law_sides_right : SpD) (S__law_sheet : SpD) (S__law_names : SpD) (S__law_draw : SpD) (S__law_two : SpD) (S__law_due : SpD) (S__law_joined_right : SpD) : DS :=
    (dSeq (dSet P_law 5 (dCB reprD (dCons (dTup P_law (dCons (dVar 3) (dCons (dVar 4) dNil))) dNil)))
      (g_law_L7 S__law_pen S__law_sides_right S__law_sheet S__law_names S__law_draw S__law_two S__law_due S__law_joined_right))
def g_law_L5 (S__law_pen : SpD) (S__law_sides_right : SpD) (S__law_sheet : SpD) (S__law_names : SpD) (S__law_draw : SpD) (S__law_two : SpD) (S__law_due : SpD) (S__law_joined_right : SpD) : DS :=
    (dSeq (dAsg P_law (dCall P_law [true] S__law_two (dCons (dVar 1) dNil)) (gUnl' 2 (gCons' (gN 3) (gCons' (gN 4) gNil'))))
      (g_law_L6 S__law_pen S__law_sides_right S__law_sheet S__law_names S__law_draw S__law_two S__law_due S__law_joined_right))
def g_law_L3 (S__law_pen : SpD) (S__law_sides_right : SpD) (S__law_sheet : SpD) (S__law_names : SpD) (S__law_draw : SpD) (S__law_two : SpD) (S__law_due : SpD) (S__law_joined_right : SpD) : DS :=
    (dSeq (dIf (dNot (dTest (dCall P_law [false] S__law_sides_right (dCons (dCall P_law [true, false] S__law_sheet (dCons (dVar 1) (dCons (dCall P_law [true, false] S__law_names (dCons (dVar 1) (dCons (dBin addAD (dC (.int 1)) (dCall P_law [true, false] S__law_draw (dCons (dVar 1) (dCons (dC (.int 8)) dNil)))) dNil))) dNil))) dNil))))
        (dRet P_law (dC (.bool false)))
        dNext)
      (g_law_L5 S__law_pen S__law_sides_right S__law_sheet S__law_names S__law_draw S__law_two S__law_due S__law_joined_right))
def g_law_L13 (S__law_pen : SpD) (S__law_sides_right : SpD) (S__law_sheet : SpD) (S__law_names : SpD) (S__law_draw : SpD) (S__law_two : SpD) (S__law_due : SpD) (S__law_joined_right : SpD) : DS :=
    (dRet P_law (dC (.bool true)))
def g_law_L2 (S__law_pen : SpD) (S__law_sides_right : SpD) (S__law_sheet : SpD) (S__law_names : SpD) (S__law_draw : SpD) (S__law_two : SpD) (S__law_due : SpD) (S__law_joined_right : SpD) : DS :=
    (dSeq (dFor (dRng1 (dCons (dC (.int 3)) dNil)) (gN 2)
      (g_law_L3 S__law_pen S__law_sides_right S__law_sheet S__law_names S__law_draw S__law_two S__law_due S__law_joined_right))
    (g_law_L13 S__law_pen S__law_sides_right S__law_sheet S__law_names S__law_draw S__law_two S__law_due S__law_joined_right))
def g_law (S__law_pen : SpD) (S__law_sides_right : SpD) (S__law_sheet : SpD) (S__law_names : SpD) (S__law_draw : SpD) (S__law_two : SpD) (S__law_due : SpD) (S__law_joined_right : SpD) : DS :=
    (dSeq (dSetO 1 (dCallO P_law [false] S__law_pen (dCons (dVar 0) dNil)))
    (g_law_L2 S__law_pen S__law_sides_right S__law_sheet S__law_names S__law_draw S__law_two S__law_due S__law_joined_right))
theorem d_law {S__law_pen : SpD} {S__law_sides_right : SpD} {S__law_sheet : SpD} {S__law_names : SpD} {S__law_draw : SpD} {S__law_two : SpD} {S__law_due : SpD} {S__law_joined_right : SpD} {k : Nat} {f : Addr} {cdv : Value} {A : Around} {outer : List Env} {s : Shared} {H : Hp} {E : XK} {C : FC} (T : Mg mg) (Y : Cl K mg) (h__law_pen : FnAt Pg w K mg base k "_law_pen" ["_law_script"] [false] S__law_pen) (h__law_sides_right : FnAt Pg w K mg base k "_law_sides_right" ["_law_sheet_here"] [false] S__law_sides_right) (h__law_sheet : FnAt Pg w K mg base k "_law_sheet" ["_law_pen_here", "_law_names_here"] [true, false] S__law_sheet) (h__law_names : FnAt Pg w K mg base k "_law_names" ["_law_pen_here", "_law_many"] [true, false] S__law_names) (h__law_draw : FnAt Pg w K mg base k "_law_draw" ["_law_pen_here", "_law_many"] [true, false] S__law_draw) (h__law_two : FnAt Pg w K mg base k "_law_two" ["_law_pen_here"] [true] S__law_two) (h__law_due : FnAt Pg w K mg base k "_law_due" ["_law_one", "_law_other"] [false, false] S__law_due) (h__law_joined_right : FnAt Pg w K mg base k "_law_joined_right" ["_law_one", "_law_other", "_law_due_net"] [false, false, false] S__law_joined_right)
    (hr : RG k (A.deeper (PyProof.Rows.envOfC "law" (defScope s_law) s.heap.objs.size f cdv))) (hP : C.Tags P_law) :
    QSs (cxOf CX0 Pg w K mg base N_law "law" (defScope s_law) f cdv A outer s H E).nox C (defBody s_law) (g_law S__law_pen S__law_sides_right S__law_sheet S__law_names S__law_draw S__law_two S__law_due S__law_joined_right) :=
    have nd := sc_law.nd
    (s_cons (s_setO (i := 1) hP nd (o_callF hP h__law_pen hr (a_cons (qv 0) a_nil)))
    (s_cons (s_for PassesOwn.never rfl (i_range1 T.b_range (a_cons q_int a_nil)) (g_name (i := 2) hP nd)
      (s_cons (s_if (t_not (t_val (q_callF hP h__law_sides_right hr (a_cons (q_callF hP h__law_sheet hr (a_cons (qv 1) (a_cons (q_callF hP h__law_names hr (a_cons (qv 1) (a_cons (q_addA q_int (q_callF hP h__law_draw hr (a_cons (qv 1) (a_cons q_int a_nil)))) a_nil))) a_nil))) a_nil))))
        (s_one (s_ret hP q_bl))
        s_nil)
      (s_cons (s_asg hP (q_callF hP h__law_two hr (a_cons (qv 1) a_nil)) (g_unl rfl (gs_cons (g_name (i := 3) hP nd) (gs_cons (g_name (i := 4) hP nd) gs_nil))))
      (s_cons (s_set (i := 5) hP nd (q_repr hr T.b_repr (a_cons (q_tup hP (a_cons (qv 3) (a_cons (qv 4) a_nil))) a_nil)))
      (s_cons (s_set (i := 6) hP nd (q_callF hP h__law_due hr (a_cons (qv 3) (a_cons (qv 4) a_nil))))
      (s_cons (s_for PassesOwn.never rfl (i_range1 T.b_range (a_cons q_int a_nil)) (g_name (i := 7) hP nd)
        (s_one (s_if (t_w (w_or (t_not (t_val (q_callF hP h__law_joined_right hr (a_cons (qv 3) (a_cons (qv 4) (a_cons (qv 6) a_nil)))))) (w_or1 (t_not (t_val (q_callF hP h__law_joined_right hr (a_cons (qv 4) (a_cons (qv 3) (a_cons (qv 6) a_nil)))))))))
          (s_one (s_ret hP q_bl))
          s_nil)))
      (s_one (s_if (t_neS (q_repr hr T.b_repr (a_cons (q_tup hP (a_cons (qv 3) (a_cons (qv 4) a_nil))) a_nil)) (qv 5))
        (s_one (s_ret hP q_bl))
        s_nil))))))))
    (s_one (s_ret hP q_bl))))
theorem at_law {S__law_pen : SpD} {S__law_sides_right : SpD} {S__law_sheet : SpD} {S__law_names : SpD} {S__law_draw : SpD} {S__law_two : SpD} {S__law_due : SpD} {S__law_joined_right : SpD} {k : Nat} {S : SpD} (T : Mg mg) (Y : Cl K mg) (FA : FunAt K mg "law" s_law ["_law_script"]) (h__law_pen : FnAt Pg w K mg base k "_law_pen" ["_law_script"] [false] S__law_pen) (h__law_sides_right : FnAt Pg w K mg base k "_law_sides_right" ["_law_sheet_here"] [false] S__law_sides_right) (h__law_sheet : FnAt Pg w K mg base k "_law_sheet" ["_law_pen_here", "_law_names_here"] [true, false] S__law_sheet) (h__law_names : FnAt Pg w K mg base k "_law_names" ["_law_pen_here", "_law_many"] [true, false] S__law_names) (h__law_draw : FnAt Pg w K mg base k "_law_draw" ["_law_pen_here", "_law_many"] [true, false] S__law_draw) (h__law_two : FnAt Pg w K mg base k "_law_two" ["_law_pen_here"] [true] S__law_two) (h__law_due : FnAt Pg w K mg base k "_law_due" ["_law_one", "_law_other"] [false, false] S__law_due) (h__law_joined_right : FnAt Pg w K mg base k "_law_joined_right" ["_law_one", "_law_other", "_law_due_net"] [false, false, false] S__law_joined_right)
    (pure : ∀ ds q, S ds q → ds.length = P_law.length → g_law S__law_pen S__law_sides_right S__law_sheet S__law_names S__law_draw S__law_two S__law_due S__law_joined_right (endsOf P_law q) (startE N_law.length P_law ds)) : FnAt Pg w K mg base (k + 1) "law" ["_law_script"] P_law S :=
    fn_at FA sc_law rfl (by decide) (fun f cdv A outer s H E C hr hP => d_law T Y h__law_pen h__law_sides_right h__law_sheet h__law_names h__law_draw h__law_two h__law_due h__law_joined_right hr hP) pure
end
end My

set_option linter.all false
set_option maxRecDepth 100000
namespace My
open PySem PySem.Spec L2 Dv
/-! ### the pen, a list -/
def penL (ns : List Int) (a l : Int) : PyData := .list [.list (ns.map .int), .int a, .int l]
def PenOk (m : Nat) (d : PyData) : Prop := ∃ ns a l, d = penL ns a l ∧ ns.length ≤ 63 ∧ 0 ≤ a ∧ a ≤ m ∧ 0 ≤ l
theorem PenOk.mono {m n : Nat} {d : PyData} (h : PenOk m d) (hmn : m ≤ n) : PenOk n d := let ⟨ns, a, l, e, h1, h2, h3, h4⟩ := h; ⟨ns, a, l, e, h1, h2, by omega, h4⟩
def S__law_pen : SpD := fun ds q => ∃ ns : List Int, ds = [.list (ns.map .int)] ∧ ∀ pen, PenOk 0 pen → q (.own pen) [none]
theorem cut63 (ns : List Int) : ∃ ms : List Int, cutD (ns.map PyData.int) none (some 63) = ms.map PyData.int ∧ ms.length ≤ 63 := by
  refine ⟨ns.take 63, ?_, by simp; omega⟩
  unfold cutD
  rw [HT.sIx_none, show HT.sIx (ns.map PyData.int).length (ns.map PyData.int).length (some 63) = min 63 (ns.map PyData.int).length from HT.sIx_nat _ _ 63]
  rw [List.drop_zero, Nat.sub_zero, List.map_take, List.length_map]
  by_cases h : 63 ≤ ns.length
  · rw [Nat.min_eq_left h]
  · rw [Nat.min_eq_right (by omega), List.take_of_length_le (by simp), List.take_of_length_le (by simp; omega)]
theorem p__law_pen (ds : List PyData) (q : SV → Outs → Prop) (h : S__law_pen ds q) (hl : ds.length = P__law_pen.length) : g__law_pen (endsOf P__law_pen q) (startE N__law_pen.length P__law_pen ds) := by
  obtain ⟨ns, rfl, h⟩ := h
  obtain ⟨ms, e, hm⟩ := cut63 ns
  refine ⟨tle, h _ ⟨ms, 0, 0, ?_, hm, by omega, by omega, by omega⟩⟩
  show PyData.list [.list (cutD (ns.map PyData.int) none (some 63)), .int 0, .int 0] = _
  rw [e]
  rfl
def S__law_draw : SpD := fun ds q => ∃ pen n m, ds = [pen, .int n] ∧ PenOk m pen ∧ m < 1073741824 ∧ 0 < n ∧ n < 1073741824 ∧ ∀ r pen', 0 ≤ r → r < n → PenOk (m + 1) pen' → q (.frz (.int r)) [some pen', none]
theorem shp_int (i : Int) : shp (.int i) := rfl
theorem shp_ints (ns : List Int) : shp (.list (ns.map .int)) := (Shp.list (n := 0) fun d hd => by obtain ⟨i, _, rfl⟩ := List.mem_map.mp hd; exact Shp.int i).shp
theorem at_ints {ns : List Int} (h : ns ≠ []) {a : Int} (ha : 0 ≤ a) : ∃ c : Int, atI (ns.map PyData.int) (a % ((ns.map PyData.int).length : Nat)) = some (.int c) := by
  have hl : 0 < ns.length := List.length_pos_iff.mpr h
  have h1 : 0 ≤ a % (ns.length : Int) := Int.emod_nonneg _ (by omega)
  have h2 : a % (ns.length : Int) < ns.length := Int.emod_lt_of_pos _ (by omega)
  rw [List.length_map]
  have e : (((a % (ns.length : Int)).toNat : Nat) : Int) = a % (ns.length : Int) := by omega
  have hj : (a % (ns.length : Int)).toNat < ns.length := by omega
  refine ⟨ns[(a % (ns.length : Int)).toNat], ?_⟩
  have z := atI_nat (xs := ns.map PyData.int) (j := (a % (ns.length : Int)).toNat) (v := .int ns[(a % (ns.length : Int)).toNat]) (by rw [List.getElem?_map, List.getElem?_eq_getElem hj]; rfl)
  rw [e] at z
  exact z
theorem p__law_draw (ds : List PyData) (q : SV → Outs → Prop) (h : S__law_draw ds q) (hl : ds.length = P__law_draw.length) : g__law_draw (endsOf P__law_draw q) (startE N__law_draw.length P__law_draw ds) := by
  obtain ⟨pen, n, m, rfl, ⟨ns, a, l, rfl, hns, ha, ham, hl0⟩, hm, hn, hn2, h⟩ := h
  have fin : ∀ (x : Int) (a' l' : Int), 0 ≤ a' → a' ≤ a + 1 → 0 ≤ l' → q (.frz (.int (x % n))) [some (penL ns a' l'), none] := fun x a' l' h1 h2 h3 =>
    h _ _ (Int.emod_nonneg _ (by omega)) (Int.emod_lt_of_pos _ hn) ⟨ns, a', _, rfl, hns, h1, by omega, h3⟩
  have dv : ∀ x : Int, 0 ≤ x → 0 ≤ x / n := fun x hx => Int.ediv_nonneg hx (by omega)
  have k1 : (0 : Int) < 2147483629 := by decide
  have k2 : (0 : Int) < 2147483647 := by decide
  have k3 : (0 : Int) < 2147483587 := by decide
  have c0 : CMul 29 a := .inl (by decide)
  have c1 : CMul 50021 a := .inl (by decide)
  have k4 : (0 : Int) < 65519 := by decide
  have c3 : ∀ x y : Int, CMul (x % 2147483647) y := fun x y => .inl (by
    have := Int.emod_nonneg x (show (2147483647 : Int) ≠ 0 by decide)
    have := Int.emod_lt_of_pos x k2
    omega)
  have c5 : ∀ x : Int, CDiv x 64 := fun x => ⟨by decide, by decide⟩
  have c6 : CPow 10 18 := ⟨by decide, by decide, by decide⟩
  have c7 : ∀ x : Int, CPow (x % 2147483629 + 50021 * a + 307) 3 := fun x => ⟨by decide, by decide, by
    have := Int.emod_nonneg x (show (2147483629 : Int) ≠ 0 by decide)
    have := Int.emod_lt_of_pos x k1
    omega⟩
  refine by2_d (fun h0 => ?_) (fun h0 => ?_)
  · exact ⟨hn, ⟨hn, hn2⟩, fin l a (l / n) ha (by omega) (dv _ hl0)⟩
  · refine ⟨c0, by2_d (fun h1 => ?_) (fun h1 => ?_)⟩
    · have hne : ns ≠ [] := fun z => by subst z; exact absurd h1 (by decide)
      have hl : 0 < ns.length := List.length_pos_iff.mpr hne
      refine ⟨by show (0 : Int) < ((ns.map PyData.int).length : Nat); rw [List.length_map]; omega, ?_⟩
      obtain ⟨c, hc⟩ := at_ints hne ha
      conv => whnf
      rw [hc]
      refine by2_d (fun h2 => ⟨c6, by2_d (fun h3 => ?_) (fun h3 => ?_)⟩) (fun h2 => ?_)
      · exact ⟨⟨hn, hn2⟩, hn, fin _ (a + 1) _ (by omega) (by omega) (dv _ (by split <;> omega))⟩
      · exact ⟨k1, c1, c7 c, k2, k4, c3 _ _, k3, c5 _, hn, fin _ (a + 1) l (by omega) (by omega) hl0⟩
      · exact ⟨k1, c1, c7 c, k2, k4, c3 _ _, k3, c5 _, hn, fin _ (a + 1) l (by omega) (by omega) hl0⟩
    · generalize (29 * a + 13 : Int) = c
      refine by2_d (fun h2 => ⟨c6, by2_d (fun h3 => ?_) (fun h3 => ?_)⟩) (fun h2 => ?_)
      · exact ⟨⟨hn, hn2⟩, hn, fin _ (a + 1) _ (by omega) (by omega) (dv _ (by split <;> omega))⟩
      · exact ⟨k1, c1, c7 c, k2, k4, c3 _ _, k3, c5 _, hn, fin _ (a + 1) l (by omega) (by omega) hl0⟩
      · exact ⟨k1, c1, c7 c, k2, k4, c3 _ _, k3, c5 _, hn, fin _ (a + 1) l (by omega) (by omega) hl0⟩
end My

set_option linter.all false
set_option maxRecDepth 100000
namespace My
open PySem PySem.Spec L2 Dv
/-! ### rules -/
def abc : List Nat := (Str.ofString "abcdefghijklmnopqrstuvwxyz").cps.toList
structure NameOk (z : Str) : Prop where
  l1 : 1 ≤ z.length
  l8 : z.length ≤ 8
  ab : ∀ c ∈ z.cps.toList, c ∈ abc
theorem abc_lt : ∀ c ∈ abc, c < 128 := by decide +kernel
theorem NameOk.tx {z : Str} (h : NameOk z) : Tx 8 z := ⟨h.l8, fun c hc => by have := abc_lt c (h.ab c hc); omega⟩
def Bit (v : Int) : Prop := v = 0 ∨ v = 1
inductive Rule : Type
  | is (z : Str) (v : Int)
  | no (r : Rule)
  | all (rs : List Rule)
  | any (rs : List Rule)
def sIs : Str := Str.ofString "is"
def sNot : Str := Str.ofString "not"
def sAll : Str := Str.ofString "all"
def sSome : Str := Str.ofString "some"
mutual
def enc : Rule → PyData
  | .is z v => .tuple [.str sIs, .str z, .int v]
  | .no r => .tuple [.str sNot, enc r]
  | .all rs => .tuple [.str sAll, .tuple (encs rs)]
  | .any rs => .tuple [.str sSome, .tuple (encs rs)]
def encs : List Rule → List PyData
  | [] => []
  | r :: rs => enc r :: encs rs
end
theorem encs_map : ∀ rs : List Rule, encs rs = rs.map enc
  | [] => by simp [encs]
  | r :: rs => by simp [encs, encs_map rs]
mutual
def size : Rule → Nat
  | .is _ _ => 1
  | .no r => 1 + size r
  | .all rs => 1 + sizes rs
  | .any rs => 1 + sizes rs
def sizes : List Rule → Nat
  | [] => 0
  | r :: rs => size r + sizes rs
end
mutual
def namesOf : Rule → List Str
  | .is z _ => [z]
  | .no r => namesOf r
  | .all rs => namesAll rs
  | .any rs => namesAll rs
def namesAll : List Rule → List Str
  | [] => []
  | r :: rs => namesOf r ++ namesAll rs
end
theorem size_pos (r : Rule) : 1 ≤ size r := by cases r <;> simp [size] <;> omega
theorem sizes_app (a b : List Rule) : sizes (a ++ b) = sizes a + sizes b := by
  induction a with
  | nil => simp [sizes]
  | cons r a ih => simp only [List.cons_append, sizes, ih]; omega
theorem namesAll_app (a b : List Rule) : namesAll (a ++ b) = namesAll a ++ namesAll b := by
  induction a with
  | nil => simp [namesAll]
  | cons r a ih => simp only [List.cons_append, namesAll, ih, List.append_assoc]
theorem sizes_len (rs : List Rule) : rs.length ≤ sizes rs := by
  induction rs with
  | nil => simp
  | cons r rs ih => have := size_pos r; simp only [List.length_cons, sizes]; omega
theorem size_mem {r : Rule} {rs : List Rule} (h : r ∈ rs) : size r ≤ sizes rs := by
  induction rs with
  | nil => simp at h
  | cons a rs ih =>
    simp only [sizes]
    rcases List.mem_cons.mp h with rfl | h
    · omega
    · have := ih h; omega
/-- a rule of names in ns, at most n deep -/
inductive ROk (nm : Str → Prop) : Nat → Rule → Prop
  | is {n : Nat} {z : Str} {v : Int} : nm z → NameOk z → Bit v → ROk nm (n + 1) (.is z v)
  | no {n : Nat} {r : Rule} : ROk nm n r → ROk nm (n + 1) (.no r)
  | all {n : Nat} {rs : List Rule} : (∀ r ∈ rs, ROk nm n r) → ROk nm (n + 1) (.all rs)
  | any {n : Nat} {rs : List Rule} : (∀ r ∈ rs, ROk nm n r) → ROk nm (n + 1) (.any rs)
theorem ROk.imp {nm nm' : Str → Prop} (hi : ∀ z, nm z → nm' z) : ∀ {n : Nat} {r : Rule}, ROk nm n r → ROk nm' n r
  | _, _, .is h1 h2 h3 => .is (hi _ h1) h2 h3
  | _, _, .no h => .no (ROk.imp hi h)
  | _, _, .all h => .all fun r hr => ROk.imp hi (h r hr)
  | _, _, .any h => .any fun r hr => ROk.imp hi (h r hr)
theorem ROk.succ {nm : Str → Prop} : ∀ {n : Nat} {r : Rule}, ROk nm n r → ROk nm (n + 1) r
  | _, _, .is h1 h2 h3 => .is h1 h2 h3
  | _, _, .no h => .no h.succ
  | _, _, .all h => .all fun r hr => (h r hr).succ
  | _, _, .any h => .any fun r hr => (h r hr).succ
theorem ROk.mono {nm : Str → Prop} {n m : Nat} {r : Rule} (h : ROk nm n r) (hnm : n ≤ m) : ROk nm m r := by
  induction hnm with
  | refl => exact h
  | step _ ih => exact ih.succ
/-- the names of a rule -/
theorem names_in {nm : Str → Prop} : ∀ {n : Nat} {r : Rule}, ROk nm n r → ∀ z ∈ namesOf r, nm z ∧ NameOk z
  | _, _, .is h1 h2 _, z, hz => by simp [namesOf] at hz; subst hz; exact ⟨h1, h2⟩
  | _, _, .no h, z, hz => names_in h z (by simpa [namesOf] using hz)
  | _, _, @ROk.all _ n rs h, z, hz => by
    simp only [namesOf] at hz
    have : ∀ l : List Rule, (∀ r ∈ l, ∀ y ∈ namesOf r, nm y ∧ NameOk y) → ∀ y ∈ namesAll l, nm y ∧ NameOk y := by
      intro l
      induction l with
      | nil => intro _ y hy; simp [namesAll] at hy
      | cons a l ih =>
        intro hl y hy
        simp only [namesAll, List.mem_append] at hy
        rcases hy with hy | hy
        · exact hl a List.mem_cons_self y hy
        · exact ih (fun r hr => hl r (List.mem_cons_of_mem _ hr)) y hy
    exact this rs (fun r hr y hy => names_in (h r hr) y hy) z hz
  | _, _, @ROk.any _ n rs h, z, hz => by
    simp only [namesOf] at hz
    have : ∀ l : List Rule, (∀ r ∈ l, ∀ y ∈ namesOf r, nm y ∧ NameOk y) → ∀ y ∈ namesAll l, nm y ∧ NameOk y := by
      intro l
      induction l with
      | nil => intro _ y hy; simp [namesAll] at hy
      | cons a l ih =>
        intro hl y hy
        simp only [namesAll, List.mem_append] at hy
        rcases hy with hy | hy
        · exact hl a List.mem_cons_self y hy
        · exact ih (fun r hr => hl r (List.mem_cons_of_mem _ hr)) y hy
    exact this rs (fun r hr y hy => names_in (h r hr) y hy) z hz
mutual
theorem names_le : ∀ r : Rule, (namesOf r).length ≤ size r
  | .is _ _ => by simp [namesOf, size]
  | .no r => by have := names_le r; simp only [namesOf, size]; omega
  | .all rs => by have := namesAll_le rs; simp only [namesOf, size]; omega
  | .any rs => by have := namesAll_le rs; simp only [namesOf, size]; omega
theorem namesAll_le : ∀ rs : List Rule, (namesAll rs).length ≤ sizes rs
  | [] => by simp [namesAll]
  | r :: rs => by
    have := names_le r
    have := namesAll_le rs
    simp only [namesAll, sizes, List.length_append]
    omega
end
/-! ### what may be shown -/
theorem join_le : ∀ ts : List Str, (Str.join ", " ts).length ≤ (ts.map (·.length)).sum + 2 * ts.length
  | [] => by decide
  | [x] => by show x.length ≤ _; simp
  | x :: y :: r => by
    have e : Str.join ", " (x :: y :: r) = x ++ ", " ++ Str.join ", " (y :: r) := rfl
    have ih := join_le (y :: r)
    rw [e, len_app, len_app]
    have : ((", " : Str)).length = 2 := by decide
    simp only [List.map_cons, List.sum_cons, List.length_cons] at ih ⊢
    omega
theorem tupleText_le (ts : List Str) : (tupleText ts).length ≤ (ts.map (·.length)).sum + 2 * ts.length + 3 := by
  have h := join_le ts
  unfold tupleText
  rw [len_app, len_app]
  have h1 : (("(" : Str)).length = 1 := by decide
  have h2 : ((if (ts.length == 1) = true then ",)" else ")" : String) : Str).length ≤ 2 := by
    split <;> decide
  omega
theorem repr_le {n : Nat} {x : Str} (h : Tx n x) : (reprText x).length ≤ 10 * n + 2 := by
  have := StrLaws.reprText_len x fun c hc => Nat.lt_trans (h.ok c hc) (by decide)
  have := h.len
  omega
theorem bit_show {v : Int} (h : Bit v) : (PyData.int v).shown.length = 1 ∧ (PyData.int v).showable = true := by
  rcases h with rfl | rfl <;> exact ⟨by decide, by decide⟩
theorem tx_lit2 {x : Str} {n : Nat} (h : (decide (x.length ≤ n) && x.cps.toList.all fun c => decide (c < 0x110000)) = true) : (reprText x).length ≤ 10 * n + 2 := repr_le (Tx.lit h)
theorem shown_sum {f : Rule → PyData} : ∀ {rs : List Rule}, (∀ r ∈ rs, (f r).shown.length + 2 ≤ 200 * size r) → ((PyData.shownAll (rs.map f)).map (·.length)).sum + 2 * (PyData.shownAll (rs.map f)).length ≤ 200 * sizes rs
  | [], _ => by simp [PyData.shownAll, sizes]
  | r :: rs, h => by
    have h1 := h r List.mem_cons_self
    have h2 := shown_sum (rs := rs) fun x hx => h x (List.mem_cons_of_mem _ hx)
    simp only [List.map_cons, PyData.shownAll, List.sum_cons, List.length_cons, sizes]
    omega
theorem shown_le {nm : Str → Prop} : ∀ {n : Nat} {r : Rule}, ROk nm n r → (enc r).shown.length + 2 ≤ 200 * size r
  | _, _, @ROk.is _ n z v _ h2 h3 => by
    have a := tx_lit2 (x := sIs) (n := 2) (by decide +kernel)
    have b := repr_le h2.tx
    have c := (bit_show h3).1
    have t := tupleText_le [reprText sIs, reprText z, (PyData.int v).shown]
    simp only [enc, PyData.shown, PyData.shownAll, size] at c t ⊢
    simp only [List.map_cons, List.map_nil, List.sum_cons, List.sum_nil, List.length_cons, List.length_nil] at t
    omega
  | _, _, @ROk.no _ n r h => by
    have ih := shown_le h
    have a := tx_lit2 (x := sNot) (n := 3) (by decide +kernel)
    have t := tupleText_le [reprText sNot, (enc r).shown]
    simp only [enc, PyData.shown, PyData.shownAll, size]
    simp only [List.map_cons, List.map_nil, List.sum_cons, List.sum_nil, List.length_cons, List.length_nil] at t
    omega
  | _, _, @ROk.all _ n rs h => by
    have ih := shown_sum (f := enc) fun r hr => shown_le (h r hr)
    have a := tx_lit2 (x := sAll) (n := 3) (by decide +kernel)
    have t1 := tupleText_le (PyData.shownAll (rs.map enc))
    have t := tupleText_le [reprText sAll, tupleText (PyData.shownAll (rs.map enc))]
    simp only [enc, encs_map, PyData.shown, PyData.shownAll, size]
    simp only [List.map_cons, List.map_nil, List.sum_cons, List.sum_nil, List.length_cons, List.length_nil] at t
    omega
  | _, _, @ROk.any _ n rs h => by
    have ih := shown_sum (f := enc) fun r hr => shown_le (h r hr)
    have a := tx_lit2 (x := sSome) (n := 4) (by decide +kernel)
    have t1 := tupleText_le (PyData.shownAll (rs.map enc))
    have t := tupleText_le [reprText sSome, tupleText (PyData.shownAll (rs.map enc))]
    simp only [enc, encs_map, PyData.shown, PyData.shownAll, size]
    simp only [List.map_cons, List.map_nil, List.sum_cons, List.sum_nil, List.length_cons, List.length_nil] at t
    omega
theorem showAll_of : ∀ {ds : List PyData}, (∀ d ∈ ds, d.showable = true) → PyData.showableAll ds = true
  | [], _ => rfl
  | d :: ds, h => by simp [PyData.showableAll, h d List.mem_cons_self, showAll_of fun x hx => h x (List.mem_cons_of_mem _ hx)]
theorem showable_of {nm : Str → Prop} : ∀ {n : Nat} {r : Rule}, ROk nm n r → (enc r).showable = true
  | _, _, .is _ _ h3 => by simp [enc, PyData.showable, PyData.showableAll]; simpa [PyData.showable] using (bit_show h3).2
  | _, _, .no h => by simp [enc, PyData.showable, PyData.showableAll, showable_of h]
  | _, _, @ROk.all _ n rs h => by
    simp only [enc, encs_map, PyData.showable, PyData.showableAll, Bool.and_true, Bool.true_and]
    exact showAll_of fun d hd => by obtain ⟨r, hr, rfl⟩ := List.mem_map.mp hd; exact showable_of (h r hr)
  | _, _, @ROk.any _ n rs h => by
    simp only [enc, encs_map, PyData.showable, PyData.showableAll, Bool.and_true, Bool.true_and]
    exact showAll_of fun d hd => by obtain ⟨r, hr, rfl⟩ := List.mem_map.mp hd; exact showable_of (h r hr)
theorem tup2 {n : Nat} {a b : PyData} (ha : Shp n a) (hb : Shp n b) : Shp (n + 1) (.tuple [a, b]) := Shp.tuple fun d hd => by
  simp at hd
  rcases hd with rfl | rfl
  · exact ha
  · exact hb
theorem shp_rule {nm : Str → Prop} : ∀ {n : Nat} {r : Rule}, ROk nm n r → Shp (2 * n) (enc r)
  | _, _, @ROk.is _ n z v _ h2 h3 => by
    refine Shp.mono (m := 1) (Shp.tuple (n := 0) fun d hd => ?_) (by omega)
    simp at hd
    rcases hd with rfl | rfl | rfl
    · exact Shp.str (n := 2) (Tx.lit (by decide +kernel))
    · exact Shp.str h2.tx
    · exact Shp.int _
  | _, _, @ROk.no _ n r h => by
    have ih := shp_rule h
    show Shp (2 * (n + 1)) (.tuple [.str sNot, enc r])
    exact (tup2 ((Shp.str (n := 3) (Tx.lit (by decide +kernel))).mono (by omega)) ih).mono (by omega)
  | _, _, @ROk.all _ n rs h => by
    simp only [enc, encs_map]
    refine (tup2 (n := 2 * n + 1) ((Shp.str (n := 3) (Tx.lit (by decide +kernel))).mono (by omega)) (Shp.tuple fun d hd => ?_)).mono (by omega)
    obtain ⟨r, hr, rfl⟩ := List.mem_map.mp hd
    exact shp_rule (h r hr)
  | _, _, @ROk.any _ n rs h => by
    simp only [enc, encs_map]
    refine (tup2 (n := 2 * n + 1) ((Shp.str (n := 4) (Tx.lit (by decide +kernel))).mono (by omega)) (Shp.tuple fun d hd => ?_)).mono (by omega)
    obtain ⟨r, hr, rfl⟩ := List.mem_map.mp hd
    exact shp_rule (h r hr)
theorem sho_rule {nm : Str → Prop} {n : Nat} {r : Rule} (h : ROk nm n r) (hn : n ≤ 30) (hs : size r ≤ 80000) : Sho (enc r) :=
  ⟨(shp_rule h).mono (by omega), showable_of h, by have := shown_le h; omega⟩
end My

set_option linter.all false
set_option maxRecDepth 100000
namespace My
open PySem PySem.Spec L2 Dv
/-- a comprehension that draws: c draws a turn at most -/
theorem lc_pen {P : List Bool} {g : DG} {tt : DT} {te : DE} {vs : List Nat} {Q : PyData → DEnv → Prop} {ds : List PyData} {env : PyData → DEnv} {pen : PyData} {α : Type} (c : Nat) (enc : α → PyData) (R : PyData → α → Prop) {m : Nat}
    (hp : PenOk m pen)
    (h : ∀ (i : Nat) (d pen : PyData) (yes : PyData → DEnv → Prop) (no : DEnv → Prop), i < ds.length → d ∈ ds → PenOk (m + c * i) pen → (∀ x pen', R d x → PenOk (m + c * i + c) pen' → yes (enc x) (env pen')) → turnE P g tt te vs (env pen) d yes no)
    (hl : ds.length ≤ big)
    (hq : ∀ (xs : List α) (pen' : PyData), xs.length = ds.length → (∀ (i : Nat) (d : PyData) (x : α), ds[i]? = some d → xs[i]? = some x → R d x) → PenOk (m + c * ds.length) pen' → Q (.list (xs.map enc)) (env pen')) : dLcL P g tt te vs Q ds [] (env pen) := by
  refine lc_ix (fun acc ρ => ∃ (xs : List α) (pen' : PyData), acc = xs.map enc ∧ ρ = env pen' ∧ PenOk (m + c * xs.length) pen' ∧ ∀ (i : Nat) (d : PyData) (x : α), ds[i]? = some d → xs[i]? = some x → R d x) (fun acc d ρ yes no hd hI hy => ?_) ⟨[], pen, rfl, rfl, hp, fun i d x _ hx => by simp at hx⟩ hl (fun acc ρ hI hlen => ?_)
  · obtain ⟨xs, pen', rfl, rfl, hp', hR⟩ := hI
    rw [List.length_map] at hd
    refine h xs.length d pen' yes no (List.getElem?_eq_some_iff.mp hd).1 (List.mem_of_getElem? hd) hp' fun x pen2 hx hp2 => hy _ _ ⟨xs ++ [x], pen2, by rw [List.map_append]; rfl, rfl, by rw [List.length_append, List.length_singleton, Nat.mul_add, Nat.mul_one, ← Nat.add_assoc]; exact hp2, fun i d' x' hd' hx' => ?_⟩
    by_cases hi : i < xs.length
    · rw [List.getElem?_append_left hi] at hx'
      exact hR i d' x' hd' hx'
    · have hlt := (List.getElem?_eq_some_iff.mp hx').1
      rw [List.length_append, List.length_singleton] at hlt
      have ei : i = xs.length := by omega
      subst ei
      rw [List.getElem?_append_right (by omega), Nat.sub_self] at hx'
      cases hx'
      rw [hd] at hd'
      cases hd'
      exact hx
  · obtain ⟨xs, pen', rfl, rfl, hp', hR⟩ := hI
    rw [List.length_map] at hlen
    rw [hlen] at hp'
    exact hq xs pen' hlen hR hp'
end My

set_option linter.all false
set_option maxRecDepth 100000
namespace My
open PySem PySem.Spec L2 Dv
local macro_rules | `(tactic| walk_at "dr") => `(tactic| (refine ⟨⟨trivial, trivial⟩, by first | decide | simp [selSlots], _, _, _, rfl, by assumption, by first | decide | omega, by first | decide | omega, by first | decide | omega, ?_⟩))
/-! ### names, their last letters unlike -/
theorem abc_len : abc.length = 26 := by decide +kernel
theorem abc_at {r : Int} (h0 : 0 ≤ r) (h1 : r < 26) : ∃ c, atI (Str.ofString "abcdefghijklmnopqrstuvwxyz").cps.toList r = some c ∧ c ∈ abc ∧ abc[r.toNat]? = some c := by
  have hr : r.toNat < abc.length := by rw [abc_len]; omega
  have z := atI_nat (List.getElem?_eq_getElem hr)
  have e : ((r.toNat : Nat) : Int) = r := by omega
  rw [e] at z
  exact ⟨abc[r.toNat], z, List.getElem_mem _, List.getElem?_eq_getElem hr⟩
theorem abc_inj (i j : Nat) (hi : i < 26) (hj : j < 26) (h : abc[i]? = abc[j]?) : i = j := by
  have z : ∀ i, i < 26 → ∀ j, j < 26 → abc[i]? = abc[j]? → i = j := by decide +kernel
  exact z i hi j hj h
def namesD (zs : List Str) : PyData := .list (zs.map .str)
def oneS (c : Nat) : Str := ⟨#[c]⟩
def signD (c : Nat) : PyData := .str (oneS c)
theorem signs_strs (cs : List Nat) : cs.map signD = (cs.map oneS).map PyData.str := by rw [List.map_map]; rfl
theorem text_ok (cs : List Nat) (h1 : 1 ≤ cs.length) (h8 : cs.length ≤ 8) (ha : ∀ c ∈ cs, c ∈ abc) {w : Str} (hw : w.cps.toList = cs) : NameOk w := ⟨by rw [len_codes, hw]; exact h1, by rw [len_codes, hw]; exact h8, by rw [hw]; exact ha⟩
theorem codes_oneS (c : Nat) : (oneS c).cps.toList = [c] := rfl
/-- the j-th ends with the letter tn + j -/
def NQ (tn : Int) (fs : List Str) : Prop := ∀ (j : Nat) (z : Str), fs[j]? = some z → NameOk z ∧ z.cps.toList.getLast? = abc[((tn + (j : Int)) % 26).toNat]?
theorem nq_nd {tn : Int} {fs : List Str} (h : NQ tn fs) (h0 : 0 ≤ tn) (hl : fs.length ≤ 26) : fs.Nodup := by
  rw [List.Nodup, List.pairwise_iff_getElem]
  intro i j hi hj hij he
  have a := (h i _ (List.getElem?_eq_getElem hi)).2
  have b := (h j _ (List.getElem?_eq_getElem hj)).2
  rw [he] at a
  have e := abc_inj _ _ (by omega) (by omega) (a.symm.trans b)
  omega
def S__law_names : SpD := fun ds q => ∃ pen m n, ds = [pen, .int n] ∧ PenOk m pen ∧ m + 400 < 1073741824 ∧ 0 ≤ n ∧ n ≤ 26 ∧ ∀ (zs : List Str) pen', zs.length = n.toNat → (∀ z ∈ zs, NameOk z) → zs.Nodup → PenOk (m + 400) pen' → q (.own (namesD zs)) [some pen', none]
def FQ (n tn : Int) (m i : Nat) (ρ : DEnv) : Prop := ∃ (pen : PyData) (fs : List Str) (s5 s6 s7 : Option SV), PenOk (m + 1 + 9 * i) pen ∧ fs.length = i ∧ NQ tn fs ∧
  ρ = [some (.own pen), some (.frz (.int n)), some (.frz (.str (Str.ofString "abcdefghijklmnopqrstuvwxyz"))), some (.frz (.int tn)), some (.own (namesD fs)), s5, s6, s7, none]
theorem p__law_names (ds : List PyData) (q : SV → Outs → Prop) (h : S__law_names ds q) (hl : ds.length = P__law_names.length) : g__law_names S__law_draw (endsOf P__law_names q) (startE N__law_names.length P__law_names ds) := by
  obtain ⟨pen, m, n, rfl, hp, hm, hn0, hn26, h⟩ := h
  walk_at "dr"
  intro tn pen1 h0 h1 hp1
  refine ⟨tle, by omega, by omega, ?_⟩
  refine loop_ix (FQ n tn m) (fun i d ρ nx hd hI hnx => ?_) ⟨pen1, [], _, _, _, hp1, rfl, fun j z hz => by simp at hz, rfl⟩ (fun ρ' hI => ?_)
  · obtain ⟨hi, rfl⟩ := range_at hd
    obtain ⟨pen2, fs, s5, s6, s7, hp2, hfl, hfs, rfl⟩ := hI
    refine ⟨tle, ?_⟩
    walk_at "dr"
    intro w pen3 hw0 hw1 hp3
    obtain ⟨sz, e1, e2⟩ := at_map (f := PyData.int) (xs := [(1 : Int), 3, 8]) hw0 hw1
    have hsz : 0 < sz ∧ sz ≤ 8 := by
      have z : ∀ y ∈ [(1 : Int), 3, 8], 0 < y ∧ y ≤ 8 := by decide
      exact z sz (List.mem_of_getElem? e2)
    refine ixL e1 ?_
    walk_at "dr"
    intro r4 pen4 h40 h41 hp4
    show g__law_names_L6 S__law_draw _ [some (.own pen4), some (.frz (.int n)), some (.frz (.str (Str.ofString "abcdefghijklmnopqrstuvwxyz"))), some (.frz (.int tn)), some (.own (namesD fs)), some (.frz (.int (i : Nat))), some (.frz (.int r4)), s7, none]
    refine ⟨rfl, by omega, by omega, ?_⟩
    apply lc_pen 1 signD (fun _ c => c ∈ abc) hp4
    · intro i d pen yes no hd hdm hp hy
      rw [range_len] at hd
      walk_at "dr"
      intro r5 pen5 h50 h51 hp5
      obtain ⟨c, hc, hm, _⟩ := abc_at h50 h51
      refine ⟨by decide, ?_⟩
      conv => whnf
      rw [hc]
      exact hy c _ hm (hp5.mono (by omega))
    · rw [range_len]; exact Nat.le_trans (show r4.toNat ≤ 8 by omega) tle
    intro ts pen5 hts hta hp5
    rw [range_len] at hts hp5
    have htsa : ∀ c ∈ ts, c ∈ abc := fun c hc => by
      obtain ⟨i, hi⟩ := List.mem_iff_getElem?.mp hc
      have := (List.getElem?_eq_some_iff.mp hi).1
      exact hta i _ c (List.getElem?_eq_getElem (by rw [range_len]; omega)) hi
    rw [signs_strs ts]
    conv => whnf
    rw [strsD_map]
    refine ⟨?_, ?_⟩
    · have := sum_signs ts
      rw [List.length_map]
      have e0 : (("" : Str)).length = 0 := by decide
      rw [e0]
      have e9 : ((ts.map oneS).map (·.length)).sum = ts.length := this
      rw [e9]
      exact Nat.le_trans (show _ ≤ 9 by omega) tle
    generalize hw : Txt.join (Str.ofString "") (ts.map oneS) = rest
    have ej : rest.cps.toList = ts := by rw [← hw]; exact join_signs ts
    have hrl : rest.length = ts.length := by rw [len_codes, ej]
    clear hw
    obtain ⟨c, hc, hm, hg⟩ := abc_at (r := (tn + ((i : Nat) : Int)) % 26) (by omega) (by omega)
    refine ⟨rfl, (show (0 : Int) < 26 by decide), by decide, ?_⟩
    conv => whnf
    rw [hc]
    refine ⟨Nat.le_trans (show rest.length + 1 ≤ 9 by omega) tle, ?_⟩
    refine ⟨?_, hnx _ ⟨pen5, fs ++ [rest ++ oneS c], some (.frz (.int (i : Nat))), some (.frz (.int r4)), some (.frz (.str rest)), hp5.mono (by omega), by simp [hfl], fun j z hz => ?_, ?_⟩⟩
    · rw [List.length_map]; exact Nat.lt_of_le_of_lt (show fs.length ≤ 30 by omega) (by decide)
    · by_cases hj : j < fs.length
      · rw [List.getElem?_append_left hj] at hz
        exact hfs j z hz
      · have hlt := (List.getElem?_eq_some_iff.mp hz).1
        rw [List.length_append, List.length_singleton] at hlt
        have ei : j = fs.length := by omega
        subst ei
        rw [List.getElem?_append_right (by omega), Nat.sub_self] at hz
        cases hz
        have ec : (rest ++ oneS c).cps.toList = ts ++ [c] := by rw [codes_app, ej]; rfl
        refine ⟨text_ok (ts ++ [c]) (by simp) (by simp; omega) (fun c' hc' => ?_) ec, ?_⟩
        · rcases List.mem_append.mp hc' with z | z
          · exact htsa c' z
          · simp at z; subst z; exact hm
        · rw [ec, hfl, hg]; simp
    · unfold namesD
      rw [List.map_append]
      rfl
  · obtain ⟨pen2, fs, s5, s6, s7, hp2, hfl, hfs, rfl⟩ := hI
    rw [range_len] at hp2 hfl
    exact ⟨by decide, h fs pen2 hfl (fun z hz => by obtain ⟨i, hi⟩ := List.mem_iff_getElem?.mp hz; exact (hfs i z hi).1) (nq_nd hfs h0 (by omega)) (hp2.mono (by omega))⟩
end My

set_option linter.all false
set_option maxRecDepth 100000
namespace My
open PySem PySem.Spec L2 Dv
local macro_rules | `(tactic| walk_at "dr") => `(tactic| (refine ⟨⟨trivial, trivial⟩, by first | decide | simp [selSlots], _, _, _, rfl, by assumption, by first | decide | omega, by first | decide | omega, by first | decide | omega, ?_⟩))
/-! ### rules of drawn wires -/
def S__law_rule : Nat → SpD
  | 0 => fun _ _ => False
  | n + 1 => fun ds q => ∃ pen m zs room, ds = [pen, namesD zs, .int room] ∧ PenOk m pen ∧ m + 4 ^ (room.toNat + 1) < 1073741824 ∧ zs.length ≤ 100 ∧ zs ≠ [] ∧ (∀ z ∈ zs, NameOk z) ∧ 1 ≤ room ∧ room ≤ n + 1 ∧
    ∀ r pen', ROk (· ∈ zs) room.toNat r → size r ≤ 4 ^ room.toNat → PenOk (m + 4 ^ (room.toNat + 1)) pen' → q (.frz (enc r)) [some pen', none, none]
theorem n__law_rule (ds : List PyData) (q : SV → Outs → Prop) : ¬ S__law_rule 0 ds q := fun h => h
theorem sizes_le {rs : List Rule} {m : Nat} (h : ∀ r ∈ rs, size r ≤ m) : sizes rs ≤ rs.length * m := by
  induction rs with
  | nil => simp [sizes]
  | cons r rs ih =>
    have h1 := h r List.mem_cons_self
    have h2 := ih fun x hx => h x (List.mem_cons_of_mem _ hx)
    simp only [sizes, List.length_cons, Nat.succ_mul]
    omega
theorem names_at {zs : List Str} {r : Int} (h0 : 0 ≤ r) (h1 : r < zs.length) : ∃ z, atI (zs.map PyData.str) r = some (.str z) ∧ z ∈ zs := by
  obtain ⟨z, e1, e2⟩ := at_map (f := PyData.str) (xs := zs) h0 h1
  exact ⟨z, e1, List.mem_of_getElem? e2⟩
theorem p__law_rule (n : Nat) (ds : List PyData) (q : SV → Outs → Prop) (h : S__law_rule (n + 1) ds q) (hl : ds.length = P__law_rule.length) : g__law_rule S__law_draw (S__law_rule n) (endsOf P__law_rule q) (startE N__law_rule.length P__law_rule ds) := by
  obtain ⟨pen, m, zs, room, rfl, hp, hm, hz100, hzne, hz, hr1, hrn, h⟩ := h
  have hzp : 0 < zs.length := List.length_pos_iff.mpr hzne
  obtain ⟨t, ht⟩ : ∃ t, room.toNat = t + 1 := ⟨room.toNat - 1, by omega⟩
  rw [ht] at hm h
  have p1 : 4 ^ (t + 1 + 1) = 4 * (4 * 4 ^ t) := by rw [Nat.pow_succ, Nat.pow_succ]; omega
  have p2 : 4 ^ (t + 1) = 4 * 4 ^ t := by rw [Nat.pow_succ]; omega
  have p0 : 1 ≤ 4 ^ t := Nat.one_le_pow _ _ (by decide)
  rw [p1] at hm h
  rw [p2] at h
  walk_at "dr"
  intro wy pen1 h10 h11 hp1
  have isL : ∀ E : DEnds, E.rt = (endsOf P__law_rule q).rt → dRet P__law_rule (dTup P__law_rule (dCons (dC (.str "is")) (dCons (dBin ixD (dVar 1) (dCall P__law_rule [true, false] S__law_draw (dCons (dVar 0) (dCons (dCB lenD (dCons (dVar 1) dNil)) dNil)))) (dCons (dCall P__law_rule [true, false] S__law_draw (dCons (dVar 0) (dCons (dC (.int 2)) dNil))) dNil)))) E [some (.own pen1), some (.frz (namesD zs)), some (.frz (.int room)), some (.frz (.int wy)), none, none] := by
    intro E hE
    have e1 : ((zs.map PyData.str).length : Int) = (zs.length : Int) := by rw [List.length_map]
    refine ⟨⟨trivial, trivial⟩, by simp [selSlots], pen1, _, m + 1, rfl, hp1, by omega, by omega, by omega, fun r pen2 h20 h21 hp2 => ?_⟩
    rw [e1] at h21
    obtain ⟨z, hz1, hz2⟩ := names_at h20 h21
    refine ixL hz1 ?_
    walk_at "dr"
    intro v pen3 h30 h31 hp3
    refine ⟨tle, ?_⟩
    show E.rt _ _
    rw [hE]
    exact h (.is z v) pen3 (.is hz2 (hz z hz2) (by unfold Bit; omega)) (by simp only [size]; omega) (hp3.mono (by omega))
  have L4 : g__law_rule_L4 S__law_draw (S__law_rule n) (endsOf P__law_rule q) [some (.own pen1), some (.frz (namesD zs)), some (.frz (.int room)), some (.frz (.int wy)), none, none] := by
    refine ⟨rfl, rfl, by2_i (fun d1 => isL _ rfl) (fun d1 => by2_d (fun d2 => isL _ rfl) (fun d2 => ?_))⟩
    have d1 : ¬ room = 1 := fun e => by subst e; exact absurd d1 (by decide)
    obtain ⟨n', rfl⟩ : ∃ n', n = n' + 1 := ⟨n - 1, by omega⟩
    have er : (room - 1).toNat = t := by omega
    have ht1 : 1 ≤ t := by omega
    have p3 : 4 ^ (t + 1) = 4 * 4 ^ t := p2
    refine ⟨rfl, rfl, by2_i (fun c3 => ?_) (fun c3 => ?_)⟩
    · refine ⟨trivial, ⟨trivial, trivial⟩, by simp [selSlots], pen1, m + 1, zs, room - 1, rfl, hp1, by rw [er, p3]; omega, hz100, hzne, hz, by omega, by omega, fun r pen2 hok hs hp2 => ?_⟩
      rw [er] at hok hs hp2
      rw [p3] at hp2
      refine ⟨tle, ?_⟩
      exact h (.no r) pen2 (.no hok) (by simp only [size]; omega) (hp2.mono (by omega))
    · walk_at "dr"
      intro many pen2 h20 h21 hp2
      show g__law_rule_L9 S__law_draw (S__law_rule (n' + 1)) (endsOf P__law_rule q) [some (.own pen2), some (.frz (namesD zs)), some (.frz (.int room)), some (.frz (.int wy)), some (.frz (.int many)), none]
      refine ⟨tle, (show (0 : Int) < 2 by decide), ?_⟩
      obtain ⟨sg, f, e1, e2⟩ : ∃ (sg : Str) (f : List Rule → Rule), atI [PyData.str sAll, .str sSome] (wy % 2) = some (.str sg) ∧ ∀ rs, enc (f rs) = .tuple [.str sg, .tuple (encs rs)] ∧ (∀ k, (∀ r ∈ rs, ROk (· ∈ zs) k r) → ROk (· ∈ zs) (k + 1) (f rs)) ∧ size (f rs) = 1 + sizes rs := by
        have : wy % 2 = 0 ∨ wy % 2 = 1 := by omega
        rcases this with e | e
        · exact ⟨sAll, .all, by rw [e]; rfl, fun rs => ⟨by simp only [enc], fun k hk => .all hk, by simp only [size]⟩⟩
        · exact ⟨sSome, .any, by rw [e]; rfl, fun rs => ⟨by simp only [enc], fun k hk => .any hk, by simp only [size]⟩⟩
      refine ixL e1 ?_
      refine ⟨by omega, by omega, ?_⟩
      apply lc_pen (4 ^ (t + 1)) enc (fun _ r => ROk (· ∈ zs) t r ∧ size r ≤ 4 ^ t) hp2
      · intro i d pen yes no hd hdm hp hy
        rw [range_len] at hd
        have hmul : 4 ^ (t + 1) * i ≤ 4 ^ (t + 1) * 2 := Nat.mul_le_mul_left _ (by omega)
        refine ⟨trivial, ⟨trivial, trivial⟩, by simp [selSlots], pen, _, zs, room - 1, rfl, hp, by rw [er]; omega, hz100, hzne, hz, by omega, by omega, fun r pen3 hok hs hp3 => ?_⟩
        rw [er] at hok hs hp3
        exact hy r pen3 ⟨hok, hs⟩ hp3
      · rw [range_len]; exact Nat.le_trans (show many.toNat ≤ 4 by omega) tle
      intro rs pen3 hrs hall hp3
      rw [range_len] at hrs hp3
      have hmem : ∀ r ∈ rs, ROk (· ∈ zs) t r ∧ size r ≤ 4 ^ t := fun r hr => by
        obtain ⟨i, hi⟩ := List.mem_iff_getElem?.mp hr
        have := (List.getElem?_eq_some_iff.mp hi).1
        exact hall i _ r (List.getElem?_eq_getElem (by rw [range_len]; omega)) hi
      have hsz : sizes rs ≤ 3 * 4 ^ t := Nat.le_trans (sizes_le fun r hr => (hmem r hr).2) (Nat.mul_le_mul_right _ (by omega))
      have hmul : 4 ^ (t + 1) * many.toNat ≤ 4 ^ (t + 1) * 3 := Nat.mul_le_mul_left _ (by omega)
      refine ⟨tle, ?_⟩
      have := h (f rs) pen3 ((e2 rs).2.1 t fun r hr => (hmem r hr).1) (by rw [(e2 rs).2.2]; omega) (hp3.mono (by omega))
      rw [(e2 rs).1, encs_map] at this
      exact this
  refine ⟨rfl, rfl, by2_i (fun c1 => ⟨rfl, rfl, by2_i (fun c2 => ?_) (fun c2 => L4)⟩) (fun c1 => L4)⟩
  refine ⟨tle, ?_⟩
  walk_at "dr"
  intro r4 pen4 h40 h41 hp4
  have : r4 = 0 ∨ r4 = 1 := by omega
  rcases this with rfl | rfl
  · exact ⟨tle, tle, h (.all []) pen4 (.all fun r hr => absurd hr (by simp)) (by simp only [size, sizes]; omega) (hp4.mono (by omega))⟩
  · exact ⟨tle, tle, h (.any []) pen4 (.any fun r hr => absurd hr (by simp)) (by simp only [size, sizes]; omega) (hp4.mono (by omega))⟩
end My

set_option linter.all false
set_option maxRecDepth 100000
namespace My
open PySem PySem.Spec L2 Dv
local macro_rules | `(tactic| walk_at "dr") => `(tactic| (refine ⟨⟨trivial, trivial⟩, by first | decide | simp [selSlots], _, _, _, rfl, by assumption, by first | decide | omega, by first | decide | omega, by first | decide | omega, ?_⟩))
/-! ### gates of any two rules -/
structure Gate where
  z : Str
  v : Int
  up : Rule
  dn : Rule
def gateD (g : Gate) : PyData := .tuple [.str g.z, .int g.v, enc g.up, enc g.dn]
structure GateQ (ws : List Str) (g : Gate) : Prop where
  v : Bit g.v
  up : ROk (· ∈ ws) 4 g.up
  dn : ROk (· ∈ ws) 4 g.dn
  su : size g.up ≤ 256
  sd : size g.dn ≤ 256
def S__law_gate : SpD := fun ds q => ∃ pen m z v zs, ds = [pen, .str z, .int v, namesD zs] ∧ PenOk m pen ∧ m + 2100 < 1073741824 ∧ zs.length ≤ 100 ∧ zs ≠ [] ∧ (∀ z ∈ zs, NameOk z) ∧ Bit v ∧
  ∀ g pen', g.z = z → g.v = v → GateQ zs g → PenOk (m + 2100) pen' → q (.frz (gateD g)) [some pen', none, none, none]
theorem pow4 {k : Nat} (h : k ≤ 4) : 4 ^ k ≤ 256 := Nat.le_trans (Nat.pow_le_pow_right (by decide) h) (by decide)
theorem pow5 {k : Nat} (h : k ≤ 4) : 4 ^ (k + 1) ≤ 1024 := Nat.le_trans (Nat.pow_le_pow_right (by decide) (Nat.succ_le_succ h)) (by decide)
theorem p__law_gate (ds : List PyData) (q : SV → Outs → Prop) (h : S__law_gate ds q) (hl : ds.length = P__law_gate.length) : g__law_gate (S__law_rule 9) S__law_draw (endsOf P__law_gate q) (startE N__law_gate.length P__law_gate ds) := by
  obtain ⟨pen, m, z, v, zs, rfl, hp, hm, hz100, hzne, hz, hv, h⟩ := h
  walk_at "dr"
  intro r1 pen1 h10 h11 hp1
  have q1 := pow5 (k := (1 + r1).toNat) (by omega)
  refine ⟨⟨trivial, trivial⟩, by simp [selSlots], pen1, m + 1, zs, 1 + r1, rfl, hp1, by omega, hz100, hzne, hz, by omega, Int.le_trans (show 1 + r1 ≤ 9 by omega) (by decide), fun up pen2 hok2 hs2 hp2 => ?_⟩
  walk_at "dr"
  intro r3 pen3 h30 h31 hp3
  have q3 := pow5 (k := (1 + r3).toNat) (by omega)
  refine ⟨⟨trivial, trivial⟩, by simp [selSlots], pen3, _, zs, 1 + r3, rfl, hp3, by omega, hz100, hzne, hz, by omega, Int.le_trans (show 1 + r3 ≤ 9 by omega) (by decide), fun dn pen4 hok4 hs4 hp4 => ?_⟩
  refine ⟨tle, ?_⟩
  have s2 := pow4 (k := (1 + r1).toNat) (by omega)
  have s4 := pow4 (k := (1 + r3).toNat) (by omega)
  exact h ⟨z, v, up, dn⟩ pen4 rfl rfl ⟨hv, hok2.mono (by omega), hok4.mono (by omega), by show size up ≤ 256; omega, by show size dn ≤ 256; omega⟩ (hp4.mono (by omega))
/-! ### sheets -/
theorem bit_of {v : Int} (h0 : 0 ≤ v) (h1 : v < 2) : Bit v := by unfold Bit; omega
def RisOk (n : Int) (ks : List Int) : Prop := (∀ k ∈ ks, 0 ≤ k ∧ k < n) ∧ ks.Pairwise (· < ·) ∧ ks.length ≤ 3
def S__law_some : SpD := fun ds q => ∃ pen m n, ds = [pen, .int n] ∧ PenOk m pen ∧ m + 4 < 1073741824 ∧ 0 < n ∧ n < 1073741824 ∧ ∀ ks pen', RisOk n ks → PenOk (m + 4) pen' → q (.frz (.tuple (ks.map .int))) [some pen', none]
theorem p__law_some (ds : List PyData) (q : SV → Outs → Prop) (h : S__law_some ds q) (hl : ds.length = P__law_some.length) : g__law_some S__law_draw (endsOf P__law_some q) (startE N__law_some.length P__law_some ds) := by
  obtain ⟨pen, m, n, rfl, hp, hm, hn0, hn1, h⟩ := h
  walk_at "dr"
  intro w pen1 h10 h11 hp1
  refine ⟨by omega, by omega, ?_⟩
  apply lc_pen 1 PyData.int (fun _ c => 0 ≤ c ∧ c < n) hp1
  · intro i d pen yes no hd hdm hp hy
    rw [range_len] at hd
    walk_at "dr"
    intro r5 pen5 h50 h51 hp5
    exact hy r5 pen5 ⟨h50, h51⟩ (hp5.mono (by omega))
  · rw [range_len]; exact Nat.le_trans (show (1 + w).toNat ≤ 3 by omega) tle
  intro cs pen2 hcs hall hp2
  rw [range_len] at hcs hp2
  have hmem : ∀ c ∈ cs, 0 ≤ c ∧ c < n := fun c hc => by
    obtain ⟨i, hi⟩ := List.mem_iff_getElem?.mp hc
    have := (List.getElem?_eq_some_iff.mp hi).1
    exact hall i _ c (List.getElem?_eq_getElem (by rw [range_len]; omega)) hi
  refine ⟨by rw [List.length_map]; omega, flat_ints cs fun ys h1 h2 => h ys pen2 ⟨fun k hk => hmem k ((h2 k).mp hk), h1, ?_⟩ (hp2.mono (by omega))⟩
  have nd : ys.Nodup := h1.imp fun h e => by omega
  exact Nat.le_trans (nodup_le nd fun y hy => (h2 y).mp hy) (by omega)
structure Sheet where
  wires : List (Str × Str × Int)
  turns : List (Str × Int)
  spots : List (List Int × List Int × Int)
def wireD (x : Str × Str × Int) : PyData := .tuple [.str x.1, .str x.2.1, .int x.2.2]
def turnD (x : Str × Int) : PyData := .tuple [.str x.1, .int x.2]
def spotD (x : List Int × List Int × Int) : PyData := .tuple [.tuple (x.1.map .int), .tuple (x.2.1.map .int), .int x.2.2]
def sheetD (s : Sheet) : PyData := .tuple [.tuple (s.wires.map wireD), .tuple (s.turns.map turnD), .tuple (s.spots.map spotD)]
def sAsk : Str := Str.ofString "ask"
def sAns : Str := Str.ofString "answer"
structure SheetQ (zs : List Str) (s : Sheet) : Prop where
  wp : (s.wires.map (·.1)).Perm zs
  ws : PyProof.Rows.sortedS (s.wires.map (·.1)) = true
  wx : ∀ x ∈ s.wires, (x.2.1 = sAsk ∨ x.2.1 = sAns) ∧ Bit x.2.2
  tx : ∀ x ∈ s.turns, x.1 ∈ zs ∧ Bit x.2
  tl : s.turns.length ≤ 9
  sx : ∀ x ∈ s.spots, RisOk s.turns.length x.1 ∧ RisOk s.turns.length x.2.1 ∧ Bit x.2.2
  sl : s.spots.length ≤ 7
def S__law_sheet : SpD := fun ds q => ∃ pen m zs, ds = [pen, namesD zs] ∧ PenOk m pen ∧ m + 400 < 1073741824 ∧ zs.length ≤ 30 ∧ zs ≠ [] ∧ ∀ s pen', SheetQ zs s → PenOk (m + 400) pen' → q (.frz (sheetD s)) [some pen', none]
theorem firsts {xs : List (Str × Str × Int)} {ys : List Str} (hl : xs.length = ys.length) (h : ∀ (i : Nat) (y : Str) (x : Str × Str × Int), ys[i]? = some y → xs[i]? = some x → y = x.1) : xs.map (·.1) = ys := by
  apply List.ext_getElem?
  intro i
  rw [List.getElem?_map]
  by_cases hi : i < xs.length
  · rw [List.getElem?_eq_getElem hi, List.getElem?_eq_getElem (hl ▸ hi)]
    exact congrArg some (h i _ _ (List.getElem?_eq_getElem (hl ▸ hi)) (List.getElem?_eq_getElem hi)).symm
  · rw [List.getElem?_eq_none (by omega), List.getElem?_eq_none (by omega)]; rfl
theorem p__law_sheet (ds : List PyData) (q : SV → Outs → Prop) (h : S__law_sheet ds q) (hl : ds.length = P__law_sheet.length) : g__law_sheet S__law_draw S__law_some (endsOf P__law_sheet q) (startE N__law_sheet.length P__law_sheet ds) := by
  obtain ⟨pen, m, zs, rfl, hp, hm, hz30, hzne, h⟩ := h
  have hzp : 0 < zs.length := List.length_pos_iff.mpr hzne
  refine ⟨by rw [List.length_map]; omega, flat_strs (fun ys pm so => ?_) (fun e => absurd e hzne)⟩
  have hyl : ys.length = zs.length := pm.length_eq
  apply lc_pen 2 wireD (fun d x => d = .str x.1 ∧ (x.2.1 = sAsk ∨ x.2.1 = sAns) ∧ Bit x.2.2) hp
  · intro i d pen yes no hd hdm hp hy
    rw [List.length_map] at hd
    obtain ⟨y, hy1, rfl⟩ := List.mem_map.mp hdm
    refine ⟨tle, ?_⟩
    walk_at "dr"
    intro r2 pen2 h20 h21 hp2
    have : r2 = 0 ∨ r2 = 1 := by omega
    rcases this with rfl | rfl
    · walk_at "dr"
      intro v pen3 h30 h31 hp3
      exact ⟨tle, hy (y, sAsk, v) pen3 ⟨rfl, .inl rfl, bit_of h30 h31⟩ (hp3.mono (by omega))⟩
    · walk_at "dr"
      intro v pen3 h30 h31 hp3
      exact ⟨tle, hy (y, sAns, v) pen3 ⟨rfl, .inr rfl, bit_of h30 h31⟩ (hp3.mono (by omega))⟩
  · rw [List.length_map]; exact Nat.le_trans (show ys.length ≤ 30 by omega) tle
  intro ws pen1 hws hwx hp1
  rw [List.length_map] at hws hp1
  have hw1 : ws.map (·.1) = ys := firsts hws fun i y x hy hx => by
    have := (hwx i (.str y) x (by rw [List.getElem?_map, hy]; rfl) hx).1
    injection this
  have hw2 : ∀ x ∈ ws, (x.2.1 = sAsk ∨ x.2.1 = sAns) ∧ Bit x.2.2 := fun x hx => by
    obtain ⟨i, hi⟩ := List.mem_iff_getElem?.mp hx
    have := (List.getElem?_eq_some_iff.mp hi).1
    exact (hwx i _ x (List.getElem?_eq_getElem (by rw [List.length_map]; omega)) hi).2
  walk_at "dr"
  intro nt pen2 h20 h21 hp2
  refine ⟨by omega, by omega, ?_⟩
  apply lc_pen 2 turnD (fun _ x => x.1 ∈ zs ∧ Bit x.2) hp2
  · intro i d pen yes no hd hdm hp hy
    rw [range_len] at hd
    have e1 : ((zs.map PyData.str).length : Int) = (zs.length : Int) := by rw [List.length_map]
    refine ⟨⟨trivial, trivial⟩, by simp [selSlots], pen, _, _, rfl, hp, by omega, by omega, by omega, fun r pen3 h30 h31 hp3 => ?_⟩
    rw [e1] at h31
    obtain ⟨z, hz1, hz2⟩ := names_at h30 h31
    refine ixL hz1 ?_
    walk_at "dr"
    intro v pen4 h40 h41 hp4
    exact ⟨tle, hy (z, v) pen4 ⟨hz2, bit_of h40 h41⟩ (hp4.mono (by omega))⟩
  · rw [range_len]; exact Nat.le_trans (show (1 + nt).toNat ≤ 9 by omega) tle
  intro ts pen3 hts htx hp3
  rw [range_len] at hts hp3
  have ht2 : ∀ x ∈ ts, x.1 ∈ zs ∧ Bit x.2 := fun x hx => by
    obtain ⟨i, hi⟩ := List.mem_iff_getElem?.mp hx
    have := (List.getElem?_eq_some_iff.mp hi).1
    exact htx i _ x (List.getElem?_eq_getElem (by rw [range_len]; omega)) hi
  have htl : 1 ≤ ts.length ∧ ts.length ≤ 9 := by omega
  show g__law_sheet_L3 S__law_draw S__law_some (endsOf P__law_sheet q) [some (.own pen3), some (.frz (namesD zs)), some (.frz (.list (ws.map wireD))), some (.frz (.list (ts.map turnD))), none, none, none]
  refine ⟨tle, ?_⟩
  walk_at "dr"
  intro ns pen4 h40 h41 hp4
  refine ⟨by omega, by omega, ?_⟩
  refine loop_ix (fun i ρ => ∃ (pen : PyData) (sp : List (List Int × List Int × Int)) (s5 : Option SV), PenOk (m + 120 + 9 * i) pen ∧ sp.length = i ∧ (∀ x ∈ sp, RisOk ts.length x.1 ∧ RisOk ts.length x.2.1 ∧ Bit x.2.2) ∧
    ρ = [some (.own pen), some (.frz (namesD zs)), some (.frz (.list (ws.map wireD))), some (.frz (.list (ts.map turnD))), some (.own (.list (sp.map spotD))), s5, none]) (fun i d ρ nx hd hI hnx => ?_) ⟨pen4, [], _, hp4.mono (by omega), rfl, fun x hx => absurd hx (by simp), rfl⟩ (fun ρ hI => ?_)
  · obtain ⟨pen5, sp, s5, hp5, hspl, hsp, rfl⟩ := hI
    obtain ⟨hi, rfl⟩ := range_at hd
    have e1 : ((ts.map turnD).length : Int) = (ts.length : Int) := by rw [List.length_map]
    refine ⟨rfl, ⟨trivial, trivial⟩, by simp [selSlots], pen5, _, _, rfl, hp5, by omega, by omega, by omega, fun a pen6 ha hp6 => ?_⟩
    refine ⟨⟨trivial, trivial⟩, by simp [selSlots], pen6, _, _, rfl, hp6, by omega, by omega, by omega, fun b pen7 hb hp7 => ?_⟩
    rw [e1] at ha hb
    walk_at "dr"
    intro v pen8 h80 h81 hp8
    refine ⟨tle, ?_, ?_⟩
    · rw [List.length_map]; exact Nat.lt_of_le_of_lt (show sp.length ≤ 30 by omega) (by decide)
    · refine hnx _ ⟨pen8, sp ++ [(a, b, v)], some (.frz (.int (i : Nat))), hp8.mono (by omega), by simp [hspl], fun x hx => ?_, by rw [List.map_append]; rfl⟩
      rcases List.mem_append.mp hx with z | z
      · exact hsp x z
      · rw [List.mem_singleton] at z; subst z; exact ⟨ha, hb, bit_of h80 h81⟩
  · obtain ⟨pen5, sp, s5, hp5, hspl, hsp, rfl⟩ := hI
    rw [range_len] at hspl hp5
    exact ⟨tle, h ⟨ws, ts, sp⟩ pen5 ⟨by rw [hw1]; exact pm, by rw [hw1]; exact so, hw2, ht2, htl.2, hsp, by show sp.length ≤ 7; omega⟩ (hp5.mono (by omega))⟩
end My

set_option linter.all false
set_option maxRecDepth 100000
namespace My
open PySem PySem.Spec L2 Dv
/-! ### names in order -/
theorem le_str (a b : Str) : PySem.W.dataLe false id (.str a) (.str b) = !decide (b.cps.toList < a.cps.toList) := by
  have e := congrFun (congrFun (PySem.W.dataLe_str (fun x : Str => x)) a) b
  have e1 : PySem.W.dataLe false (fun x : Str => PyData.str x) a b = PySem.W.dataLe false id (.str a) (.str b) := rfl
  rw [← e1]
  rw [show (PySem.W.dataLe false fun x : Str => PyData.str x) a b = decide (a.cps.toList ≤ b.cps.toList) from e]
  by_cases h : b.cps.toList < a.cps.toList
  · rw [decide_eq_true h, decide_eq_false (by rw [List.not_le]; exact h)]; rfl
  · rw [decide_eq_false h, decide_eq_true (by rw [← List.not_lt]; exact h)]; rfl
theorem rising_le : ∀ (p : Str) (ys : List Str), PyProof.Rows.risingS p ys = true → (∀ y ∈ ys, PySem.W.dataLe false id (.str p) (.str y) = true) ∧ (ys.map PyData.str).Pairwise (fun a b => PySem.W.dataLe false id a b = true)
  | _, [], _ => ⟨fun y hy => by simp at hy, .nil⟩
  | p, x :: r, h => by
    simp only [PyProof.Rows.risingS, Bool.and_eq_true] at h
    obtain ⟨h1, h2⟩ := rising_le x r h.2
    have hpx : PySem.W.dataLe false id (.str p) (.str x) = true := by
      rw [le_str, ← PyProof.Rows.ltCps_eq]
      exact h.1
    refine ⟨fun y hy => ?_, ?_⟩
    · rcases List.mem_cons.mp hy with rfl | hy
      · exact hpx
      · exact dataLe_total.trans _ _ _ hpx (h1 y hy)
    · rw [List.map_cons, List.pairwise_cons]
      refine ⟨fun d hd => ?_, h2⟩
      obtain ⟨y, hy, rfl⟩ := List.mem_map.mp hd
      exact h1 y hy
theorem sorted_le {ys : List Str} (h : PyProof.Rows.sortedS ys = true) : (ys.map PyData.str).Pairwise (fun a b => PySem.W.dataLe false id a b = true) := by
  cases ys with
  | nil => exact .nil
  | cons x r =>
    have h : PyProof.Rows.risingS x r = true := h
    obtain ⟨h1, h2⟩ := rising_le x r h
    rw [List.map_cons, List.pairwise_cons]
    refine ⟨fun d hd => ?_, h2⟩
    obtain ⟨y, hy, rfl⟩ := List.mem_map.mp hd
    exact h1 y hy
theorem perm_of_nodup {α : Type} [DecidableEq α] : ∀ {a b : List α}, a.Nodup → b.Nodup → (∀ z, z ∈ a ↔ z ∈ b) → a.Perm b
  | [], b, _, _, h => by
    cases b with
    | nil => exact .nil
    | cons y b => exact absurd ((h y).mpr List.mem_cons_self) (by simp)
  | x :: a, b, ha, hb, h => by
    rw [List.nodup_cons] at ha
    have hx := (h x).mp List.mem_cons_self
    refine (List.Perm.cons x (perm_of_nodup (b := b.erase x) ha.2 (hb.erase x) fun z => ?_)).trans (List.perm_cons_erase hx).symm
    rw [hb.mem_erase_iff, ← h z, List.mem_cons]
    constructor
    · intro hz
      exact ⟨fun e => ha.1 (e ▸ hz), .inr hz⟩
    · rintro ⟨h1, h2 | h2⟩
      · exact absurd h2 h1
      · exact h2
theorem alike_strs (l : List Str) : PySem.W.AllAlike (l.map PyData.str) := fun d hd e he => by
  obtain ⟨a, _, rfl⟩ := List.mem_map.mp hd
  obtain ⟨b, _, rfl⟩ := List.mem_map.mp he
  rfl
theorem sortD_sorted {A : List PyData} (h : A.Pairwise (fun a b => PySem.W.dataLe false id a b = true)) : sortD A = A := List.mergeSort_of_pairwise h
theorem sort_same {a b : List Str} (ha : a.Nodup) (hb : b.Nodup) (h : ∀ z, z ∈ a ↔ z ∈ b) : sortD (a.map .str) = sortD (b.map .str) := sort_perm ((perm_of_nodup ha hb h).map _) (alike_strs a)
theorem sort_is {a ys : List Str} (ha : a.Nodup) (hy : ys.Nodup) (hs : PyProof.Rows.sortedS ys = true) (h : ∀ z, z ∈ a ↔ z ∈ ys) : sortD (a.map .str) = ys.map .str := by
  rw [sort_same ha hy h, sortD_sorted (sorted_le hs)]
theorem names_sum : ∀ {ks : List Str}, (∀ z ∈ ks, NameOk z) → ((PyData.shownAll (ks.map .str)).map (·.length)).sum + 2 * (PyData.shownAll (ks.map .str)).length ≤ 84 * ks.length
  | [], _ => by simp [PyData.shownAll]
  | k :: ks, h => by
    have h1 := repr_le (h k List.mem_cons_self).tx
    have h2 := names_sum (ks := ks) fun x hx => h x (List.mem_cons_of_mem _ hx)
    simp only [List.map_cons, PyData.shownAll, PyData.shown, List.sum_cons, List.length_cons] at h2 ⊢
    omega
theorem sho_names {ks : List Str} (h : ∀ z ∈ ks, NameOk z) (hl : ks.length ≤ 10000) : Sho (.tuple (ks.map .str)) := by
  refine ⟨(Shp.tuple (n := 0) fun d hd => ?_).mono (by omega), ?_, ?_⟩
  · obtain ⟨z, hz, rfl⟩ := List.mem_map.mp hd
    exact Shp.str (h z hz).tx
  · simp only [PyData.showable]
    exact showAll_of fun d hd => by obtain ⟨z, hz, rfl⟩ := List.mem_map.mp hd; rfl
  · have h1 := names_sum h
    have h2 := tupleText_le (PyData.shownAll (ks.map .str))
    simp only [PyData.shown]
    omega
end My

set_option linter.all false
set_option maxRecDepth 100000
namespace My
open PySem PySem.Spec L2 Dv
theorem eqv_str (a b : Str) : PyData.eqv (.str a) (.str b) = decide (a = b) := by
  by_cases h : a = b
  · subst h; simp [PyData.eqv]
  · simp [PyData.eqv, h]
theorem flat_names (fs : List Str) : (fs.map PyData.str).all flatD = true := by
  rw [List.all_map, List.all_eq_true]
  intro x _
  rfl
theorem any_names (fs : List Str) (z : Str) : ((fs.map PyData.str).any fun x => PyData.eqv x (.str z)) = decide (z ∈ fs) := by
  induction fs with
  | nil => rfl
  | cons y fs ih =>
    rw [List.map_cons, List.any_cons, ih, eqv_str]
    by_cases h : y = z
    · subst h; simp
    · have h' : ¬ z = y := fun e => h e.symm
      simp [h, h']
theorem srt_names {ks : List Str} (hk : ∀ z ∈ ks, NameOk z) (hl : ks.length ≤ 16777216) : Srt (ks.map PyData.str) := by
  refine ⟨fun d hd e he => ?_, .inr fun d hd => ?_, by rw [List.length_map]; exact hl, fun d hd => ?_⟩
  · obtain ⟨a, _, rfl⟩ := List.mem_map.mp hd
    obtain ⟨b, _, rfl⟩ := List.mem_map.mp he
    rfl
  · obtain ⟨a, _, rfl⟩ := List.mem_map.mp hd
    exact ⟨(by intro h; cases h), (by intro xs h; cases h)⟩
  · obtain ⟨a, ha, rfl⟩ := List.mem_map.mp hd
    exact (Shp.str (hk a ha).tx).mono (by omega)
/-! ### tuples by their names -/
abbrev LeQ (a b : PyData) : Prop := PySem.W.dataLe false id a b = true
theorem tuple_leQ {a b : Str} (h : a ≠ b) (r t : List PyData) : PySem.W.dataLe false id (.tuple (.str a :: r)) (.tuple (.str b :: t)) = PySem.W.dataLe false id (.str a) (.str b) := by
  have e : PyData.eqv (.str b) (.str a) = false := by rw [eqv_str]; exact decide_eq_false fun c => h c.symm
  rw [PySem.W.dataLe_eq]
  simp only [cond_false, id]
  rw [PySem.W.dataLt_tuple, PySem.W.dataLt_all_no rfl e]
section
variable {α : Type} {z : α → Str} {r : α → List PyData}
def hdD (z : α → Str) (r : α → List PyData) (a : α) : PyData := .tuple (.str (z a) :: r a)
theorem sort_hd {l : List α} (nd : (l.map z).Nodup) : ∃ gs : List α, sortD (l.map (hdD z r)) = gs.map (hdD z r) ∧ gs.Perm l ∧ ((gs.map z).map PyData.str).Pairwise LeQ := by
  have e := (PySem.W.sort_maps (r := fun a b => PySem.W.dataLe false id (hdD z r a) (hdD z r b)) (s := PySem.W.dataLe false id) (hdD z r) (l := l) (fun _ _ _ _ => rfl)).symm
  have hp := List.mergeSort_perm l (fun a b => PySem.W.dataLe false id (hdD z r a) (hdD z r b))
  refine ⟨l.mergeSort (fun a b => PySem.W.dataLe false id (hdD z r a) (hdD z r b)), e, hp, ?_⟩
  have h1 : ((l.mergeSort (fun a b => PySem.W.dataLe false id (hdD z r a) (hdD z r b))).map (hdD z r)).Pairwise LeQ := by
    rw [← e]
    exact List.pairwise_mergeSort (fun a b c => dataLe_total.trans a b c) (fun a b => by have := dataLe_total.total a b; simpa using this) _
  have h2 : ((l.mergeSort (fun a b => PySem.W.dataLe false id (hdD z r a) (hdD z r b))).map z).Nodup := (hp.map _).nodup_iff.mpr nd
  rw [List.pairwise_map] at h1
  rw [List.map_map, List.pairwise_map]
  rw [List.Nodup, List.pairwise_map] at h2
  refine (List.Pairwise.and h2 h1).imp fun {a b} ⟨q1, q2⟩ => ?_
  have e : PySem.W.dataLe false id (hdD z r a) (hdD z r b) = PySem.W.dataLe false id (.str (z a)) (.str (z b)) := tuple_leQ q1 _ _
  rw [LeQ, e] at q2
  exact q2
theorem inj_hd : ∀ {gs : List α} {a b : α}, (gs.map z).Nodup → a ∈ gs → b ∈ gs → z a = z b → a = b
  | [], _, _, _, h, _, _ => by simp at h
  | g :: gs, a, b, nd, ha, hb, e => by
    simp only [List.map_cons, List.nodup_cons] at nd
    rcases List.mem_cons.mp ha with h1 | h1
    · rcases List.mem_cons.mp hb with h2 | h2
      · rw [h1, h2]
      · rw [← h1, e] at nd
        exact absurd (List.mem_map.mpr ⟨b, h2, rfl⟩) nd.1
    · rcases List.mem_cons.mp hb with h2 | h2
      · rw [← h2, ← e] at nd
        exact absurd (List.mem_map.mpr ⟨a, h1, rfl⟩) nd.1
      · exact inj_hd nd.2 h1 h2 e
theorem srt_hd {gs : List α} (nd : (gs.map z).Nodup) (hl : gs.length ≤ 1000) (al : ∀ g ∈ gs, PySem.W.alike (hdD z r g) (hdD z r g) = true) (sh : ∀ g ∈ gs, Shp 60 (hdD z r g)) : SrtN (gs.map (hdD z r)) := by
  refine ⟨fun d hd e he => ?_, fun d hd => ?_, by rw [List.length_map]; omega, fun d hd => ?_⟩
  · obtain ⟨a, ha, rfl⟩ := List.mem_map.mp hd
    obtain ⟨b, hb, rfl⟩ := List.mem_map.mp he
    by_cases c : z a = z b
    · rw [inj_hd nd ha hb c]
      exact .inl (al b hb)
    · exact .inr ⟨_, _, _, _, rfl, rfl, rfl, by rw [eqv_str]; exact decide_eq_false c⟩
  · obtain ⟨a, ha, rfl⟩ := List.mem_map.mp hd
    exact ⟨_, _, rfl⟩
  · obtain ⟨a, ha, rfl⟩ := List.mem_map.mp hd
    exact sh a ha
end
/-- sorted texts, told twice -/
theorem sort_strsQ (a : List Str) : ∃ ys : List Str, sortD (a.map .str) = ys.map .str ∧ ys.Perm a := by
  have hp := sortD_perm (a.map PyData.str)
  have e := (PySem.W.sort_maps (r := fun a b => PySem.W.dataLe false id (.str a) (.str b)) (s := PySem.W.dataLe false id) PyData.str (l := a) (fun _ _ _ _ => rfl)).symm
  exact ⟨_, e, List.mergeSort_perm a _⟩
theorem strs_inj {a b : List Str} (h : a.map PyData.str = b.map PyData.str) : a = b := by
  induction a generalizing b with
  | nil => cases b with
    | nil => rfl
    | cons _ _ => cases h
  | cons x a ih => cases b with
    | nil => cases h
    | cons y b =>
      rw [List.map_cons, List.map_cons] at h
      injection h with h1 h2
      injection h1 with h1
      rw [h1, ih h2]
/-- the names of the sorted ones are the sorted names -/
theorem names_of_sorted {α : Type} {z : α → Str} {gs : List α} {ys : List Str} (nd : ys.Nodup) (hp : (gs.map z).Perm ys) (h1 : ((gs.map z).map PyData.str).Pairwise LeQ) (h2 : PyProof.Rows.sortedS ys = true) : gs.map z = ys := by
  have nda : (gs.map z).Nodup := hp.nodup_iff.mpr nd
  have e := sort_is nda nd h2 fun y => hp.mem_iff
  rw [sortD_sorted h1] at e
  exact strs_inj e
/-- the things by their sorted names -/
theorem by_names {α : Type} {z : α → Str} {r : α → List PyData} {xs : List α} {ys : List Str} (nd : (xs.map z).Nodup) (hp : ys.Perm (xs.map z)) (hs : PyProof.Rows.sortedS ys = true) :
    ∃ gs : List α, gs.Perm xs ∧ ys = gs.map z ∧ sortD (xs.map (hdD z r)) = gs.map (hdD z r) := by
  obtain ⟨gs, e, h1, h2⟩ := sort_hd (r := r) nd
  refine ⟨gs, h1, ?_, e⟩
  exact (names_of_sorted (hp.nodup_iff.mpr nd) ((h1.map z).trans hp.symm) h2 hs).symm
mutual
theorem alike_rule : ∀ r : Rule, PySem.W.alike (enc r) (enc r) = true
  | .is _ _ => by simp [enc, PySem.W.alike, PySem.W.alikeAll]
  | .no r => by simp [enc, PySem.W.alike, PySem.W.alikeAll, alike_rule r]
  | .all rs => by simp [enc, PySem.W.alike, PySem.W.alikeAll, alike_rules rs]
  | .any rs => by simp [enc, PySem.W.alike, PySem.W.alikeAll, alike_rules rs]
theorem alike_rules : ∀ rs : List Rule, PySem.W.alikeAll (encs rs) (encs rs) = true
  | [] => by simp [encs, PySem.W.alikeAll]
  | r :: rs => by simp [encs, PySem.W.alikeAll, alike_rule r, alike_rules rs]
end
end My

set_option linter.all false
set_option maxRecDepth 100000
namespace My
open PySem PySem.Spec L2 Dv
local macro_rules | `(tactic| walk_at "dr") => `(tactic| (refine ⟨⟨trivial, trivial⟩, by first | decide | simp [selSlots], _, _, _, rfl, by assumption, by first | decide | omega, by first | decide | omega, by first | decide | omega, ?_⟩))
/-! ### nets -/
def netD (o : List Str) (gs : List Gate) : PyData := .tuple [.tuple (o.map .str), .tuple (gs.map gateD)]
structure NtOk (o : List Str) (gs : List Gate) : Prop where
  on : ∀ z ∈ o, NameOk z
  ol : o.length ≤ 8
  gn : ∀ g ∈ gs, NameOk g.z
  gl : gs.length ≤ 8
  gq : ∀ g ∈ gs, ∃ ws : List Str, GateQ ws g
def S__law_net : SpD := fun ds q => ∃ pen m os us, ds = [pen, namesD os, namesD us] ∧ PenOk m pen ∧ m + 20000 < 1073741824 ∧ os.length ≤ 8 ∧ us.length ≤ 30 ∧ (∀ z ∈ os, NameOk z) ∧ (∀ z ∈ us, NameOk z) ∧
  ∀ o gs pen', NtOk o gs → PenOk (m + 20000) pen' → q (.frz (netD o gs)) [some pen', none, none]
theorem cutN (us : List Str) (n : Nat) : cutD (us.map PyData.str) none (some (n : Int)) = (us.take n).map PyData.str := by
  unfold cutD
  rw [HT.sIx_none, show HT.sIx (us.map PyData.str).length (us.map PyData.str).length (some (n : Int)) = min n (us.map PyData.str).length from HT.sIx_nat _ _ n]
  rw [List.drop_zero, Nat.sub_zero, List.map_take, List.length_map]
  by_cases h : n ≤ us.length
  · rw [Nat.min_eq_left h]
  · rw [Nat.min_eq_right (by omega), List.take_of_length_le (by simp), List.take_of_length_le (by simp; omega)]
theorem p__law_net (ds : List PyData) (q : SV → Outs → Prop) (h : S__law_net ds q) (hl : ds.length = P__law_net.length) : g__law_net S__law_gate S__law_draw (endsOf P__law_net q) (startE N__law_net.length P__law_net ds) := by
  obtain ⟨pen, m, os, us, rfl, hp, hm, hol, hul, hon, hun, h⟩ := h
  have e8 : (8 : Int) - ((os.map PyData.str).length : Nat) = ((8 - os.length : Nat) : Int) := by rw [List.length_map]; omega
  have hc := cutN us (8 - os.length)
  have L2 : ∀ us' : List Str, us'.length ≤ 8 → (∀ z ∈ us', NameOk z) → g__law_net_L2 S__law_gate S__law_draw (endsOf P__law_net q) [some (.own pen), some (.frz (namesD os)), some (.frz (namesD us')), none, none, none] := by
    intro us' hul' hun'
    refine ⟨by rw [List.length_map, List.length_map]; exact Nat.le_trans (show os.length + us'.length ≤ 16 by omega) tle, ?_⟩
    show g__law_net_L3 S__law_gate S__law_draw (endsOf P__law_net q) [some (.own pen), some (.frz (namesD os)), some (.frz (namesD us')), some (.frz (.list (os.map PyData.str ++ us'.map PyData.str))), none, none]
    rw [← List.map_append]
    refine ⟨by rw [List.length_map]; omega, ?_⟩
    have fin : ∀ (gs : List Gate) (pen' : PyData), gs.length ≤ 8 → (∀ g ∈ gs, NameOk g.z ∧ GateQ (os ++ us') g) → PenOk (m + 20000) pen' → g__law_net_L4 S__law_gate S__law_draw (endsOf P__law_net q) [some (.own pen'), some (.frz (namesD os)), some (.frz (namesD us')), some (.frz (namesD (os ++ us'))), some (.frz (.list (gs.map gateD))), none] := by
      intro gs pen' hgl hg hp'
      refine ⟨by rw [List.length_map]; omega, ?_⟩
      have out : ∀ o : List Str, o.Perm us' → q (.frz (netD o gs)) [some pen', none, none] := by
        intro o po
        exact h o gs pen' ⟨fun z hz => hun' z (po.mem_iff.mp hz), by rw [po.length_eq]; exact hul', fun g hgm => (hg g hgm).1, hgl, fun g hgm => ⟨_, (hg g hgm).2⟩⟩ hp'
      refine flat_strs (fun ys pm so => ?_) (fun e => ?_)
      · exact ⟨tle, out ys pm⟩
      · subst e
        intro ys pm _
        have : ys = [] := List.Perm.eq_nil pm
        subst this
        exact ⟨tle, out [] (List.Perm.refl _)⟩
    refine flat_strs (fun ys pm so => ?_) (fun e => ?_)
    · have hyl := pm.length_eq
      apply lc_pen 2200 gateD (fun d g => d = .str g.z ∧ NameOk g.z ∧ GateQ (os ++ us') g) hp
      · intro i d pen yes no hd hdm hp hy
        rw [List.length_map] at hd
        obtain ⟨y, hy1, rfl⟩ := List.mem_map.mp hdm
        have hyo : y ∈ os := pm.mem_iff.mp hy1
        have hmul : 2200 * i ≤ 2200 * 8 := Nat.mul_le_mul_left _ (by omega)
        walk_at "dr"
        intro v pen1 h10 h11 hp1
        refine ⟨⟨trivial, trivial⟩, by simp [selSlots], pen1, _, y, v, os ++ us', rfl, hp1, by omega, by rw [List.length_append]; omega, ?_, ?_, bit_of h10 h11, fun g pen2 hgz hgv hgq hp2 => ?_⟩
        · intro e
          rw [List.append_eq_nil_iff] at e
          rw [e.1] at hyo
          cases hyo
        · intro z hz
          rcases List.mem_append.mp hz with hz | hz
          · exact hon z hz
          · exact hun' z hz
        · subst hgz
          exact hy g pen2 ⟨rfl, hon _ hyo, hgq⟩ (hp2.mono (by omega))
      · rw [List.length_map]; exact Nat.le_trans (show ys.length ≤ 8 by omega) tle
      intro gs pen1 hgs hgx hp1
      rw [List.length_map] at hgs hp1
      have hmul : 2200 * ys.length ≤ 2200 * 8 := Nat.mul_le_mul_left _ (by omega)
      refine fin gs pen1 (by omega) (fun g hg => ?_) (hp1.mono (by omega))
      obtain ⟨i, hi⟩ := List.mem_iff_getElem?.mp hg
      have := (List.getElem?_eq_some_iff.mp hi).1
      exact (hgx i _ g (List.getElem?_eq_getElem (by rw [List.length_map]; omega)) hi).2
    · subst e
      intro ys pm _
      have : ys = [] := List.Perm.eq_nil pm
      subst this
      exact fin [] pen (by simp) (fun g hg => by cases hg) (hp.mono (by omega))
  refine ⟨trivial, ?_⟩
  show g__law_net_L2 S__law_gate S__law_draw (endsOf P__law_net q) [some (.own pen), some (.frz (namesD os)), some (.frz (.list (cutD (us.map PyData.str) none (some ((8 : Int) - ((os.map PyData.str).length : Nat)))))), none, none, none]
  rw [e8, hc]
  exact L2 _ (by rw [List.length_take]; omega) fun z hz => hun z (List.mem_of_mem_take hz)
end My

set_option linter.all false
set_option maxRecDepth 100000
namespace My
open PySem PySem.Spec L2 Dv
local macro_rules | `(tactic| walk_at "dr") => `(tactic| (refine ⟨⟨trivial, trivial⟩, by first | decide | simp [selSlots], _, _, _, rfl, by assumption, by first | decide | omega, by first | decide | omega, by first | decide | omega, ?_⟩))
/-! ### two nets that look at one another -/
def S__law_two : SpD := fun ds q => ∃ pen m, ds = [pen] ∧ PenOk m pen ∧ m + 50000 < 1073741824 ∧ ∀ o1 g1 o2 g2 pen', NtOk o1 g1 → NtOk o2 g2 → PenOk (m + 50000) pen' → q (.own (.list [netD o1 g1, netD o2 g2])) [some pen']
theorem eqv_len (A : List Str) (n : Int) : PyData.eqv (.int ((A.map PyData.str).length : Nat)) (.int n) = decide ((A.length : Int) = n) := by
  rw [List.length_map]
  by_cases h : (A.length : Int) = n
  · simp [PyData.eqv, h]
  · simp [PyData.eqv, h]
/-- a comprehension whose test draws once -/
theorem lc_penN {P : List Bool} {g : DG} {tt : DT} {te : DE} {vs : List Nat} {Q : PyData → DEnv → Prop} {env : PyData → DEnv} {α : Type} (encA : α → PyData) (M : Nat) : ∀ {xs : List α} {acc : List PyData} {pen : PyData} {m : Nat},
    PenOk m pen →
    (∀ x ∈ xs, ∀ (pen : PyData) (m : Nat) (yes : PyData → DEnv → Prop) (no : DEnv → Prop), PenOk m pen → m < M → (∀ pen', PenOk (m + 1) pen' → yes (encA x) (env pen')) → (∀ pen', PenOk (m + 1) pen' → no (env pen')) → turnE P g tt te vs (env pen) (encA x) yes no) →
    m + xs.length ≤ M → acc.length + xs.length ≤ big →
    (∀ (ys : List α) (pen' : PyData), ys.Sublist xs → PenOk (m + xs.length) pen' → Q (.list (acc ++ ys.map encA)) (env pen')) → dLcL P g tt te vs Q (xs.map encA) acc (env pen)
  | [], acc, pen, m, hp, _, _, _, hq => by have := hq [] pen (List.Sublist.refl _) hp; rw [List.map_nil, List.append_nil] at this; exact this
  | d :: ds, acc, pen, m, hp, h, hM, hl, hq => by
    rw [List.length_cons] at hl hM hq
    rw [List.map_cons]
    refine lc_turn (h d List.mem_cons_self pen m _ _ hp (by omega) (fun pen' hp' => ⟨by omega, lc_penN encA M hp' (fun d' hd => h d' (List.mem_cons_of_mem _ hd)) (by omega) (by rw [List.length_append, List.length_singleton]; omega) ?_⟩) (fun pen' hp' => lc_penN encA M hp' (fun d' hd => h d' (List.mem_cons_of_mem _ hd)) (by omega) (by omega) ?_))
    · intro ys pen2 hs hp2
      have := hq (d :: ys) pen2 (hs.cons₂ _) (hp2.mono (by omega))
      rw [List.append_assoc]
      exact this
    · intro ys pen2 hs hp2
      exact hq ys pen2 (hs.cons _) (hp2.mono (by omega))
theorem at_last {α : Type} (xs : List α) (x : α) : atI (xs ++ [x]) (-1) = some x := by
  unfold atI ixN
  rw [List.length_append, List.length_singleton, if_neg (by omega), if_pos (by omega)]
  show (xs ++ [x])[_]? = some x
  have e : (-1 + ((xs.length + 1 : Nat) : Int)).toNat = xs.length := by omega
  rw [show _ = _ from e]
  simp
theorem eqvs_nil (xs : List Str) : PyData.eqv (.list (xs.map PyData.str)) (.list []) = decide (xs = []) := by
  cases xs with
  | nil => rfl
  | cons x xs => rfl
theorem shp_names {xs : List Str} (h : ∀ z ∈ xs, NameOk z) : shp (.list (xs.map PyData.str)) := (Shp.list (n := 8) fun d hd => by
  obtain ⟨z, hz, rfl⟩ := List.mem_map.mp hd
  exact (Shp.str (h z hz).tx).mono (by omega)).shp
theorem namesD_snoc (A : List Str) (z : Str) : namesD (A ++ [z]) = .list (A.map PyData.str ++ [.str z]) := by unfold namesD; rw [List.map_append]; rfl
theorem popZ {xs : List PyData} {y : PyData} {k : PyData → PyData → Prop} (h : k (.list xs) y) : popD (.list (xs ++ [y])) [] k := by
  show (match (xs ++ [y]).getLast? with
    | some z => k (.list (xs ++ [y]).dropLast) z
    | none => False)
  rw [List.getLast?_concat, List.dropLast_concat]
  exact h
theorem p__law_two (ds : List PyData) (q : SV → Outs → Prop) (h : S__law_two ds q) (hl : ds.length = P__law_two.length) : g__law_two S__law_draw S__law_names S__law_net (endsOf P__law_two q) (startE N__law_two.length P__law_two ds) := by
  obtain ⟨pen, m, rfl, hp, hm, h⟩ := h
  walk_at "dr"
  intro r1 pen1 h10 h11 hp1
  refine ⟨rfl, rfl, ?_⟩
  generalize PyData.eqv (SV.frz (.int r1)).d (.int 0) = b1
  walk_at "dr"
  intro r2 pen2 h20 h21 hp2
  refine ⟨rfl, rfl, ?_⟩
  generalize PyData.eqv (SV.frz (.int r2)).d (.int 0) = b2
  walk_at "dr"
  intro r3 pen3 h30 h31 hp3
  refine ⟨⟨trivial, trivial⟩, by simp [selSlots], pen3, _, 2 + r3, rfl, hp3, by omega, by omega, by omega, fun zs pen4 hzl hzn _ hp4 => ?_⟩
  obtain ⟨ns, last, rfl⟩ : ∃ ns last, zs = ns ++ [last] := ⟨zs.dropLast, zs.getLast (fun e => by rw [e] at hzl; simp at hzl; omega), (List.dropLast_concat_getLast _).symm⟩
  rw [List.length_append, List.length_singleton] at hzl
  have hns : ∀ z ∈ ns, NameOk z := fun z hz => hzn z (List.mem_append_left _ hz)
  have hlast : NameOk last := hzn last (List.mem_append_right _ List.mem_cons_self)
  show g__law_two_L4 S__law_draw S__law_names S__law_net (endsOf P__law_two q) [some (.own pen4), some (.frz (.bool b1)), some (.frz (.bool b2)), some (.own (namesD (ns ++ [last]))), none, none, none, none, none, none, none]
  have e : namesD (ns ++ [last]) = .list (ns.map PyData.str ++ [.str last]) := by unfold namesD; rw [List.map_append]; rfl
  rw [e]
  refine ⟨rfl, popZ ?_⟩
  show g__law_two_L5 S__law_draw S__law_names S__law_net (endsOf P__law_two q) [some (.own pen4), some (.frz (.bool b1)), some (.frz (.bool b2)), some (.own (namesD ns)), some (.frz (.str last)), none, none, none, none, none, none]
  refine ⟨tle, tle, tle, rfl, ?_⟩
  refine ⟨by decide, ?_⟩
  refine loop_ix (fun i ρ => ∃ (pen : PyData) (A B : List Str) (s6 s8 : Option SV), PenOk (m + 403 + i) pen ∧ A.length + B.length = i ∧ A.length ≤ 8 ∧ B.length ≤ 8 ∧ (∀ z ∈ A, NameOk z) ∧ (∀ z ∈ B, NameOk z) ∧ (s6 = none ∨ ∃ d, s6 = some (.frz d)) ∧
    ρ = [some (.own pen), some (.frz (.bool b1)), some (.frz (.bool b2)), some (.frz (namesD ns)), some (.frz (.str last)), some (.own2 (.list [namesD A, namesD B])), s6, none, s8, none, none]) (fun i d ρ nx hd hI hnx => ?_) ⟨pen4, [], [], _, _, hp4.mono (by omega), rfl, by simp, by simp, by simp, by simp, .inl rfl, rfl⟩ (fun ρ hI => ?_)
  · obtain ⟨pen5, A, B, s6, s8, hp5, hAB, hA, hB, hAn, hBn, h6, rfl⟩ := hI
    obtain ⟨z, hz, rfl⟩ : ∃ z, ns[i]? = some z ∧ d = .str z := by
      rw [List.getElem?_map] at hd
      cases e : ns[i]? with
      | none => rw [e] at hd; cases hd
      | some z => rw [e] at hd; cases hd; exact ⟨z, rfl, rfl⟩
    have hi := (List.getElem?_eq_some_iff.mp hz).1
    have zn := hns z (List.mem_of_getElem? hz)
    walk_at "dr"
    intro r4 pen6 h40 h41 hp6
    show g__law_two_L8 S__law_draw S__law_names S__law_net _ [some (.own pen6), some (.frz (.bool b1)), some (.frz (.bool b2)), some (.frz (namesD ns)), some (.frz (.str last)), some (.own2 (.list [namesD A, namesD B])), some (.frz (.str z)), none, some (.frz (.int r4)), none, none]
    have toA : A.length < 8 → nx [some (.own pen6), some (.frz (.bool b1)), some (.frz (.bool b2)), some (.frz (namesD ns)), some (.frz (.str last)), some (.own2 (.list [namesD (A ++ [z]), namesD B])), some (.frz (.str z)), none, some (.frz (.int r4)), none, none] := fun hlt =>
      hnx _ ⟨pen6, A ++ [z], B, _, _, hp6.mono (by omega), by rw [List.length_append, List.length_singleton]; omega, by rw [List.length_append, List.length_singleton]; omega, hB, fun y hy => by
        rcases List.mem_append.mp hy with hy | hy
        · exact hAn y hy
        · rw [List.mem_singleton] at hy; subst hy; exact zn, hBn, .inr ⟨_, rfl⟩, rfl⟩
    have toB : B.length < 8 → nx [some (.own pen6), some (.frz (.bool b1)), some (.frz (.bool b2)), some (.frz (namesD ns)), some (.frz (.str last)), some (.own2 (.list [namesD A, namesD (B ++ [z])])), some (.frz (.str z)), none, some (.frz (.int r4)), none, none] := fun hlt =>
      hnx _ ⟨pen6, A, B ++ [z], _, _, hp6.mono (by omega), by rw [List.length_append, List.length_singleton]; omega, hA, by rw [List.length_append, List.length_singleton]; omega, hAn, fun y hy => by
        rcases List.mem_append.mp hy with hy | hy
        · exact hBn y hy
        · rw [List.mem_singleton] at hy; subst hy; exact zn, .inr ⟨_, rfl⟩, rfl⟩
    rw [namesD_snoc] at toA toB
    have lA : (A.map PyData.str).length < big := by rw [List.length_map]; exact Nat.lt_of_le_of_lt hA (by decide)
    have lB : (B.map PyData.str).length < big := by rw [List.length_map]; exact Nat.lt_of_le_of_lt hB (by decide)
    have : r4 = 0 ∨ r4 = 1 := by omega
    rcases this with rfl | rfl
    · refine ⟨trivial, tle, rfl, rfl, ?_⟩
      rw [eqv_len]
      by_cases h8 : (A.length : Int) = 8
      · rw [decide_eq_true h8]
        exact ⟨rfl, rfl, lB, toB (by omega)⟩
      · rw [decide_eq_false h8]
        exact ⟨rfl, rfl, lA, toA (by omega)⟩
    · refine ⟨trivial, tle, rfl, rfl, ?_⟩
      rw [eqv_len]
      by_cases h8 : (B.length : Int) = 8
      · rw [decide_eq_true h8]
        exact ⟨rfl, rfl, lA, toA (by omega)⟩
      · rw [decide_eq_false h8]
        exact ⟨rfl, rfl, lB, toB (by omega)⟩
  · obtain ⟨pen5, A, B, s6, s8, hp5, hAB, hA, hB, hAn, hBn, h6, rfl⟩ := hI
    rw [List.length_map] at hp5
    show g__law_two_L9 S__law_draw S__law_names S__law_net (endsOf P__law_two q) [some (.own pen5), some (.frz (.bool b1)), some (.frz (.bool b2)), some (.frz (namesD ns)), some (.frz (.str last)), some (.own2 (.list [namesD A, namesD B])), s6, none, s8, none, none]
    refine ⟨tle, tle, ?_⟩
    -- a turn from its last step
    have T18 : ∀ (E : DEnds) (M : Nat) (pen : PyData) (s5 s6 s8 : Option SV) (X Z : List Str) (fs : List PyData), M + 20000 < 1073741824 → PenOk M pen → fs.length ≤ 5 → X.length ≤ 8 → Z.length ≤ 30 → (∀ z ∈ X, NameOk z) → (∀ z ∈ Z, NameOk z) →
        (∀ o g pen', NtOk o g → PenOk (M + 20000) pen' → E.nx [some (.own pen'), some (.frz (.bool b1)), some (.frz (.bool b2)), some (.frz (namesD ns)), some (.frz (.str last)), s5, s6, some (.own (.list (fs ++ [netD o g]))), s8, some (.frz (namesD X)), some (.frz (namesD Z))]) →
        g__law_two_L18 S__law_draw S__law_names S__law_net E [some (.own pen), some (.frz (.bool b1)), some (.frz (.bool b2)), some (.frz (namesD ns)), some (.frz (.str last)), s5, s6, some (.own (.list fs)), s8, some (.own (namesD X)), some (.frz (namesD Z))] := by
      intro E M pen s5 s6 s8 X Z fs hM hp hf hX hZ hXn hZn hk
      refine ⟨rfl, by decide, ⟨trivial, trivial, trivial⟩, by simp [selSlots], pen, M, X, Z, rfl, hp, hM, hX, hZ, hXn, hZn, fun o g pen' hg hp' => ?_⟩
      exact ⟨Nat.lt_of_le_of_lt hf (by decide), hk o g pen' hg hp'⟩
    have T16 : ∀ (E : DEnds) (M : Nat) (pen : PyData) (s5 s6 s8 : Option SV) (X Z : List Str) (fs : List PyData), M + 20100 < 1073741824 → PenOk M pen → fs.length ≤ 5 → X.length ≤ 8 → Z.length ≤ 20 → (∀ z ∈ X, NameOk z) → (∀ z ∈ Z, NameOk z) →
        (∀ o g pen' X Z, NtOk o g → PenOk (M + 20100) pen' → E.nx [some (.own pen'), some (.frz (.bool b1)), some (.frz (.bool b2)), some (.frz (namesD ns)), some (.frz (.str last)), s5, s6, some (.own (.list (fs ++ [netD o g]))), s8, some (.frz (namesD X)), some (.frz (namesD Z))]) →
        g__law_two_L16 S__law_draw S__law_names S__law_net E [some (.own pen), some (.frz (.bool b1)), some (.frz (.bool b2)), some (.frz (namesD ns)), some (.frz (.str last)), s5, s6, some (.own (.list fs)), s8, some (.own (namesD X)), some (.frz (namesD Z))] := by
      intro E M pen s5 s6 s8 X Z fs hM hp hf hX hZ hXn hZn hk
      have fin : ∀ (pen' : PyData) (Z' : List Str), PenOk (M + 1) pen' → Z'.length ≤ 30 → (∀ z ∈ Z', NameOk z) → g__law_two_L18 S__law_draw S__law_names S__law_net E [some (.own pen'), some (.frz (.bool b1)), some (.frz (.bool b2)), some (.frz (namesD ns)), some (.frz (.str last)), s5, s6, some (.own (.list fs)), s8, some (.own (namesD X)), some (.frz (namesD Z'))] :=
        fun pen' Z' hp' hZ' hZn' => T18 E (M + 1) pen' s5 s6 s8 X Z' fs (by omega) hp' hf hX hZ' hXn hZn' fun o g pen2 hg hp2 => hk o g pen2 X Z' hg (hp2.mono (by omega))
      have thenB : ∀ pen' : PyData, PenOk (M + 1) pen' → dSet P__law_two 10 (dBin addAD (dFroz (dLst P__law_two (dCons (dVar 4) dNil))) (dVar 10)) { E with nx := g__law_two_L18 S__law_draw S__law_names S__law_net E } [some (.own pen'), some (.frz (.bool b1)), some (.frz (.bool b2)), some (.frz (namesD ns)), some (.frz (.str last)), s5, s6, some (.own (.list fs)), s8, some (.own (namesD X)), some (.frz (namesD Z))] := by
        intro pen' hp'
        refine ⟨tle, by rw [List.length_map]; exact Nat.le_trans (show [PyData.str last].length + Z.length ≤ 30 by simp; omega) tle, ?_⟩
        exact fin pen' (last :: Z) hp' (by simp; omega) fun z hz => by
          rcases List.mem_cons.mp hz with rfl | hz
          · exact hlast
          · exact hZn z hz
      have second : ∀ pen' : PyData, PenOk (M + 1) pen' → dTest (dBin eqD (dBin addAD (dVar 9) (dVar 10)) (dFroz (dLst P__law_two dNil))) [some (.own pen'), some (.frz (.bool b1)), some (.frz (.bool b2)), some (.frz (namesD ns)), some (.frz (.str last)), s5, s6, some (.own (.list fs)), s8, some (.own (namesD X)), some (.frz (namesD Z))]
          (fun c ρ1 => by2 c (dSet P__law_two 10 (dBin addAD (dFroz (dLst P__law_two (dCons (dVar 4) dNil))) (dVar 10)) { E with nx := g__law_two_L18 S__law_draw S__law_names S__law_net E } ρ1) (dNext { E with nx := g__law_two_L18 S__law_draw S__law_names S__law_net E } ρ1)) := by
        intro pen' hp'
        refine ⟨by rw [List.length_map, List.length_map]; exact Nat.le_trans (show X.length + Z.length ≤ 30 by omega) tle, tle, ?_⟩
        rw [← List.map_append]
        refine ⟨shp_names fun z hz => ?_, rfl, ?_⟩
        · rcases List.mem_append.mp hz with hz | hz
          · exact hXn z hz
          · exact hZn z hz
        generalize PyData.eqv (.list ((X ++ Z).map PyData.str)) (.list []) = c
        cases c with
        | true => exact thenB pen' hp'
        | false => exact fin pen' Z hp' (by omega) hZn
      cases b2 with
      | true =>
        walk_at "dr"
        intro r pen' _ _ hp'
        refine ⟨rfl, rfl, ?_⟩
        generalize PyData.eqv (SV.frz (.int r)).d (.int 0) = c
        cases c with
        | true => exact thenB pen' hp'
        | false => exact second pen' hp'
      | false => exact second pen (hp.mono (by omega))
    have T13 : ∀ (E : DEnds) (M : Nat) (pen : PyData) (s6 : Option SV) (side : Int) (X Z : List Str) (fs : List PyData), keepF (some s6) = s6 → side = 0 ∨ side = 1 → M + 20200 < 1073741824 → PenOk M pen → fs.length ≤ 5 → X.length ≤ 8 → Z.length ≤ 20 → (∀ z ∈ X, NameOk z) → (∀ z ∈ Z, NameOk z) →
        (∀ o g pen' X Z, NtOk o g → PenOk (M + 20200) pen' → E.nx [some (.own pen'), some (.frz (.bool b1)), some (.frz (.bool b2)), some (.frz (namesD ns)), some (.frz (.str last)), some (.frz (.list [namesD A, namesD B])), s6, some (.own (.list (fs ++ [netD o g]))), some (.frz (.int side)), some (.frz (namesD X)), some (.frz (namesD Z))]) →
        g__law_two_L13 S__law_draw S__law_names S__law_net E [some (.own pen), some (.frz (.bool b1)), some (.frz (.bool b2)), some (.frz (namesD ns)), some (.frz (.str last)), some (.frz (.list [namesD A, namesD B])), s6, some (.own (.list fs)), some (.frz (.int side)), some (.own (namesD X)), some (.frz (namesD Z))] := by
      intro E M pen s6 side X Z fs k6 hside hM hp hf hX hZ hXn hZn hk
      have fin : ∀ (pen' : PyData) (X' Z' : List Str), PenOk (M + 1) pen' → X'.length ≤ 8 → Z'.length ≤ 20 → (∀ z ∈ X', NameOk z) → (∀ z ∈ Z', NameOk z) → g__law_two_L16 S__law_draw S__law_names S__law_net E [some (.own pen'), some (.frz (.bool b1)), some (.frz (.bool b2)), some (.frz (namesD ns)), some (.frz (.str last)), some (.frz (.list [namesD A, namesD B])), s6, some (.own (.list fs)), some (.frz (.int side)), some (.own (namesD X')), some (.frz (namesD Z'))] :=
        fun pen' X' Z' hp' hX' hZ' hXn' hZn' => T16 E (M + 1) pen' _ s6 _ X' Z' fs (by omega) hp' hf hX' hZ' hXn' hZn' fun o g pen2 X2 Z2 hg hp2 => hk o g pen2 X2 Z2 hg (hp2.mono (by omega))
      have stay := fin pen X Z (hp.mono (by omega)) hX hZ hXn hZn
      cases hb1 : b1 with
      | false => rw [hb1] at stay; exact stay
      | true =>
        rw [hb1] at stay fin
        rcases hside with rfl | rfl
        · exact ⟨rfl, rfl, stay⟩
        · refine ⟨rfl, rfl, ?_⟩
          refine by2_t (show PyData.eqv (.int 1) (.int 1) = true by decide +kernel) ?_
          refine by2_d (fun hlt => ?_) (fun _ => stay)
          rw [List.length_map] at hlt
          cases hA0 : A with
          | nil => rw [hA0] at stay; exact ⟨tle, stay⟩
          | cons a A' =>
            rw [← hA0]
            have hAne : 0 < A.length := by rw [hA0]; simp
            refine ⟨tle, ?_⟩
            refine by2_t (show (!(A.map PyData.str).isEmpty) = true by rw [hA0]; rfl) ?_
            refine ⟨rfl, ?_⟩
            refine ⟨⟨trivial, trivial⟩, by simp [selSlots], pen, _, _, rfl, hp, by omega, by rw [List.length_map]; omega, by rw [List.length_map]; omega, fun r pen' hr0 hr1 hp' => ?_⟩
            rw [List.length_map] at hr1
            obtain ⟨z, hz1, hz2⟩ := names_at hr0 hr1
            refine ixL hz1 ?_
            refine ⟨by rw [List.length_map]; exact Nat.lt_of_le_of_lt hX (by decide), ?_⟩
            show g__law_two_L15 S__law_draw S__law_names S__law_net { E with nx := g__law_two_L16 S__law_draw S__law_names S__law_net E } [some (.own pen'), some (.frz (.bool true)), some (.frz (.bool b2)), some (.frz (namesD ns)), some (.frz (.str last)), some (.frz (.list [namesD A, namesD B])), s6, some (.own (.list fs)), some (.frz (.int 1)), some (.own (.list (X.map PyData.str ++ [.str z]))), some (.frz (namesD Z))]
            have zn := hAn z hz2
            refine lc_inv (fun acc ρ => (∃ ys : List Str, acc = ys.map PyData.str ∧ ∀ y ∈ ys, NameOk y) ∧ ρ = [some (.own pen'), some (.frz (.bool true)), some (.frz (.bool b2)), some (.frz (namesD ns)), some (.frz (.str last)), some (.frz (.list [namesD A, namesD B])), s6, some (.own (.list fs)), some (.frz (.int 1)), some (.own (.list (X.map PyData.str ++ [.str z]))), some (.frz (namesD Z))]) (fun d hd acc ρ yes no hI hy hno => ?_) ⟨⟨[], rfl, by simp⟩, rfl⟩ (by rw [List.length_map]; exact Nat.le_trans (show 0 + Z.length ≤ 20 by omega) tle) (fun acc ρ hI hlen => ?_)
            · obtain ⟨⟨ys, rfl, hys⟩, rfl⟩ := hI
              obtain ⟨w, hw, rfl⟩ := List.mem_map.mp hd
              refine ixL (at_last (X.map PyData.str) (.str z)) ?_
              have sw : shp (.str w) := ((Shp.str (hZn w hw).tx).mono (n := 8) (by omega)).shp
              have sz : shp (.str z) := ((Shp.str zn.tx).mono (n := 8) (by omega)).shp
              refine ⟨sw, sz, ?_⟩
              generalize (!PyData.eqv (PyData.str w) (.str z)) = c
              cases c with
              | true =>
                refine hy _ _ ⟨⟨ys ++ [w], by rw [List.map_append]; rfl, fun y hy => ?_⟩, ?_⟩
                · rcases List.mem_append.mp hy with hy | hy
                  · exact hys y hy
                  · rw [List.mem_singleton] at hy; subst hy; exact hZn _ hw
                · conv => rhs; rw [← k6]
                  rfl
              | false =>
                refine hno _ ⟨⟨ys, rfl, hys⟩, ?_⟩
                conv => rhs; rw [← k6]
                rfl
            · obtain ⟨⟨ys, rfl, hys⟩, rfl⟩ := hI
              rw [List.length_map, List.length_map] at hlen
              rw [← namesD_snoc]
              exact fin pen' (X ++ [z]) ys hp' (by rw [List.length_append, List.length_singleton]; omega) (by simp at hlen; omega) (fun y hy => by
                rcases List.mem_append.mp hy with hy | hy
                · exact hXn y hy
                · rw [List.mem_singleton] at hy; subst hy; exact zn) hys
    have T12 : ∀ (E : DEnds) (M : Nat) (pen : PyData) (s6 s10 : Option SV) (side : Int) (X : List Str) (fs : List PyData), keepF (some s6) = s6 → side = 0 ∨ side = 1 → M + 20300 < 1073741824 → PenOk M pen → fs.length ≤ 5 → X.length ≤ 8 → (∀ z ∈ X, NameOk z) →
        (∀ o g pen' X Z, NtOk o g → PenOk (M + 20300) pen' → E.nx [some (.own pen'), some (.frz (.bool b1)), some (.frz (.bool b2)), some (.frz (namesD ns)), some (.frz (.str last)), some (.frz (.list [namesD A, namesD B])), s6, some (.own (.list (fs ++ [netD o g]))), some (.frz (.int side)), some (.frz (namesD X)), some (.frz (namesD Z))]) →
        g__law_two_L12 S__law_draw S__law_names S__law_net E [some (.own pen), some (.frz (.bool b1)), some (.frz (.bool b2)), some (.frz (namesD ns)), some (.frz (.str last)), some (.frz (.list [namesD A, namesD B])), s6, some (.own (.list fs)), some (.frz (.int side)), some (.own (namesD X)), s10] := by
      intro E M pen s6 s10 side X fs k6 hside hM hp hf hX hXn hk
      have core : ∀ Y : List Str, Y.length ≤ 8 → (∀ z ∈ Y, NameOk z) → dLcL P__law_two (gN 6) (dTest (dBin gtD (dCall P__law_two [true, false] S__law_draw (dCons (dVar 0) (dCons (dC (.int 3)) dNil))) (dC (.int 0)))) (dVar 6) [6]
          (fun d ρ' => g__law_two_L13 S__law_draw S__law_names S__law_net E (ρ'.set 10 (some (.frz d)))) (Y.map PyData.str) [] [some (.own pen), some (.frz (.bool b1)), some (.frz (.bool b2)), some (.frz (namesD ns)), some (.frz (.str last)), some (.frz (.list [namesD A, namesD B])), s6, some (.own (.list fs)), some (.frz (.int side)), some (.own (namesD X)), s10] := by
        intro Y hY hYn
        refine lc_penN (env := fun pen => [some (.own pen), some (.frz (.bool b1)), some (.frz (.bool b2)), some (.frz (namesD ns)), some (.frz (.str last)), some (.frz (.list [namesD A, namesD B])), s6, some (.own (.list fs)), some (.frz (.int side)), some (.own (namesD X)), s10]) PyData.str (M + 10) hp (fun y hy pen m yes no hp hm hyes hno => ?_) (by omega) (Nat.le_trans (show 0 + Y.length ≤ 8 by omega) tle) (fun ys pen' hs hp' => ?_)
        · walk_at "dr"
          intro r pen' _ _ hp'
          have e6 : ∀ pen : PyData, restE [some (.own pen), some (.frz (.bool b1)), some (.frz (.bool b2)), some (.frz (namesD ns)), some (.frz (.str last)), some (.frz (.list [namesD A, namesD B])), some (.frz (.str y)), some (.own (.list fs)), some (.frz (.int side)), some (.own (namesD X)), s10] [some (.own pen), some (.frz (.bool b1)), some (.frz (.bool b2)), some (.frz (namesD ns)), some (.frz (.str last)), some (.frz (.list [namesD A, namesD B])), s6, some (.own (.list fs)), some (.frz (.int side)), some (.own (namesD X)), s10] [6] = [some (.own pen), some (.frz (.bool b1)), some (.frz (.bool b2)), some (.frz (namesD ns)), some (.frz (.str last)), some (.frz (.list [namesD A, namesD B])), s6, some (.own (.list fs)), some (.frz (.int side)), some (.own (namesD X)), s10] := fun pen => by
            conv => rhs; rw [← k6]
            rfl
          refine by2_d (fun _ => ?_) (fun _ => ?_)
          · have := hyes pen' hp'
            rw [← e6 pen'] at this
            exact this
          · have := hno pen' hp'
            rw [← e6 pen'] at this
            exact this
        · exact T13 E (M + 8) pen' s6 side X ys fs k6 hside (by omega) (hp'.mono (by omega)) hf hX (by have := hs.length_le; omega) hXn (fun z hz => hYn z (hs.subset hz)) fun o g pen2 X2 Z2 hg hp2 => hk o g pen2 X2 Z2 hg (hp2.mono (by omega))
      rcases hside with rfl | rfl
      · exact ⟨trivial, core B hB hBn⟩
      · exact ⟨trivial, core A hA hAn⟩
    have T11 : ∀ (E : DEnds) (M : Nat) (pen : PyData) (s5 : SV) (s6 s9 s10 : Option SV) (side : Int) (fs : List PyData), s5 = .own2 (.list [namesD A, namesD B]) ∨ s5 = .frz (.list [namesD A, namesD B]) → keepF (some s6) = s6 → side = 0 ∨ side = 1 → M + 20300 < 1073741824 → PenOk M pen → fs.length ≤ 5 →
        (∀ o g pen' X Z, NtOk o g → PenOk (M + 20300) pen' → E.nx [some (.own pen'), some (.frz (.bool b1)), some (.frz (.bool b2)), some (.frz (namesD ns)), some (.frz (.str last)), some (.frz (.list [namesD A, namesD B])), s6, some (.own (.list (fs ++ [netD o g]))), some (.frz (.int side)), some (.frz (namesD X)), some (.frz (namesD Z))]) →
        g__law_two_L11 S__law_draw S__law_names S__law_net E [some (.own pen), some (.frz (.bool b1)), some (.frz (.bool b2)), some (.frz (namesD ns)), some (.frz (.str last)), some s5, s6, some (.own (.list fs)), some (.frz (.int side)), s9, s10] := by
      intro E M pen s5 s6 s9 s10 side fs hs5 k6 hside hM hp hf hk
      have t0 := T12 E M pen s6 s10 side A fs k6 hside hM hp hf hA hAn hk
      have t1 := T12 E M pen s6 s10 side B fs k6 hside hM hp hf hB hBn hk
      rcases hs5 with rfl | rfl <;> rcases hside with rfl | rfl
      · exact t0
      · exact t1
      · exact t0
      · exact t1
    have k6 : keepF (some s6) = s6 := by
      rcases h6 with rfl | ⟨d, rfl⟩ <;> rfl
    refine T11 _ (m + 500) pen5 _ s6 none none 0 [] (.inl rfl) k6 (.inl rfl) (by omega) (hp5.mono (by omega)) (by simp) fun o1 g1 pen6 X1 Z1 hg1 hp6 => ?_
    refine T11 _ (m + 500 + 20300) pen6 _ s6 _ _ 1 [netD o1 g1] (.inr rfl) k6 (.inr rfl) (by omega) hp6 (by simp) fun o2 g2 pen7 X2 Z2 hg2 hp7 => ?_
    exact ⟨by decide, h o1 g1 o2 g2 pen7 hg1 hg2 (hp7.mono (by omega))⟩
end My

set_option linter.all false
set_option maxRecDepth 100000
namespace My
open PySem PySem.Spec L2 Dv
/-! ### how long a text shows a thing -/
structure ShB (k n : Nat) (d : PyData) : Prop where
  sh : Shp k d
  ok : d.showable = true
  sz : d.shown.length ≤ n
theorem ShB.mono {k n k' n' : Nat} {d : PyData} (h : ShB k n d) (hk : k ≤ k' := by omega) (hn : n ≤ n' := by omega) : ShB k' n' d := ⟨h.sh.mono hk, h.ok, Nat.le_trans h.sz hn⟩
theorem ShB.sho {k n : Nat} {d : PyData} (h : ShB k n d) (hk : k ≤ 60 := by decide) (hn : n ≤ 16777216 := by decide) : Sho d := ⟨h.sh.mono hk, h.ok, Nat.le_trans h.sz hn⟩
theorem shown_all {n : Nat} : ∀ {ds : List PyData}, (∀ d ∈ ds, d.shown.length ≤ n) → ((PyData.shownAll ds).map (·.length)).sum + 2 * (PyData.shownAll ds).length ≤ ds.length * (n + 2)
  | [], _ => by simp [PyData.shownAll]
  | d :: ds, h => by
    have ih := shown_all (ds := ds) fun e he => h e (List.mem_cons_of_mem _ he)
    have h1 := h d List.mem_cons_self
    simp only [PyData.shownAll, List.map_cons, List.sum_cons, List.length_cons, Nat.add_mul, Nat.one_mul] at ih ⊢
    omega
theorem ShB.tuple {k n : Nat} {ds : List PyData} (h : ∀ d ∈ ds, ShB k n d) : ShB (k + 1) (ds.length * (n + 2) + 3) (.tuple ds) := by
  refine ⟨Shp.tuple fun d hd => (h d hd).sh, ?_, ?_⟩
  · simp only [PyData.showable]
    exact showAll_of fun d hd => (h d hd).ok
  · have h1 := shown_all fun d hd => (h d hd).sz
    have h2 := tupleText_le (PyData.shownAll ds)
    simp only [PyData.shown]
    omega
theorem ShB.str {n : Nat} {x : Str} (h : Tx n x) : ShB 0 (10 * n + 2) (.str x) := ⟨Shp.str h, by simp [PyData.showable], by simp only [PyData.shown]; exact repr_le h⟩
theorem ShB.nat {n : Nat} (h : n < 1000) : ShB 0 3 (.int (n : Nat)) := by
  have key : ∀ n : Fin 1000, (PyData.int ((n.val : Nat) : Int)).showable = true ∧ (PyData.int ((n.val : Nat) : Int)).shown.length ≤ 3 := by decide +kernel
  exact ⟨Shp.int _, (key ⟨n, h⟩).1, (key ⟨n, h⟩).2⟩
end My

set_option linter.all false
set_option maxRecDepth 100000
namespace My
open PySem PySem.Spec L2 Dv
/-! ### mirrored, closed -/
def flipS (x : Str) : Str := if x = sAsk then sAns else sAsk
def withW (f : Str × Str × Int → Str × Str × Int) (s : Sheet) : Sheet := ⟨s.wires.map f, s.turns, s.spots⟩
def mirW (x : Str × Str × Int) : Str × Str × Int := (x.1, flipS x.2.1, x.2.2)
def cloW (x : Str × Str × Int) : Str × Str × Int := (x.1, sAns, x.2.2)
def Sides (s : Sheet) : Prop := (∀ x ∈ s.wires, x.2.1 = sAsk ∨ x.2.1 = sAns) ∧ s.wires.length ≤ 30
theorem flip_side {x : Str} (h : x = sAsk ∨ x = sAns) : (flipS x = sAsk ∨ flipS x = sAns) ∧ flipS (flipS x) = x := by
  have ne : ¬ sAns = sAsk := by decide +kernel
  rcases h with rfl | rfl
  · exact ⟨.inr (if_pos rfl), by unfold flipS; rw [if_pos rfl, if_neg ne]⟩
  · exact ⟨.inl (if_neg ne), by unfold flipS; rw [if_neg ne, if_pos rfl]⟩
theorem sides_mir {s : Sheet} (h : Sides s) : Sides (withW mirW s) := ⟨fun x hx => by
  obtain ⟨y, hy, rfl⟩ := List.mem_map.mp hx
  exact (flip_side (h.1 y hy)).1, by show (s.wires.map mirW).length ≤ 30; rw [List.length_map]; exact h.2⟩
theorem sides_clo {s : Sheet} (h : Sides s) : Sides (withW cloW s) := ⟨fun x hx => by
  obtain ⟨y, hy, rfl⟩ := List.mem_map.mp hx
  exact .inr rfl, by show (s.wires.map cloW).length ≤ 30; rw [List.length_map]; exact h.2⟩
theorem map_id_on {α : Type} {f : α → α} : ∀ {xs : List α}, (∀ x ∈ xs, f x = x) → xs.map f = xs
  | [], _ => rfl
  | x :: xs, h => by rw [List.map_cons, h x List.mem_cons_self, map_id_on fun y hy => h y (List.mem_cons_of_mem _ hy)]
theorem mir_mir {s : Sheet} (h : Sides s) : withW mirW (withW mirW s) = s := by
  cases s with
  | mk w t p =>
    show Sheet.mk ((w.map mirW).map mirW) t p = ⟨w, t, p⟩
    rw [List.map_map, map_id_on fun x hx => ?_]
    show (x.1, flipS (flipS x.2.1), x.2.2) = x
    rw [(flip_side (h.1 x hx)).2]
theorem clo_mir (s : Sheet) : withW cloW (withW mirW s) = withW cloW s := by
  show Sheet.mk ((s.wires.map mirW).map cloW) s.turns s.spots = ⟨s.wires.map cloW, s.turns, s.spots⟩
  rw [List.map_map]
  rfl
theorem clo_clo (s : Sheet) : withW cloW (withW cloW s) = withW cloW s := by
  show Sheet.mk ((s.wires.map cloW).map cloW) s.turns s.spots = ⟨s.wires.map cloW, s.turns, s.spots⟩
  rw [List.map_map]
  rfl
def S_other_side : SpD := fun ds q => ∃ x, ds = [.str x] ∧ (x = sAsk ∨ x = sAns) ∧ q (.frz (.str (flipS x))) [none]
theorem p_other_side (ds : List PyData) (q : SV → Outs → Prop) (h : S_other_side ds q) (hl : ds.length = P_other_side.length) : g_other_side (endsOf P_other_side q) (startE N_other_side.length P_other_side ds) := by
  obtain ⟨x, rfl, hx, h⟩ := h
  have s1 : shp (.str (Str.ofString "ask")) := ((Shp.str (n := 3) (Tx.lit (by decide +kernel))).mono (n := 8) (by omega)).shp
  have s2 : shp (.str (Str.ofString "answer")) := ((Shp.str (n := 6) (Tx.lit (by decide +kernel))).mono (n := 8) (by omega)).shp
  have ne : ¬ sAns = sAsk := by decide +kernel
  rcases hx with rfl | rfl
  · refine ⟨tle, s1, s1, ?_⟩
    rw [show PyData.eqv (.str sAsk) (.str (Str.ofString "ask")) = true from by rw [eqv_str]; exact decide_eq_true rfl]
    unfold flipS at h
    rw [if_pos rfl] at h
    exact h
  · refine ⟨tle, s2, s1, ?_⟩
    rw [show PyData.eqv (.str sAns) (.str (Str.ofString "ask")) = false from by rw [eqv_str]; exact decide_eq_false ne]
    unfold flipS at h
    rw [if_neg ne] at h
    exact h
def S_mirrored : SpD := fun ds q => ∃ s, ds = [sheetD s] ∧ Sides s ∧ q (.frz (sheetD (withW mirW s))) [none]
def S_closed : SpD := fun ds q => ∃ s, ds = [sheetD s] ∧ Sides s ∧ q (.frz (sheetD (withW cloW s))) [none]
/-- a comprehension over things -/
theorem lc_mapQ {α : Type} {P : List Bool} {g : DG} {tt : DT} {te : DE} {vs : List Nat} {Q : PyData → DEnv → Prop} {env : DEnv} (encA : α → PyData) (f : α → PyData) {xs : List α}
    (h : ∀ x ∈ xs, ∀ (yes : PyData → DEnv → Prop) (no : DEnv → Prop), yes (f x) env → turnE P g tt te vs env (encA x) yes no) (hl : xs.length ≤ 100000) (hq : Q (.list (xs.map f)) env) : dLcL P g tt te vs Q (xs.map encA) [] env := by
  refine lc_ix (fun acc ρ => acc = (xs.take acc.length).map f ∧ ρ = env) (fun acc d ρ yes no hd hI hy => ?_) ⟨rfl, rfl⟩ (by rw [List.length_map]; exact Nat.le_trans hl tle) (fun acc ρ hI hlen => ?_)
  · obtain ⟨e, rfl⟩ := hI
    rw [List.getElem?_map] at hd
    cases er : xs[acc.length]? with
    | none => rw [er] at hd; cases hd
    | some x =>
      rw [er] at hd
      cases hd
      refine h x (List.mem_of_getElem? er) yes no (hy _ _ ⟨?_, rfl⟩)
      rw [List.length_append, List.length_singleton, List.take_add_one, er, List.map_append]
      conv => lhs; rw [e]
      rfl
  · obtain ⟨e, rfl⟩ := hI
    rw [List.length_map] at hlen
    rw [hlen, List.take_length] at e
    rw [e]
    exact hq
theorem p_mirrored (ds : List PyData) (q : SV → Outs → Prop) (h : S_mirrored ds q) (hl : ds.length = P_mirrored.length) : g_mirrored S_other_side (endsOf P_mirrored q) (startE N_mirrored.length P_mirrored ds) := by
  obtain ⟨s, rfl, hs, h⟩ := h
  refine ⟨rfl, ?_⟩
  refine lc_mapQ wireD (fun x => wireD (mirW x)) (fun x hx yes no hy => ?_) (by have := hs.2; omega) ?_
  · refine ⟨rfl, trivial, List.nodup_nil, _, rfl, hs.1 x hx, ?_⟩
    exact ⟨tle, hy⟩
  have e : (s.wires.map fun x => wireD (mirW x)) = (s.wires.map mirW).map wireD := by rw [List.map_map]; rfl
  rw [e]
  exact ⟨tle, h⟩
theorem p_closed (ds : List PyData) (q : SV → Outs → Prop) (h : S_closed ds q) (hl : ds.length = P_closed.length) : g_closed (endsOf P_closed q) (startE N_closed.length P_closed ds) := by
  obtain ⟨s, rfl, hs, h⟩ := h
  refine ⟨rfl, ?_⟩
  refine lc_mapQ wireD (fun x => wireD (cloW x)) (fun x hx yes no hy => ?_) (by have := hs.2; omega) ?_
  · exact ⟨rfl, tle, hy⟩
  have e : (s.wires.map fun x => wireD (cloW x)) = (s.wires.map cloW).map wireD := by rw [List.map_map]; rfl
  rw [e]
  exact ⟨tle, h⟩
/-! ### the law's own -/
def otherD : List (PyData × PyData) := mergeD [] [(Sum.inr (Str.ofString "ask"), .str (Str.ofString "answer")), (Sum.inr (Str.ofString "answer"), .str (Str.ofString "ask"))]
theorem look_other {x : Str} (h : x = sAsk ∨ x = sAns) : lookD otherD (.inr x) = some (.str (flipS x)) := by
  have ne : ¬ sAns = sAsk := by decide +kernel
  rcases h with rfl | rfl
  · unfold flipS; rw [if_pos rfl]; rfl
  · unfold flipS; rw [if_neg ne]; rfl
theorem lookZ {kvs : List (PyData × PyData)} {k : Key} {d : PyData} {K : PyData → Prop} (h : lookD kvs k = some d) (hk : K d) : (match lookD kvs k with | some x => K x | none => False) := by
  rw [h]
  exact hk
def S__law_sides_right : SpD := fun ds q => ∃ s, ds = [sheetD s] ∧ Sides s ∧ Sho (sheetD s) ∧ Sho (sheetD (withW mirW s)) ∧ Sho (sheetD (withW cloW s)) ∧ q (.frz (.bool true)) [none]
theorem sides5 {q : SV → Outs → Prop} {SM SC : SpD} {D M Z : PyData} (od : List (PyData × PyData)) (h1 : Sho D) (h2 : Sho M) (h3 : Sho Z)
    (cM : ∀ q' : SV → Outs → Prop, q' (.frz M) [none] → SM [D] q') (cC : ∀ q' : SV → Outs → Prop, q' (.frz Z) [none] → SC [D] q') (cM2 : ∀ q' : SV → Outs → Prop, q' (.frz D) [none] → SM [M] q')
    (cC2 : ∀ q' : SV → Outs → Prop, q' (.frz Z) [none] → SC [M] q') (cC3 : ∀ q' : SV → Outs → Prop, q' (.frz Z) [none] → SC [Z] q') (h : q (.frz (.bool true)) [none]) :
    g__law_sides_right_L5 SM SC (endsOf P__law_sides_right q) [some (.frz D), some (.frz (.str D.shown)), some (.frz (.dict od)), some (.frz M), some (.frz Z), none, none, none, none] := by
  refine ⟨by decide, by decide, ?_⟩
  refine loop_all (fun ρ => ∃ s5 : Option SV, ρ = [some (.frz D), some (.frz (.str D.shown)), some (.frz (.dict od)), some (.frz M), some (.frz Z), s5, none, none, none]) (fun d hd ρ nx hI hnx => ?_) ⟨_, rfl⟩ (fun ρ hI => ?_)
  · obtain ⟨s5, rfl⟩ := hI
    refine ⟨trivial, List.nodup_nil, cM _ ⟨h2, h2, ?_⟩⟩
    refine by2_f (show (!decide (M.shown = M.shown)) = false by simp) ?_
    refine ⟨trivial, List.nodup_nil, cC _ ⟨h3, h3, ?_⟩⟩
    refine by2_f (show (!decide (Z.shown = Z.shown)) = false by simp) ?_
    exact hnx _ ⟨_, rfl⟩
  · obtain ⟨s5, rfl⟩ := hI
    refine ⟨trivial, List.nodup_nil, cM2 _ ⟨h1, ?_⟩⟩
    refine by2_f (show (!decide (D.shown = D.shown)) = false by simp) ?_
    refine ⟨trivial, List.nodup_nil, cC2 _ ⟨h3, h3, ?_⟩⟩
    refine by2_f (show (!decide (Z.shown = Z.shown)) = false by simp) ?_
    refine ⟨trivial, List.nodup_nil, cC3 _ ⟨h3, h3, ?_⟩⟩
    refine by2_f (show (!decide (Z.shown = Z.shown)) = false by simp) ?_
    refine ⟨h1, ?_⟩
    show q (.frz (.bool (decide (D.shown = D.shown)))) [none]
    rw [show decide (D.shown = D.shown) = true by simp]
    exact h
theorem p__law_sides_right (ds : List PyData) (q : SV → Outs → Prop) (h : S__law_sides_right ds q) (hl : ds.length = P__law_sides_right.length) : g__law_sides_right S_mirrored S_closed (endsOf P__law_sides_right q) (startE N__law_sides_right.length P__law_sides_right ds) := by
  obtain ⟨s, rfl, hs, h1, h2, h3, h⟩ := h
  refine ⟨h1, ?_⟩
  show g__law_sides_right_L2 S_mirrored S_closed (endsOf P__law_sides_right q) [some (.frz (sheetD s)), some (.frz (.str (sheetD s).shown)), none, none, none, none, none, none, none]
  refine ⟨tle, ?_⟩
  show g__law_sides_right_L3 S_mirrored S_closed (endsOf P__law_sides_right q) [some (.frz (sheetD s)), some (.frz (.str (sheetD s).shown)), some (.frz (.dict otherD)), none, none, none, none, none, none]
  have hl30 := hs.2
  refine lc_mapQ wireD (fun x => wireD (mirW x)) (fun x hx yes no hy => ?_) (by omega) ?_
  · refine ⟨rfl, ?_⟩
    refine lookZ (look_other (hs.1 x hx)) ?_
    exact ⟨tle, hy⟩
  have e1 : (s.wires.map fun x => wireD (mirW x)) = (s.wires.map mirW).map wireD := by rw [List.map_map]; rfl
  rw [e1]
  refine ⟨tle, ?_⟩
  show g__law_sides_right_L4 S_mirrored S_closed (endsOf P__law_sides_right q) [some (.frz (sheetD s)), some (.frz (.str (sheetD s).shown)), some (.frz (.dict otherD)), some (.frz (sheetD (withW mirW s))), none, none, none, none, none]
  refine lc_mapQ wireD (fun x => wireD (cloW x)) (fun x hx yes no hy => ⟨rfl, tle, hy⟩) (by omega) ?_
  have e2 : (s.wires.map fun x => wireD (cloW x)) = (s.wires.map cloW).map wireD := by rw [List.map_map]; rfl
  rw [e2]
  refine ⟨tle, ?_⟩
  show g__law_sides_right_L5 S_mirrored S_closed (endsOf P__law_sides_right q) [some (.frz (sheetD s)), some (.frz (.str (sheetD s).shown)), some (.frz (.dict otherD)), some (.frz (sheetD (withW mirW s))), some (.frz (sheetD (withW cloW s))), none, none, none, none]
  exact sides5 otherD h1 h2 h3 (fun q' hq => ⟨s, rfl, hs, hq⟩) (fun q' hq => ⟨s, rfl, hs, hq⟩) (fun q' hq => ⟨withW mirW s, rfl, sides_mir hs, by rw [mir_mir hs]; exact hq⟩) (fun q' hq => ⟨withW mirW s, rfl, sides_mir hs, by rw [clo_mir]; exact hq⟩) (fun q' hq => ⟨withW cloW s, rfl, sides_clo hs, by rw [clo_clo]; exact hq⟩) h
end My

set_option linter.all false
set_option maxRecDepth 100000
namespace My
open PySem PySem.Spec L2 Dv
/-! ### when two nets can't be joined -/
def Bad (o1 : List Str) (g1 : List Gate) (o2 : List Str) (g2 : List Gate) : Prop := ¬ ((g1 ++ g2).map (·.z)).Nodup ∨ 8 < (g1 ++ g2).length ∨ (∃ w ∈ o1, w ∉ g2.map (·.z)) ∨ ∃ w ∈ o2, w ∉ g1.map (·.z)
def netS (gs : List Gate) : PyData := .tuple [.tuple [], .tuple (sortD (gs.map gateD))]
theorem gate_hd : gateD = hdD (fun g : Gate => g.z) (fun g => [.int g.v, enc g.up, enc g.dn]) := rfl
theorem names_app (g1 g2 : List Gate) : (g1 ++ g2).map (·.z) = g1.map (·.z) ++ g2.map (·.z) := List.map_append
theorem perm_names (g1 g2 : List Gate) : ((g1 ++ g2).map (·.z)).Perm ((g2 ++ g1).map (·.z)) := (List.perm_append_comm).map _
theorem bad_swap {o1 o2 : List Str} {g1 g2 : List Gate} (h : Bad o1 g1 o2 g2) : Bad o2 g2 o1 g1 := by
  rcases h with h | h | h | h
  · exact .inl fun z => h ((perm_names g1 g2).nodup_iff.mpr z)
  · exact .inr (.inl (by rw [List.length_append] at h ⊢; omega))
  · exact .inr (.inr (.inr h))
  · exact .inr (.inr (.inl h))
theorem same_by_names : ∀ {a b : List Gate}, (a.map (·.z)).Nodup → b.Perm a → a.map (·.z) = b.map (·.z) → a = b := by
  intro a b nd p e
  have hl : a.length = b.length := by have := congrArg List.length e; simpa using this
  apply List.ext_getElem hl
  intro i h1 h2
  have ez : (a[i]).z = (b[i]).z := by
    have := congrArg (·[i]?) e
    simp only [List.getElem?_map, List.getElem?_eq_getElem h1, List.getElem?_eq_getElem h2, Option.map_some] at this
    exact Option.some.inj this
  exact inj_hd (z := fun g : Gate => g.z) nd (List.getElem_mem h1) (p.mem_iff.mp (List.getElem_mem h2)) ez
/-- the gates by their sorted names -/
theorem by_sorted {G : List Gate} {ys : List Str} (nd : (G.map (·.z)).Nodup) (hp : ys.Perm (G.map (·.z))) (hs : PyProof.Rows.sortedS ys = true) : ∃ gs : List Gate, gs.Perm G ∧ ys = gs.map (·.z) ∧ sortD (G.map gateD) = gs.map gateD :=
  by_names (z := fun g : Gate => g.z) (r := fun g => [.int g.v, enc g.up, enc g.dn]) nd hp hs
theorem netS_swap {g1 g2 : List Gate} (nd : ((g1 ++ g2).map (·.z)).Nodup) : netS (g2 ++ g1) = netS (g1 ++ g2) := by
  obtain ⟨gs, e, h1, h2⟩ := sort_hd (z := fun g : Gate => g.z) (r := fun g => [.int g.v, enc g.up, enc g.dn]) nd
  obtain ⟨hs, e', h1', h2'⟩ := sort_hd (z := fun g : Gate => g.z) (r := fun g => [.int g.v, enc g.up, enc g.dn]) ((perm_names g1 g2).nodup_iff.mp nd)
  have p : hs.Perm gs := (h1'.trans List.perm_append_comm).trans h1.symm
  have ndg : (gs.map (·.z)).Nodup := (h1.map _).nodup_iff.mpr nd
  have ndh : (hs.map (·.z)).Nodup := (p.map _).nodup_iff.mpr ndg
  have en : gs.map (fun g : Gate => g.z) = hs.map (fun g : Gate => g.z) := by
    have a := sortD_sorted h2
    have b := sortD_sorted h2'
    have c := sort_same (a := gs.map (fun g : Gate => g.z)) (b := hs.map (fun g : Gate => g.z)) ndg ndh fun z => ((p.map _).mem_iff).symm
    rw [a, b] at c
    exact strs_inj c
  have eg := same_by_names ndg p en
  subst eg
  unfold netS
  rw [show (g2 ++ g1).map gateD = (g2 ++ g1).map (hdD (fun g : Gate => g.z) (fun g => [.int g.v, enc g.up, enc g.dn])) from rfl, show (g1 ++ g2).map gateD = (g1 ++ g2).map (hdD (fun g : Gate => g.z) (fun g => [.int g.v, enc g.up, enc g.dn])) from rfl, e, e']
/-- a comprehension that keeps some -/
theorem lc_filterQ {α : Type} {P : List Bool} {g : DG} {tt : DT} {te : DE} {vs : List Nat} {Q : PyData → DEnv → Prop} {env : DEnv} (encA : α → PyData) (p : α → Bool) : ∀ {xs : List α} {acc : List PyData},
    (∀ x ∈ xs, ∀ (yes : PyData → DEnv → Prop) (no : DEnv → Prop), (p x = true → yes (encA x) env) → (p x = false → no env) → turnE P g tt te vs env (encA x) yes no) → acc.length + xs.length ≤ big → Q (.list (acc ++ (xs.filter p).map encA)) env → dLcL P g tt te vs Q (xs.map encA) acc env
  | [], acc, _, _, hq => by rw [List.filter_nil, List.map_nil, List.append_nil] at hq; exact hq
  | x :: xs, acc, h, hl, hq => by
    rw [List.length_cons] at hl
    rw [List.map_cons]
    refine lc_turn (h x List.mem_cons_self _ _ (fun e => ⟨by omega, lc_filterQ encA p (fun y hy => h y (List.mem_cons_of_mem _ hy)) (by rw [List.length_append, List.length_singleton]; omega) ?_⟩) (fun e => lc_filterQ encA p (fun y hy => h y (List.mem_cons_of_mem _ hy)) (by omega) ?_))
    · rw [List.filter_cons_of_pos e, List.map_cons] at hq
      rw [List.append_assoc]
      exact hq
    · rw [List.filter_cons_of_neg (by rw [e]; decide)] at hq
      exact hq
theorem filter_z {G : List Gate} (nd : (G.map (·.z)).Nodup) {g : Gate} (hg : g ∈ G) : G.filter (fun h => decide (h.z = g.z)) = [g] := by
  induction G with
  | nil => cases hg
  | cons a G ih =>
    rw [List.map_cons, List.nodup_cons] at nd
    rcases List.mem_cons.mp hg with rfl | hg'
    · rw [List.filter_cons_of_pos (by simp)]
      rw [List.filter_eq_nil_iff.mpr fun h hh e => nd.1 (List.mem_map.mpr ⟨h, hh, of_decide_eq_true e⟩)]
    · have ne : ¬ a.z = g.z := fun e => nd.1 (List.mem_map.mpr ⟨g, hg', e.symm⟩)
      rw [List.filter_cons_of_neg (by simpa using ne), ih nd.2 hg']
theorem flat_z {G : List Gate} (nd : (G.map (·.z)).Nodup) : ∀ {gs : List Gate}, (∀ g ∈ gs, g ∈ G) → (gs.map (·.z)).flatMap (fun w => G.filter (fun h => decide (h.z = w))) = gs
  | [], _ => rfl
  | g :: gs, h => by
    rw [List.map_cons, List.flatMap_cons, filter_z nd (h g List.mem_cons_self), flat_z nd fun x hx => h x (List.mem_cons_of_mem _ hx)]
    rfl
theorem countL {xs : List PyData} {ns : List Str} {n : Str} {k : PyData → Prop} (h : strsD xs = some ns) (hk : k (.int (ns.count n : Nat))) : countTD [.list xs, .str n] k := by
  show (match strsD xs with
    | some ns => k (.int (ns.count n : Nat))
    | none => False)
  rw [h]
  exact hk
theorem count_nd {ys : List Str} : ys.filter (fun w => decide (1 < ys.count w)) = [] ↔ ys.Nodup := by
  rw [List.filter_eq_nil_iff, List.nodup_iff_count]
  constructor
  · intro h a
    by_cases ha : a ∈ ys
    · have := h a ha
      simp at this
      omega
    · rw [List.count_eq_zero_of_not_mem ha]; omega
  · intro h a _
    have := h a
    simp
    omega
end My

set_option linter.all false
set_option maxRecDepth 100000
namespace My
open PySem PySem.Spec L2 Dv
open Classical in
def S__law_due : SpD := fun ds q => ∃ o1 g1 o2 g2, ds = [netD o1 g1, netD o2 g2] ∧ NtOk o1 g1 ∧ NtOk o2 g2 ∧ (Bad o1 g1 o2 g2 → q (.frz .none) [none, none]) ∧ (¬ Bad o1 g1 o2 g2 → q (.frz (netS (g1 ++ g2))) [none, none])
def zsD (gs : List Gate) : PyData := namesD (gs.map (·.z))
theorem gate_names (gs : List Gate) : (gs.map fun g => PyData.str g.z) = (gs.map (·.z)).map PyData.str := by rw [List.map_map]; rfl
theorem p__law_due (ds : List PyData) (q : SV → Outs → Prop) (h : S__law_due ds q) (hl : ds.length = P__law_due.length) : g__law_due (endsOf P__law_due q) (startE N__law_due.length P__law_due ds) := by
  obtain ⟨o1, g1, o2, g2, rfl, hn1, hn2, hbad, hgood⟩ := h
  refine ⟨tle, ?_⟩
  have l1 := hn1.gl
  have l2 := hn2.gl
  refine lc_mapQ gateD (fun g => .str g.z) (fun g hg yes no hy => hy) (by omega) ?_
  rw [gate_names]
  refine ⟨Nat.lt_of_lt_of_le (show _ < 10 by simp) tle, ?_⟩
  refine lc_mapQ gateD (fun g => .str g.z) (fun g hg yes no hy => hy) (by omega) ?_
  rw [gate_names]
  refine ⟨Nat.lt_of_lt_of_le (show _ < 10 by simp) tle, ?_⟩
  show g__law_due_L2 (endsOf P__law_due q) [some (.frz (netD o1 g1)), some (.frz (netD o2 g2)), some (.frz (.list [zsD g1, zsD g2])), none, none, none, none, none, none]
  have lo1 := hn1.ol
  have lo2 := hn2.ol
  refine ⟨by rw [List.length_map, List.length_map, List.length_map, List.length_map]; exact Nat.le_trans (show g1.length + g2.length ≤ 16 by omega) tle, ?_⟩
  rw [← List.map_append, ← names_app]
  have hN : ∀ z ∈ (g1 ++ g2).map (·.z), NameOk z := fun z hz => by
    obtain ⟨g, hg, rfl⟩ := List.mem_map.mp hz
    rcases List.mem_append.mp hg with hg | hg
    · exact hn1.gn g hg
    · exact hn2.gn g hg
  have hlen : (g1 ++ g2).length ≤ 16 := by rw [List.length_append]; omega
  have L3 : ∀ ys : List Str, ys.Perm ((g1 ++ g2).map (·.z)) → PyProof.Rows.sortedS ys = true → g__law_due_L3 (endsOf P__law_due q) [some (.frz (netD o1 g1)), some (.frz (netD o2 g2)), some (.frz (.list [zsD g1, zsD g2])), some (.frz (namesD ys)), none, none, none, none, none] := by
    intro ys pm so
    have hyl : ys.length = (g1 ++ g2).length := by rw [pm.length_eq, List.length_map]
    have hyn : ∀ z ∈ ys, NameOk z := fun z hz => hN z (pm.mem_iff.mp hz)
    have retN : ∀ s4 s5 s6 s7 s8 : Option SV, Bad o1 g1 o2 g2 → (endsOf P__law_due q).rt (.frz .none) [some (.frz (netD o1 g1)), some (.frz (netD o2 g2)), some (.frz (.list [zsD g1, zsD g2])), some (.frz (namesD ys)), s4, s5, s6, s7, s8] := fun _ _ _ _ _ hb => hbad hb
    refine by2_d (fun h8 => ?_) (fun h8 => ?_)
    · rw [List.length_map] at h8
      exact retN _ _ _ _ _ (.inr (.inl (by omega)))
    rw [List.length_map] at h8
    refine lc_filterQ PyData.str (fun w => decide (1 < ys.count w)) (fun w hw yes no hy hno => ?_) (Nat.le_trans (show 0 + ys.length ≤ 16 by omega) tle) ?_
    · refine ⟨rfl, ?_⟩
      have e : strsD (ys.map PyData.str) = some ys := by
        have : ∀ zs : List Str, strsD (zs.map PyData.str) = some zs := fun zs => by
          induction zs with
          | nil => rfl
          | cons z zs ih => simp [strsD, ih]
        exact this ys
      conv => whnf
      rw [e]
      refine by2_d (fun hc => hy ?_) (fun hc => hno ?_)
      · simp; omega
      · simp; omega
    rw [List.nil_append]
    generalize hz : ys.filter (fun w => decide (1 < ys.count w)) = zs
    have hzn : ∀ z ∈ zs, NameOk z := fun z hz' => hyn z (by rw [← hz] at hz'; exact (List.mem_filter.mp hz').1)
    refine ⟨tle, shp_names hzn, rfl, ?_⟩
    rw [eqvs_nil]
    by_cases hzs : zs = []
    rotate_left
    · refine by2_t (show (!decide (zs = [])) = true by rw [decide_eq_false hzs]; rfl) ?_
      refine retN _ _ _ _ _ (.inl fun nd => hzs ?_)
      rw [← hz]
      exact count_nd.mpr (pm.nodup_iff.mpr nd)
    refine by2_f (show (!decide (zs = [])) = false by rw [decide_eq_true hzs]; rfl) ?_
    have ndy : ys.Nodup := count_nd.mp (hz.trans hzs)
    have ndN : ((g1 ++ g2).map (·.z)).Nodup := pm.nodup_iff.mp ndy
    show g__law_due_L5 (endsOf P__law_due q) [some (.frz (netD o1 g1)), some (.frz (netD o2 g2)), some (.frz (.list [zsD g1, zsD g2])), some (.frz (namesD ys)), none, none, none, none, none]
    -- a net and the other one's gates
    have T6 : ∀ (E : DEnds) (s4 s7 : Option SV) (o : List Str) (gs gs' : List Gate), keepF (some s7) = s7 → o.length ≤ 8 → (∀ z ∈ o, NameOk z) →
        ((∃ w ∈ o, w ∉ gs'.map (·.z)) → E.rt (.frz .none) [some (.frz (netD o1 g1)), some (.frz (netD o2 g2)), some (.frz (.list [zsD g1, zsD g2])), some (.frz (namesD ys)), some (.frz (netD o gs)), some (.frz (zsD gs')), none, s7, none]) →
        ((¬ ∃ w ∈ o, w ∉ gs'.map (·.z)) → E.nx [some (.frz (netD o1 g1)), some (.frz (netD o2 g2)), some (.frz (.list [zsD g1, zsD g2])), some (.frz (namesD ys)), some (.frz (netD o gs)), some (.frz (zsD gs')), none, s7, none]) →
        g__law_due_L6 E [some (.frz (netD o1 g1)), some (.frz (netD o2 g2)), some (.frz (.list [zsD g1, zsD g2])), some (.frz (namesD ys)), some (.frz (netD o gs)), some (.frz (zsD gs')), none, s7, none] := by
      intro E s4 s7 o gs gs' k7 ho hon hr hnx
      refine lc_filterQ PyData.str (fun w => !decide (w ∈ gs'.map (·.z))) (fun w hw yes no hy hno => ?_) (Nat.le_trans (show 0 + o.length ≤ 16 by omega) tle) ?_
      · refine ⟨rfl, flat_names _, ?_⟩
        have e7 : restE [some (.frz (netD o1 g1)), some (.frz (netD o2 g2)), some (.frz (.list [zsD g1, zsD g2])), some (.frz (namesD ys)), some (.frz (netD o gs)), some (.frz (zsD gs')), none, some (.frz (.str w)), none] [some (.frz (netD o1 g1)), some (.frz (netD o2 g2)), some (.frz (.list [zsD g1, zsD g2])), some (.frz (namesD ys)), some (.frz (netD o gs)), some (.frz (zsD gs')), none, s7, none] [7] = [some (.frz (netD o1 g1)), some (.frz (netD o2 g2)), some (.frz (.list [zsD g1, zsD g2])), some (.frz (namesD ys)), some (.frz (netD o gs)), some (.frz (zsD gs')), none, s7, none] := by
          conv => rhs; rw [← k7]
          rfl
        rw [← e7] at hy hno
        by_cases hm : w ∈ gs'.map (·.z)
        · refine by2_f (show (!(((gs'.map (·.z)).map PyData.str).any fun x => PyData.eqv x (.str w))) = false by rw [any_names, decide_eq_true hm]; rfl) ?_
          exact hno (by rw [decide_eq_true hm]; rfl)
        · refine by2_t (show (!(((gs'.map (·.z)).map PyData.str).any fun x => PyData.eqv x (.str w))) = true by rw [any_names, decide_eq_false hm]; rfl) ?_
          exact hy (by rw [decide_eq_false hm]; rfl)
      rw [List.nil_append]
      generalize hz : o.filter (fun w => !decide (w ∈ gs'.map (·.z))) = zs
      have hzn : ∀ z ∈ zs, NameOk z := fun z hz' => hon z (by rw [← hz] at hz'; exact (List.mem_filter.mp hz').1)
      refine ⟨tle, shp_names hzn, rfl, ?_⟩
      rw [eqvs_nil]
      by_cases hzs : zs = []
      · refine by2_f (show (!decide (zs = [])) = false by rw [decide_eq_true hzs]; rfl) ?_
        refine hnx fun ⟨w, hw, hm⟩ => ?_
        rw [hzs, List.filter_eq_nil_iff] at hz
        have := hz w hw
        rw [decide_eq_false hm] at this
        exact this rfl
      · refine by2_t (show (!decide (zs = [])) = true by rw [decide_eq_false hzs]; rfl) ?_
        refine hr ?_
        obtain ⟨w, hw⟩ := List.exists_mem_of_ne_nil _ hzs
        rw [← hz, List.mem_filter] at hw
        refine ⟨w, hw.1, fun hm => ?_⟩
        rw [decide_eq_true hm] at hw
        exact absurd hw.2 (by decide)
    have L8 : ∀ s4 s5 s7 : Option SV, ¬ Bad o1 g1 o2 g2 → g__law_due_L8 (endsOf P__law_due q) [some (.frz (netD o1 g1)), some (.frz (netD o2 g2)), some (.frz (.list [zsD g1, zsD g2])), some (.frz (namesD ys)), s4, s5, none, s7, none] := by
      intro s4 s5 s7 nb
      refine ⟨tle, ?_⟩
      refine loop_ix (fun i ρ => ∃ s7 s8 : Option SV, keepF (some s8) = s8 ∧ ρ = [some (.frz (netD o1 g1)), some (.frz (netD o2 g2)), some (.frz (.list [zsD g1, zsD g2])), some (.frz (namesD ys)), s4, s5, some (.own (.list (((ys.take i).flatMap fun w => (g1 ++ g2).filter fun h => decide (h.z = w)).map gateD))), s7, s8]) (fun i d ρ nx hd hI hnx => ?_) ⟨s7, none, rfl, rfl⟩ (fun ρ hI => ?_)
      · obtain ⟨s7, s8, k8, rfl⟩ := hI
        obtain ⟨w, hw, rfl⟩ : ∃ z, ys[i]? = some z ∧ d = .str z := by
          rw [List.getElem?_map] at hd
          cases e : ys[i]? with
          | none => rw [e] at hd; cases hd
          | some z => rw [e] at hd; cases hd; exact ⟨z, rfl, rfl⟩
        have zw := hyn w (List.mem_of_getElem? hw)
        refine ⟨rfl, by rw [List.length_map, List.length_map]; exact Nat.le_trans (show g1.length + g2.length ≤ 16 by omega) tle, ?_⟩
        rw [← List.map_append]
        generalize hacc : (ys.take i).flatMap (fun w => (g1 ++ g2).filter fun h => decide (h.z = w)) = acc
        have hal : acc.length ≤ 16 := by
          obtain ⟨gs, hp, e1, e2⟩ := by_sorted ndN pm so
          rw [← hacc, e1, ← List.map_take, flat_z ndN fun g hg => hp.mem_iff.mp (List.mem_of_mem_take hg), List.length_take]
          have := hp.length_eq
          omega
        refine lc_filterQ gateD (fun h => decide (h.z = w)) (fun g hg yes no hy hno => ?_) (Nat.le_trans (show 0 + (g1 ++ g2).length ≤ 16 by omega) tle) ?_
        · have gn : NameOk g.z := hN g.z (List.mem_map.mpr ⟨g, hg, rfl⟩)
          refine ⟨((Shp.str gn.tx).mono (n := 8) (by omega)).shp, ((Shp.str zw.tx).mono (n := 8) (by omega)).shp, ?_⟩
          have e8 : restE [some (.frz (netD o1 g1)), some (.frz (netD o2 g2)), some (.frz (.list [zsD g1, zsD g2])), some (.frz (namesD ys)), s4, s5, some (.own (.list (acc.map gateD))), some (.frz (.str w)), some (.frz (gateD g))] [some (.frz (netD o1 g1)), some (.frz (netD o2 g2)), some (.frz (.list [zsD g1, zsD g2])), some (.frz (namesD ys)), s4, s5, some (.own (.list (acc.map gateD))), some (.frz (.str w)), s8] [8] = [some (.frz (netD o1 g1)), some (.frz (netD o2 g2)), some (.frz (.list [zsD g1, zsD g2])), some (.frz (namesD ys)), s4, s5, some (.own (.list (acc.map gateD))), some (.frz (.str w)), s8] := by
            conv => rhs; rw [← k8]
            rfl
          have hy : decide (g.z = w) = true → yes (gateD g) [some (.frz (netD o1 g1)), some (.frz (netD o2 g2)), some (.frz (.list [zsD g1, zsD g2])), some (.frz (namesD ys)), s4, s5, some (.own (.list (acc.map gateD))), some (.frz (.str w)), s8] := hy
          have hno : decide (g.z = w) = false → no [some (.frz (netD o1 g1)), some (.frz (netD o2 g2)), some (.frz (.list [zsD g1, zsD g2])), some (.frz (namesD ys)), s4, s5, some (.own (.list (acc.map gateD))), some (.frz (.str w)), s8] := hno
          rw [← e8] at hy hno
          by_cases hm : g.z = w
          · refine by2_t (show PyData.eqv (.str g.z) (.str w) = true by rw [eqv_str]; exact decide_eq_true hm) ?_
            exact hy (decide_eq_true hm)
          · refine by2_f (show PyData.eqv (.str g.z) (.str w) = false by rw [eqv_str]; exact decide_eq_false hm) ?_
            exact hno (decide_eq_false hm)
        rw [List.nil_append]
        have hfl : ((g1 ++ g2).filter fun h => decide (h.z = w)).length ≤ 16 := Nat.le_trans (List.length_filter_le _ _) hlen
        refine ⟨by rw [List.length_map, List.length_map]; exact Nat.le_trans (show acc.length + _ ≤ 32 by omega) tle, hnx _ ⟨some (.frz (.str w)), s8, k8, ?_⟩⟩
        rw [← List.map_append, List.take_add_one, hw, List.flatMap_append, hacc]
        simp
      · obtain ⟨s7, s8, k8, rfl⟩ := hI
        rw [List.length_map, List.take_length]
        obtain ⟨gs, hp, e1, e2⟩ := by_sorted ndN pm so
        have := hgood nb
        unfold netS at this
        rw [e2] at this
        rw [e1, flat_z ndN fun g hg => hp.mem_iff.mp hg]
        exact ⟨tle, tle, this⟩
    refine ⟨tle, tle, tle, ?_⟩
    refine ⟨rfl, ?_⟩
    refine T6 _ none none o1 g1 g2 rfl lo1 hn1.on ?_ ?_
    · exact fun hb => retN _ _ _ _ _ (.inr (.inr (.inl hb)))
    intro nb1
    refine ⟨rfl, ?_⟩
    refine T6 _ none none o2 g2 g1 rfl lo2 hn2.on ?_ ?_
    · exact fun hb => retN _ _ _ _ _ (.inr (.inr (.inr hb)))
    intro nb2
    refine L8 _ _ _ fun hb => ?_
    rcases hb with hb | hb | hb | hb
    · exact hb ndN
    · exact absurd hb (by omega)
    · exact nb1 hb
    · exact nb2 hb
  refine ⟨by rw [List.length_map, List.length_map]; omega, ?_⟩
  refine flat_strs (fun ys pm so => ?_) (fun e => ?_)
  · exact L3 ys pm so
  · intro ys pm _
    rw [e] at L3
    have : ys = [] := List.Perm.eq_nil pm
    subst this
    exact L3 [] (List.Perm.refl _) rfl
end My

set_option linter.all false
set_option maxRecDepth 100000
namespace My
open PySem PySem.Spec L2 Dv
def S_names_of : SpD := fun ds q => ∃ (gs : List Gate) (t : PyData), ds = [t] ∧ t = .tuple (gs.map gateD) ∧ gs.length ≤ 16 ∧ q (.frz (namesD (gs.map (·.z)))) [none]
theorem p_names_of (ds : List PyData) (q : SV → Outs → Prop) (h : S_names_of ds q) (hl : ds.length = P_names_of.length) : g_names_of (endsOf P_names_of q) (startE N_names_of.length P_names_of ds) := by
  obtain ⟨gs, t, rfl, rfl, hg, h⟩ := h
  refine lc_mapQ gateD (fun g => .str g.z) (fun g hg yes no hy => hy) (by omega) ?_
  rw [gate_names]
  exact h
def S_look_at_outside : SpX := fun ds q x => ∃ (o : List Str) (gs : List Gate), ds = [.tuple (o.map .str), .tuple (gs.map gateD)] ∧ gs.length ≤ 16 ∧ ((∃ w ∈ o, w ∉ gs.map (·.z)) → x "NoFit" []) ∧ ((¬ ∃ w ∈ o, w ∉ gs.map (·.z)) → q (.frz .none) [none, none])
theorem p_look_at_outside (ds : List PyData) (q : SV → Outs → Prop) (x : Str → List (PyData × PyData) → Prop) (h : S_look_at_outside ds q x) (hl : ds.length = P_look_at_outside.length) : g_look_at_outside S_names_of (fun n es _ => x n es) (endsOf P_look_at_outside q) (startE N_look_at_outside.length P_look_at_outside ds) := by
  obtain ⟨o, gs, rfl, hg, hx, hq⟩ := h
  refine loop_inv (fun rest ρ => (∃ ws : List Str, rest = ws.map .str ∧ (∀ w ∈ ws, w ∈ o) ∧ ∀ w ∈ o, w ∉ ws → w ∈ gs.map (·.z)) ∧ ∃ s2 : Option SV, ρ = [some (.frz (.tuple (o.map .str))), some (.frz (.tuple (gs.map gateD))), s2]) (fun d rest ρ nx hI hnx => ?_) ⟨⟨o, rfl, fun w h => h, fun w h1 h2 => absurd h1 h2⟩, none, rfl⟩ (fun ρ hI => ?_)
  · obtain ⟨⟨ws, e, hin, hdone⟩, s2, rfl⟩ := hI
    cases ws with
    | nil => cases e
    | cons w ws =>
      rw [List.map_cons] at e
      injection e with e1 e2
      subst e1 e2
      refine ⟨trivial, List.nodup_nil, gs, _, rfl, rfl, hg, ?_⟩
      refine ⟨rfl, flat_names _, ?_⟩
      by_cases hm : w ∈ gs.map (·.z)
      · refine by2_f (show (!(((gs.map (·.z)).map PyData.str).any fun x => PyData.eqv x (.str w))) = false by rw [any_names, decide_eq_true hm]; rfl) ?_
        refine hnx _ ⟨⟨ws, rfl, fun y hy => hin y (List.mem_cons_of_mem _ hy), fun y hy hn => ?_⟩, _, rfl⟩
        by_cases e : y = w
        · rw [e]; exact hm
        · exact hdone y hy fun z => by
            rcases List.mem_cons.mp z with z | z
            · exact e z
            · exact hn z
      · refine by2_t (show (!(((gs.map (·.z)).map PyData.str).any fun x => PyData.eqv x (.str w))) = true by rw [any_names, decide_eq_false hm]; rfl) ?_
        exact hx ⟨w, hin w List.mem_cons_self, hm⟩
  · obtain ⟨⟨ws, e, hin, hdone⟩, s2, rfl⟩ := hI
    cases ws with
    | cons _ _ => cases e
    | nil => exact hq fun ⟨w, hw, hm⟩ => hm (hdone w hw (by simp))
/-! ### joined -/
theorem dup_split : ∀ {N : List Str}, ¬ N.Nodup → ∃ a x b, N = a ++ x :: b ∧ x ∈ b
  | [], h => absurd List.nodup_nil h
  | y :: N, h => by
    by_cases hy : y ∈ N
    · exact ⟨[], y, N, rfl, hy⟩
    · obtain ⟨a, x, b, e, hx⟩ := dup_split (N := N) fun nd => h (List.nodup_cons.mpr ⟨hy, nd⟩)
      exact ⟨y :: a, x, b, by rw [e]; rfl, hx⟩
theorem set_less {N ys : List Str} (ny : ys.Nodup) (hm : ∀ j, j ∈ ys ↔ j ∈ N) : ys.length < N.length ↔ ¬ N.Nodup := by
  constructor
  · intro h nd
    have := (perm_of_nodup ny nd hm).length_eq
    omega
  · intro h
    obtain ⟨a, x, b, e, hx⟩ := dup_split h
    have := nodup_le ny (m := a ++ b) fun y hy => by
      have := (hm y).mp hy
      rw [e] at this
      rcases List.mem_append.mp this with z | z
      · exact List.mem_append_left _ z
      · rcases List.mem_cons.mp z with z | z
        · rw [z]; exact List.mem_append_right _ hx
        · exact List.mem_append_right _ z
    rw [e]
    simp at this ⊢
    omega
def S_joined : SpX := fun ds q x => ∃ o1 g1 o2 g2, ds = [netD o1 g1, netD o2 g2] ∧ NtOk o1 g1 ∧ NtOk o2 g2 ∧ (Bad o1 g1 o2 g2 → x "NoFit" []) ∧ (¬ Bad o1 g1 o2 g2 → q (.frz (netS (g1 ++ g2))) [none, none])
theorem shp_gate {g : Gate} (hz : NameOk g.z) (hg : ∃ ws : List Str, GateQ ws g) : Shp 60 (gateD g) := by
  obtain ⟨ws, gq⟩ := hg
  have u := shp_rule gq.up
  have d := shp_rule gq.dn
  refine (Shp.tuple (n := 8) fun d' hd' => ?_).mono (by omega)
  simp only [List.mem_cons, List.not_mem_nil, or_false] at hd'
  rcases hd' with rfl | rfl | rfl | rfl
  · exact (Shp.str hz.tx).mono (by omega)
  · exact (Shp.int _).mono (by omega)
  · exact u
  · exact d
theorem p_joined (ds : List PyData) (q : SV → Outs → Prop) (x : Str → List (PyData × PyData) → Prop) (h : S_joined ds q x) (hl : ds.length = P_joined.length) : g_joined S_names_of S_look_at_outside (fun n es _ => x n es) (endsOf P_joined q) (startE N_joined.length P_joined ds) := by
  obtain ⟨o1, g1, o2, g2, rfl, hn1, hn2, hbad, hgood⟩ := h
  have l1 := hn1.gl
  have l2 := hn2.gl
  have hlen : (g1 ++ g2).length ≤ 16 := by rw [List.length_append]; omega
  refine ⟨by rw [List.length_map, List.length_map]; exact Nat.le_trans (show g1.length + g2.length ≤ 16 by omega) tle, ?_⟩
  have fin : g_joined_L2 S_names_of S_look_at_outside (fun n es _ => x n es) (endsOf P_joined q) [some (.frz (netD o1 g1)), some (.frz (netD o2 g2)), some (.frz (.tuple ((g1 ++ g2).map gateD)))] := by
    refine ⟨trivial, List.nodup_nil, g1 ++ g2, _, rfl, rfl, hlen, ?_⟩
    have nx : ((g1 ++ g2).map (·.z)).Nodup → ¬ 8 < (g1 ++ g2).length → g_joined_L4 S_names_of S_look_at_outside (fun n es _ => x n es) (endsOf P_joined q) [some (.frz (netD o1 g1)), some (.frz (netD o2 g2)), some (.frz (.tuple ((g1 ++ g2).map gateD)))] := by
      intro nd h8
      refine ⟨trivial, List.nodup_nil, o1, g2, rfl, by omega, fun hb => hbad (.inr (.inr (.inl hb))), fun nb1 => ?_⟩
      refine ⟨trivial, List.nodup_nil, o2, g1, rfl, by omega, fun hb => hbad (.inr (.inr (.inr hb))), fun nb2 => ?_⟩
      have nb : ¬ Bad o1 g1 o2 g2 := fun hb => by
        rcases hb with hb | hb | hb | hb
        · exact hb nd
        · exact h8 hb
        · exact nb1 hb
        · exact nb2 hb
      refine ⟨tle, srt_hd (z := fun g : Gate => g.z) (r := fun g => [.int g.v, enc g.up, enc g.dn]) nd (by omega) (fun g hg => ?_) (fun g hg => ?_), tle, hgood nb⟩
      · simp [hdD, PySem.W.alike, PySem.W.alikeAll, alike_rule]
      · rcases List.mem_append.mp hg with hg | hg
        · exact shp_gate (hn1.gn g hg) (hn1.gq g hg)
        · exact shp_gate (hn2.gn g hg) (hn2.gq g hg)
    have eG : ((g1 ++ g2).map gateD).length = (g1 ++ g2).length := List.length_map _
    have eN : ((g1 ++ g2).map (·.z)).length = (g1 ++ g2).length := List.length_map _
    refine ⟨by rw [List.length_map, List.length_map]; omega, flat_strs (fun ys ny hm => ?_) (fun e => ?_)⟩
    · have hs := set_less ny hm
      refine by2_d (fun hlt => hbad (.inl (hs.mp (by omega)))) (fun hnl => ?_)
      have nd : ((g1 ++ g2).map (·.z)).Nodup := Classical.byContradiction fun z => hnl (by have := hs.mpr z; omega)
      refine by2_d (fun h8 => hbad (.inr (.inl (by omega)))) (fun h8 => nx nd (by omega))
    · intro ys ny hm
      have e0 : (g1 ++ g2).length = 0 := by rw [← eN, e]; rfl
      have ey : ys = [] := by
        cases ys with
        | nil => rfl
        | cons y ys => exact absurd ((hm y).mp List.mem_cons_self) (by simp)
      subst ey
      refine by2_d (fun hlt => ?_) (fun hnl => ?_)
      · exfalso
        rw [List.length_nil] at hlt
        omega
      · refine by2_d (fun h8 => ?_) (fun h8 => nx (by rw [e]; exact List.nodup_nil) (by omega))
        exfalso
        omega
  rw [← List.map_append]
  exact fin
end My


set_option linter.all false
set_option maxRecDepth 100000
namespace My
open PySem PySem.Spec L2 Dv
def S__law_joined_right : SpD := fun ds q => ∃ o1 g1 o2 g2 dn, ds = [netD o1 g1, netD o2 g2, dn] ∧ NtOk o1 g1 ∧ NtOk o2 g2 ∧ (Bad o1 g1 o2 g2 ∧ dn = .none ∨ ¬ Bad o1 g1 o2 g2 ∧ dn = netS (g1 ++ g2) ∧ Sho dn) ∧ q (.frz (.bool true)) [none, none, none]
theorem p__law_joined_right (ds : List PyData) (q : SV → Outs → Prop) (h : S__law_joined_right ds q) (hl : ds.length = P__law_joined_right.length) : g__law_joined_right S_joined (endsOf P__law_joined_right q) (startE N__law_joined_right.length P__law_joined_right ds) := by
  obtain ⟨o1, g1, o2, g2, dn, rfl, hn1, hn2, hc, h⟩ := h
  refine ⟨trivial, List.nodup_nil, o1, g1, o2, g2, rfl, hn1, hn2, fun hb => ?_, fun nb => ?_⟩
  · rcases hc with ⟨_, rfl⟩ | ⟨nb, _⟩
    · have fin : ∀ s4 s5 : Option SV, g__law_joined_right_L7 S_joined (endsOf P__law_joined_right q) [some (.frz (netD o1 g1)), some (.frz (netD o2 g2)), some (.frz .none), some (.frz (excD "NoFit" [])), s4, s5] := by
        intro s4 s5
        exact h
      exact fin _ _
    · exact absurd hb nb
  · rcases hc with ⟨hb, _⟩ | ⟨_, hdn, hs⟩
    · exact absurd hb nb
    · have fin : ∀ L : List PyData, dn = .tuple L → g__law_joined_right_L7 S_joined (endsOf P__law_joined_right q) [some (.frz (netD o1 g1)), some (.frz (netD o2 g2)), some (.frz dn), some (.frz .none), some (.frz dn), none] := by
        rintro L rfl
        refine ⟨hs, hs, ?_⟩
        show q (.frz (.bool (decide ((PyData.tuple L).shown = (PyData.tuple L).shown)))) [none, none, none]
        rw [show decide ((PyData.tuple L).shown = (PyData.tuple L).shown) = true by simp]
        exact h
      show g__law_joined_right_L7 S_joined (endsOf P__law_joined_right q) [some (.frz (netD o1 g1)), some (.frz (netD o2 g2)), some (.frz dn), some (.frz .none), some (.frz (netS (g1 ++ g2))), none]
      have f := fin _ hdn
      have e : some (SV.frz (netS (g1 ++ g2))) = some (SV.frz dn) := by rw [hdn]
      rw [e]
      exact f
end My

set_option linter.all false
set_option maxRecDepth 100000
namespace My
open PySem PySem.Spec L2 Dv
theorem shb_names {zs : List Str} (h : ∀ z ∈ zs, NameOk z) (hl : zs.length ≤ 30) : ShB 1 2600 (.tuple (zs.map .str)) := by
  refine (ShB.tuple (k := 0) (n := 82) fun d hd => ?_).mono (by omega) (by rw [List.length_map]; omega)
  obtain ⟨z, hz, rfl⟩ := List.mem_map.mp hd
  exact ShB.str (h z hz).tx
theorem shb_rule {nm : Str → Prop} {n m : Nat} {r : Rule} (h : ROk nm n r) (hs : size r ≤ m) : ShB (2 * n) (200 * m) (enc r) := ⟨shp_rule h, showable_of h, by have := shown_le h; omega⟩
theorem shb_bit {v : Int} (h : Bit v) : ShB 0 3 (.int v) := by
  rcases h with rfl | rfl
  · exact ShB.nat (n := 0) (by decide)
  · exact ShB.nat (n := 1) (by decide)
theorem mem_sortD {a : List PyData} {d : PyData} : d ∈ sortD a ↔ d ∈ a := (sortD_perm a).mem_iff
theorem mem4 {a b c d x : PyData} (h : x ∈ [a, b, c, d]) : x = a ∨ x = b ∨ x = c ∨ x = d := by simpa using h
theorem mem3 {a b c x : PyData} (h : x ∈ [a, b, c]) : x = a ∨ x = b ∨ x = c := by simpa using h
theorem mem2 {a b x : PyData} (h : x ∈ [a, b]) : x = a ∨ x = b := by simpa using h
theorem shb_two {k l m n : Nat} {a b : PyData} (ha : ShB k m a) (hb : ShB l n b) : ShB (max k l + 1) (m + n + 7) (.tuple [a, b]) := by
  refine ⟨Shp.tuple fun x hx => ?_, ?_, ?_⟩
  · rcases mem2 hx with rfl | rfl
    · exact ha.sh.mono
    · exact hb.sh.mono
  · simp [PyData.showable, PyData.showableAll, ha.ok, hb.ok]
  · have t := tupleText_le [a.shown, b.shown]
    have h1 := ha.sz
    have h2 := hb.sz
    rw [PyData.shown, PyData.shownAll, PyData.shownAll, PyData.shownAll]
    simp only [List.map_cons, List.map_nil, List.sum_cons, List.sum_nil, List.length_cons, List.length_nil] at t
    omega
theorem shb_three {k l j m n p : Nat} {a b c : PyData} (ha : ShB k m a) (hb : ShB l n b) (hc : ShB j p c) : ShB (max (max k l) j + 1) (m + n + p + 9) (.tuple [a, b, c]) := by
  refine ⟨Shp.tuple fun x hx => ?_, ?_, ?_⟩
  · rcases mem3 hx with rfl | rfl | rfl
    · exact ha.sh.mono
    · exact hb.sh.mono
    · exact hc.sh.mono
  · simp [PyData.showable, PyData.showableAll, ha.ok, hb.ok, hc.ok]
  · have t := tupleText_le [a.shown, b.shown, c.shown]
    have h1 := ha.sz
    have h2 := hb.sz
    have h3 := hc.sz
    rw [PyData.shown, PyData.shownAll, PyData.shownAll, PyData.shownAll, PyData.shownAll]
    simp only [List.map_cons, List.map_nil, List.sum_cons, List.sum_nil, List.length_cons, List.length_nil] at t
    omega
theorem side_tx {x : Str} (h : x = sAsk ∨ x = sAns) : Tx 8 x := by
  rcases h with rfl | rfl
  · exact Tx.lit (by decide +kernel)
  · exact Tx.lit (by decide +kernel)
theorem shb_sheetD {zs : List Str} {s : Sheet} (hs : SheetQ zs s) (hl : zs.length ≤ 30) (hf : ∀ w ∈ zs, NameOk w) : ShB 4 12000 (sheetD s) := by
  have wz : ∀ x ∈ s.wires, x.1 ∈ zs := fun x hx => hs.wp.mem_iff.mp (List.mem_map.mpr ⟨x, hx, rfl⟩)
  have hwl : s.wires.length ≤ 30 := by
    have := hs.wp.length_eq
    rw [List.length_map] at this
    omega
  have htl := hs.tl
  have hsl := hs.sl
  have h1 : ShB 2 8000 (.tuple (s.wires.map wireD)) := by
    refine (ShB.tuple (k := 1) (n := 260) fun x hx => ?_).mono (by omega) (by rw [List.length_map]; omega)
    obtain ⟨g, hg, rfl⟩ := List.mem_map.mp hx
    refine (shb_three (ShB.str (hf _ (wz g hg)).tx) (ShB.str (side_tx (hs.wx g hg).1)) (shb_bit (hs.wx g hg).2)).mono (by decide) (by decide)
  have h2 : ShB 2 2000 (.tuple (s.turns.map turnD)) := by
    refine (ShB.tuple (k := 1) (n := 172) fun x hx => ?_).mono (by omega) (by rw [List.length_map]; omega)
    obtain ⟨g, hg, rfl⟩ := List.mem_map.mp hx
    exact (shb_two (ShB.str (hf _ (hs.tx g hg).1).tx) (shb_bit (hs.tx g hg).2)).mono (by decide) (by decide)
  have h3 : ShB 3 1000 (.tuple (s.spots.map spotD)) := by
    refine (ShB.tuple (k := 2) (n := 64) fun x hx => ?_).mono (by omega) (by rw [List.length_map]; omega)
    obtain ⟨g, hg, rfl⟩ := List.mem_map.mp hx
    have ris : ∀ ks : List Int, RisOk s.turns.length ks → ShB 1 18 (.tuple (ks.map .int)) := fun ks hk => by
      have := hk.2.2
      refine (ShB.tuple (k := 0) (n := 3) fun x hx => ?_).mono (by omega) (by rw [List.length_map]; omega)
      obtain ⟨k, hk', rfl⟩ := List.mem_map.mp hx
      have := hk.1 k hk'
      have e : k = ((k.toNat : Nat) : Int) := by omega
      rw [e]
      exact ShB.nat (by omega)
    exact (shb_three (ris _ (hs.sx g hg).1) (ris _ (hs.sx g hg).2.1) (shb_bit (hs.sx g hg).2.2)).mono (by decide) (by decide)
  exact (shb_three h1 h2 h3).mono (by decide) (by decide)
theorem shb_gateN {g : Gate} (hz : NameOk g.z) (hg : ∃ ws : List Str, GateQ ws g) : ShB 9 300000 (gateD g) := by
  obtain ⟨ws, gq⟩ := hg
  have u := shb_rule (m := 256) gq.up gq.su
  have d := shb_rule (m := 256) gq.dn gq.sd
  refine (ShB.tuple (k := 8) (n := 51200) fun x hx => ?_).mono (by omega) (by simp)
  rcases mem4 hx with rfl | rfl | rfl | rfl
  · exact (ShB.str hz.tx).mono
  · exact (shb_bit gq.v).mono
  · exact u.mono
  · exact d.mono
theorem shb_netN {o : List Str} {gs : List Gate} (h : NtOk o gs) : ShB 11 5000000 (netD o gs) := by
  have h1 : ShB 1 2600 (.tuple (o.map .str)) := shb_names h.on (by have := h.ol; omega)
  have h2 : ShB 10 4990000 (.tuple (gs.map gateD)) := by
    refine (ShB.tuple (k := 9) (n := 300000) fun x hx => ?_).mono (by omega) (by have := h.gl; rw [List.length_map]; omega)
    obtain ⟨g, hg, rfl⟩ := List.mem_map.mp hx
    exact shb_gateN (h.gn g hg) (h.gq g hg)
  exact (shb_two h1 h2).mono (by decide) (by decide)
theorem sho_netS {o1 o2 : List Str} {g1 g2 : List Gate} (h1 : NtOk o1 g1) (h2 : NtOk o2 g2) : Sho (netS (g1 ++ g2)) := by
  have l1 := h1.gl
  have l2 := h2.gl
  have a : ShB 1 3 (.tuple []) := (ShB.tuple (k := 0) (n := 0) (ds := []) fun d hd => by cases hd).mono (by omega) (by simp)
  have b : ShB 10 4990000 (.tuple (sortD ((g1 ++ g2).map gateD))) := by
    have hl : (sortD ((g1 ++ g2).map gateD)).length ≤ 16 := by rw [(sortD_perm _).length_eq, List.length_map, List.length_append]; omega
    refine (ShB.tuple (k := 9) (n := 300000) fun x hx => ?_).mono (by omega) (by omega)
    rw [mem_sortD] at hx
    obtain ⟨g, hg, rfl⟩ := List.mem_map.mp hx
    rcases List.mem_append.mp hg with hg | hg
    · exact shb_gateN (h1.gn g hg) (h1.gq g hg)
    · exact shb_gateN (h2.gn g hg) (h2.gq g hg)
  exact ((shb_two a b).mono (k' := 60) (n' := 16777216) (by decide) (by decide)).sho
theorem sheet_with {zs : List Str} {s : Sheet} {f : Str × Str × Int → Str × Str × Int} (h : SheetQ zs s) (h1 : ∀ x, (f x).1 = x.1) (h2 : ∀ x ∈ s.wires, ((f x).2.1 = sAsk ∨ (f x).2.1 = sAns) ∧ Bit (f x).2.2) : SheetQ zs (withW f s) := by
  have e : (s.wires.map f).map (·.1) = s.wires.map (·.1) := by
    rw [List.map_map]
    exact List.map_congr_left fun x _ => h1 x
  refine ⟨?_, ?_, fun x hx => ?_, h.tx, h.tl, h.sx, h.sl⟩
  · show ((s.wires.map f).map (·.1)).Perm zs
    rw [e]; exact h.wp
  · show PyProof.Rows.sortedS ((s.wires.map f).map (·.1)) = true
    rw [e]; exact h.ws
  · obtain ⟨y, hy, rfl⟩ := List.mem_map.mp hx
    exact h2 y hy
theorem sides_of {zs : List Str} {s : Sheet} (h : SheetQ zs s) (hl : zs.length ≤ 30) (hz : ∀ z ∈ zs, NameOk z) : Sides s ∧ Sho (sheetD s) ∧ Sho (sheetD (withW mirW s)) ∧ Sho (sheetD (withW cloW s)) := by
  refine ⟨⟨fun x hx => (h.wx x hx).1, by have := h.wp.length_eq; rw [List.length_map] at this; omega⟩, (shb_sheetD h hl hz).sho, ?_, ?_⟩
  · exact (shb_sheetD (sheet_with (f := mirW) h (fun _ => rfl) fun x hx => ⟨(flip_side (h.wx x hx).1).1, (h.wx x hx).2⟩) hl hz).sho
  · exact (shb_sheetD (sheet_with (f := cloW) h (fun _ => rfl) fun x hx => ⟨.inr rfl, (h.wx x hx).2⟩) hl hz).sho
end My

set_option linter.all false
set_option maxRecDepth 100000
namespace My
open PySem PySem.Spec L2 Dv
theorem sho_two {o1 o2 : List Str} {g1 g2 : List Gate} (h1 : NtOk o1 g1) (h2 : NtOk o2 g2) : Sho (.tuple [netD o1 g1, netD o2 g2]) :=
  ((shb_two (shb_netN h1) (shb_netN h2)).mono (k' := 60) (n' := 16777216) (by decide) (by decide)).sho
theorem L8 (E : DEnds) {SJ : SpD} {N1 N2 dn : PyData} {s0 s1 s2 s7 : Option SV} (j1 : ∀ q' : SV → Outs → Prop, q' (.frz (.bool true)) [none, none, none] → SJ [N1, N2, dn] q') (j2 : ∀ q' : SV → Outs → Prop, q' (.frz (.bool true)) [none, none, none] → SJ [N2, N1, dn] q') (st : Sho (.tuple [N1, N2]))
    (hnx : ∀ s7, E.nx [s0, s1, s2, some (.frz N1), some (.frz N2), some (.frz (.str (PyData.tuple [N1, N2]).shown)), some (.frz dn), s7]) :
    g_law_L8 S__law_pen S__law_sides_right S__law_sheet S__law_names S__law_draw S__law_two S__law_due SJ E [s0, s1, s2, some (.frz N1), some (.frz N2), some (.frz (.str (PyData.tuple [N1, N2]).shown)), some (.frz dn), s7] := by
  refine ⟨by decide, by decide, ?_⟩
  refine loop_all (fun ρ => ∃ s7 : Option SV, ρ = [s0, s1, s2, some (.frz N1), some (.frz N2), some (.frz (.str (PyData.tuple [N1, N2]).shown)), some (.frz dn), s7]) (fun d hd ρ nx hI hnx => ?_) ⟨_, rfl⟩ (fun ρ hI => ?_)
  · obtain ⟨s7, rfl⟩ := hI
    refine ⟨trivial, List.nodup_nil, j1 _ ?_⟩
    refine ⟨trivial, List.nodup_nil, j2 _ ?_⟩
    exact hnx _ ⟨_, rfl⟩
  · obtain ⟨s7, rfl⟩ := hI
    refine ⟨tle, st, ?_⟩
    refine by2_f (show (!decide ((PyData.tuple [N1, N2]).shown = (PyData.tuple [N1, N2]).shown)) = false by simp) ?_
    exact hnx s7
theorem cond_swap {o1 o2 : List Str} {g1 g2 : List Gate} {dn : PyData} (hc : Bad o1 g1 o2 g2 ∧ dn = .none ∨ ¬ Bad o1 g1 o2 g2 ∧ dn = netS (g1 ++ g2) ∧ Sho dn) : Bad o2 g2 o1 g1 ∧ dn = .none ∨ ¬ Bad o2 g2 o1 g1 ∧ dn = netS (g2 ++ g1) ∧ Sho dn := by
  rcases hc with ⟨hb, e⟩ | ⟨nb, e, hs⟩
  · exact .inl ⟨bad_swap hb, e⟩
  · refine .inr ⟨fun hb => nb (bad_swap hb), ?_, hs⟩
    rw [e, netS_swap (Classical.byContradiction fun nd => nb (.inl nd))]
theorem L8' (E : DEnds) {o1 o2 : List Str} {g1 g2 : List Gate} {dn : PyData} {s0 s1 s2 s7 : Option SV} (hn1 : NtOk o1 g1) (hn2 : NtOk o2 g2) (hc : Bad o1 g1 o2 g2 ∧ dn = .none ∨ ¬ Bad o1 g1 o2 g2 ∧ dn = netS (g1 ++ g2) ∧ Sho dn) (st : Sho (.tuple [netD o1 g1, netD o2 g2]))
    (hnx : ∀ s7, E.nx [s0, s1, s2, some (.frz (netD o1 g1)), some (.frz (netD o2 g2)), some (.frz (.str (PyData.tuple [netD o1 g1, netD o2 g2]).shown)), some (.frz dn), s7]) :
    g_law_L8 S__law_pen S__law_sides_right S__law_sheet S__law_names S__law_draw S__law_two S__law_due S__law_joined_right E [s0, s1, s2, some (.frz (netD o1 g1)), some (.frz (netD o2 g2)), some (.frz (.str (PyData.tuple [netD o1 g1, netD o2 g2]).shown)), some (.frz dn), s7] :=
  L8 E (fun q' hq => ⟨o1, g1, o2, g2, dn, rfl, hn1, hn2, hc, hq⟩) (fun q' hq => ⟨o2, g2, o1, g1, dn, rfl, hn2, hn1, cond_swap hc, hq⟩) st hnx
theorem p_law (ds : List PyData) (q : SV → Outs → Prop) (h : lawSp 63 (fun _ => True) ds q) (hl : ds.length = P_law.length) : g_law S__law_pen S__law_sides_right S__law_sheet S__law_names S__law_draw S__law_two S__law_due S__law_joined_right (endsOf P_law q) (startE N_law.length P_law ds) := by
  obtain ⟨ns, rfl, hn, _, h⟩ := h
  refine ⟨trivial, List.nodup_nil, ns, rfl, fun pen hp => ?_⟩
  refine ⟨by decide, by decide, ?_⟩
  refine loop_ix (fun i ρ => ∃ (pen : PyData) (s2 s3 s4 s5 s6 s7 : Option SV), PenOk (100000 * i) pen ∧ ρ = [some (.frz (.list (ns.map .int))), some (.own pen), s2, s3, s4, s5, s6, s7]) (fun i d ρ nx hd hI hnx => ?_) ⟨pen, _, _, _, _, _, _, hp, rfl⟩ (fun ρ hI => ?_)
  · obtain ⟨pen, s2, s3, s4, s5, s6, s7, hp, rfl⟩ := hI
    have hi : i < 3 := (List.getElem?_eq_some_iff.mp hd).1
    obtain ⟨hi', rfl⟩ := range_at hd
    refine ⟨⟨trivial, trivial⟩, by simp [selSlots], pen, 8, _, rfl, hp, by omega, by omega, by omega, fun r pen1 h10 h11 hp1 => ?_⟩
    refine ⟨⟨trivial, trivial⟩, by simp [selSlots], pen1, _, 1 + r, rfl, hp1, by omega, by omega, by omega, fun zs pen2 hzl hzn hznd hp2 => ?_⟩
    refine ⟨⟨trivial, trivial⟩, by simp [selSlots], pen2, _, zs, rfl, hp2, by omega, by omega, (by intro e; rw [e] at hzl; simp at hzl; omega), fun s pen3 hs hp3 => ?_⟩
    obtain ⟨hsd, hs1, hs2, hs3⟩ := sides_of hs (by omega) hzn
    refine ⟨trivial, List.nodup_nil, s, rfl, hsd, hs1, hs2, hs3, ?_⟩
    refine ⟨⟨trivial, trivial⟩, by simp [selSlots], pen3, _, rfl, hp3, by omega, fun o1 g1 o2 g2 pen4 hn1 hn2 hp4 => ?_⟩
    refine ⟨rfl, ?_⟩
    have st := sho_two hn1 hn2
    refine ⟨tle, st, ?_⟩
    refine ⟨trivial, List.nodup_nil, o1, g1, o2, g2, rfl, hn1, hn2, fun hb => ?_, fun nb => ?_⟩
    · exact L8' _ hn1 hn2 (.inl ⟨hb, rfl⟩) st fun s7 => hnx _ ⟨pen4, _, _, _, _, _, _, hp4.mono (by omega), rfl⟩
    · exact L8' _ hn1 hn2 (.inr ⟨nb, rfl, sho_netS hn1 hn2⟩) st fun s7 => hnx _ ⟨pen4, _, _, _, _, _, _, hp4.mono (by omega), rfl⟩
  · obtain ⟨pen, s2, s3, s4, s5, s6, s7, hp, rfl⟩ := hI
    exact h
end My

set_option Elab.async false
set_option linter.all false
set_option maxRecDepth 100000
open PySem PySem.W PyProof.Rows
namespace My
open PySem PySem.Spec L2 Dv
theorem ok_law {Pg : Program} {w : World} {K : PySem.W.Frag} {mg : Str → Option Value} (T : Mg mg) (Y : Cl K mg) (F__law_pen : FunAt K mg "_law_pen" s__law_pen ["_law_script"]) (F_other_side : FunAt K mg "other_side" s_other_side ["side"]) (F_mirrored : FunAt K mg "mirrored" s_mirrored ["sheet"]) (F_closed : FunAt K mg "closed" s_closed ["sheet"]) (F__law_sides_right : FunAt K mg "_law_sides_right" s__law_sides_right ["_law_sheet_here"]) (F__law_draw : FunAt K mg "_law_draw" s__law_draw ["_law_pen_here", "_law_many"]) (F__law_some : FunAt K mg "_law_some" s__law_some ["_law_pen_here", "_law_many"]) (F__law_sheet : FunAt K mg "_law_sheet" s__law_sheet ["_law_pen_here", "_law_names_here"]) (F__law_names : FunAt K mg "_law_names" s__law_names ["_law_pen_here", "_law_many"]) (F__law_rule : FunAt K mg "_law_rule" s__law_rule ["_law_pen_here", "_law_names_here", "_law_room"]) (F__law_gate : FunAt K mg "_law_gate" s__law_gate ["_law_pen_here", "_law_name", "_law_first", "_law_names_here"]) (F__law_net : FunAt K mg "_law_net" s__law_net ["_law_pen_here", "_law_own", "_law_outside"]) (F__law_two : FunAt K mg "_law_two" s__law_two ["_law_pen_here"]) (F__law_due : FunAt K mg "_law_due" s__law_due ["_law_one", "_law_other"]) (F_names_of : FunAt K mg "names_of" s_names_of ["gates"]) (F_look_at_outside : FunAt K mg "look_at_outside" s_look_at_outside ["outside", "gates"]) (F_joined : FunAt K mg "joined" s_joined ["one", "other"]) (F__law_joined_right : FunAt K mg "_law_joined_right" s__law_joined_right ["_law_one", "_law_other", "_law_due_net"]) (base : Heap) (f : Addr) (fd : FuncData) (F : Fun K "law" "law" s_law f fd) : FnG Pg w K mg base 14 f fd ["_law_script"] (spOf K [false] (lawSp 63 (fun _ => True))) :=
  have H__law_pen : FnAt Pg w K mg base 1 "_law_pen" ["_law_script"] P__law_pen S__law_pen := at__law_pen T Y F__law_pen p__law_pen
  have H_other_side : FnAt Pg w K mg base 1 "other_side" ["side"] P_other_side S_other_side := at_other_side T Y F_other_side p_other_side
  have H_mirrored : FnAt Pg w K mg base 2 "mirrored" ["sheet"] P_mirrored S_mirrored := at_mirrored T Y F_mirrored H_other_side.mono p_mirrored
  have H_closed : FnAt Pg w K mg base 1 "closed" ["sheet"] P_closed S_closed := at_closed T Y F_closed p_closed
  have H__law_sides_right : FnAt Pg w K mg base 3 "_law_sides_right" ["_law_sheet_here"] P__law_sides_right S__law_sides_right := at__law_sides_right T Y F__law_sides_right H_mirrored.mono H_closed.mono p__law_sides_right
  have H__law_draw : FnAt Pg w K mg base 1 "_law_draw" ["_law_pen_here", "_law_many"] P__law_draw S__law_draw := at__law_draw T Y F__law_draw p__law_draw
  have H__law_some : FnAt Pg w K mg base 2 "_law_some" ["_law_pen_here", "_law_many"] P__law_some S__law_some := at__law_some T Y F__law_some H__law_draw.mono p__law_some
  have H__law_sheet : FnAt Pg w K mg base 3 "_law_sheet" ["_law_pen_here", "_law_names_here"] P__law_sheet S__law_sheet := at__law_sheet T Y F__law_sheet H__law_draw.mono H__law_some.mono p__law_sheet
  have H__law_names : FnAt Pg w K mg base 2 "_law_names" ["_law_pen_here", "_law_many"] P__law_names S__law_names := at__law_names T Y F__law_names H__law_draw.mono p__law_names
  have H__law_rule : FnAt Pg w K mg base 10 "_law_rule" ["_law_pen_here", "_law_names_here", "_law_room"] P__law_rule (S__law_rule 9) := fnAt_rec S__law_rule 1 F__law_rule n__law_rule (fun n k hk h => at__law_rule T Y F__law_rule H__law_draw.mono h (p__law_rule n)) 9
  have H__law_gate : FnAt Pg w K mg base 11 "_law_gate" ["_law_pen_here", "_law_name", "_law_first", "_law_names_here"] P__law_gate S__law_gate := at__law_gate T Y F__law_gate H__law_rule.mono H__law_draw.mono p__law_gate
  have H__law_net : FnAt Pg w K mg base 12 "_law_net" ["_law_pen_here", "_law_own", "_law_outside"] P__law_net S__law_net := at__law_net T Y F__law_net H__law_gate.mono H__law_draw.mono p__law_net
  have H__law_two : FnAt Pg w K mg base 13 "_law_two" ["_law_pen_here"] P__law_two S__law_two := at__law_two T Y F__law_two H__law_draw.mono H__law_names.mono H__law_net.mono p__law_two
  have H__law_due : FnAt Pg w K mg base 1 "_law_due" ["_law_one", "_law_other"] P__law_due S__law_due := at__law_due T Y F__law_due p__law_due
  have H_names_of : FnAt Pg w K mg base 1 "names_of" ["gates"] P_names_of S_names_of := at_names_of T Y F_names_of p_names_of
  have H_look_at_outside : FnAtX Pg w K mg base 2 "look_at_outside" ["outside", "gates"] P_look_at_outside S_look_at_outside := at_look_at_outside T Y F_look_at_outside H_names_of.mono p_look_at_outside
  have H_joined : FnAtX Pg w K mg base 3 "joined" ["one", "other"] P_joined S_joined := at_joined T Y F_joined H_names_of.mono H_look_at_outside.mono p_joined
  have H__law_joined_right : FnAt Pg w K mg base 4 "_law_joined_right" ["_law_one", "_law_other", "_law_due_net"] P__law_joined_right S__law_joined_right := at__law_joined_right T Y F__law_joined_right H_joined.mono p__law_joined_right
  fn_ok F sc_law rfl (by decide) (fun cdv A outer s H E C hr hP => d_law T Y H__law_pen.mono H__law_sides_right.mono H__law_sheet.mono H__law_names.mono H__law_draw.mono H__law_two.mono H__law_due.mono H__law_joined_right.mono hr hP) p_law
end My
set_option maxHeartbeats 0 in
theorem PySem.Challenge.cw_delaygates_k55_parts_put_together_holds : PySem.Challenge.rw_delaygates_k55_parts_put_together.Holds := by
  w_on; o_law; k_head; (case hw => w_witness2)
  k_fill
  refine Dv.walkG (l := PySem.Challenge.rw_delaygates_k55_parts_put_together) (n := 63) (k := 14) (x := "_law_script") (sp := fun w => Dv.spOf _ [false] (Dv.lawSp 63 (fun _ => True))) rfl (by decide) rfl ⟨⟨rfl, by decide, by decide⟩, rfl⟩ (fun w h Y => PySem.W.kIn_of Y) ?F (fun _ _ a ns hl hS => Dv.law_sp hl trivial hS)
  case F =>
    intro w mg fa h KX G hmg
    have T : My.Mg mg := by
      refine' ⟨PySem.W.mg_none_of KX G ?z0, PySem.W.mg_none_of KX G ?z1, PySem.W.mg_none_of KX G ?z2, PySem.W.mg_none_of KX G ?z3, PySem.W.mg_none_of KX G ?z4, PySem.W.mg_none_of KX G ?z5, PySem.W.mg_none_of KX G ?z6, PySem.W.mg_none_of KX G ?z7, PySem.W.mg_none_of KX G ?z8, PySem.W.mg_none_of KX G ?z9, PySem.W.mg_none_of KX G ?z10, Dv.gint_mk KX G ?y0⟩
      (case z0 => k_is); (case z1 => k_is); (case z2 => k_is); (case z3 => k_is); (case z4 => k_is); (case z5 => k_is); (case z6 => k_is); (case z7 => k_is); (case z8 => k_is); (case z9 => k_is); (case z10 => k_is); (case y0 => k_is)
    have Y := Dv.withK (P := fun K => My.Cl K mg) KX (by
      refine' ⟨Dv.exc_mk KX G ?q1 ?q2 ?q3 ?q4 ?q5 ?q6 ?q7 ?q8 ?q9 ?q10 ?q11 ?q12 ?q13 ?q14 ?q15 (Dv.sub_yes (b := true) ?q49 ?q50 ?q51 rfl (Dv.sub_yes (b := true) ?q46 ?q47 ?q48 rfl (Dv.sub_yes (b := false) ?q43 ?q44 ?q45 rfl (Dv.sub_yes (b := false) ?q40 ?q41 ?q42 rfl (Dv.sub_yes (b := false) ?q37 ?q38 ?q39 rfl (Dv.sub_yes (b := false) ?q34 ?q35 ?q36 rfl (Dv.sub_yes (b := false) ?q31 ?q32 ?q33 rfl (Dv.sub_yes (b := false) ?q28 ?q29 ?q30 rfl (Dv.sub_yes (b := false) ?q25 ?q26 ?q27 rfl (Dv.sub_yes (b := false) ?q22 ?q23 ?q24 rfl (Dv.sub_yes (b := false) ?q19 ?q20 ?q21 rfl (Dv.sub_yes (b := false) ?q16 ?q17 ?q18 rfl Dv.sub_nil)))))))))))) ?q52 ?q53 ?q54, Dv.cls_mk KX G ?q55 ?q56, Dv.cls_mk KX G ?q57 ?q58, Dv.cls_mk KX G ?q59 ?q60, Dv.cls_mk KX G ?q61 ?q62, Dv.cls_mk KX G ?q63 ?q64, Dv.cls_mk KX G ?q65 ?q66, Dv.cls_mk KX G ?q67 ?q68, Dv.cls_mk KX G ?q69 ?q70, Dv.cls_mk KX G ?q71 ?q72, Dv.cls_mk KX G ?q73 ?q74, Dv.cls_mk KX G ?q75 ?q76, Dv.cls_mk KX G ?q77 ?q78⟩
      (case q1 => first | k_is | kit_is | kts_exm | k_exc); (case q2 => first | k_is | kit_is | kts_exm | k_exc); (case q3 => first | k_is | kit_is | kts_exm | k_exc); (case q4 => first | k_is | kit_is | kts_exm | k_exc); (case q5 => first | k_is | kit_is | kts_exm | k_exc); (case q6 => first | k_is | kit_is | kts_exm | k_exc); (case q7 => first | k_is | kit_is | kts_exm | k_exc); (case q8 => first | k_is | kit_is | kts_exm | k_exc); (case q9 => first | k_is | kit_is | kts_exm | k_exc); (case q10 => first | k_is | kit_is | kts_exm | k_exc); (case q11 => first | k_is | kit_is | kts_exm | k_exc); (case q12 => first | k_is | kit_is | kts_exm | k_exc); (case q13 => first | k_is | kit_is | kts_exm | k_exc); (case q14 => first | k_is | kit_is | kts_exm | k_exc); (case q15 => first | k_is | kit_is | kts_exm | k_exc); (case q16 => first | k_is | kit_is | kts_exm | k_exc); (case q17 => first | k_is | kit_is | kts_exm | k_exc); (case q18 => first | k_is | kit_is | kts_exm | k_exc); (case q19 => first | k_is | kit_is | kts_exm | k_exc); (case q20 => first | k_is | kit_is | kts_exm | k_exc); (case q21 => first | k_is | kit_is | kts_exm | k_exc); (case q22 => first | k_is | kit_is | kts_exm | k_exc); (case q23 => first | k_is | kit_is | kts_exm | k_exc); (case q24 => first | k_is | kit_is | kts_exm | k_exc); (case q25 => first | k_is | kit_is | kts_exm | k_exc); (case q26 => first | k_is | kit_is | kts_exm | k_exc); (case q27 => first | k_is | kit_is | kts_exm | k_exc); (case q28 => first | k_is | kit_is | kts_exm | k_exc); (case q29 => first | k_is | kit_is | kts_exm | k_exc); (case q30 => first | k_is | kit_is | kts_exm | k_exc); (case q31 => first | k_is | kit_is | kts_exm | k_exc); (case q32 => first | k_is | kit_is | kts_exm | k_exc); (case q33 => first | k_is | kit_is | kts_exm | k_exc); (case q34 => first | k_is | kit_is | kts_exm | k_exc); (case q35 => first | k_is | kit_is | kts_exm | k_exc); (case q36 => first | k_is | kit_is | kts_exm | k_exc); (case q37 => first | k_is | kit_is | kts_exm | k_exc); (case q38 => first | k_is | kit_is | kts_exm | k_exc); (case q39 => first | k_is | kit_is | kts_exm | k_exc); (case q40 => first | k_is | kit_is | kts_exm | k_exc); (case q41 => first | k_is | kit_is | kts_exm | k_exc); (case q42 => first | k_is | kit_is | kts_exm | k_exc); (case q43 => first | k_is | kit_is | kts_exm | k_exc); (case q44 => first | k_is | kit_is | kts_exm | k_exc); (case q45 => first | k_is | kit_is | kts_exm | k_exc); (case q46 => first | k_is | kit_is | kts_exm | k_exc); (case q47 => first | k_is | kit_is | kts_exm | k_exc); (case q48 => first | k_is | kit_is | kts_exm | k_exc); (case q49 => first | k_is | kit_is | kts_exm | k_exc); (case q50 => first | k_is | kit_is | kts_exm | k_exc); (case q51 => first | k_is | kit_is | kts_exm | k_exc); (case q52 => first | k_is | kit_is | kts_exm | k_exc); (case q53 => first | k_is | kit_is | kts_exm | k_exc); (case q54 => first | k_is | kit_is | kts_exm | k_exc); (case q55 => first | k_is | kit_is | kts_exm | k_exc); (case q56 => first | k_is | kit_is | kts_exm | k_exc); (case q57 => first | k_is | kit_is | kts_exm | k_exc); (case q58 => first | k_is | kit_is | kts_exm | k_exc); (case q59 => first | k_is | kit_is | kts_exm | k_exc); (case q60 => first | k_is | kit_is | kts_exm | k_exc); (case q61 => first | k_is | kit_is | kts_exm | k_exc); (case q62 => first | k_is | kit_is | kts_exm | k_exc); (case q63 => first | k_is | kit_is | kts_exm | k_exc); (case q64 => first | k_is | kit_is | kts_exm | k_exc); (case q65 => first | k_is | kit_is | kts_exm | k_exc); (case q66 => first | k_is | kit_is | kts_exm | k_exc); (case q67 => first | k_is | kit_is | kts_exm | k_exc); (case q68 => first | k_is | kit_is | kts_exm | k_exc); (case q69 => first | k_is | kit_is | kts_exm | k_exc); (case q70 => first | k_is | kit_is | kts_exm | k_exc); (case q71 => first | k_is | kit_is | kts_exm | k_exc); (case q72 => first | k_is | kit_is | kts_exm | k_exc); (case q73 => first | k_is | kit_is | kts_exm | k_exc); (case q74 => first | k_is | kit_is | kts_exm | k_exc); (case q75 => first | k_is | kit_is | kts_exm | k_exc); (case q76 => first | k_is | kit_is | kts_exm | k_exc); (case q77 => first | k_is | kit_is | kts_exm | k_exc); (case q78 => first | k_is | kit_is | kts_exm | k_exc))
    refine' Dv.with_fun (x := "_law_pen") (st := My.s__law_pen) (ps := ["_law_script"]) KX G (fun _ _ _ _ _ _ us hl => match us, hl with | [_], _ => rfl) ?a0 ?l0 ?c0 ?k0 ?next0
    (case a0 => k_is); (case l0 => k_is); (case c0 => k_is); (case k0 => k_is)
    intro F__law_pen
    refine' Dv.with_fun (x := "other_side") (st := My.s_other_side) (ps := ["side"]) KX G (fun _ _ _ _ _ _ us hl => match us, hl with | [_], _ => rfl) ?a1 ?l1 ?c1 ?k1 ?next1
    (case a1 => k_is); (case l1 => k_is); (case c1 => k_is); (case k1 => k_is)
    intro F_other_side
    refine' Dv.with_fun (x := "mirrored") (st := My.s_mirrored) (ps := ["sheet"]) KX G (fun _ _ _ _ _ _ us hl => match us, hl with | [_], _ => rfl) ?a2 ?l2 ?c2 ?k2 ?next2
    (case a2 => k_is); (case l2 => k_is); (case c2 => k_is); (case k2 => k_is)
    intro F_mirrored
    refine' Dv.with_fun (x := "closed") (st := My.s_closed) (ps := ["sheet"]) KX G (fun _ _ _ _ _ _ us hl => match us, hl with | [_], _ => rfl) ?a3 ?l3 ?c3 ?k3 ?next3
    (case a3 => k_is); (case l3 => k_is); (case c3 => k_is); (case k3 => k_is)
    intro F_closed
    refine' Dv.with_fun (x := "_law_sides_right") (st := My.s__law_sides_right) (ps := ["_law_sheet_here"]) KX G (fun _ _ _ _ _ _ us hl => match us, hl with | [_], _ => rfl) ?a4 ?l4 ?c4 ?k4 ?next4
    (case a4 => k_is); (case l4 => k_is); (case c4 => k_is); (case k4 => k_is)
    intro F__law_sides_right
    refine' Dv.with_fun (x := "_law_draw") (st := My.s__law_draw) (ps := ["_law_pen_here", "_law_many"]) KX G (fun _ _ _ _ _ _ us hl => match us, hl with | [_, _], _ => rfl) ?a5 ?l5 ?c5 ?k5 ?next5
    (case a5 => k_is); (case l5 => k_is); (case c5 => k_is); (case k5 => k_is)
    intro F__law_draw
    refine' Dv.with_fun (x := "_law_some") (st := My.s__law_some) (ps := ["_law_pen_here", "_law_many"]) KX G (fun _ _ _ _ _ _ us hl => match us, hl with | [_, _], _ => rfl) ?a6 ?l6 ?c6 ?k6 ?next6
    (case a6 => k_is); (case l6 => k_is); (case c6 => k_is); (case k6 => k_is)
    intro F__law_some
    refine' Dv.with_fun (x := "_law_sheet") (st := My.s__law_sheet) (ps := ["_law_pen_here", "_law_names_here"]) KX G (fun _ _ _ _ _ _ us hl => match us, hl with | [_, _], _ => rfl) ?a7 ?l7 ?c7 ?k7 ?next7
    (case a7 => k_is); (case l7 => k_is); (case c7 => k_is); (case k7 => k_is)
    intro F__law_sheet
    refine' Dv.with_fun (x := "_law_names") (st := My.s__law_names) (ps := ["_law_pen_here", "_law_many"]) KX G (fun _ _ _ _ _ _ us hl => match us, hl with | [_, _], _ => rfl) ?a8 ?l8 ?c8 ?k8 ?next8
    (case a8 => k_is); (case l8 => k_is); (case c8 => k_is); (case k8 => k_is)
    intro F__law_names
    refine' Dv.with_fun (x := "_law_rule") (st := My.s__law_rule) (ps := ["_law_pen_here", "_law_names_here", "_law_room"]) KX G (fun _ _ _ _ _ _ us hl => match us, hl with | [_, _, _], _ => rfl) ?a9 ?l9 ?c9 ?k9 ?next9
    (case a9 => k_is); (case l9 => k_is); (case c9 => k_is); (case k9 => k_is)
    intro F__law_rule
    refine' Dv.with_fun (x := "_law_gate") (st := My.s__law_gate) (ps := ["_law_pen_here", "_law_name", "_law_first", "_law_names_here"]) KX G (fun _ _ _ _ _ _ us hl => match us, hl with | [_, _, _, _], _ => rfl) ?a10 ?l10 ?c10 ?k10 ?next10
    (case a10 => k_is); (case l10 => k_is); (case c10 => k_is); (case k10 => k_is)
    intro F__law_gate
    refine' Dv.with_fun (x := "_law_net") (st := My.s__law_net) (ps := ["_law_pen_here", "_law_own", "_law_outside"]) KX G (fun _ _ _ _ _ _ us hl => match us, hl with | [_, _, _], _ => rfl) ?a11 ?l11 ?c11 ?k11 ?next11
    (case a11 => k_is); (case l11 => k_is); (case c11 => k_is); (case k11 => k_is)
    intro F__law_net
    refine' Dv.with_fun (x := "_law_two") (st := My.s__law_two) (ps := ["_law_pen_here"]) KX G (fun _ _ _ _ _ _ us hl => match us, hl with | [_], _ => rfl) ?a12 ?l12 ?c12 ?k12 ?next12
    (case a12 => k_is); (case l12 => k_is); (case c12 => k_is); (case k12 => k_is)
    intro F__law_two
    refine' Dv.with_fun (x := "_law_due") (st := My.s__law_due) (ps := ["_law_one", "_law_other"]) KX G (fun _ _ _ _ _ _ us hl => match us, hl with | [_, _], _ => rfl) ?a13 ?l13 ?c13 ?k13 ?next13
    (case a13 => k_is); (case l13 => k_is); (case c13 => k_is); (case k13 => k_is)
    intro F__law_due
    refine' Dv.with_fun (x := "names_of") (st := My.s_names_of) (ps := ["gates"]) KX G (fun _ _ _ _ _ _ us hl => match us, hl with | [_], _ => rfl) ?a14 ?l14 ?c14 ?k14 ?next14
    (case a14 => k_is); (case l14 => k_is); (case c14 => k_is); (case k14 => k_is)
    intro F_names_of
    refine' Dv.with_fun (x := "look_at_outside") (st := My.s_look_at_outside) (ps := ["outside", "gates"]) KX G (fun _ _ _ _ _ _ us hl => match us, hl with | [_, _], _ => rfl) ?a15 ?l15 ?c15 ?k15 ?next15
    (case a15 => k_is); (case l15 => k_is); (case c15 => k_is); (case k15 => k_is)
    intro F_look_at_outside
    refine' Dv.with_fun (x := "joined") (st := My.s_joined) (ps := ["one", "other"]) KX G (fun _ _ _ _ _ _ us hl => match us, hl with | [_, _], _ => rfl) ?a16 ?l16 ?c16 ?k16 ?next16
    (case a16 => k_is); (case l16 => k_is); (case c16 => k_is); (case k16 => k_is)
    intro F_joined
    refine' Dv.with_fun (x := "_law_joined_right") (st := My.s__law_joined_right) (ps := ["_law_one", "_law_other", "_law_due_net"]) KX G (fun _ _ _ _ _ _ us hl => match us, hl with | [_, _, _], _ => rfl) ?a17 ?l17 ?c17 ?k17 ?next17
    (case a17 => k_is); (case l17 => k_is); (case c17 => k_is); (case k17 => k_is)
    intro F__law_joined_right
    refine' Dv.law_mk (st := My.s_law) KX G hmg (fun base f fd F => My.ok_law T Y F__law_pen F_other_side F_mirrored F_closed F__law_sides_right F__law_draw F__law_some F__law_sheet F__law_names F__law_rule F__law_gate F__law_net F__law_two F__law_due F_names_of F_look_at_outside F_joined F__law_joined_right base f fd F) (fun _ _ _ _ _ _ _ _ => .of_eq rfl) ?a ?l ?c ?k
    (case a => k_is); (case l => k_is); (case c => k_is); (case k => k_is)

